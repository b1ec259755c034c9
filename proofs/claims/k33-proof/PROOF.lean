import PyProof.Rows.All
import Wide.All
import OpenK.AllK
import Wide.FinOn
import HandS.ForMost
import HandS.IsInst
import HandS.ListItems
import HandS.DictComp
import HandS.TupAny
import HandS.Ends
import PySem.Challenge.RW_briefproof_k33_whole_exchanges
set_option Elab.async false
set_option linter.all false
set_option maxRecDepth 100000
set_option maxHeartbeats 2000000
set_option autoImplicit false
/-! A layer over the hand layer: data without the heap, a store of objects that change, weakest preconditions over both. -/
namespace PT
open PySem L2

/-- data: a tuple is its items; an object that changes, or a dict, is told by its address -/
inductive T where
  | non | bl (b : Bool) | int (i : Int) | str (x : Str) | ref (a : Addr) | ty (n : String) | kt (ks : List Key) | tup (xs : List T)

/-- a tuple, tracked or kept -/
def Imm (o : HO) : Prop := (∃ xs, o = .tup xs) ∨ ∃ ob xs, o = .frz ob (.tup xs)
/-- all tuples stay -/
def KeepI (H H' : Hp) : Prop := ∀ a o, Imm o → H a = some o → H' a = some o
theorem KeepI.refl (H : Hp) : KeepI H H := fun _ _ _ h => h
theorem KeepI.trans {H H1 H2 : Hp} (a : KeepI H H1) (b : KeepI H1 H2) : KeepI H H2 := fun x o i h => b x o i (a x o i h)
theorem upd_none {H : Hp} {p a : Addr} {o : HO} (h : upd H p o a = none) : H a = none := by
  by_cases q : a = p
  · subst q; rw [upd_same] at h; cases h
  · rw [upd_ne q] at h; exact h
theorem KeepI.new {H : Hp} {p : Addr} {o : HO} (h : H p = none) : KeepI H (upd H p o) := fun a u _ e => by
  rw [upd_ne (ne_of_none e h)]; exact e
/-- an object that is no tuple is changed -/
theorem KeepI.mut {H : Hp} {p : Addr} {o u : HO} (h : H p = some u) (hu : ¬ Imm u) : KeepI H (upd H p o) := fun a w i e => by
  by_cases q : a = p
  · subst q; rw [h] at e; cases e; exact absurd i hu
  · rw [upd_ne q]; exact e
theorem sqt_keep {K : PySem.W.Frag} {H H' : Hp} {a : Addr} {xs : List V} (k : KeepI H H') (h : SqT K H a xs) : SqT K H' a xs := by
  rcases h with (h | ⟨o, h⟩) | h
  · exact .inl (.inl (k _ _ (.inl ⟨_, rfl⟩) h))
  · exact .inl (.inr ⟨o, k _ _ (.inr ⟨_, _, rfl⟩) h⟩)
  · exact .inr h

mutual
/-- the value v is the data t -/
inductive TR (K : PySem.W.Frag) (H : Hp) : V → T → Prop
  | non : TR K H .non .non
  | bl (b : Bool) : TR K H (.bl b) (.bl b)
  | int (i : Int) : TR K H (.int i) (.int i)
  | str (x : Str) : TR K H (.str x) (.str x)
  | ref (a : Addr) : TR K H (.ref a) (.ref a)
  | ty (n : String) : TR K H (.ty n) (.ty n)
  | kt {a : Addr} {ks : List Key} : H a = some (.tup (ks.map kV)) → TR K H (.ref a) (.kt ks)
  | tup {a : Addr} {xs : List V} {ts : List T} : SqT K H a xs → TRs K H xs ts → TR K H (.ref a) (.tup ts)
inductive TRs (K : PySem.W.Frag) (H : Hp) : List V → List T → Prop
  | nil : TRs K H [] []
  | cons {v : V} {vs : List V} {t : T} {ts : List T} : TR K H v t → TRs K H vs ts → TRs K H (v :: vs) (t :: ts)
end
section
variable {K : PySem.W.Frag} {H H' : Hp}
mutual
theorem TR.keep (k : KeepI H H') : ∀ {v : V} {t : T}, TR K H v t → TR K H' v t
  | _, _, .non => .non
  | _, _, .bl b => .bl b
  | _, _, .int i => .int i
  | _, _, .str x => .str x
  | _, _, .ref a => .ref a
  | _, _, .ty a => .ty a
  | _, _, .kt h => .kt (k _ _ (.inl ⟨_, rfl⟩) h)
  | _, _, .tup h r => .tup (sqt_keep k h) (TRs.keep k r)
theorem TRs.keep (k : KeepI H H') : ∀ {vs : List V} {ts : List T}, TRs K H vs ts → TRs K H' vs ts
  | _, _, .nil => .nil
  | _, _, .cons h r => .cons (TR.keep k h) (TRs.keep k r)
end
theorem TRs.length : ∀ {vs : List V} {ts : List T}, TRs K H vs ts → vs.length = ts.length
  | _, _, .nil => rfl
  | _, _, .cons _ r => congrArg (· + 1) (TRs.length r)
theorem TRs.get : ∀ {vs : List V} {ts : List T} {i : Nat} {t : T}, TRs K H vs ts → ts[i]? = some t → ∃ v, vs[i]? = some v ∧ TR K H v t
  | _, _, _, _, .nil, e => by simp at e
  | _, _, 0, _, .cons r _, e => by simp at e; subst e; exact ⟨_, rfl, r⟩
  | _, _, i + 1, t, .cons _ r, e => by
    obtain ⟨v, h1, h2⟩ := TRs.get (i := i) (t := t) r (by simpa using e)
    exact ⟨v, by simpa using h1, h2⟩
theorem TRs.get' : ∀ {vs : List V} {ts : List T} {i : Nat} {v : V}, TRs K H vs ts → vs[i]? = some v → ∃ t, ts[i]? = some t ∧ TR K H v t
  | _, _, _, _, .nil, e => by simp at e
  | _, _, 0, _, .cons r _, e => by simp at e; subst e; exact ⟨_, rfl, r⟩
  | _, _, i + 1, v, .cons _ r, e => by
    obtain ⟨t, h1, h2⟩ := TRs.get' (i := i) (v := v) r (by simpa using e)
    exact ⟨t, by simpa using h1, h2⟩
theorem TRs.app : ∀ {vs ws : List V} {ts us : List T}, TRs K H vs ts → TRs K H ws us → TRs K H (vs ++ ws) (ts ++ us)
  | _, _, _, _, .nil, h => h
  | _, _, _, _, .cons r t, h => .cons r (TRs.app t h)
theorem TRs.drop : ∀ {vs : List V} {ts : List T} (n : Nat), TRs K H vs ts → TRs K H (vs.drop n) (ts.drop n)
  | _, _, 0, r => r
  | _, _, _ + 1, .nil => .nil
  | _, _, n + 1, .cons _ t => TRs.drop n t
theorem TRs.take : ∀ {vs : List V} {ts : List T} (n : Nat), TRs K H vs ts → TRs K H (vs.take n) (ts.take n)
  | _, _, 0, _ => .nil
  | _, _, _ + 1, .nil => .nil
  | _, _, n + 1, .cons r t => .cons r (TRs.take n t)
theorem TRs.set {x : V} {u : T} (r : TR K H x u) : ∀ {vs : List V} {ts : List T} (i : Nat), TRs K H vs ts → TRs K H (vs.set i x) (ts.set i u)
  | _, _, _, .nil => .nil
  | _, _, 0, .cons _ t => .cons r t
  | _, _, i + 1, .cons q t => .cons q (TRs.set r i t)
theorem TRs.dropLast : ∀ {vs : List V} {ts : List T}, TRs K H vs ts → TRs K H vs.dropLast ts.dropLast := fun {vs ts} h => by
  rw [List.dropLast_eq_take, List.dropLast_eq_take, h.length]; exact h.take _
theorem TRs.last : ∀ {vs : List V} {ts : List T} {t : T}, TRs K H vs (ts ++ [t]) → ∃ v, vs[vs.length - 1]? = some v ∧ TR K H v t := fun {vs ts t} h => by
  have e : (ts ++ [t])[(ts ++ [t]).length - 1]? = some t := by simp
  rw [← h.length] at e
  exact h.get e
theorem TRs.rev : ∀ {vs : List V} {ts : List T}, TRs K H vs ts → TRs K H vs.reverse ts.reverse
  | _, _, .nil => .nil
  | _, _, .cons r t => by rw [List.reverse_cons, List.reverse_cons]; exact (TRs.rev t).app (.cons r .nil)
theorem TRs.eraseIdx : ∀ {vs : List V} {ts : List T} (i : Nat), TRs K H vs ts → TRs K H (vs.eraseIdx i) (ts.eraseIdx i)
  | _, _, _, .nil => .nil
  | _, _, 0, .cons _ t => t
  | _, _, i + 1, .cons r t => .cons r (TRs.eraseIdx i t)
theorem TR.int_inv {v : V} {i : Int} (h : TR K H v (.int i)) : v = .int i := by cases h; rfl
theorem TR.str_inv {v : V} {x : Str} (h : TR K H v (.str x)) : v = .str x := by cases h; rfl
theorem TR.bl_inv {v : V} {b : Bool} (h : TR K H v (.bl b)) : v = .bl b := by cases h; rfl
theorem TR.non_inv {v : V} (h : TR K H v .non) : v = .non := by cases h; rfl
theorem TR.ref_inv {v : V} {a : Addr} (h : TR K H v (.ref a)) : v = .ref a := by cases h; rfl
theorem TR.kt_inv {v : V} {ks : List Key} (h : TR K H v (.kt ks)) : ∃ a, v = .ref a ∧ H a = some (.tup (ks.map kV)) := by cases h with | kt e => exact ⟨_, rfl, e⟩
theorem TR.tup_inv {v : V} {ts : List T} (h : TR K H v (.tup ts)) : ∃ a xs, v = .ref a ∧ SqT K H a xs ∧ TRs K H xs ts := by
  cases h with
  | tup s r => exact ⟨_, _, rfl, s, r⟩
theorem TRs.ints : ∀ {vs : List V} {is : List Int}, TRs K H vs (is.map T.int) → vs = is.map V.int
  | _, [], .nil => rfl
  | _, i :: is, .cons r t => by rw [List.map_cons, r.int_inv, TRs.ints t]
theorem TRs.strs : ∀ {vs : List V} {is : List Str}, TRs K H vs (is.map T.str) → vs = is.map V.str
  | _, [], .nil => rfl
  | _, i :: is, .cons r t => by rw [List.map_cons, r.str_inv, TRs.strs t]
theorem TRs.bls : ∀ {vs : List V} {is : List Bool}, TRs K H vs (is.map T.bl) → vs = is.map V.bl
  | _, [], .nil => rfl
  | _, i :: is, .cons r t => by rw [List.map_cons, r.bl_inv, TRs.bls t]
theorem TRs.refs : ∀ {vs : List V} {is : List Addr}, TRs K H vs (is.map T.ref) → vs = is.map V.ref
  | _, [], .nil => rfl
  | _, i :: is, .cons r t => by rw [List.map_cons, r.ref_inv, TRs.refs t]
theorem TRs.ofInts : ∀ (is : List Int), TRs K H (is.map V.int) (is.map T.int)
  | [] => .nil
  | i :: is => .cons (.int i) (TRs.ofInts is)
theorem TRs.ofStrs : ∀ (is : List Str), TRs K H (is.map V.str) (is.map T.str)
  | [] => .nil
  | i :: is => .cons (.str i) (TRs.ofStrs is)
end

/-! ### objects that change -/
inductive MO where
  /-- a list -/
  | lst (ts : List T)
  /-- a dict: keys ints and texts; keys tuples of these -/
  | dk (kvs : List (Key × T)) | dt (kvs : List (List Key × T))
  /-- a tracked tuple of keys -/
  | kt (ks : List Key)
  /-- a tape: [cells, seed], the cells at b -/
  | tape (b : Addr)
abbrev Sto := List (Addr × MO)
def foot : Addr × MO → List Addr
  | (a, .tape b) => [a, b]
  | (a, _) => [a]
def feet (S : Sto) : List Addr := S.flatMap foot
def PKV {κ : Type} (K : PySem.W.Frag) (H : Hp) : List (κ × V) → List (κ × T) → Prop := Paired fun p q => p.1 = q.1 ∧ TR K H p.2 q.2
/-- a tape's content -/
def Tape (H : Hp) (a b : Addr) : Prop := ∃ (seed : Int) (ns : List Int), H a = some (.lst [.ref b, .int seed]) ∧ H b = some (.lst (ns.map V.int)) ∧ (∀ n ∈ ns, 0 ≤ n) ∧ 0 ≤ seed ∧ seed < 2147483647 ∧ ns.length ≤ 63
/-- the object at a is written as told -/
def MOk (K : PySem.W.Frag) (H : Hp) : Addr × MO → Prop
  | (a, .lst ts) => ∃ vs, H a = some (.lst vs) ∧ TRs K H vs ts
  | (a, .dk kvs) => ∃ vs, H a = some (.dK vs) ∧ PKV K H vs kvs
  | (a, .dt kvs) => ∃ vs, H a = some (.dT vs) ∧ PKV K H vs kvs
  | (a, .kt ks) => H a = some (.tup (ks.map kV))
  | (a, .tape b) => Tape H a b
/-- the object at a may be read as told -/
def MRd (K : PySem.W.Frag) (H : Hp) : Addr × MO → Prop
  | (a, .lst ts) => ∃ vs, Rd H a (.lst vs) ∧ TRs K H vs ts
  | (a, .dk kvs) => ∃ vs, H a = some (.dK vs) ∧ PKV K H vs kvs
  | (a, .dt kvs) => ∃ vs, H a = some (.dT vs) ∧ PKV K H vs kvs
  | (a, .kt ks) => H a = some (.tup (ks.map kV))
  | (a, .tape b) => Tape H a b
theorem MOk.rd {K : PySem.W.Frag} {H : Hp} : ∀ {p : Addr × MO}, MOk K H p → MRd K H p
  | (a, .lst ts), ⟨vs, h, r⟩ => ⟨vs, .inl h, r⟩
  | (a, .dk kvs), h => h
  | (a, .dt kvs), h => h
  | (a, .kt ks), h => h
  | (a, .tape b), h => h
theorem PKV.keep {κ : Type} {K : PySem.W.Frag} {H H' : Hp} (k : KeepI H H') {vs : List (κ × V)} {ts : List (κ × T)} (h : PKV K H vs ts) : PKV K H' vs ts :=
  Paired.mapP h fun _ _ q => ⟨q.1, q.2.keep k⟩
theorem PKV.length {κ : Type} {K : PySem.W.Frag} {H : Hp} {vs : List (κ × V)} {ts : List (κ × T)} (h : PKV K H vs ts) : vs.length = ts.length := Paired.length h
theorem MOk.keep {K : PySem.W.Frag} {H H' : Hp} {p : Addr × MO} (k : KeepI H H') (h : ∀ a ∈ foot p, ∀ o, H a = some o → H' a = some o) (m : MOk K H p) : MOk K H' p := by
  obtain ⟨a, o⟩ := p
  cases o with
  | lst ts => obtain ⟨vs, e, r⟩ := m; exact ⟨vs, h a (by simp [foot]) _ e, r.keep k⟩
  | dk kvs => obtain ⟨vs, e, r⟩ := m; exact ⟨vs, h a (by simp [foot]) _ e, r.keep k⟩
  | dt kvs => obtain ⟨vs, e, r⟩ := m; exact ⟨vs, h a (by simp [foot]) _ e, r.keep k⟩
  | kt ks => exact h a (by simp [foot]) _ m
  | tape b =>
    obtain ⟨seed, ns, e1, e2, r⟩ := m
    exact ⟨seed, ns, h a (by simp [foot]) _ e1, h b (by simp [foot]) _ e2, r⟩
theorem MRd.keep {K : PySem.W.Frag} {H H' : Hp} {p : Addr × MO} (k : KeepI H H') (h : ∀ a ∈ foot p, ∀ o, H a = some o → H' a = some o) (m : MRd K H p) : MRd K H' p := by
  obtain ⟨a, o⟩ := p
  have rd : ∀ u, Rd H a u → (∀ o, H a = some o → H' a = some o) → Rd H' a u := fun u r q => by
    rcases r with r | ⟨o, r⟩
    · exact .inl (q _ r)
    · exact .inr ⟨o, q _ r⟩
  cases o with
  | lst ts => obtain ⟨vs, e, r⟩ := m; exact ⟨vs, rd _ e (h a (by simp [foot])), r.keep k⟩
  | dk kvs => obtain ⟨vs, e, r⟩ := m; exact ⟨vs, h a (by simp [foot]) _ e, r.keep k⟩
  | dt kvs => obtain ⟨vs, e, r⟩ := m; exact ⟨vs, h a (by simp [foot]) _ e, r.keep k⟩
  | kt ks => exact h a (by simp [foot]) _ m
  | tape b =>
    obtain ⟨seed, ns, e1, e2, r⟩ := m
    exact ⟨seed, ns, h a (by simp [foot]) _ e1, h b (by simp [foot]) _ e2, r⟩
/-- an object of the store stands in the heap -/
theorem MOk.there {K : PySem.W.Frag} {H : Hp} {p : Addr × MO} (m : MOk K H p) : ∀ a ∈ foot p, ∃ o, H a = some o := by
  obtain ⟨a, o⟩ := p
  cases o with
  | lst ts => obtain ⟨vs, e, r⟩ := m; intro b hb; simp [foot] at hb; subst hb; exact ⟨_, e⟩
  | dk kvs => obtain ⟨vs, e, r⟩ := m; intro b hb; simp [foot] at hb; subst hb; exact ⟨_, e⟩
  | dt kvs => obtain ⟨vs, e, r⟩ := m; intro b hb; simp [foot] at hb; subst hb; exact ⟨_, e⟩
  | kt ks => intro b hb; simp [foot] at hb; subst hb; exact ⟨_, m⟩
  | tape b =>
    obtain ⟨seed, ns, e1, e2, r⟩ := m
    intro c hc
    simp [foot] at hc
    rcases hc with rfl | rfl
    · exact ⟨_, e1⟩
    · exact ⟨_, e2⟩

theorem MRd.there {K : PySem.W.Frag} {H : Hp} {p : Addr × MO} (m : MRd K H p) : ∀ a ∈ foot p, ∃ o, H a = some o := by
  obtain ⟨a, o⟩ := p
  have rd : ∀ u, Rd H a u → ∃ o, H a = some o := fun u r => by
    rcases r with r | ⟨o, r⟩
    · exact ⟨_, r⟩
    · exact ⟨_, r⟩
  cases o with
  | lst ts => obtain ⟨vs, e, r⟩ := m; intro b hb; simp [foot] at hb; subst hb; exact rd _ e
  | dk kvs => obtain ⟨vs, e, r⟩ := m; intro b hb; simp [foot] at hb; subst hb; exact ⟨_, e⟩
  | dt kvs => obtain ⟨vs, e, r⟩ := m; intro b hb; simp [foot] at hb; subst hb; exact ⟨_, e⟩
  | kt ks => intro b hb; simp [foot] at hb; subst hb; exact ⟨_, m⟩
  | tape b => exact MOk.there (K := K) (p := (a, .tape b)) m

/-! ### what is known -/
/-- the store S is as told, and F may be read -/
structure OkH (K : PySem.W.Frag) (F : Sto) (H : Hp) (S : Sto) : Prop where
  sto : ∀ p ∈ S, MOk K H p
  nd : (feet S).Nodup
  rdo : ∀ p ∈ F, MRd K H p ∧ ∀ a ∈ foot p, a ∉ feet S
abbrev Rho := List (Option T)
structure Ok (K : PySem.W.Frag) (F : Sto) (σ : St) (H : Hp) (r : Rho) (S : Sto) : Prop extends OkH K F H S where
  len : r.length = σ.length
  loc : ∀ (i : Nat) (t : T), r[i]? = some (some t) → ∃ v, σ[i]? = some (some v) ∧ TR K H v t
/-- what may be read -/
def Rdb (F : Sto) (S : Sto) (p : Addr × MO) : Prop := p ∈ S ∨ p ∈ F
theorem OkH.read {K : PySem.W.Frag} {F : Sto} {H : Hp} {S : Sto} (ok : OkH K F H S) {p : Addr × MO} (h : Rdb F S p) : MRd K H p := by
  rcases h with h | h
  · exact (ok.sto p h).rd
  · exact (ok.rdo p h).1
/-- a step: all stays but the store; what is owned was owned, or is new -/
structure Stp (H : Hp) (S : Sto) (H' : Hp) (S' : Sto) : Prop where
  at_ : ∀ a o, (a ∉ feet S ∨ Imm o) → H a = some o → H' a = some o
  fre : ∀ a, H' a = none → H a = none
  own : ∀ a ∈ feet S', a ∈ feet S ∨ H a = none
theorem Stp.refl (H : Hp) (S : Sto) : Stp H S H S := ⟨fun _ _ _ h => h, fun _ h => h, fun _ h => .inl h⟩
theorem Stp.trans {H H1 H2 : Hp} {S S1 S2 : Sto} (a : Stp H S H1 S1) (b : Stp H1 S1 H2 S2) : Stp H S H2 S2 where
  at_ := fun x o i h => b.at_ x o (by
    rcases i with i | i
    · refine .inl fun hm => ?_
      rcases a.own x hm with q | q
      · exact i q
      · rw [q] at h; cases h
    · exact .inr i) (a.at_ x o i h)
  fre := fun x h => a.fre x (b.fre x h)
  own := fun x h => by
    rcases b.own x h with q | q
    · exact a.own x q
    · exact .inr (a.fre x q)
theorem Stp.toI {H H' : Hp} {S S' : Sto} (k : Stp H S H' S') : KeepI H H' := fun a o i h => k.at_ a o (.inr i) h
theorem Stp.new {H : Hp} {S : Sto} {p : Addr} {o : HO} (hp : H p = none) : Stp H S (upd H p o) S :=
  ⟨fun a u _ e => by rw [upd_ne (ne_of_none e hp)]; exact e, fun _ e => upd_none e, fun _ h => .inl h⟩
theorem Stp.put {H : Hp} {S : Sto} {p : Addr} {o : HO} {m : MO} (hp : H p = none) (hf : foot (p, m) = [p]) : Stp H S (upd H p o) ((p, m) :: S) :=
  ⟨fun a u _ e => by rw [upd_ne (ne_of_none e hp)]; exact e, fun _ e => upd_none e, fun a h => by
    have ha' : a ∈ foot (p, m) ++ feet S := h
    rw [hf] at ha'
    rcases List.mem_cons.mp ha' with rfl | ha'
    · exact .inr hp
    · exact .inl ha'⟩

/-! ### readings -/
def WE (X : Cx) (e : Expr) (σ : St) (H : Hp) (Q : VK) : Prop := ∀ (pins : List (Addr × Obj)) (s : Shared), Inv X pins σ H s → wpAny (model X.prog X.w) X.A (eval e X.env) (EP X pins σ Q) X.xe s
def WT (X : Cx) (e : Expr) (σ : St) (H : Hp) (Q : Bool → Hp → Prop) : Prop := ∀ (pins : List (Addr × Obj)) (s : Shared), Inv X pins σ H s → wpAny (model X.prog X.w) X.A (isTrue e X.env (eval e X.env)) (TP X pins σ Q) X.xe s
def WA (X : Cx) (es : List Expr) (σ : St) (H : Hp) (Q : List V → Hp → Prop) : Prop := ∀ (pos : Pos) (pins : List (Addr × Obj)) (s : Shared), Inv X pins σ H s → wpAny (model X.prog X.w) X.A (spliced (backTo pos (starEach es X.env))) (AP X pins σ Q) X.xe s
def WS (X : Cx) (sts : List Stmt) (D : Ends) (σ : St) (H : Hp) : Prop := ∀ (pins : List (Addr × Obj)) (s : Shared), Inv X pins σ H s → wpAny (model X.prog X.w) X.A (execs sts X.env) (SP X pins D) X.xe s
def WS1 (X : Cx) (st : Stmt) (D : Ends) (σ : St) (H : Hp) : Prop := ∀ (pins : List (Addr × Obj)) (s : Shared), Inv X pins σ H s → wpAny (model X.prog X.w) X.A (exec st X.env) (SP X pins D) X.xe s
theorem peW {X : Cx} {e : Expr} : PE X e (WE X e) := ⟨fun pins s σ H Q I h => h pins s I⟩
theorem ptW {X : Cx} {e : Expr} : PT X e (WT X e) := ⟨fun pins s σ H Q I h => h pins s I⟩
theorem paW {X : Cx} {es : List Expr} : PA X es (WA X es) := ⟨fun pos pins s σ H Q I h => h pos pins s I⟩
theorem psW {X : Cx} {sts : List Stmt} : PSs X sts (WS X sts) := ⟨fun pins s σ H D I h => h pins s I⟩
theorem ps1 {X : Cx} {st : Stmt} : PS X st (WS1 X st) := ⟨fun pins s σ H D I h => h pins s I⟩
theorem we_of {X : Cx} {e : Expr} {t : TE} (h : PE X e t) {σ : St} {H : Hp} {Q : VK} (q : t σ H Q) : WE X e σ H Q := fun pins s I => h.run pins s σ H Q I q
theorem wt_of {X : Cx} {e : Expr} {t : TT} (h : PT X e t) {σ : St} {H : Hp} {Q : Bool → Hp → Prop} (q : t σ H Q) : WT X e σ H Q := fun pins s I => h.run pins s σ H Q I q
theorem wa_of {X : Cx} {es : List Expr} {t : TA} (h : PA X es t) {σ : St} {H : Hp} {Q : List V → Hp → Prop} (q : t σ H Q) : WA X es σ H Q := fun pos pins s I => h.run pos pins s σ H Q I q
theorem ws_of {X : Cx} {sts : List Stmt} {t : TS} (h : PSs X sts t) {σ : St} {H : Hp} {D : Ends} (q : t D σ H) : WS X sts D σ H := fun pins s I => h.run pins s σ H D I q
theorem ws1_of {X : Cx} {st : Stmt} {t : TS} (h : PS X st t) {σ : St} {H : Hp} {D : Ends} (q : t D σ H) : WS1 X st D σ H := fun pins s I => h.run pins s σ H D I q

/-- what an expression is to lead to -/
def CoE (K : PySem.W.Frag) (F : Sto) (σ : St) (H : Hp) (r : Rho) (S : Sto) (k : T → Sto → Prop) (Q : VK) : Prop := ∀ v H' t S', Stp H S H' S' → Ok K F σ H' r S' → TR K H' v t → k t S' → Q v H'
def CoT (K : PySem.W.Frag) (F : Sto) (σ : St) (H : Hp) (r : Rho) (S : Sto) (k : Bool → Sto → Prop) (Q : Bool → Hp → Prop) : Prop := ∀ b H' S', Stp H S H' S' → Ok K F σ H' r S' → k b S' → Q b H'
def CoA (K : PySem.W.Frag) (F : Sto) (σ : St) (H : Hp) (r : Rho) (S : Sto) (k : List T → Sto → Prop) (Q : List V → Hp → Prop) : Prop := ∀ vs H' ts S', Stp H S H' S' → Ok K F σ H' r S' → TRs K H' vs ts → k ts S' → Q vs H'
def ew (F : Sto) (X : Cx) (e : Expr) (r : Rho) (S : Sto) (k : T → Sto → Prop) : Prop := ∀ σ H Q, Ok X.K F σ H r S → CoE X.K F σ H r S k Q → WE X e σ H Q
def tw (F : Sto) (X : Cx) (e : Expr) (r : Rho) (S : Sto) (k : Bool → Sto → Prop) : Prop := ∀ σ H Q, Ok X.K F σ H r S → CoT X.K F σ H r S k Q → WT X e σ H Q
def aw (F : Sto) (X : Cx) (es : List Expr) (r : Rho) (S : Sto) (k : List T → Sto → Prop) : Prop := ∀ σ H Q, Ok X.K F σ H r S → CoA X.K F σ H r S k Q → WA X es σ H Q
/-- what a block is to lead to -/
structure KE where
  nx : Rho → Sto → Prop
  rt : T → Sto → Prop
  bk : Rho → Sto → Prop := fun _ _ => False
  ct : Rho → Sto → Prop := fun _ _ => False
structure CoS (K : PySem.W.Frag) (F : Sto) (H : Hp) (S : Sto) (k : KE) (D : Ends) : Prop where
  nx : ∀ σ' H' r' S', Stp H S H' S' → Ok K F σ' H' r' S' → k.nx r' S' → D.nx σ' H'
  rt : ∀ v H' t S', Stp H S H' S' → OkH K F H' S' → TR K H' v t → k.rt t S' → D.rt v H'
  bk : ∀ σ' H' r' S', Stp H S H' S' → Ok K F σ' H' r' S' → k.bk r' S' → D.bk σ' H'
  ct : ∀ σ' H' r' S', Stp H S H' S' → Ok K F σ' H' r' S' → k.ct r' S' → D.ct σ' H'
def sw (F : Sto) (X : Cx) (sts : List Stmt) (r : Rho) (S : Sto) (k : KE) : Prop := ∀ σ H D, Ok X.K F σ H r S → CoS X.K F H S k D → WS X sts D σ H
def s1w (F : Sto) (X : Cx) (st : Stmt) (r : Rho) (S : Sto) (k : KE) : Prop := ∀ σ H D, Ok X.K F σ H r S → CoS X.K F H S k D → WS1 X st D σ H

section
variable {K : PySem.W.Frag} {F : Sto} {X : Cx} {σ : St} {H H' : Hp} {r : Rho} {S S' : Sto}
theorem CoE.mono {k : T → Sto → Prop} {Q : VK} (c : CoE K F σ H r S k Q) (e : Stp H S H' S') : CoE K F σ H' r S' k Q := fun v H2 t S' kp ok tr q => c v H2 t S' (e.trans kp) ok tr q
theorem CoA.mono {k : List T → Sto → Prop} {Q : List V → Hp → Prop} (c : CoA K F σ H r S k Q) (e : Stp H S H' S') : CoA K F σ H' r S' k Q := fun v H2 t S' kp ok tr q => c v H2 t S' (e.trans kp) ok tr q
theorem CoT.mono {k : Bool → Sto → Prop} {Q : Bool → Hp → Prop} (c : CoT K F σ H r S k Q) (e : Stp H S H' S') : CoT K F σ H' r S' k Q := fun v H2 S' kp ok q => c v H2 S' (e.trans kp) ok q
theorem CoS.mono {k : KE} {D : Ends} (c : CoS K F H S k D) (e : Stp H S H' S') : CoS K F H' S' k D :=
  ⟨fun σ' H2 r' S' kp => c.nx σ' H2 r' S' (e.trans kp), fun v H2 t S' kp => c.rt v H2 t S' (e.trans kp), fun σ' H2 r' S' kp => c.bk σ' H2 r' S' (e.trans kp), fun σ' H2 r' S' kp => c.ct σ' H2 r' S' (e.trans kp)⟩
theorem feet_mem {S : Sto} {a : Addr} (h : a ∈ feet S) : ∃ q ∈ S, a ∈ foot q := List.mem_flatMap.mp h
theorem feet_of {S : Sto} {q : Addr × MO} {a : Addr} (hq : q ∈ S) (h : a ∈ foot q) : a ∈ feet S := List.mem_flatMap.mpr ⟨q, hq, h⟩
theorem OkH.there (ok : OkH K F H S) {a : Addr} (h : a ∈ feet S) : ∃ o, H a = some o := by
  obtain ⟨q, hq, ha⟩ := feet_mem h
  exact (ok.sto q hq).there a ha
theorem OkH.fresh {p : Addr} (ok : OkH K F H S) (hp : H p = none) : p ∉ feet S := fun h => by
  obtain ⟨o, e⟩ := ok.there h
  rw [hp] at e; cases e
/-- what may be read stays so over a step -/
theorem OkH.rdo' (ok : OkH K F H S) (st : Stp H S H' S') : ∀ p ∈ F, MRd K H' p ∧ ∀ a ∈ foot p, a ∉ feet S' := fun p hp => by
  obtain ⟨m, f⟩ := ok.rdo p hp
  refine ⟨m.keep st.toI fun a ha o e => st.at_ a o (.inl (f a ha)) e, fun a ha hs => ?_⟩
  rcases st.own a hs with q | q
  · exact f a ha q
  · obtain ⟨o, e⟩ := m.there a ha
    rw [q] at e; cases e
theorem OkH.new {p : Addr} {o : HO} (ok : OkH K F H S) (hp : H p = none) : OkH K F (upd H p o) S :=
  ⟨fun q hq => (ok.sto q hq).keep (.new hp) fun a ha u e => by rw [upd_ne (ne_of_none e hp)]; exact e, ok.nd, ok.rdo' (.new hp)⟩
theorem Ok.new {p : Addr} {o : HO} (ok : Ok K F σ H r S) (hp : H p = none) : Ok K F σ (upd H p o) r S :=
  ⟨ok.toOkH.new hp, ok.len, fun i t e => let ⟨v, h1, h2⟩ := ok.loc i t e; ⟨v, h1, h2.keep (.new hp)⟩⟩
/-- .. and the new object is put to the store -/
theorem OkH.put {p : Addr} {o : HO} (m : MO) (ok : OkH K F H S) (hp : H p = none) (hf : foot (p, m) = [p]) (hm : MOk K (upd H p o) (p, m)) : OkH K F (upd H p o) ((p, m) :: S) := by
  have ok1 := ok.new (o := o) hp
  refine ⟨fun q hq => ?_, ?_, ok.rdo' (.put hp hf)⟩
  · rcases List.mem_cons.mp hq with rfl | hq
    · exact hm
    · exact ok1.sto q hq
  · show (foot (p, m) ++ feet S).Nodup
    rw [hf]
    exact List.nodup_cons.mpr ⟨ok.fresh hp, ok.nd⟩
theorem Ok.put {p : Addr} {o : HO} (m : MO) (ok : Ok K F σ H r S) (hp : H p = none) (hf : foot (p, m) = [p]) (hm : MOk K (upd H p o) (p, m)) : Ok K F σ (upd H p o) r ((p, m) :: S) :=
  ⟨ok.toOkH.put m hp hf hm, ok.len, (ok.new (o := o) hp).loc⟩
/-- an object of the store is changed -/
theorem feet_mid {Sa Sb : Sto} {p : Addr × MO} : feet (Sa ++ p :: Sb) = feet Sa ++ (foot p ++ feet Sb) := by
  unfold feet
  rw [List.flatMap_append, List.flatMap_cons]
theorem Stp.mut {Sa Sb : Sto} {p : Addr} {m m' : MO} {u o : HO} (hf : foot (p, m) = [p]) (hf' : foot (p, m') = [p]) (hu : H p = some u) (hi : ¬ Imm u) : Stp H (Sa ++ (p, m) :: Sb) (upd H p o) (Sa ++ (p, m') :: Sb) where
  at_ := fun a w i e => by
    by_cases q : a = p
    · subst q
      rcases i with i | i
      · exact absurd (by rw [feet_mid, hf]; simp) i
      · rw [hu] at e; cases e; exact absurd i hi
    · rw [upd_ne q]; exact e
  fre := fun _ e => upd_none e
  own := fun a h => by rw [feet_mid, hf'] at h; rw [feet_mid, hf]; exact .inl h
theorem OkH.mut {Sa Sb : Sto} {p : Addr} {m m' : MO} {u o : HO} (ok : OkH K F H (Sa ++ (p, m) :: Sb)) (hf : foot (p, m) = [p]) (hf' : foot (p, m') = [p]) (hu : H p = some u) (hi : ¬ Imm u) (hm : MOk K (upd H p o) (p, m')) :
    OkH K F (upd H p o) (Sa ++ (p, m') :: Sb) := by
  have nd := ok.nd
  rw [feet_mid, hf] at nd
  have na : ∀ a, a ∈ feet Sa ∨ a ∈ feet Sb → a ≠ p := fun a h e => by
    subst e
    have h2 := List.nodup_append.mp nd
    rcases h with h | h
    · exact h2.2.2 a h a (by simp) rfl
    · exact (List.nodup_cons.mp h2.2.1).1 h
  refine ⟨fun q hq => ?_, ?_, ok.rdo' (.mut hf hf' hu hi)⟩
  · have keep : ∀ q, q ∈ Sa ++ (p, m) :: Sb → (∀ a ∈ foot q, a ≠ p) → MOk K (upd H p o) q := fun q hq hne => (ok.sto q hq).keep (.mut hu hi) fun a ha w e => by rw [upd_ne (hne a ha)]; exact e
    rcases List.mem_append.mp hq with h | h
    · exact keep q (List.mem_append_left _ h) fun a ha => na a (.inl (feet_of h ha))
    · rcases List.mem_cons.mp h with rfl | h
      · exact hm
      · exact keep q (List.mem_append_right _ (List.mem_cons_of_mem _ h)) fun a ha => na a (.inr (feet_of h ha))
  · rw [feet_mid, hf']
    exact nd
theorem Ok.mut {Sa Sb : Sto} {p : Addr} {m : MO} (m' : MO) {u o : HO} (ok : Ok K F σ H r (Sa ++ (p, m) :: Sb)) (hf : foot (p, m) = [p]) (hf' : foot (p, m') = [p]) (hu : H p = some u) (hi : ¬ Imm u) (hm : MOk K (upd H p o) (p, m')) :
    Ok K F σ (upd H p o) r (Sa ++ (p, m') :: Sb) :=
  ⟨ok.toOkH.mut hf hf' hu hi hm, ok.len, fun i t e => let ⟨v, h1, h2⟩ := ok.loc i t e; ⟨v, h1, h2.keep (.mut hu hi)⟩⟩
/-- a slot is stored -/
theorem Ok.set {i : Nat} {v : V} {t : T} (ok : Ok K F σ H r S) (tr : TR K H v t) : Ok K F (σ.set i (some v)) H (r.set i (some t)) S :=
  ⟨ok.toOkH, by rw [List.length_set, List.length_set, ok.len], fun j u e => by
    by_cases q : i = j
    · subst q
      by_cases hl : i < r.length
      · rw [List.getElem?_set_self hl] at e
        cases e
        exact ⟨v, by rw [List.getElem?_set_self (by rw [← ok.len]; exact hl)], tr⟩
      · rw [List.getElem?_eq_none (by simpa using hl)] at e
        cases e
    · rw [List.getElem?_set_ne q] at e
      obtain ⟨w, h1, h2⟩ := ok.loc j u e
      exact ⟨w, by rw [List.getElem?_set_ne q]; exact h1, h2⟩⟩
end
end PT

set_option Elab.async false
set_option linter.all false
set_option maxRecDepth 100000
set_option maxHeartbeats 2000000
set_option autoImplicit false
namespace PT
open PySem L2
section
variable {F : Sto} {X : Cx} {r : Rho} {S : Sto} {k : T → Sto → Prop} {pos : Pos}

theorem ew_var {i : Nat} {x : Str} {t : T} (hi : r[i]? = some (some t)) (hk : k t S) (hN : X.N[i]? = some x := by rfl) (hv : Vis X.env.scope x := by first | exact Or.inl rfl | exact Or.inr (Or.inl rfl) | exact Or.inr (Or.inr rfl))
    (hd : (x == ("__debug__" : Str)) = false := by decide) (hcd : (x == ("__classdict__" : Str)) = false := by decide) : ew F X (.Name x pos) r S k := by
  intro σ H Q ok c
  obtain ⟨v, e, tr⟩ := ok.loc i t hi
  exact we_of (pe_var hN hv hd hcd) ⟨v, e, c v H t S (.refl H S) ok tr hk⟩
theorem ew_int {i : Int} {j} (hk : k (.int i) S) : ew F X (.Constant (.int i) j pos) r S k := fun σ H Q ok c => we_of pe_int (c _ H _ S (.refl H S) ok (.int i) hk)
theorem ew_str {x : Str} {j} (hk : k (.str x) S) : ew F X (.Constant (.str x) j pos) r S k := fun σ H Q ok c => we_of pe_str (c _ H _ S (.refl H S) ok (.str x) hk)
theorem ew_bl {b : Bool} {j} (hk : k (.bl b) S) : ew F X (.Constant (.bool b) j pos) r S k := fun σ H Q ok c => we_of pe_bl (c _ H _ S (.refl H S) ok (.bl b) hk)
theorem ew_non {j} (hk : k .non S) : ew F X (.Constant .none j pos) r S k := fun σ H Q ok c => we_of pe_non (c _ H _ S (.refl H S) ok .non hk)
/-- a constant of the module -/
theorem ew_glob {x : Str} {v : V} {u : Value} {t : T} (hg : Gl X x) (hm : X.mg x = some u) (rv : RelV v u) (ht : ∀ H, TR X.K H v t) (hk : k t S) (hd : (x == ("__debug__" : Str)) = false := by decide) : ew F X (.Name x pos) r S k :=
  fun σ H Q ok c => we_of (pe_glob hg hm rv hd) (c v H t S (.refl H S) ok (ht H) hk)

/-! ### arguments, displays -/
variable {es : List Expr} {e a b : Expr}
theorem aw_nil {k : List T → Sto → Prop} (hk : k [] S) : aw F X [] r S k := fun σ H Q ok c => wa_of pa_nil (c [] H [] S (.refl H S) ok .nil hk)
theorem aw_cons {k : List T → Sto → Prop} (h : ew F X e r S fun t S1 => aw F X es r S1 fun ts S2 => k (t :: ts) S2) (hs : starEach (e :: es) X.env = (false, eval e X.env) :: starEach es X.env := by rfl) : aw F X (e :: es) r S k := by
  intro σ H Q ok c
  refine wa_of (pa_cons peW paW hs) ?_
  refine h σ H _ ok fun v H1 t S1 k1 ok1 tr h1 => ?_
  exact h1 σ H1 _ ok1 fun vs H2 ts S2 k2 ok2 trs q => c _ H2 _ S2 (k1.trans k2) ok2 (.cons (tr.keep k2.toI) trs) q
theorem ew_tup {x1} (h : aw F X es r S fun ts S1 => ts.length ≤ 100000 ∧ k (.tup ts) S1) : ew F X (.Tuple es x1 pos) r S k := by
  intro σ H Q ok c
  refine we_of (pe_tup paW) ?_
  refine h σ H _ ok fun vs H1 ts S1 k1 ok1 trs q => ⟨Nat.le_trans (by rw [trs.length]; exact q.1) (by decide), fun p hp => ?_⟩
  exact c (.ref p) _ (.tup ts) S1 (k1.trans (.new hp)) (ok1.new hp) (.tup (.inl (.inl upd_same)) (trs.keep (.new hp))) q.2
/-- a new list -/
theorem ew_lst (h : aw F X es r S fun ts S1 => ts.length ≤ 100000 ∧ ∀ p, p ∉ feet S1 → k (.ref p) ((p, .lst ts) :: S1)) : ew F X (.List es pos) r S k := by
  intro σ H Q ok c
  refine we_of (pe_lst paW) ?_
  refine h σ H _ ok fun vs H1 ts S1 k1 ok1 trs q => ⟨Nat.le_trans (by rw [trs.length]; exact q.1) (by decide), fun p hp => ?_⟩
  exact c (.ref p) _ (.ref p) _ (k1.trans (.put hp rfl)) (ok1.put (.lst ts) hp rfl ⟨vs, upd_same, trs.keep (.new hp)⟩) (.ref p) (q.2 p (ok1.fresh hp))
/-- {} -/
theorem ew_dnewK (h : ∀ p, p ∉ feet S → k (.ref p) ((p, .dk []) :: S)) : ew F X (.Dict [] [] pos) r S k := by
  intro σ H Q ok c
  refine we_of pe_dnewK fun p hp => ?_
  exact c (.ref p) _ (.ref p) _ (.put hp rfl) (ok.put (.dk []) hp rfl ⟨[], upd_same, .nil⟩) (.ref p) (h p (ok.fresh hp))
theorem ew_dnewT (h : ∀ p, p ∉ feet S → k (.ref p) ((p, .dt []) :: S)) : ew F X (.Dict [] [] pos) r S k := by
  intro σ H Q ok c
  refine we_of pe_dnewT fun p hp => ?_
  exact c (.ref p) _ (.ref p) _ (.put hp rfl) (ok.put (.dt []) hp rfl ⟨[], upd_same, .nil⟩) (.ref p) (h p (ok.fresh hp))

/-! ### operators by values -/
/-- a two-place operation by data -/
def bw (F : Sto) (X : Cx) (f : Value → Value → Sem Value) (ta tb : T) (r : Rho) (S : Sto) (k : T → Sto → Prop) : Prop := ∀ σ H x y Q, Ok X.K F σ H r S → TR X.K H x ta → TR X.K H y tb → CoE X.K F σ H r S k Q →
  ∀ (pins : List (Addr × Obj)) (s : Shared) (v u : Value), Inv X pins σ H s → RelV x v → RelV y u → wpAny (model X.prog X.w) X.A (f v u) (EP X pins σ Q) X.xe s
theorem bw_of {f : Value → Value → Sem Value} {rr : R2} {ta tb : T} (ho : OpR X f rr) (h : ∀ σ H x y Q, Ok X.K F σ H r S → TR X.K H x ta → TR X.K H y tb → CoE X.K F σ H r S k Q → rr x y H Q) : bw F X f ta tb r S k :=
  fun σ H x y Q ok ha hb c pins s v u I rv ru => ho pins s σ H x y v u Q I rv ru (h σ H x y Q ok ha hb c)
theorem ew_bin {op : Operator} (h : ew F X a r S fun ta S1 => ew F X b r S1 fun tb S2 => bw F X (binaryOp op) ta tb r S2 k) : ew F X (.BinOp a op b pos) r S k := by
  intro σ H Q ok c pins s I
  refine wpAny_BinOp (thn (h σ H (fun x H1 => WE X b σ H1 fun y H2 => ∀ pins s v u, Inv X pins σ H2 s → RelV x v → RelV y u → wpAny (model X.prog X.w) X.A (binaryOp op v u) (EP X pins σ Q) X.xe s) ok ?_ pins s I) fun v s1 ⟨x, H1, I1, rx, q1⟩ =>
    thn (q1 pins s1 I1) fun u s2 ⟨y, H2, I2, ry, q2⟩ => q2 pins s2 v u I2 rx ry)
  intro x H1 ta S1 k1 ok1 tr1 hb
  refine hb σ H1 _ ok1 fun y H2 tb S2 k2 ok2 tr2 hw => ?_
  exact fun pins s v u I rv ru => hw σ H2 x y Q ok2 (tr1.keep k2.toI) tr2 (c.mono (k1.trans k2)) pins s v u I rv ru
theorem ew_cmp {op : CmpOp} (h : ew F X a r S fun ta S1 => ew F X b r S1 fun tb S2 => bw F X (compareOp op) ta tb r S2 k) (hm : behindInMarks op b = false := by rfl) : ew F X (.Compare a [op] [b] pos) r S k := by
  intro σ H Q ok c pins s I
  refine wpAny_Compare1 (thn (h σ H (fun x H1 => WE X b σ H1 fun y H2 => ∀ pins s v u, Inv X pins σ H2 s → RelV x v → RelV y u → wpAny (model X.prog X.w) X.A (compareOp op v u) (EP X pins σ Q) X.xe s) ok ?_ pins s I) fun v s1 ⟨x, H1, I1, rx, q1⟩ =>
    thn (q1 pins s1 I1) fun u s2 ⟨y, H2, I2, ry, q2⟩ => q2 pins s2 v u I2 rx ry) hm
  intro x H1 ta S1 k1 ok1 tr1 hb
  refine hb σ H1 _ ok1 fun y H2 tb S2 k2 ok2 tr2 hw => ?_
  exact fun pins s v u I rv ru => hw σ H2 x y Q ok2 (tr1.keep k2.toI) tr2 (c.mono (k1.trans k2)) pins s v u I rv ru
/-- a comparison as a test -/
theorem tw_cmp {op : CmpOp} {k : Bool → Sto → Prop} (h : ew F X a r S fun ta S1 => ew F X b r S1 fun tb S2 => bw F X (compareOp op) ta tb r S2 fun t S3 => ∃ c, t = .bl c ∧ k c S3) (hm : behindInMarks op b = false := by rfl) : tw F X (.Compare a [op] [b] pos) r S k := by
  intro σ H Q ok c pins s I
  refine wpAny_isTrue_Compare1 (thn (h σ H (fun x H1 => WE X b σ H1 fun y H2 => ∀ pins s v u, Inv X pins σ H2 s → RelV x v → RelV y u → wpAny (model X.prog X.w) X.A (compareOp op v u) (EP X pins σ (fun z H3 => ∃ c, z = .bl c ∧ Q c H3)) X.xe s) ok ?_ pins s I) fun v s1 ⟨x, H1, I1, rx, q1⟩ =>
    thn (q1 pins s1 I1) fun u s2 ⟨y, H2, I2, ry, q2⟩ => thn (q2 pins s2 v u I2 rx ry) fun cv s3 ⟨z, H3, I3, rz, d, e, q3⟩ => ?_) hm
  · intro x H1 ta S1 k1 ok1 tr1 hb
    refine hb σ H1 _ ok1 fun y H2 tb S2 k2 ok2 tr2 hw => ?_
    refine fun pins s v u I rv ru => hw σ H2 x y _ ok2 (tr1.keep k2.toI) tr2 (fun z H3 t S3 k3 ok3 tr3 q3 => ?_) pins s v u I rv ru
    obtain ⟨d, e, q⟩ := q3
    subst e
    exact ⟨d, tr3.bl_inv, c d H3 S3 ((k1.trans k2).trans k3) ok3 q⟩
  · subst e
    cases rz
    exact wpAny_truthy_bool ⟨H3, I3, q3⟩
end
section
variable {F : Sto} {X : Cx} {r : Rho} {S : Sto} {k : T → Sto → Prop}
theorem bw_I0 {f : Value → Value → Sem Value} {g : Int → Int → V} {t : Int → Int → T} {i j : Int} (ho : OpR X f (rI0 g)) (hg : ∀ H, TR X.K H (g i j) (t i j)) (hk : k (t i j) S) : bw F X f (.int i) (.int j) r S k :=
  bw_of ho fun σ H x y Q ok ha hb c => ⟨i, j, ha.int_inv, hb.int_inv, c _ H _ S (.refl H S) ok (hg H) hk⟩
theorem bw_add {i j : Int} (hk : k (.int (i + j)) S) : bw F X (binaryOp .Add) (.int i) (.int j) r S k := bw_I0 (t := fun i j => .int (i + j)) op_add (fun _ => .int _) hk
theorem bw_sub {i j : Int} (hk : k (.int (i - j)) S) : bw F X (binaryOp .Sub) (.int i) (.int j) r S k := bw_I0 (t := fun i j => .int (i - j)) op_sub (fun _ => .int _) hk
theorem bw_lt {i j : Int} (hk : k (.bl (decide (i < j))) S) : bw F X (compareOp .Lt) (.int i) (.int j) r S k := bw_I0 (t := fun i j => .bl (decide (i < j))) op_lt (fun _ => .bl _) hk
theorem bw_le {i j : Int} (hk : k (.bl (decide (i ≤ j))) S) : bw F X (compareOp .LtE) (.int i) (.int j) r S k := bw_I0 (t := fun i j => .bl (decide (i ≤ j))) op_le (fun _ => .bl _) hk
theorem bw_gt {i j : Int} (hk : k (.bl (decide (i > j))) S) : bw F X (compareOp .Gt) (.int i) (.int j) r S k := bw_I0 (t := fun i j => .bl (decide (i > j))) op_gt (fun _ => .bl _) hk
theorem bw_ge {i j : Int} (hk : k (.bl (decide (i ≥ j))) S) : bw F X (compareOp .GtE) (.int i) (.int j) r S k := bw_I0 (t := fun i j => .bl (decide (i ≥ j))) op_ge (fun _ => .bl _) hk
theorem bw_mul {i j : Int} (h : (-(2 ^ 64) < i ∧ i < 2 ^ 64) ∨ (-(2 ^ 64) < j ∧ j < 2 ^ 64)) (hk : k (.int (i * j)) S) : bw F X (binaryOp .Mult) (.int i) (.int j) r S k :=
  bw_of op_mul fun σ H x y Q ok ha hb c => ⟨i, j, ha.int_inv, hb.int_inv, h, c _ H _ S (.refl H S) ok (.int _) hk⟩
theorem bw_fdiv {i j : Int} (h : j ≠ 0 ∧ j.natAbs < 1073741824) (hk : k (.int (i.fdiv j)) S) : bw F X (binaryOp .FloorDiv) (.int i) (.int j) r S k :=
  bw_of op_fdivN fun σ H x y Q ok ha hb c => ⟨i, j, ha.int_inv, hb.int_inv, h, c _ H _ S (.refl H S) ok (.int _) hk⟩
theorem bw_mod {i j : Int} (h : j ≠ 0) (hk : k (.int (i.fmod j)) S) : bw F X (binaryOp .Mod) (.int i) (.int j) r S k :=
  bw_of op_modN fun σ H x y Q ok ha hb c => ⟨i, j, ha.int_inv, hb.int_inv, h, c _ H _ S (.refl H S) ok (.int _) hk⟩
theorem bw_cats {x y : Str} (h : x.length + y.length ≤ 100000) (hk : k (.str (x ++ y)) S) : bw F X (binaryOp .Add) (.str x) (.str y) r S k :=
  bw_of op_add_str fun σ H v w Q ok ha hb c => ⟨x, y, ha.str_inv, hb.str_inv, Nat.le_trans h (by decide), c _ H _ S (.refl H S) ok (.str _) hk⟩
/-- scalars that are flat -/
def T.scal : T → T → Bool
  | .non, .non => true | .non, .int _ => true | .int _, .non => true | .non, .bl _ => true | .bl _, .non => true | .non, .str _ => true | .str _, .non => true
  | .int _, .int _ => true | .bl _, .bl _ => true | .str _, .str _ => true
  | .int _, .str _ => true | .str _, .int _ => true | .bl _, .str _ => true | .str _, .bl _ => true
  | _, _ => false
def T.sEq : T → T → Bool
  | .non, .non => true
  | .int i, .int j => decide (i = j)
  | .bl i, .bl j => decide (i = j)
  | .str i, .str j => decide (i = j)
  | _, _ => false
theorem scal_tr {K : PySem.W.Frag} {H : Hp} {x y : V} {ta tb : T} (ha : TR K H x ta) (hb : TR K H y tb) (h : T.scal ta tb = true) : scal x y = true ∧ decide (x = y) = T.sEq ta tb := by
  cases ha <;> cases hb <;> simp_all [T.scal, scal, T.sEq]
theorem bw_eqs {ta tb : T} (h : T.scal ta tb = true) (hk : k (.bl (T.sEq ta tb)) S) : bw F X (compareOp .Eq) ta tb r S k :=
  bw_of op_eq fun σ H x y Q ok ha hb c => ⟨(scal_tr ha hb h).1, by rw [(scal_tr ha hb h).2]; exact c _ H _ S (.refl H S) ok (.bl _) hk⟩
theorem bw_nes {ta tb : T} (h : T.scal ta tb = true) (hk : k (.bl (!T.sEq ta tb)) S) : bw F X (compareOp .NotEq) ta tb r S k :=
  bw_of op_ne fun σ H x y Q ok ha hb c => ⟨(scal_tr ha hb h).1, by rw [(scal_tr ha hb h).2]; exact c _ H _ S (.refl H S) ok (.bl _) hk⟩
/-! data at any depth -/
mutual
def T.py : T → Option PyData
  | .non => some .none
  | .bl b => some (.bool b)
  | .int i => some (.int i)
  | .str x => some (.str x)
  | .ref _ => none
  | .ty _ => none
  | .kt _ => none
  | .tup ts => (T.pys ts).map .tuple
def T.pys : List T → Option (List PyData)
  | [] => some []
  | t :: ts => match T.py t, T.pys ts with
    | some d, some ds => some (d :: ds)
    | _, _ => none
end
mutual
theorem TR.dp {K : PySem.W.Frag} {H : Hp} : ∀ {v : V} {t : T} {d : PyData}, TR K H v t → T.py t = some d → Dp K H v d
  | _, _, _, .non, e => by simp [T.py] at e; subst e; exact .non
  | _, _, _, .bl b, e => by simp [T.py] at e; subst e; exact .bl b
  | _, _, _, .int b, e => by simp [T.py] at e; subst e; exact .int b
  | _, _, _, .str b, e => by simp [T.py] at e; subst e; exact .str b
  | _, _, _, .ref _, e => by simp [T.py] at e
  | _, _, _, .ty _, e => by simp [T.py] at e
  | _, _, _, .kt _, e => by simp [T.py] at e
  | _, _, _, .tup (ts := ts) s r, e => by
    rw [T.py] at e
    obtain ⟨ds, e1, e2⟩ := Option.map_eq_some_iff.mp e
    subst e2
    exact .tup s (TRs.dp r e1)
theorem TRs.dp {K : PySem.W.Frag} {H : Hp} : ∀ {vs : List V} {ts : List T} {ds : List PyData}, TRs K H vs ts → T.pys ts = some ds → DpAll K H vs ds
  | _, _, _, .nil, e => by simp [T.pys] at e; subst e; exact .nil
  | _, _, _, .cons (t := t) (ts := ts) r q, e => by
    rw [T.pys] at e
    cases h1 : T.py t with
    | none => rw [h1] at e; cases e
    | some d =>
      cases h2 : T.pys ts with
      | none => rw [h1, h2] at e; cases e
      | some es =>
        rw [h1, h2] at e
        cases e
        exact .cons (TR.dp r h1) (TRs.dp q h2)
end
/-- data that may be compared, and whether it is equal -/
def EqT (ta tb : T) (b : Bool) : Prop := ∃ d e, T.py ta = some d ∧ T.py tb = some e ∧ SeqAt.shaped d = true ∧ SeqAt.shaped e = true ∧ PyData.eqv d e = b
theorem bw_eqd {ta tb : T} {b : Bool} (hu : X.A.units + 64 < cLine) (h : EqT ta tb b) (hk : k (.bl b) S) : bw F X (compareOp .Eq) ta tb r S k :=
  bw_of (op_eqD hu) fun σ H x y Q ok ha hb c => by
    obtain ⟨d, e, h1, h2, h3, h4, h5⟩ := h
    subst h5
    exact ⟨d, e, ha.dp h1, hb.dp h2, h3, h4, c _ H _ S (.refl H S) ok (.bl _) hk⟩
theorem bw_ned {ta tb : T} {b : Bool} (hu : X.A.units + 64 < cLine) (h : EqT ta tb b) (hk : k (.bl (!b)) S) : bw F X (compareOp .NotEq) ta tb r S k :=
  bw_of (op_neD hu) fun σ H x y Q ok ha hb c => by
    obtain ⟨d, e, h1, h2, h3, h4, h5⟩ := h
    subst h5
    exact ⟨d, e, ha.dp h1, hb.dp h2, h3, h4, c _ H _ S (.refl H S) ok (.bl _) hk⟩
/-- x in a tuple of flat items -/
def T.flat : T → Bool | .non => true | .bl _ => true | .int _ => true | .str _ => true | _ => false
def T.inT (x : T) (xs : List T) : Bool := xs.any fun y => T.sEq y x
theorem flat_tr {K : PySem.W.Frag} {H : Hp} {x : V} {t : T} (h : TR K H x t) (hf : T.flat t = true) : flatV x = true := by
  cases h <;> simp_all [T.flat, flatV]
theorem flats_tr {K : PySem.W.Frag} {H : Hp} : ∀ {xs : List V} {ts : List T}, TRs K H xs ts → ts.all T.flat = true → xs.all flatV = true
  | _, _, .nil, _ => rfl
  | _, _, .cons r q, h => by
    rw [List.all_cons, Bool.and_eq_true] at h ⊢
    exact ⟨flat_tr r h.1, flats_tr q h.2⟩
/-- flat, and not a bool beside an int -/
def T.clr (x y : T) : Bool := T.flat y && !(match y, x with | .bl _, .int _ => true | .int _, .bl _ => true | _, _ => false)
theorem T.clrs {x : T} {xs : List T} (h : xs.all (T.clr x) = true) : xs.all T.flat = true := by
  rw [List.all_eq_true] at h ⊢
  intro y hy
  have := h y hy
  unfold T.clr at this
  rw [Bool.and_eq_true] at this
  exact this.1
theorem T.inT_tr {K : PySem.W.Frag} {H : Hp} {x : V} {t : T} (hx : TR K H x t) : ∀ {xs : List V} {ts : List T}, TRs K H xs ts → ts.all (T.clr t) = true → inV x xs = T.inT t ts
  | _, _, .nil, _ => rfl
  | _, _, .cons (v := v) (t := y) r q, h => by
    rw [List.all_cons, Bool.and_eq_true] at h
    have ih := T.inT_tr hx q h.2
    unfold inV T.inT at ih ⊢
    rw [List.any_cons, List.any_cons, ih]
    congr 1
    cases r <;> cases hx <;> simp_all [T.flat, T.clr, eqV, T.sEq, Bool.beq_eq_decide_eq]
/-- x in (.., ..), a tuple of flat items -/
theorem bw_inT {x : T} {xs : List T} (hx : T.flat x = true) (hf : xs.all (T.clr x) = true) (hk : k (.bl (T.inT x xs)) S) : bw F X (compareOp .In) x (.tup xs) r S k :=
  bw_of op_in_seq fun σ H v w Q ok ha hb c => by
    obtain ⟨a, vs, e, sq, rs⟩ := hb.tup_inv
    have hfl := T.clrs hf
    refine ⟨a, vs, e, .inr sq, flat_tr ha hx, flats_tr rs hfl, ?_⟩
    rw [if_neg Bool.false_ne_true, T.inT_tr ha rs hf]
    exact c _ H _ S (.refl H S) ok (.bl _) hk
theorem bw_notinT {x : T} {xs : List T} (hx : T.flat x = true) (hf : xs.all (T.clr x) = true) (hk : k (.bl (!T.inT x xs)) S) : bw F X (compareOp .NotIn) x (.tup xs) r S k :=
  bw_of op_notIn_seq fun σ H v w Q ok ha hb c => by
    obtain ⟨a, vs, e, sq, rs⟩ := hb.tup_inv
    have hfl := T.clrs hf
    refine ⟨a, vs, e, .inr sq, flat_tr ha hx, flats_tr rs hfl, ?_⟩
    rw [if_pos rfl, T.inT_tr ha rs hf]
    exact c _ H _ S (.refl H S) ok (.bl _) hk
/-- x in [..] -/
theorem bw_inL {x : T} {p : Addr} {xs : List T} (hp : Rdb F S (p, .lst xs)) (hx : T.flat x = true) (hf : xs.all (T.clr x) = true) (hk : k (.bl (T.inT x xs)) S) : bw F X (compareOp .In) x (.ref p) r S k :=
  bw_of op_in_seq fun σ H v w Q ok ha hb c => by
    obtain ⟨vs, sq, rs⟩ := ok.toOkH.read hp
    have hfl := T.clrs hf
    refine ⟨p, vs, hb.ref_inv, .inl (.inl sq), flat_tr ha hx, flats_tr rs hfl, ?_⟩
    rw [if_neg Bool.false_ne_true, T.inT_tr ha rs hf]
    exact c _ H _ S (.refl H S) ok (.bl _) hk
end
end PT

set_option Elab.async false
set_option linter.all false
set_option maxRecDepth 100000
set_option maxHeartbeats 2000000
set_option autoImplicit false
namespace PT
open PySem L2 PySem.Spec PyProof.Rows
section
variable {F : Sto} {X : Cx} {r : Rho} {S : Sto} {pos : Pos} {e a b c : Expr} {es rest : List Expr}

/-! ### tests -/
theorem tw_val {k : Bool → Sto → Prop} (h : ew F X e r S fun t S1 => ∃ b, t = .bl b ∧ k b S1) (he : ∀ whole, isTrue e X.env whole = (do let v ← whole; standAt e.pos; holding [v] (truthy v)) := by intro _; rfl) : tw F X e r S k := by
  intro σ H Q ok cc
  refine wt_of (pt_val peW he) ?_
  refine h σ H _ ok fun v H1 t S1 k1 ok1 tr q => ?_
  obtain ⟨b, e, q⟩ := q
  subst e
  exact ⟨b, tr.bl_inv, cc b H1 S1 k1 ok1 q⟩
theorem tw_not {k : Bool → Sto → Prop} (h : tw F X e r S fun b S1 => k (!b) S1) : tw F X (.UnaryOp .Not e pos) r S k := fun σ H Q ok cc =>
  wt_of (pt_not ptW) (h σ H _ ok fun b H1 S1 k1 ok1 q => cc (!b) H1 S1 k1 ok1 q)
/-- and, or as tests: a list of tests -/
def WW (X : Cx) (e : Expr) (σ : L2.St) (H : Hp) (Q : Bool → Hp → Prop) : Prop := ∀ (whole : Sem Value) (pins : List (Addr × Obj)) (s : Shared), Inv X pins σ H s → wpAny (model X.prog X.w) X.A (isTrue e X.env whole) (TP X pins σ Q) X.xe s
def ww (F : Sto) (X : Cx) (e : Expr) (r : Rho) (S : Sto) (k : Bool → Sto → Prop) : Prop := ∀ σ H Q, Ok X.K F σ H r S → CoT X.K F σ H r S k Q → WW X e σ H Q
theorem pwW {X : Cx} {e : Expr} : PW X e (WW X e) := ⟨fun wh pins s σ H Q I h => h wh pins s I⟩
theorem tw_ww {k : Bool → Sto → Prop} (h : ww F X e r S k) : tw F X e r S k := fun σ H Q ok cc pins s I => h σ H Q ok cc _ pins s I
theorem ww_and1 {k : Bool → Sto → Prop} (h : tw F X a r S k) : ww F X (.BoolOp .And [a] pos) r S k := fun σ H Q ok cc wh pins s I => (pw_and1 (pos := pos) ptW).run wh pins s σ H Q I (h σ H Q ok cc)
theorem ww_or1 {k : Bool → Sto → Prop} (h : tw F X a r S k) : ww F X (.BoolOp .Or [a] pos) r S k := fun σ H Q ok cc wh pins s I => (pw_or1 (pos := pos) ptW).run wh pins s σ H Q I (h σ H Q ok cc)
theorem ww_and {k : Bool → Sto → Prop} (h : tw F X a r S fun d S1 => (d = true → ww F X (.BoolOp .And (b :: rest) pos) r S1 k) ∧ (d = false → k false S1)) : ww F X (.BoolOp .And (a :: b :: rest) pos) r S k := by
  intro σ H Q ok cc wh pins s I
  refine (pw_and ptW pwW).run wh pins s σ H Q I ?_
  refine h σ H _ ok fun d H1 S1 k1 ok1 q => ?_
  cases d with
  | true => rw [if_pos rfl]; exact q.1 rfl σ H1 Q ok1 (cc.mono k1)
  | false => rw [if_neg Bool.false_ne_true]; exact cc false H1 S1 k1 ok1 (q.2 rfl)
theorem ww_or {k : Bool → Sto → Prop} (h : tw F X a r S fun d S1 => (d = true → k true S1) ∧ (d = false → ww F X (.BoolOp .Or (b :: rest) pos) r S1 k)) : ww F X (.BoolOp .Or (a :: b :: rest) pos) r S k := by
  intro σ H Q ok cc wh pins s I
  refine (pw_or ptW pwW).run wh pins s σ H Q I ?_
  refine h σ H _ ok fun d H1 S1 k1 ok1 q => ?_
  cases d with
  | false => rw [if_neg Bool.false_ne_true]; exact q.2 rfl σ H1 Q ok1 (cc.mono k1)
  | true => rw [if_pos rfl]; exact cc true H1 S1 k1 ok1 (q.1 rfl)
/-- .. as values: bools but for the last -/
theorem ew_one {op} {k : T → Sto → Prop} (h : ew F X a r S k) : ew F X (.BoolOp op [a] pos) r S k := fun σ H Q ok cc => we_of (pe_one peW) (h σ H Q ok cc)
theorem ew_and {k : T → Sto → Prop} (h : ew F X a r S fun t S1 => ∃ d, t = .bl d ∧ (d = true → ew F X (.BoolOp .And (b :: rest) pos) r S1 k) ∧ (d = false → k (.bl false) S1)) : ew F X (.BoolOp .And (a :: b :: rest) pos) r S k := by
  intro σ H Q ok cc
  refine we_of (pe_and peW peW) ?_
  refine h σ H _ ok fun v H1 t S1 k1 ok1 tr q => ?_
  obtain ⟨d, e, q⟩ := q
  subst e
  refine ⟨d, tr.bl_inv, ?_⟩
  cases d with
  | true => rw [if_pos rfl]; exact q.1 rfl σ H1 Q ok1 (cc.mono k1)
  | false => rw [if_neg Bool.false_ne_true]; exact cc _ H1 _ S1 k1 ok1 (.bl false) (q.2 rfl)
theorem ew_or {k : T → Sto → Prop} (h : ew F X a r S fun t S1 => ∃ d, t = .bl d ∧ (d = true → k (.bl true) S1) ∧ (d = false → ew F X (.BoolOp .Or (b :: rest) pos) r S1 k)) : ew F X (.BoolOp .Or (a :: b :: rest) pos) r S k := by
  intro σ H Q ok cc
  refine we_of (pe_or peW peW) ?_
  refine h σ H _ ok fun v H1 t S1 k1 ok1 tr q => ?_
  obtain ⟨d, e, q⟩ := q
  subst e
  refine ⟨d, tr.bl_inv, ?_⟩
  cases d with
  | false => rw [if_neg Bool.false_ne_true]; exact q.2 rfl σ H1 Q ok1 (cc.mono k1)
  | true => rw [if_pos rfl]; exact cc _ H1 _ S1 k1 ok1 (.bl true) (q.1 rfl)
theorem ew_not {k : T → Sto → Prop} (h : ew F X a r S fun t S1 => ∃ d, t = .bl d ∧ k (.bl (!d)) S1) : ew F X (.UnaryOp .Not a pos) r S k := by
  intro σ H Q ok cc
  refine we_of (pe_not peW) ?_
  refine h σ H _ ok fun v H1 t S1 k1 ok1 tr q => ?_
  obtain ⟨d, e, q⟩ := q
  subst e
  exact ⟨d, tr.bl_inv, cc _ H1 _ S1 k1 ok1 (.bl _) q⟩
theorem ew_ifExp {k : T → Sto → Prop} (h : tw F X c r S fun d S1 => (d = true → ew F X a r S1 k) ∧ (d = false → ew F X b r S1 k)) : ew F X (.IfExp c a b pos) r S k := by
  intro σ H Q ok cc
  refine we_of (pe_ifExp ptW peW peW) ?_
  refine h σ H _ ok fun d H1 S1 k1 ok1 q => ?_
  cases d with
  | true => rw [if_pos rfl]; exact q.1 rfl σ H1 Q ok1 (cc.mono k1)
  | false => rw [if_neg Bool.false_ne_true]; exact q.2 rfl σ H1 Q ok1 (cc.mono k1)

/-! ### subscripts -/
def xw (F : Sto) (X : Cx) (value slice : Expr) (ta ti : T) (r : Rho) (S : Sto) (k : T → Sto → Prop) : Prop := ∀ σ H x y Q, Ok X.K F σ H r S → TR X.K H x ta → TR X.K H y ti → CoE X.K F σ H r S k Q →
  ∀ (pins : List (Addr × Obj)) (s : Shared) (v u : Value), Inv X pins σ H s → RelV x v → RelV y u → wpAny (model X.prog X.w) X.A (subscriptTail value slice v u) (EP X pins σ Q) X.xe s
theorem ew_sub {k : T → Sto → Prop} (h : ew F X a r S fun ta S1 => ew F X b r S1 fun tb S2 => xw F X a b ta tb r S2 k) : ew F X (.Subscript a b pos) r S k := by
  intro σ H Q ok cc pins s I
  refine Subscript_ (thn (h σ H (fun x H1 => WE X b σ H1 fun y H2 => ∀ pins s v u, Inv X pins σ H2 s → RelV x v → RelV y u → wpAny (model X.prog X.w) X.A (subscriptTail a b v u) (EP X pins σ Q) X.xe s) ok ?_ pins s I) fun v s1 ⟨x, H1, I1, rx, q1⟩ =>
    thn (q1 pins s1 I1) fun u s2 ⟨y, H2, I2, ry, q2⟩ => q2 pins s2 v u I2 rx ry)
  intro x H1 ta S1 k1 ok1 tr1 hb
  refine hb σ H1 _ ok1 fun y H2 tb S2 k2 ok2 tr2 hw => ?_
  exact fun pins s v u I rv ru => hw σ H2 x y Q ok2 (tr1.keep k2.toI) tr2 (cc.mono (k1.trans k2)) pins s v u I rv ru
theorem xw_of {rr : R2} {value slice : Expr} {ta ti : T} {k : T → Sto → Prop} (hr : IxR X rr) (hs : PlainIx slice) (h : ∀ σ H x y Q, Ok X.K F σ H r S → TR X.K H x ta → TR X.K H y ti → CoE X.K F σ H r S k Q → rr x y H Q) : xw F X value slice ta ti r S k :=
  fun σ H x y Q ok ha hb cc pins s v u I rv ru => hr value slice pins s σ H x y v u Q I rv ru (h σ H x y Q ok ha hb cc) (hs _ _)
theorem atI_len {α β : Type} {xs : List α} {ys : List β} {i : Int} {y : β} (hl : xs.length = ys.length) (h : atI ys i = some y) : ∃ (j : Nat) (x : α), atI xs i = some x ∧ xs[j]? = some x ∧ ys[j]? = some y := by
  unfold atI at h ⊢
  rw [hl]
  cases e : ixN ys.length i with
  | none => rw [e] at h; cases h
  | some j =>
    rw [e] at h
    have h' : ys[j]? = some y := h
    have hj : j < xs.length := by rw [hl]; exact (List.getElem?_eq_some_iff.mp h').1
    refine ⟨j, xs[j], ?_, ?_, h'⟩
    · show xs[j]? = _
      exact List.getElem?_eq_getElem hj
    · exact List.getElem?_eq_getElem hj
theorem xw_tup {value slice : Expr} {ts : List T} {i : Int} {t : T} {k : T → Sto → Prop} (he : atI ts i = some t) (hk : k t S) (hs : PlainIx slice := by exact fun _ _ => rfl) : xw F X value slice (.tup ts) (.int i) r S k :=
  xw_of ix_tup hs fun σ H x y Q ok ha hb cc => by
    obtain ⟨a, vs, e, sq, rs⟩ := ha.tup_inv
    obtain ⟨j, v, h1, h2, h3⟩ := atI_len rs.length he
    obtain ⟨v', h4, tr⟩ := rs.get h3
    rw [h2] at h4
    cases h4
    exact ⟨a, vs, i, v, e, hb.int_inv, sq, h1, cc v H t S (.refl H S) ok tr hk⟩
theorem xw_lst {value slice : Expr} {p : Addr} {ts : List T} {i : Int} {t : T} {k : T → Sto → Prop} (hp : Rdb F S (p, .lst ts)) (he : atI ts i = some t) (hk : k t S) (hs : PlainIx slice := by exact fun _ _ => rfl) : xw F X value slice (.ref p) (.int i) r S k :=
  xw_of ix_list hs fun σ H x y Q ok ha hb cc => by
    obtain ⟨vs, sq, rs⟩ := ok.toOkH.read hp
    obtain ⟨j, v, h1, h2, h3⟩ := atI_len rs.length he
    obtain ⟨v', h4, tr⟩ := rs.get h3
    rw [h2] at h4
    cases h4
    exact ⟨p, vs, i, v, ha.ref_inv, hb.int_inv, .inl sq, h1, cc v H t S (.refl H S) ok tr hk⟩
theorem xw_str {value slice : Expr} {x : Str} {i : Int} {cd : Nat} {k : T → Sto → Prop} (hl : x.length ≤ 100000) (he : atI x.cps.toList i = some cd) (hk : k (.str ⟨#[cd]⟩) S) (hs : PlainIx slice := by exact fun _ _ => rfl) : xw F X value slice (.str x) (.int i) r S k :=
  xw_of ix_str hs fun σ H v y Q ok ha hb cc => ⟨x, i, cd, ha.str_inv, hb.int_inv, Nat.le_trans hl (by decide), he, cc _ H _ S (.refl H S) ok (.str _) hk⟩
/-- d[k] -/
theorem ix_dict (hu : X.A.units + 1 < cLine) : IxR X (fun x y H Q => ∃ a v, x = .ref a ∧ DGet H a y (some v) ∧ Q v H) := by
  intro value slice pins s σ H x y v u Q I rx ry h hs
  obtain ⟨a, w, e, g, q⟩ := h
  subst e
  obtain rfl : v = Value.ref a := rx
  exact tail_any (dict_typeIs I g) PySem.F.slot_dict_getitem.lookup (d_getItem hu I g ry fun w' s3 I3 rw' => ⟨w, H, I3, rw', q⟩) hs
def kT : Key → T
  | .inl i => .int i
  | .inr x => .str x
theorem kT_tr {K : PySem.W.Frag} {H : Hp} {v : V} {kk : Key} (h : TR K H v (kT kk)) : v = kV kk := by
  cases kk with
  | inl i => exact h.int_inv
  | inr x => exact h.str_inv
theorem tr_kV {K : PySem.W.Frag} {H : Hp} (kk : Key) : TR K H (kV kk) (kT kk) := by
  cases kk with
  | inl i => exact .int i
  | inr x => exact .str x
/-- what a list of pairs holds at a key -/
def valT {κ : Type} [DecidableEq κ] (kvs : List (κ × T)) (k : κ) : Option T := (kvs.find? fun kv => decide (kv.1 = k)).map (·.2)
def putT {κ : Type} [DecidableEq κ] (kvs : List (κ × T)) (k : κ) (v : T) : List (κ × T) := if kvs.any fun kv => decide (kv.1 = k) then kvs.map fun kv => if kv.1 = k then (kv.1, v) else kv else kvs ++ [(k, v)]
theorem PKV.val {κ : Type} [DecidableEq κ] {K : PySem.W.Frag} {H : Hp} (kk : κ) : ∀ {vs : List (κ × V)} {ts : List (κ × T)}, PKV K H vs ts → match valT ts kk with | some t => ∃ v, valV vs kk = some v ∧ TR K H v t | none => valV vs kk = none
  | _, _, .nil => rfl
  | (k1, v) :: vs, (k2, t) :: ts, .cons h r => by
    obtain ⟨h1, h2⟩ := h
    have h1' : k1 = k2 := h1
    subst h1'
    have ih := PKV.val kk r
    by_cases q : k1 = kk
    · rw [valV_pos q]
      show match ((List.find? _ ((k1, t) :: ts)).map _ : Option T) with | some t => ∃ w, some v = some w ∧ TR K H w t | none => some v = none
      rw [List.find?_cons_of_pos (by simpa using q)]
      exact ⟨v, rfl, h2⟩
    · rw [valV_neg q]
      have e : valT ((k1, t) :: ts) kk = valT ts kk := by
        unfold valT
        rw [List.find?_cons_of_neg (by simpa using q)]
      rw [e]
      exact ih
theorem PKV.any {κ : Type} [DecidableEq κ] {K : PySem.W.Frag} {H : Hp} (kk : κ) : ∀ {vs : List (κ × V)} {ts : List (κ × T)}, PKV K H vs ts → (vs.any fun kv => decide (kv.1 = kk)) = ts.any fun kv => decide (kv.1 = kk)
  | _, _, .nil => rfl
  | (k1, v) :: vs, (k2, t) :: ts, .cons h r => by
    have h1' : k1 = k2 := h.1
    subst h1'
    rw [List.any_cons, List.any_cons, PKV.any kk r]
theorem PKV.repl {κ : Type} [DecidableEq κ] {K : PySem.W.Frag} {H : Hp} (kk : κ) {w : V} {u : T} (hw : TR K H w u) : ∀ {vs : List (κ × V)} {ts : List (κ × T)}, PKV K H vs ts → PKV K H (vs.map fun kv => if kv.1 = kk then (kv.1, w) else kv) (ts.map fun kv => if kv.1 = kk then (kv.1, u) else kv)
  | _, _, .nil => .nil
  | (k1, v) :: vs, (k2, t) :: ts, .cons h r => by
    have h1' : k1 = k2 := h.1
    subst h1'
    rw [List.map_cons, List.map_cons]
    refine .cons ?_ (PKV.repl kk hw r)
    by_cases q : k1 = kk
    · rw [if_pos q, if_pos q]; exact ⟨rfl, hw⟩
    · rw [if_neg q, if_neg q]; exact ⟨rfl, h.2⟩
theorem PKV.app {κ : Type} {K : PySem.W.Frag} {H : Hp} : ∀ {vs ws : List (κ × V)} {ts us : List (κ × T)}, PKV K H vs ts → PKV K H ws us → PKV K H (vs ++ ws) (ts ++ us)
  | _, _, _, _, .nil, h => h
  | _, _, _, _, .cons r t, h => .cons r (PKV.app t h)
theorem PKV.put {κ : Type} [DecidableEq κ] {K : PySem.W.Frag} {H : Hp} (kk : κ) {w : V} {u : T} (hw : TR K H w u) {vs : List (κ × V)} {ts : List (κ × T)} (h : PKV K H vs ts) : PKV K H (putK vs kk w) (putT ts kk u) := by
  unfold putK putT
  rw [h.any kk]
  split
  · exact h.repl kk hw
  · exact h.app (.cons ⟨rfl, hw⟩ .nil)
theorem xw_dk {value slice : Expr} {p : Addr} {kvs : List (Key × T)} {kk : Key} {t : T} {k : T → Sto → Prop} (hu : X.A.units + 1 < cLine) (hp : Rdb F S (p, .dk kvs)) (he : valT kvs kk = some t) (hk : k t S) (hs : PlainIx slice := by exact fun _ _ => rfl) : xw F X value slice (.ref p) (kT kk) r S k :=
  xw_of (ix_dict hu) hs fun σ H x y Q ok ha hb cc => by
    obtain ⟨vs, rd, pk⟩ := ok.toOkH.read hp
    have hv := pk.val kk
    rw [he] at hv
    obtain ⟨v, h1, h2⟩ := hv
    exact ⟨p, v, ha.ref_inv, .inl ⟨vs, kk, .inl rd, kT_tr hb, h1.symm⟩, cc v H t S (.refl H S) ok h2 hk⟩
/-- k in d -/
theorem bw_inD {p : Addr} {kvs : List (Key × T)} {kk : Key} {k : T → Sto → Prop} (hu : X.A.units + 1 < cLine) (hp : Rdb F S (p, .dk kvs)) (hk : k (.bl (valT kvs kk).isSome) S) : bw F X (compareOp .In) (kT kk) (.ref p) r S k := by
  intro σ H x y Q ok ha hb cc pins s v u I rv ru
  obtain ⟨vs, rd, pk⟩ := ok.toOkH.read hp
  have hv := pk.val kk
  rw [hb.ref_inv] at ru
  obtain rfl : u = Value.ref p := ru
  rw [kT_tr ha] at rv
  have e : (valV vs kk).isSome = (valT kvs kk).isSome := by
    cases q : valT kvs kk with
    | none => rw [q] at hv; rw [hv] <;> rfl
    | some t => rw [q] at hv; obtain ⟨w, h1, h2⟩ := hv; rw [h1]; rfl
  refine d_in hu I (.inl ⟨vs, kk, .inl rd, rfl, rfl⟩) rv fun s' I' => ⟨.bl _, H, I', rfl, ?_⟩
  rw [e]
  exact cc _ H _ S (.refl H S) ok (.bl _) hk
theorem bw_notinD {p : Addr} {kvs : List (Key × T)} {kk : Key} {k : T → Sto → Prop} (hu : X.A.units + 1 < cLine) (hp : Rdb F S (p, .dk kvs)) (hk : k (.bl (!(valT kvs kk).isSome)) S) : bw F X (compareOp .NotIn) (kT kk) (.ref p) r S k := by
  intro σ H x y Q ok ha hb cc pins s v u I rv ru
  obtain ⟨vs, rd, pk⟩ := ok.toOkH.read hp
  have hv := pk.val kk
  rw [hb.ref_inv] at ru
  obtain rfl : u = Value.ref p := ru
  rw [kT_tr ha] at rv
  have e : (valV vs kk).isSome = (valT kvs kk).isSome := by
    cases q : valT kvs kk with
    | none => rw [q] at hv; rw [hv] <;> rfl
    | some t => rw [q] at hv; obtain ⟨w, h1, h2⟩ := hv; rw [h1]; rfl
  refine d_notIn hu I (.inl ⟨vs, kk, .inl rd, rfl, rfl⟩) rv fun s' I' => ⟨.bl _, H, I', rfl, ?_⟩
  rw [e]
  exact cc _ H _ S (.refl H S) ok (.bl _) hk
end
end PT

set_option Elab.async false
set_option linter.all false
set_option maxRecDepth 100000
set_option maxHeartbeats 2000000
set_option autoImplicit false
namespace PT
open PySem L2 PySem.Spec PyProof.Rows
section
variable {F : Sto} {X : Cx} {r : Rho} {S : Sto} {pos p2 : Pos} {e a b c : Expr} {es rest : List Expr}

/-! ### slices -/
def ow (F : Sto) (X : Cx) (o : Option Expr) (r : Rho) (S : Sto) (k : Option Int → Sto → Prop) : Prop := match o with
  | none => k none S
  | some e => ew F X e r S fun t S1 => ∃ i, t = .int i ∧ k (some i) S1
def CoO (K : PySem.W.Frag) (F : Sto) (σ : L2.St) (H : Hp) (r : Rho) (S : Sto) (k : Option Int → Sto → Prop) (Q : Option Int → Hp → Prop) : Prop := ∀ o H' S', Stp H S H' S' → Ok K F σ H' r S' → k o S' → Q o H'
def tO (X : Cx) : Option Expr → TO
  | none => tNoPart
  | some e => tPart (WE X e)
theorem poW {o : Option Expr} : PO X o (tO X o) := by
  cases o with
  | none => exact po_none
  | some e => exact po_some peW
theorem ow_run {o : Option Expr} {k : Option Int → Sto → Prop} (h : ow F X o r S k) {σ : L2.St} {H : Hp} {Q : Option Int → Hp → Prop} (ok : Ok X.K F σ H r S) (cc : CoO X.K F σ H r S k Q) : tO X o σ H Q := by
  cases o with
  | none => exact cc none H S (.refl H S) ok h
  | some e =>
    refine h σ H _ ok fun v H1 t S1 k1 ok1 tr q => ?_
    obtain ⟨i, e, q⟩ := q
    subst e
    exact ⟨i, tr.int_inv, cc (some i) H1 S1 k1 ok1 q⟩
/-- x[lo:hi] by values -/
def lw (F : Sto) (X : Cx) (t : T) (lo hi : Option Int) (r : Rho) (S : Sto) (k : T → Sto → Prop) : Prop := ∀ σ H x Q, Ok X.K F σ H r S → TR X.K H x t → CoE X.K F σ H r S k Q →
  ∀ (pins : List (Addr × Obj)) (s : Shared) (v vl vu : Value) (sl : Addr), Inv X pins σ H s → RelV x v → s.heap.IsSliceOf sl vl vu .none → IsPart vl lo → IsPart vu hi →
    ∃ T id, typeLookup (.type T) "__getitem__" = pure (some (.builtin id)) ∧ s.TypeIs v T ∧ wpAny (model X.prog X.w) X.A (getItem v (.ref sl)) (EP X pins σ Q) X.xe s
theorem lw_of {rr : V → Option Int → Option Int → Hp → VK → Prop} {t : T} {lo hi : Option Int} {k : T → Sto → Prop} (hr : SlR X rr) (h : ∀ σ H x Q, Ok X.K F σ H r S → TR X.K H x t → CoE X.K F σ H r S k Q → rr x lo hi H Q) : lw F X t lo hi r S k :=
  fun σ H x Q ok tr cc pins s v vl vu sl I rv hs pl pu => hr pins s σ H x v vl vu lo hi sl Q I rv hs pl pu (h σ H x Q ok tr cc)
theorem ew_slice {lo hi : Option Expr} {k : T → Sto → Prop} (h : ew F X e r S fun t S1 => ow F X lo r S1 fun l S2 => ow F X hi r S2 fun u S3 => lw F X t l u r S3 k) : ew F X (.Subscript e (.Slice lo hi none p2) pos) r S k := by
  intro σ H Q ok cc pins s I
  let R : V → Option Int → Option Int → Hp → Prop := fun x l u H3 => ∀ (pins : List (Addr × Obj)) (s : Shared) (v vl vu : Value) (sl : Addr), Inv X pins σ H3 s → RelV x v → s.heap.IsSliceOf sl vl vu .none → IsPart vl l → IsPart vu u →
    ∃ T id, typeLookup (.type T) "__getitem__" = pure (some (.builtin id)) ∧ s.TypeIs v T ∧ wpAny (model X.prog X.w) X.A (getItem v (.ref sl)) (EP X pins σ Q) X.xe s
  have h1 : WE X e σ H fun x H1 => tO X lo σ H1 fun l H2 => tO X hi σ H2 fun u H3 => R x l u H3 := by
    refine h σ H _ ok fun x H1 t S1 k1 ok1 tr q1 => ?_
    refine ow_run q1 ok1 fun l H2 S2 k2 ok2 q2 => ?_
    refine ow_run q2 ok2 fun u H3 S3 k3 ok3 q3 => ?_
    exact fun pins s v vl vu sl I rv hs pl pu => q3 σ H3 x Q ok3 (tr.keep (k2.trans k3).toI) (cc.mono ((k1.trans k2).trans k3)) pins s v vl vu sl I rv hs pl pu
  refine Subscript_ (thn (h1 pins s I) fun v s1 ⟨x, H1, I1, r1, q1⟩ => ?_)
  refine wpAny_Slice (thn (poW.run pins s1 σ H1 _ I1 q1) fun vl s2 ⟨l, H2, I2, pl, q2⟩ => thn (poW.run pins s2 σ H2 _ I2 q2) fun vu s3 ⟨u, H3, I3, pu, q3⟩ => ?_)
  rw [evalPart_none]
  refine wpAny_pure ?_
  have I4 : Inv X pins σ H3 { s3 with heap := s3.heap.push { cls := .type "slice", data := .fields #[vl, vu, .none] } } := I3.kept (t' := s3.toks) fun b ob q => Heap.get?_push_of_some _ q
  obtain ⟨T, id, hT, ht, hg⟩ := q3 pins { s3 with heap := s3.heap.push { cls := .type "slice", data := .fields #[vl, vu, .none] } } v vl vu s3.heap.objs.size I4 r1 (Heap.IsSliceOf.new ..) pl pu
  show wpAny (model X.prog X.w) X.A (subscriptTail e (.Slice lo hi none p2) v (.ref s3.heap.objs.size)) (EP X pins σ Q) X.xe { s3 with heap := s3.heap.push { cls := .type "slice", data := .fields #[vl, vu, .none] } }
  exact tail_any (ops := [.ref s3.heap.objs.size, v]) ht hT hg (by with_unfolding_all rfl)
def cutT (ts : List T) (lo hi : Option Int) : List T := (ts.drop (HT.sIx ts.length 0 lo)).take (HT.sIx ts.length ts.length hi - HT.sIx ts.length 0 lo)
theorem cutT_tr {K : PySem.W.Frag} {H : Hp} {vs : List V} {ts : List T} (h : TRs K H vs ts) (lo hi : Option Int) : TRs K H (cutV vs lo hi) (cutT ts lo hi) := by
  unfold cutV cutT
  rw [h.length]
  exact (h.drop _).take _
theorem lw_tup {ts : List T} {lo hi : Option Int} {k : T → Sto → Prop} (hk : k (.tup (cutT ts lo hi)) S) : lw F X (.tup ts) lo hi r S k :=
  lw_of sl_tupA fun σ H x Q ok tr cc => by
    obtain ⟨a, vs, e, sq, rs⟩ := tr.tup_inv
    refine ⟨a, vs, e, sq, fun hw => ?_, fun _ p hp => ?_⟩
    · have e1 : cutT ts lo hi = ts := by
        unfold cutT
        rw [rs.length] at hw
        rw [hw.1, hw.2, List.drop_zero, Nat.sub_zero, List.take_length]
      rw [e1] at hk
      exact cc _ H _ S (.refl H S) ok (.tup sq rs) hk
    · exact cc _ _ _ S (.new hp) (ok.new hp) (.tup (.inl (.inl upd_same)) ((cutT_tr rs lo hi).keep (.new hp))) hk
theorem lw_lst {p : Addr} {ts : List T} {lo hi : Option Int} {k : T → Sto → Prop} (hp : Rdb F S (p, .lst ts)) (hk : ∀ q, q ∉ feet S → k (.ref q) ((q, .lst (cutT ts lo hi)) :: S)) : lw F X (.ref p) lo hi r S k :=
  lw_of sl_list fun σ H x Q ok tr cc => by
    obtain ⟨vs, rd, rs⟩ := ok.toOkH.read hp
    refine ⟨p, vs, tr.ref_inv, .inl rd, fun q hq => ?_⟩
    exact cc _ _ _ _ (.put hq rfl) (ok.put (.lst _) hq rfl ⟨_, upd_same, (cutT_tr rs lo hi).keep (.new hq)⟩) (.ref q) (hk q (ok.toOkH.fresh hq))
theorem lw_str {x : Str} {lo hi : Option Int} {k : T → Sto → Prop} (hl : x.length ≤ 100000) (hk : k (.str (cutS x lo hi)) S) : lw F X (.str x) lo hi r S k :=
  lw_of sl_str fun σ H v Q ok tr cc => ⟨x, tr.str_inv, Nat.le_trans hl (by decide), cc _ H _ S (.refl H S) ok (.str _) hk⟩

/-! ### built-ins by name -/
def cw (F : Sto) (X : Cx) (f : Value) (ts : List T) (r : Rho) (S : Sto) (k : T → Sto → Prop) : Prop := ∀ σ H xs Q, Ok X.K F σ H r S → TRs X.K H xs ts → CoE X.K F σ H r S k Q →
  ∀ (pins : List (Addr × Obj)) (s : Shared) (us : List Value), Inv X pins σ H s → Vals xs us → wpAny (model X.prog X.w) X.A (call f us) (EP X pins σ Q) X.xe s
theorem cw_of {f : Value} {rr : List V → Hp → VK → Prop} {ts : List T} {k : T → Sto → Prop} (hr : CallR X f rr) (h : ∀ σ H xs Q, Ok X.K F σ H r S → TRs X.K H xs ts → CoE X.K F σ H r S k Q → rr xs H Q) : cw F X f ts r S k :=
  fun σ H xs Q ok trs cc pins s us I rv => hr pins s σ H xs us Q I rv (h σ H xs Q ok trs cc)
theorem ew_callB {x : Str} {p : Pos} {id : String} {k : T → Sto → Prop} (hm : X.mg x = none) (hv : bootBuiltins x = some (.builtin id)) (h : aw F X (e :: es) r S fun ts S1 => cw F X (.builtin id) ts r S1 k)
    (hg : Gl X x := by rfl) (hn : x ≠ "__name__" := by decide) (hdb : (x == ("__debug__" : Str)) = false := by decide) (he : starEach (e :: es) X.env = (false, eval e X.env) :: starEach es X.env := by rfl) (hpl : (backTo pos (starEach es X.env)).any (·.1) = false := by rfl) :
    ew F X (.Call (.Name x p) (e :: es) [] pos) r S k := by
  intro σ H Q ok cc pins s I
  refine wpAny_Call_Name_kw (ld_blt I hg hm hv ?_ hn hdb)
  refine PyProof.Rows.callWith_builtin1 (thn (h σ H (fun vs H1 => ∀ pins s us, Inv X pins σ H1 s → Vals vs us → wpAny (model X.prog X.w) X.A (call (.builtin id) us) (EP X pins σ Q) X.xe s) ok ?_ pos pins s I) fun us s1 ⟨vs, H1, I1, r1, q1⟩ => q1 pins s1 us I1 r1) he hpl
  exact fun vs H1 ts S1 k1 ok1 trs q pins s us I rv => q σ H1 vs Q ok1 trs (cc.mono k1) pins s us I rv
theorem ew_callTy {x : Str} {p : Pos} {T' : String} {k : T → Sto → Prop} (hm : X.mg x = none) (hv : bootBuiltins x = some (.type T')) (h : aw F X (e :: es) r S fun ts S1 => cw F X (.type T') ts r S1 k)
    (hg : Gl X x := by rfl) (hn : x ≠ "__name__" := by decide) (hdb : (x == ("__debug__" : Str)) = false := by decide) (he : starEach (e :: es) X.env = (false, eval e X.env) :: starEach es X.env := by rfl) (hpl : (backTo pos (starEach es X.env)).any (·.1) = false := by rfl) :
    ew F X (.Call (.Name x p) (e :: es) [] pos) r S k := by
  intro σ H Q ok cc pins s I
  refine wpAny_Call_Name_kw (ld_blt I hg hm hv ?_ hn hdb)
  refine PyProof.Rows.callWith_type1 (thn (h σ H (fun vs H1 => ∀ pins s us, Inv X pins σ H1 s → Vals vs us → wpAny (model X.prog X.w) X.A (call (.type T') us) (EP X pins σ Q) X.xe s) ok ?_ pos pins s I) fun us s1 ⟨vs, H1, I1, r1, q1⟩ => q1 pins s1 us I1 r1) he hpl
  exact fun vs H1 ts S1 k1 ok1 trs q pins s us I rv => q σ H1 vs Q ok1 trs (cc.mono k1) pins s us I rv
/-- a built-in class as a value -/
theorem ew_bltTy {x : Str} {p : Pos} {n : String} {k : T → Sto → Prop} (hm : X.mg x = none) (hv : bootBuiltins x = some (.type n)) (hk : k (.ty n) S) (hg : Gl X x := by rfl) (hn : x ≠ "__name__" := by decide) (hd : (x == ("__debug__" : Str)) = false := by decide) : ew F X (.Name x p) r S k :=
  fun σ H Q ok cc => we_of (pe_bltn (v := .ty n) hg hm hv rfl hn hd) (cc _ H _ S (.refl H S) ok (.ty n) hk)
theorem TRs.one {K : PySem.W.Frag} {H : Hp} {xs : List V} {t : T} (h : TRs K H xs [t]) : ∃ v, xs = [v] ∧ TR K H v t := by
  cases h with
  | cons r q => cases q; exact ⟨_, rfl, r⟩
theorem TRs.two {K : PySem.W.Frag} {H : Hp} {xs : List V} {t u : T} (h : TRs K H xs [t, u]) : ∃ v w, xs = [v, w] ∧ TR K H v t ∧ TR K H w u := by
  cases h with
  | cons r q =>
    obtain ⟨w, e, q2⟩ := q.one
    subst e
    exact ⟨_, _, rfl, r, q2⟩
theorem cw_lenT {ts : List T} {k : T → Sto → Prop} (hk : k (.int ts.length) S) : cw F X (.builtin "len") [.tup ts] r S k :=
  cw_of call_len_seq fun σ H xs Q ok trs cc => by
    obtain ⟨v, rfl, tr⟩ := trs.one
    obtain ⟨a, vs, rfl, sq, rs⟩ := tr.tup_inv
    exact ⟨a, vs, rfl, .inr sq, by rw [rs.length]; exact cc _ H _ S (.refl H S) ok (.int _) hk⟩
theorem cw_lenL {p : Addr} {ts : List T} {k : T → Sto → Prop} (hp : Rdb F S (p, .lst ts)) (hk : k (.int ts.length) S) : cw F X (.builtin "len") [.ref p] r S k :=
  cw_of call_len_seq fun σ H xs Q ok trs cc => by
    obtain ⟨v, rfl, tr⟩ := trs.one
    obtain ⟨vs, rd, rs⟩ := ok.toOkH.read hp
    exact ⟨p, vs, by rw [tr.ref_inv], .inl (.inl rd), by rw [rs.length]; exact cc _ H _ S (.refl H S) ok (.int _) hk⟩
theorem cw_lenS {x : Str} {k : T → Sto → Prop} (hl : x.length ≤ 100000) (hk : k (.int x.length) S) : cw F X (.builtin "len") [.str x] r S k :=
  cw_of call_len_str fun σ H xs Q ok trs cc => by
    obtain ⟨v, rfl, tr⟩ := trs.one
    exact ⟨x, by rw [tr.str_inv], Nat.le_trans hl (by decide), cc _ H _ S (.refl H S) ok (.int _) hk⟩
theorem cw_sum {p : Addr} {is : List Int} {k : T → Sto → Prop} (hc : X.calm = true) (hp : Rdb F S (p, .lst (is.map T.int))) (hk : k (.int is.sum) S) : cw F X (.builtin "sum") [.ref p] r S k :=
  cw_of (cr_sum hc) fun σ H xs Q ok trs cc => by
    obtain ⟨v, rfl, tr⟩ := trs.one
    obtain ⟨vs, rd, rs⟩ := ok.toOkH.read hp
    exact ⟨p, is, by rw [tr.ref_inv], .inl (by rw [← rs.ints]; exact rd), cc _ H _ S (.refl H S) ok (.int _) hk⟩
theorem cw_all {p : Addr} {bs : List Bool} {k : T → Sto → Prop} (hc : X.calm = true) (hp : Rdb F S (p, .lst (bs.map T.bl))) (hk : k (.bl (bs.all id)) S) : cw F X (.builtin "all") [.ref p] r S k :=
  cw_of (cr_all hc) fun σ H xs Q ok trs cc => by
    obtain ⟨v, rfl, tr⟩ := trs.one
    obtain ⟨vs, rd, rs⟩ := ok.toOkH.read hp
    exact ⟨p, bs, by rw [tr.ref_inv], .inl (by rw [← rs.bls]; exact rd), cc _ H _ S (.refl H S) ok (.bl _) hk⟩
theorem cw_any {p : Addr} {bs : List Bool} {k : T → Sto → Prop} (hc : X.calm = true) (hp : Rdb F S (p, .lst (bs.map T.bl))) (hk : k (.bl (bs.any id)) S) : cw F X (.builtin "any") [.ref p] r S k :=
  cw_of (cr_any hc) fun σ H xs Q ok trs cc => by
    obtain ⟨v, rfl, tr⟩ := trs.one
    obtain ⟨vs, rd, rs⟩ := ok.toOkH.read hp
    exact ⟨p, bs, by rw [tr.ref_inv], .inl (by rw [← rs.bls]; exact rd), cc _ H _ S (.refl H S) ok (.bl _) hk⟩
theorem cw_strI {i : Int} {k : T → Sto → Prop} (h : i.natAbs.log2 < 1920) (hk : k (.str (toString i)) S) : cw F X (.type "str") [.int i] r S k :=
  cw_of call_str_int fun σ H xs Q ok trs cc => by
    obtain ⟨v, rfl, tr⟩ := trs.one
    exact ⟨i, by rw [tr.int_inv], h, cc _ H _ S (.refl H S) ok (.str _) hk⟩
theorem cw_tupL {p : Addr} {ts : List T} {k : T → Sto → Prop} (hp : Rdb F S (p, .lst ts)) (hk : k (.tup ts) S) : cw F X (.type "tuple") [.ref p] r S k :=
  cw_of call_tuple_of fun σ H xs Q ok trs cc => by
    obtain ⟨v, rfl, tr⟩ := trs.one
    obtain ⟨vs, rd, rs⟩ := ok.toOkH.read hp
    exact ⟨p, vs, by rw [tr.ref_inv], .inl ⟨.inl rd, fun l hl => cc _ _ _ S (.new hl) (ok.new hl) (.tup (.inl (.inl upd_same)) (rs.keep (.new hl))) hk⟩⟩
theorem cw_tupT {ts : List T} {k : T → Sto → Prop} (hk : k (.tup ts) S) : cw F X (.type "tuple") [.tup ts] r S k :=
  cw_of call_tuple_of fun σ H xs Q ok trs cc => by
    obtain ⟨v, rfl, tr⟩ := trs.one
    obtain ⟨a, vs, rfl, sq, rs⟩ := tr.tup_inv
    exact ⟨a, vs, rfl, .inr ⟨sq, cc _ H _ S (.refl H S) ok (.tup sq rs) hk⟩⟩
theorem cw_lstL {p : Addr} {ts : List T} {k : T → Sto → Prop} (hp : Rdb F S (p, .lst ts)) (hk : ∀ q, q ∉ feet S → k (.ref q) ((q, .lst ts) :: S)) : cw F X (.type "list") [.ref p] r S k :=
  cw_of call_list_of fun σ H xs Q ok trs cc => by
    obtain ⟨v, rfl, tr⟩ := trs.one
    obtain ⟨vs, rd, rs⟩ := ok.toOkH.read hp
    exact ⟨p, vs, by rw [tr.ref_inv], .inl (.inl rd), fun l hl => cc _ _ _ _ (.put hl rfl) (ok.put (.lst ts) hl rfl ⟨_, upd_same, rs.keep (.new hl)⟩) (.ref l) (hk l (ok.toOkH.fresh hl))⟩
theorem cw_lstT {ts : List T} {k : T → Sto → Prop} (hk : ∀ q, q ∉ feet S → k (.ref q) ((q, .lst ts) :: S)) : cw F X (.type "list") [.tup ts] r S k :=
  cw_of call_list_of fun σ H xs Q ok trs cc => by
    obtain ⟨v, rfl, tr⟩ := trs.one
    obtain ⟨a, vs, rfl, sq, rs⟩ := tr.tup_inv
    exact ⟨a, vs, rfl, .inr sq, fun l hl => cc _ _ _ _ (.put hl rfl) (ok.put (.lst ts) hl rfl ⟨_, upd_same, rs.keep (.new hl)⟩) (.ref l) (hk l (ok.toOkH.fresh hl))⟩
/-- sorted of texts: some arrangement that ascends -/
theorem cw_sortS {p : Addr} {xs : List Str} {k : T → Sto → Prop} (hp : Rdb F S (p, .lst (xs.map T.str))) (hl : xs.length < 64) (hk : ∀ ys q, ys.Perm xs → sortedS ys = true → q ∉ feet S → k (.ref q) ((q, .lst (ys.map T.str)) :: S)) : cw F X (.builtin "sorted") [.ref p] r S k :=
  cw_of cr_sortedS fun σ H vs Q ok trs cc => by
    obtain ⟨v, rfl, tr⟩ := trs.one
    obtain ⟨ws, rd, rs⟩ := ok.toOkH.read hp
    exact ⟨p, xs, by rw [tr.ref_inv], .inl (by rw [← rs.strs]; exact rd), hl, fun ys q hy hs hq => cc _ _ _ _ (.put hq rfl) (ok.put (.lst _) hq rfl ⟨_, upd_same, .ofStrs ys⟩) (.ref q) (hk ys q hy hs (ok.toOkH.fresh hq))⟩
/-- isinstance of data and a built-in class -/
def T.tyn : T → Option String
  | .non => some "NoneType" | .bl _ => some "bool" | .int _ => some "int" | .str _ => some "str" | .tup _ => some "tuple" | _ => none
theorem tyX_tr {K : PySem.W.Frag} {H : Hp} {v : V} {t : T} {n : String} (h : TR K H v t) (e : T.tyn t = some n) : TyX K H v (.type n) := by
  cases h with
  | non => cases e; exact .base .non
  | bl b => cases e; exact .base (.bl b)
  | int i => cases e; exact .base (.int i)
  | str x => cases e; exact .base (.str x)
  | ref a => cases e
  | ty a => cases e
  | kt a => cases e
  | tup s r =>
    cases e
    rcases s with (s | ⟨o, s⟩) | ⟨o, its, n, hk, hc, _⟩
    · exact .base (.tup s)
    · exact .fTuple s
    · exact .kTuple hk hc
theorem cw_isi {t : T} {n m : String} {b : Bool} {k : T → Sto → Prop} (ht : T.tyn t = some n) (hb : kitB n m = some b) (hk : k (.bl b) S) : cw F X (.builtin "isinstance") [t, .ty m] r S k :=
  cw_of call_isi fun σ H xs Q ok trs cc => by
    obtain ⟨v, w, rfl, tr, tw⟩ := trs.two
    cases tw
    exact ⟨v, .ty m, _, .type m, b, rfl, .ty m, tyX_tr tr ht, kit_ty hb, cc _ H _ S (.refl H S) ok (.bl _) hk⟩
end
end PT

set_option Elab.async false
set_option linter.all false
set_option maxRecDepth 100000
set_option maxHeartbeats 2000000
set_option autoImplicit false
namespace PT
open PySem L2 PySem.Spec PyProof.Rows

/-! ### what a def promises, by data -/
/-- the arguments, what may be read, what is handed over, what is wanted -/
abbrev Con := List T → Sto → Sto → (T → Sto → Prop) → Prop
def spOf (K : PySem.W.Frag) (c : Con) : Sp := fun vs H Q _ => ∃ ts F S k, TRs K H vs ts ∧ OkH K F H S ∧ c ts F S k ∧ ∀ v H' t S', Stp H S H' S' → OkH K F H' S' → TR K H' v t → k t S' → Q v H'
/-- a def of the text keeps its promise -/
structure Cl (P : Program) (w : World) (K : PySem.W.Frag) (mg : Str → Option Value) (base : Heap) (n : Nat) (x : Str) (c : Con) : Prop where
  ex : ∃ (f : Addr) (fd : FuncData) (ps : List Str), FnOk P w K mg base CX0 n f fd ps (spOf K c) ∧ mg x = some (.ref f) ∧ PySem.W.keepIn K (.ref f) = true ∧ Binds K fd ps []
theorem Cl.mono {P : Program} {w : World} {K : PySem.W.Frag} {mg : Str → Option Value} {base : Heap} {n m : Nat} {x : Str} {c : Con} (h : Cl P w K mg base n x c) (le : n ≤ m) : Cl P w K mg base m x c := by
  obtain ⟨f, fd, ps, h1, h2, h3, h4⟩ := h.ex
  exact ⟨f, fd, ps, h1.mono le, h2, h3, h4⟩
theorem Cl.imp {P : Program} {w : World} {K : PySem.W.Frag} {mg : Str → Option Value} {base : Heap} {n : Nat} {x : Str} {c c' : Con} (h : Cl P w K mg base n x c) (i : ∀ ts F S k, c' ts F S k → c ts F S k) : Cl P w K mg base n x c' := by
  obtain ⟨f, fd, ps, h1, h2, h3, h4⟩ := h.ex
  exact ⟨f, fd, ps, h1.imp fun vs H Q E ⟨ts, F, S, k, a, b, c, d⟩ => ⟨ts, F, S, k, a, b, i ts F S k c, d⟩, h2, h3, h4⟩
section
variable {F : Sto} {X : Cx} {r : Rho} {S : Sto} {pos p2 : Pos} {e a b c : Expr} {es rest : List Expr}
/-- part of the store is handed over, the rest may be read -/
theorem OkH.part {K : PySem.W.Frag} {H : Hp} {Sa Sc Sb Fc : Sto} (ok : OkH K F H (Sa ++ (Sc ++ Sb))) (hf : ∀ p ∈ Fc, p ∈ F ∨ p ∈ Sa ∨ p ∈ Sb) : OkH K Fc H Sc := by
  have nd := ok.nd
  have ef : feet (Sa ++ (Sc ++ Sb)) = feet Sa ++ (feet Sc ++ feet Sb) := by unfold feet; rw [List.flatMap_append, List.flatMap_append]
  rw [ef] at nd
  have n1 := List.nodup_append.mp nd
  have n2 := List.nodup_append.mp n1.2.1
  refine ⟨fun p hp => ok.sto p (by simp [hp]), n2.1, fun p hp => ?_⟩
  rcases hf p hp with h | h | h
  · obtain ⟨m, f⟩ := ok.rdo p h
    exact ⟨m, fun x hx hs => f x hx (by rw [ef]; simp [hs])⟩
  · exact ⟨(ok.sto p (by simp [h])).rd, fun x hx hs => n1.2.2 x (feet_of h hx) x (by simp [hs]) rfl⟩
  · exact ⟨(ok.sto p (by simp [h])).rd, fun x hx hs => n2.2.2 x hs x (feet_of h hx) rfl⟩
/-- .. and comes back -/
theorem Stp.part {H H' : Hp} {Sa Sc Sb S' : Sto} (st : Stp H Sc H' S') : Stp H (Sa ++ (Sc ++ Sb)) H' (Sa ++ (S' ++ Sb)) := by
  have ef : ∀ A B C : Sto, feet (A ++ (B ++ C)) = feet A ++ (feet B ++ feet C) := fun A B C => by unfold feet; rw [List.flatMap_append, List.flatMap_append]
  refine ⟨fun x o i h => st.at_ x o ?_ h, st.fre, fun x h => ?_⟩
  · rcases i with i | i
    · rw [ef] at i; exact .inl fun z => i (by simp [z])
    · exact .inr i
  · rw [ef] at h ⊢
    rcases List.mem_append.mp h with h | h
    · exact .inl (by simp [h])
    · rcases List.mem_append.mp h with h | h
      · rcases st.own x h with q | q
        · exact .inl (by simp [q])
        · exact .inr q
      · exact .inl (by simp [h])
theorem OkH.back {K : PySem.W.Frag} {H H' : Hp} {Sa Sc Sb Fc S' : Sto} (ok : OkH K F H (Sa ++ (Sc ++ Sb))) (st : Stp H Sc H' S') (ok' : OkH K Fc H' S') : OkH K F H' (Sa ++ (S' ++ Sb)) := by
  have ef : ∀ A B C : Sto, feet (A ++ (B ++ C)) = feet A ++ (feet B ++ feet C) := fun A B C => by unfold feet; rw [List.flatMap_append, List.flatMap_append]
  have nd := ok.nd
  rw [ef] at nd
  have n1 := List.nodup_append.mp nd
  have n2 := List.nodup_append.mp n1.2.1
  have other : ∀ p, (p ∈ Sa ∨ p ∈ Sb) → (∀ x ∈ foot p, x ∉ feet Sc) := fun p h x hx hs => by
    rcases h with h | h
    · exact n1.2.2 x (feet_of h hx) x (by simp [hs]) rfl
    · exact n2.2.2 x hs x (feet_of h hx) rfl
  have stay : ∀ p, (p ∈ Sa ∨ p ∈ Sb) → MOk K H' p := fun p h => (ok.sto p (by rcases h with h | h <;> simp [h])).keep st.toI fun x hx o e => st.at_ x o (.inl (other p h x hx)) e
  have new : ∀ x ∈ feet S', x ∉ feet Sa ∧ x ∉ feet Sb := fun x h => by
    rcases st.own x h with q | q
    · exact ⟨fun z => n1.2.2 x z x (by simp [q]) rfl, fun z => n2.2.2 x q x z rfl⟩
    · have no : ∀ z, H x = some z → False := fun z e => by rw [q] at e; cases e
      refine ⟨fun z => ?_, fun z => ?_⟩
      · obtain ⟨o, e⟩ := ok.there (a := x) (by rw [ef]; simp [z]); exact no o e
      · obtain ⟨o, e⟩ := ok.there (a := x) (by rw [ef]; simp [z]); exact no o e
  refine ⟨fun p hp => ?_, ?_, ok.rdo' st.part⟩
  · rcases List.mem_append.mp hp with h | h
    · exact stay p (.inl h)
    · rcases List.mem_append.mp h with h | h
      · exact ok'.sto p h
      · exact stay p (.inr h)
  · rw [ef]
    refine List.nodup_append.mpr ⟨n1.1, List.nodup_append.mpr ⟨ok'.nd, n2.2.1, fun x hx y hy e => ?_⟩, fun x hx y hy e => ?_⟩
    · subst e; exact (new x hx).2 hy
    · subst e
      rcases List.mem_append.mp hy with h | h
      · exact (new x h).1 hx
      · exact n1.2.2 x hx x (by simp [h]) rfl
/-- f(e, ..) -/
theorem ew_call {x : Str} {p : Pos} {n : Nat} {con : Con} {k : T → Sto → Prop} (C : Cl X.prog X.w X.K X.mg X.base n x con) (hr : Room n X.A)
    (h : aw F X (e :: es) r S fun ts S1 => ∃ Sa Sc Sb Fc, S1 = Sa ++ (Sc ++ Sb) ∧ (∀ p ∈ Fc, p ∈ F ∨ p ∈ Sa ∨ p ∈ Sb) ∧ con ts Fc Sc fun t S' => k t (Sa ++ (S' ++ Sb)))
    (hg : Gl X x := by rfl) (hdb : (x == ("__debug__" : Str)) = false := by decide) (he : starEach (e :: es) X.env = (false, eval e X.env) :: starEach es X.env := by rfl) (hpl : (backTo pos (starEach es X.env)).any (·.1) = false := by rfl) :
    ew F X (.Call (.Name x p) (e :: es) [] pos) r S k := by
  intro σ H Q ok cc
  obtain ⟨f, fd, ps, G, hm, hk, hb⟩ := C.ex
  refine we_of (pe_call G hr hg hm hk hb .nil pass0 paW hdb he hpl) ?_
  refine h σ H _ ok fun vs H1 ts S1 k1 ok1 trs q => ?_
  obtain ⟨Sa, Sc, Sb, Fc, e1, hf, q⟩ := q
  subst e1
  show spOf X.K con (vs ++ []) H1 Q E0
  rw [List.append_nil]
  refine ⟨ts, Fc, Sc, _, trs, ok1.toOkH.part hf, q, fun v H' t S' st ok' tr kq => ?_⟩
  exact cc v H' t _ (k1.trans st.part) ⟨ok1.toOkH.back st ok', ok1.len, fun i u eu => let ⟨w, h1, h2⟩ := ok1.loc i u eu; ⟨w, h1, h2.keep st.toI⟩⟩ tr kq

/-! ### blocks -/
variable {st : Stmt} {sts : List Stmt} {K' : KE}
theorem sw_nil {k : KE} (h : k.nx r S) : sw F X [] r S k := fun σ H D ok cc => ws_of pss_nil (cc.nx σ H r S (.refl H S) ok h)
theorem sw_cons {k : KE} (h : s1w F X st r S { k with nx := fun r1 S1 => sw F X sts r1 S1 k }) : sw F X (st :: sts) r S k := by
  intro σ H D ok cc
  refine ws_of (pss_cons ps1 psW) ?_
  refine h σ H { D with nx := WS X sts D } ok ⟨fun σ1 H1 r1 S1 st1 ok1 q => ?_, cc.rt, cc.bk, cc.ct⟩
  exact q σ1 H1 D ok1 (cc.mono st1)
theorem s1_ret {k : KE} (h : ew F X e r S fun t S1 => k.rt t S1) : s1w F X (.Return (some e) pos) r S k := fun σ H D ok cc =>
  ws1_of (ps_ret peW) (h σ H _ ok fun v H1 t S1 k1 ok1 tr q => cc.rt v H1 t S1 k1 ok1.toOkH tr q)
theorem s1_expr {k : KE} (h : ew F X e r S fun _ S1 => k.nx r S1) (hs : swapsWith e none pos.line X.env = pure false := by rfl) : s1w F X (.Expr e pos) r S k := fun σ H D ok cc =>
  ws1_of (ps_expr peW hs) (h σ H _ ok fun v H1 t S1 k1 ok1 tr q => cc.nx σ H1 r S1 k1 ok1 q)
theorem s1_set {i : Nat} {x : Str} {pos' : Pos} {k : KE} (hN : X.N.Nodup) (hi : X.N[i]? = some x) (h : ew F X e r S fun t S1 => k.nx (r.set i (some t)) S1) (hx : Loc X.env.scope x := by first | exact .inl rfl | exact .inr rfl)
    (hs : swapsWith e (some (.Name x pos')) pos.line X.env = pure false := by rfl) (hf : X.fn x = true ∨ X.env.scope.names.lookup x = some .local := by first | exact .inl rfl | exact .inr rfl) : s1w F X (.Assign [.Name x pos'] e pos) r S k := fun σ H D ok cc =>
  ws1_of (ps_set hN hi hx peW hs hf) (h σ H _ ok fun v H1 t S1 k1 ok1 tr q => cc.nx _ H1 _ S1 k1 (ok1.set tr) q)
theorem s1_if {A B : List Stmt} {k : KE} (h : tw F X c r S fun d S1 => (d = true → sw F X A r S1 k) ∧ (d = false → sw F X B r S1 k)) : s1w F X (.If c A B pos) r S k := by
  intro σ H D ok cc
  refine ws1_of (ps_if ptW psW psW) ?_
  refine h σ H _ ok fun d H1 S1 k1 ok1 q => ?_
  cases d with
  | true => rw [if_pos rfl]; exact q.1 rfl σ H1 D ok1 (cc.mono k1)
  | false => rw [if_neg Bool.false_ne_true]; exact q.2 rfl σ H1 D ok1 (cc.mono k1)
/-- a, b = e, f: plain local names -/
theorem s1_par {i j : Nat} {x y : Str} {px py pt : Pos} {kt k2 pt2} {k : KE} (hc : X.calm = true) (hN : X.N.Nodup) (hi : X.N[i]? = some x) (hj : X.N[j]? = some y) (hij : i ≠ j)
    (h : ew F X a r S fun t S1 => ew F X b r S1 fun u S2 => k.nx ((r.set i (some t)).set j (some u)) S2)
    (hx : X.env.scope.names.lookup x = some .local := by rfl) (hy : X.env.scope.names.lookup y = some .local := by rfl)
    (hw : swappedStores [.Tuple [.Name x px, .Name y py] kt pt] (.Tuple [a, b] k2 pt2) X.env = pure (some [x, y]) := by rfl)
    (hs : swapsWithSole [.Tuple [.Name x px, .Name y py] kt pt] (.Tuple [a, b] k2 pt2) pos.line X.env = pure false := by rfl) (h1 : starEach [a, b] X.env = (false, eval a X.env) :: starEach [b] X.env := by rfl) (h2 : starEach [b] X.env = (false, eval b X.env) :: starEach [] X.env := by rfl) :
    s1w F X (.Assign [.Tuple [.Name x px, .Name y py] kt pt] (.Tuple [a, b] k2 pt2) pos) r S k := by
  intro σ H D ok cc
  refine ws1_of (ps_par hc hN hi hj hij hx hy (pa_cons peW (pa_cons peW pa_nil h2) h1) hw hs) ?_
  refine h σ H _ ok fun v H1 t S1 k1 ok1 tr q => ?_
  refine q σ H1 _ ok1 fun w H2 u S2 k2 ok2 tr2 q2 => ?_
  exact ⟨v, w, rfl, cc.nx _ H2 _ S2 (k1.trans k2) ((ok2.set (tr.keep k2.toI)).set tr2) q2⟩
/-- a, b = e, e a tuple of two -/
theorem s1_two {i j : Nat} {x y : Str} {px py pt : Pos} {kt} {k : KE} (hc : X.calm = true) (hN : X.N.Nodup) (hi : X.N[i]? = some x) (hj : X.N[j]? = some y)
    (h : ew F X e r S fun t S1 => ∃ t1 t2, t = .tup [t1, t2] ∧ k.nx ((r.set i (some t1)).set j (some t2)) S1)
    (hx : Loc X.env.scope x := by first | exact .inl rfl | exact .inr rfl) (hy : Loc X.env.scope y := by first | exact .inl rfl | exact .inr rfl)
    (hfx : X.fn x = true ∨ X.env.scope.names.lookup x = some .local := by first | exact .inl rfl | exact .inr rfl) (hfy : X.fn y = true ∨ X.env.scope.names.lookup y = some .local := by first | exact .inl rfl | exact .inr rfl)
    (hs : swapsWithSole [.Tuple [.Name x px, .Name y py] kt pt] e pos.line X.env = pure false := by rfl) (hw : swappedStores [.Tuple [.Name x px, .Name y py] kt pt] e X.env = pure none := by rfl)
    (h1 : (assignEach [.Tuple [.Name x px, .Name y py] kt pt] X.env).map (·.2) = [assign (.Tuple [.Name x px, .Name y py] kt pt) X.env] := by rfl)
    (hn : (assignEach [.Name x px, .Name y py] X.env).length = 2 := by rfl) (hst : (assignEach [.Name x px, .Name y py] X.env).findIdx? (·.1) = none := by rfl)
    (g1 : (assignEach [.Name x px, .Name y py] X.env).map (·.2) = assign (.Name x px) X.env :: (assignEach [.Name y py] X.env).map (·.2) := by rfl) (g2 : (assignEach [.Name y py] X.env).map (·.2) = assign (.Name y py) X.env :: (assignEach [] X.env).map (·.2) := by rfl) :
    s1w F X (.Assign [.Tuple [.Name x px, .Name y py] kt pt] e pos) r S k := by
  intro σ H D ok cc
  refine ws1_of (ps_asg peW (pg_tup hc (pgs_cons (pg_name hN hi hx hfx) (pgs_cons (pg_name hN hj hy hfy) pgs_nil g2) g1) hn hst) hs hw h1) ?_
  refine h σ H _ ok fun v H1 t S1 k1 ok1 tr q => ?_
  obtain ⟨t1, t2, rfl, q⟩ := q
  obtain ⟨p, vs, rfl, sq, rs⟩ := tr.tup_inv
  obtain ⟨v1, v2, rfl, r1, r2⟩ := rs.two
  exact ⟨p, _, rfl, sq, rfl, v1, _, rfl, v2, _, rfl, rfl, cc.nx _ H1 _ S1 k1 ((ok1.set r1).set r2) q⟩
/-- while: P by a measure -/
theorem s1_while {body : List Stmt} {k : KE} (hp : PassesOwn (model X.prog X.w) X.A X.env X.xe) (P : Nat → Rho → Sto → Prop) (h0 : ∃ m, P m r S)
    (hs : ∀ m r1 S1, P m r1 S1 → tw F X c r1 S1 fun d S2 => (d = true → sw F X body r1 S2 { k with nx := fun r3 S3 => ∃ m', m' < m ∧ P m' r3 S3, ct := fun r3 S3 => ∃ m', m' < m ∧ P m' r3 S3, bk := k.nx }) ∧ (d = false → k.nx r1 S2)) :
    s1w F X (.While c body [] pos) r S k := by
  intro σ H D ok cc
  obtain ⟨m0, h0⟩ := h0
  refine ws1_of (ps_while hp ptW psW) ⟨fun m σ1 H1 => ∃ r1 S1, Ok X.K F σ1 H1 r1 S1 ∧ Stp H S H1 S1 ∧ P m r1 S1, ⟨m0, r, S, ok, .refl H S, h0⟩, ?_⟩
  rintro m σ1 H1 ⟨r1, S1, ok1, st1, p⟩
  refine hs m r1 S1 p σ1 H1 _ ok1 fun d H2 S2 k2 ok2 q => ?_
  have cc2 := cc.mono (st1.trans k2)
  cases d with
  | true =>
    rw [if_pos rfl]
    refine ⟨fun σ3 H3 => ∃ r3 S3, Ok X.K F σ3 H3 r3 S3 ∧ Stp H S H3 S3 ∧ ∃ m', m' < m ∧ P m' r3 S3, fun σ3 H3 ⟨r3, S3, ok3, st3, m', hm, p3⟩ => ⟨m', hm, r3, S3, ok3, st3, p3⟩, ?_⟩
    refine q.1 rfl σ1 H2 _ ok2 ⟨fun σ3 H3 r3 S3 st3 ok3 q3 => ⟨r3, S3, ok3, (st1.trans k2).trans st3, q3⟩, cc2.rt, cc2.nx, fun σ3 H3 r3 S3 st3 ok3 q3 => ⟨r3, S3, ok3, (st1.trans k2).trans st3, q3⟩⟩
  | false =>
    rw [if_neg Bool.false_ne_true]
    exact cc2.nx σ1 H2 r1 S2 (.refl H2 S2) ok2 (q.2 rfl)
/-- for a name over a list that the body leaves as it is -/
theorem s1_forL {i : Nat} {x : Str} {px : Pos} {iter : Expr} {body : List Stmt} {k : KE} (hp : PassesOwn (model X.prog X.w) X.A X.env X.xe) (hc : X.calm = true) (hN : X.N.Nodup) (hi : X.N[i]? = some x)
    (h : ew F X iter r S fun t S1 => ∃ p ts, t = .ref p ∧ ∃ P : Nat → Rho → Sto → Prop, P 0 r S1 ∧ (∀ n r2 S2, P n r2 S2 → Rdb F S2 (p, .lst ts)) ∧
      (∀ n u r2 S2, ts[n]? = some u → P n r2 S2 → sw F X body (r2.set i (some u)) S2 { k with nx := P (n + 1), ct := P (n + 1), bk := k.nx }) ∧ ∀ r2 S2, P ts.length r2 S2 → k.nx r2 S2)
    (hx : Loc X.env.scope x := by first | exact .inl rfl | exact .inr rfl) (hf : X.fn x = true ∨ X.env.scope.names.lookup x = some .local := by first | exact .inl rfl | exact .inr rfl) (hs : ∀ x, foldedSetIterable iter X.env x = pure x := by intro _; rfl) :
    s1w F X (.For (.Name x px) iter body [] pos) r S k := by
  intro σ H D ok cc
  refine ws1_of (ps_for hp hc (pi_list peW) (pg_name hN hi hx hf) psW hs) ?_
  refine h σ H _ ok fun v H1 t S1 k1 ok1 tr q => ?_
  obtain ⟨p, ts, rfl, P, p0, hl, hstep, hd⟩ := q
  obtain ⟨vs, rd, rs⟩ := ok1.toOkH.read (hl 0 r S1 p0)
  refine ⟨p, tr.ref_inv, ⟨vs, .inl rd⟩, ?_⟩
  have same : ∀ {n σ2 H2 r2 S2}, Ok X.K F σ2 H2 r2 S2 → P n r2 S2 → Stp H1 S1 H2 S2 → ∃ ws, Rd H2 p (.lst ws) ∧ TRs X.K H2 ws ts := fun {n σ2 H2 r2 S2} ok2 p2 _ => ok2.toOkH.read (hl n r2 S2 p2)
  refine ⟨fun n m σ2 H2 => m = ts.length - n ∧ n ≤ ts.length ∧ ∃ r2 S2, Ok X.K F σ2 H2 r2 S2 ∧ Stp H S H2 S2 ∧ P n r2 S2, ⟨ts.length, by simp, Nat.zero_le _, r, S1, ok1, k1, p0⟩, ?_⟩
  rintro n m σ2 H2 ⟨rfl, hn, r2, S2, ok2, st2, p2⟩
  obtain ⟨ws, rd2, rs2⟩ := ok2.toOkH.read (hl n r2 S2 p2)
  have hlen := rs2.length
  have cc2 := cc.mono st2
  by_cases hlt : n < ts.length
  · refine .inr ⟨⟨ws, ws[n]'(by omega), .inl rd2, by simp [show n < ws.length by omega]⟩, fun σ3 H3 => ∃ r3 S3, Ok X.K F σ3 H3 r3 S3 ∧ Stp H S H3 S3 ∧ P (n + 1) r3 S3, fun σ3 H3 ⟨r3, S3, ok3, st3, p3⟩ => ⟨ts.length - (n + 1), by omega, rfl, hlt, r3, S3, ok3, st3, p3⟩, fun y H' yl => ?_⟩
    obtain ⟨eH, yl⟩ := yl
    subst eH
    have hy := yl ws (.inl rd2)
    obtain ⟨u, hu, tru⟩ := rs2.get' hy
    refine hstep n u r2 S2 hu p2 _ _ _ (ok2.set tru) ⟨fun σ3 H3 r3 S3 st3 ok3 q3 => ⟨r3, S3, ok3, st2.trans st3, q3⟩, cc2.rt, cc2.nx, fun σ3 H3 r3 S3 st3 ok3 q3 => ⟨r3, S3, ok3, st2.trans st3, q3⟩⟩
  · have e : n = ts.length := by omega
    subst e
    exact .inl ⟨⟨ws, .inl rd2, by omega⟩, cc2.nx σ2 H2 r2 S2 (.refl H2 S2) ok2 (hd r2 S2 p2)⟩
end
end PT

set_option Elab.async false
set_option linter.all false
set_option maxRecDepth 100000
set_option maxHeartbeats 2000000
set_option autoImplicit false
namespace PT
open PySem L2 PySem.Spec PyProof.Rows

/-! ### what loops walk, and their targets -/
/-- new objects alone -/
structure Grw (H H' : Hp) : Prop where
  at_ : ∀ a o, H a = some o → H' a = some o
theorem Grw.refl (H : Hp) : Grw H H := ⟨fun _ _ h => h⟩
theorem Grw.fre {H H' : Hp} (g : Grw H H') {a : Addr} (h : H' a = none) : H a = none := by
  cases e : H a with
  | none => rfl
  | some o => rw [g.at_ a o e] at h; cases h
theorem Grw.stp {H H' : Hp} (g : Grw H H') (S : Sto) : Stp H S H' S := ⟨fun a o _ h => g.at_ a o h, fun _ h => g.fre h, fun _ h => .inl h⟩
theorem Ok.grw {K : PySem.W.Frag} {F : Sto} {σ : L2.St} {H H' : Hp} {r : Rho} {S : Sto} (ok : Ok K F σ H r S) (g : Grw H H') : Ok K F σ H' r S :=
  ⟨⟨fun p hp => (ok.sto p hp).keep (g.stp S).toI fun a _ o e => g.at_ a o e, ok.nd, ok.toOkH.rdo' (g.stp S)⟩, ok.len, fun i t e => let ⟨v, h1, h2⟩ := ok.loc i t e; ⟨v, h1, h2.keep (g.stp S).toI⟩⟩
/-- an iterator that goes over ts while R stands -/
structure IterOk (K : PySem.W.Frag) (J : It) (ts : List T) (R : Hp → Prop) : Prop where
  go : ∀ n H, R H → n < ts.length → J.go n H
  yld : ∀ n H x H', R H → n < ts.length → J.yld n H x H' → Grw H H' ∧ ∃ t, ts[n]? = some t ∧ TR K H' x t
  stop : ∀ n H, R H → ts.length ≤ n → J.stop n H
def iw (F : Sto) (X : Cx) (tg iter : Expr) (r : Rho) (S : Sto) (k : List T → (Sto → Prop) → Sto → Prop) : Prop := ∃ wi, PI X tg iter wi ∧ ∀ σ H R, Ok X.K F σ H r S →
  (∀ J H1 ts rd S1 Q, Stp H S H1 S1 → Ok X.K F σ H1 r S1 → IterOk X.K J ts Q → (∀ H2 S2, OkH X.K F H2 S2 → KeepI H1 H2 → rd S2 → Q H2) → k ts rd S1 → R J H1) → wi σ H R
section
variable {F : Sto} {X : Cx} {r : Rho} {S : Sto} {pos : Pos} {tg iter : Expr} {k : List T → (Sto → Prop) → Sto → Prop}
theorem iw_lst (h : ew F X iter r S fun t S1 => ∃ p ts, t = .ref p ∧ Rdb F S1 (p, .lst ts) ∧ k ts (fun S2 => Rdb F S2 (p, .lst ts)) S1) : iw F X tg iter r S k := by
  refine ⟨_, pi_list peW, fun σ H R ok cc => ?_⟩
  refine h σ H _ ok fun v H1 t S1 k1 ok1 tr q => ?_
  obtain ⟨p, ts, rfl, hr, q⟩ := q
  obtain ⟨vs, rd, rs⟩ := ok1.toOkH.read hr
  refine ⟨p, tr.ref_inv, ⟨vs, .inl rd⟩, cc _ H1 ts (fun S2 => Rdb F S2 (p, .lst ts)) S1 (fun H2 => ∃ ws, SqL X.K H2 p ws ∧ TRs X.K H2 ws ts) k1 ok1 ⟨fun n H2 ⟨ws, s, w⟩ hn => ?_, fun n H2 x H' ⟨ws, s, w⟩ hn y => ?_, fun n H2 ⟨ws, s, w⟩ hn => ?_⟩ (fun H2 S2 ok2 _ r2 => ?_) q⟩
  · exact ⟨ws, ws[n]'(by rw [w.length]; exact hn), s, by simp [w.length, hn]⟩
  · obtain ⟨e, y⟩ := y
    subst e
    obtain ⟨t, h1, h2⟩ := w.get' (y ws s)
    exact ⟨.refl _, t, h1, h2⟩
  · exact ⟨ws, s, by rw [w.length]; exact hn⟩
  · obtain ⟨ws, rd, rs⟩ := ok2.read r2
    exact ⟨ws, .inl rd, rs⟩
theorem iw_tup (h : ew F X iter r S fun t S1 => ∃ ts, t = .tup ts ∧ k ts (fun _ => True) S1) : iw F X tg iter r S k := by
  refine ⟨_, pi_tup peW, fun σ H R ok cc => ?_⟩
  refine h σ H _ ok fun v H1 t S1 k1 ok1 tr q => ?_
  obtain ⟨ts, rfl, q⟩ := q
  obtain ⟨p, vs, rfl, sq, rs⟩ := tr.tup_inv
  refine ⟨p, rfl, ⟨vs, sq⟩, cc _ H1 ts (fun _ => True) S1 (fun H2 => ∃ ws, SqT X.K H2 p ws ∧ TRs X.K H2 ws ts) k1 ok1 ⟨fun n H2 ⟨ws, s, w⟩ hn => ?_, fun n H2 x H' ⟨ws, s, w⟩ hn y => ?_, fun n H2 ⟨ws, s, w⟩ hn => ?_⟩ (fun H2 S2 ok2 kp _ => ⟨vs, sqt_keep kp sq, rs.keep kp⟩) q⟩
  · exact ⟨ws, ws[n]'(by rw [w.length]; exact hn), s, by simp [w.length, hn]⟩
  · obtain ⟨e, y⟩ := y
    subst e
    obtain ⟨t, h1, h2⟩ := w.get' (y ws s)
    exact ⟨.refl _, t, h1, h2⟩
  · exact ⟨ws, s, by rw [w.length]; exact hn⟩
def rng (lo : Int) (n : Nat) : List T := (List.range n).map fun (i : Nat) => T.int (lo + i)
theorem iter_range {K : PySem.W.Frag} {lo : Int} {n : Nat} : IterOk K (Itr lo n) (rng lo n) fun _ => True := by
  have hl : (rng lo n).length = n := by simp [rng]
  refine ⟨fun i H _ h => by rw [hl] at h; exact h, fun i H x H' _ h y => ?_, fun i H _ h => by rw [hl] at h; exact h⟩
  rw [hl] at h
  obtain ⟨e, y⟩ := y
  subst e; subst y
  exact ⟨.refl _, .int (lo + i), by simp [rng, h], .int _⟩
theorem iw_range1 {a : Expr} {p : Pos} (hm : X.mg "range" = none) (h : ew F X a r S fun t S1 => ∃ j : Int, t = .int j ∧ (-(2 ^ 62) ≤ j ∧ j < 2 ^ 62) ∧ k (rng 0 j.toNat) (fun _ => True) S1) (hg : Gl X "range" := by rfl) (hs : starEach [a] X.env = [(false, eval a X.env)] := by rfl) :
    iw F X tg (.Call (.Name "range" p) [a] [] pos) r S k := by
  refine ⟨_, pi_range1 hg hm (pa_cons peW pa_nil hs) hs, fun σ H R ok cc => ?_⟩
  refine h σ H _ ok fun v H1 t S1 k1 ok1 tr q => ?_
  obtain ⟨j, rfl, hb, q⟩ := q
  exact ⟨j, by rw [tr.int_inv], hb.1, hb.2, cc _ H1 _ (fun _ => True) S1 _ k1 ok1 iter_range (fun _ _ _ _ _ => trivial) q⟩
theorem iw_range2 {a b : Expr} {p : Pos} (hm : X.mg "range" = none) (h : ew F X a r S fun t S1 => ew F X b r S1 fun u S2 => ∃ i j : Int, t = .int i ∧ u = .int j ∧ (-(2 ^ 62) ≤ i ∧ i < 2 ^ 62 ∧ -(2 ^ 62) ≤ j ∧ j < 2 ^ 62) ∧ k (rng i (j - i).toNat) (fun _ => True) S2) (hg : Gl X "range" := by rfl)
    (hs : starEach [a, b] X.env = [(false, eval a X.env), (false, eval b X.env)] := by rfl) (hs2 : starEach [b] X.env = [(false, eval b X.env)] := by rfl) :
    iw F X tg (.Call (.Name "range" p) [a, b] [] pos) r S k := by
  refine ⟨_, pi_range2 hg hm (pa_cons peW (pa_cons peW pa_nil hs2) (by rw [hs, hs2])) hs hs2, fun σ H R ok cc => ?_⟩
  refine h σ H _ ok fun v H1 t S1 k1 ok1 tr q => ?_
  refine q σ H1 _ ok1 fun w H2 u S2 k2 ok2 tr2 q2 => ?_
  obtain ⟨i, j, rfl, rfl, hb, q⟩ := q2
  exact ⟨i, j, by rw [tr.int_inv, tr2.int_inv], hb, cc _ H2 _ (fun _ => True) S2 _ (k1.trans k2) ok2 iter_range (fun _ _ _ _ _ => trivial) q⟩
end
/-! targets -/
theorem wipe_at (σ : L2.St) (j : Nat) : ∀ vs : List Nat, (wipe σ vs)[j]? = if j ∈ vs then (if j < σ.length then some none else none) else σ[j]?
  | [] => by simp [wipe]
  | v :: vs => by
    unfold wipe
    have ih := wipe_at σ j vs
    by_cases h : v = j
    · subst h
      rw [if_pos List.mem_cons_self]
      by_cases hl : v < σ.length
      · rw [List.getElem?_set_self (by rw [wipe_length]; exact hl), if_pos hl]
      · rw [List.getElem?_eq_none (by rw [List.length_set, wipe_length]; omega), if_neg hl]
    · rw [List.getElem?_set_ne h, ih]
      by_cases hm : j ∈ vs
      · rw [if_pos hm, if_pos (List.mem_cons_of_mem _ hm)]
      · rw [if_neg hm, if_neg (by simp [hm]; exact fun e => h e.symm)]
theorem wipe_set {σ : L2.St} {vs : List Nat} {i : Nat} {x : Option V} (h : i ∈ vs) : wipe (σ.set i x) vs = wipe σ vs := by
  apply List.ext_getElem?
  intro j
  rw [wipe_at, wipe_at]
  by_cases hj : j ∈ vs
  · rw [if_pos hj, if_pos hj, List.length_set]
  · rw [if_neg hj, if_neg hj, List.getElem?_set_ne (fun e => hj (by rw [← e]; exact h))]
theorem wipe_wipe (σ : L2.St) (vs : List Nat) : wipe (wipe σ vs) vs = wipe σ vs := by
  apply List.ext_getElem?
  intro j
  rw [wipe_at, wipe_at]
  by_cases hj : j ∈ vs
  · rw [if_pos hj, if_pos hj, wipe_length]
  · simp [hj]
def wipeT (r : Rho) : List Nat → Rho
  | [] => r
  | v :: vs => (wipeT r vs).set v none
theorem wipeT_some {r : Rho} {j : Nat} {t : T} : ∀ {vs : List Nat}, (wipeT r vs)[j]? = some (some t) → r[j]? = some (some t) ∧ j ∉ vs
  | [], h => ⟨h, by simp⟩
  | v :: vs, h => by
    unfold wipeT at h
    by_cases hi : v = j
    · subst hi
      by_cases hv : v < (wipeT r vs).length
      · rw [List.getElem?_set_self hv] at h; cases h
      · rw [List.getElem?_eq_none (by simpa using hv)] at h; cases h
    · rw [List.getElem?_set_ne hi] at h
      obtain ⟨h1, h2⟩ := wipeT_some h
      exact ⟨h1, by simp only [List.mem_cons, not_or]; exact ⟨fun e => hi e.symm, h2⟩⟩
theorem wipeT_length (r : Rho) : ∀ vs : List Nat, (wipeT r vs).length = r.length
  | [] => rfl
  | v :: vs => by unfold wipeT; rw [List.length_set, wipeT_length r vs]
theorem Ok.wipe {K : PySem.W.Frag} {F : Sto} {σ : L2.St} {H : Hp} {r : Rho} {S : Sto} (ok : Ok K F σ H r S) (vs : List Nat) : Ok K F (L2.wipe σ vs) H (wipeT r vs) S :=
  ⟨ok.toOkH, by rw [wipeT_length, wipe_length, ok.len], fun i t e => by
    obtain ⟨h1, h2⟩ := wipeT_some e
    obtain ⟨v, h3, h4⟩ := ok.loc i t h1
    exact ⟨v, by rw [wipe_at, if_neg h2]; exact h3, h4⟩⟩
/-- what a target does with data -/
structure Tgt (K : PySem.W.Frag) (g : TG) (up : T → Rho → Option Rho) (vs : List Nat) : Prop where
  sem : ∀ (F : Sto) (x : V) (t : T) (r r' : Rho) (σ : L2.St) (H : Hp) (S : Sto) (Q : L2.St → Hp → Prop), TR K H x t → up t r = some r' → Ok K F σ H r S → (∀ σ', Ok K F σ' H r' S → wipe σ' vs = wipe σ vs → Q σ' H) → g x σ H Q
def up1 (i : Nat) (t : T) (r : Rho) : Option Rho := some (r.set i (some t))
def up2 (i j : Nat) (t : T) (r : Rho) : Option Rho := match t with
  | .tup [a, b] => some ((r.set i (some a)).set j (some b))
  | _ => none
def up3 (i j l : Nat) (t : T) (r : Rho) : Option Rho := match t with
  | .tup [a, b, c] => some (((r.set i (some a)).set j (some b)).set l (some c))
  | _ => none
theorem tgt1 {K : PySem.W.Frag} {i : Nat} {vs : List Nat} (h : i ∈ vs) : Tgt K (gName i) (up1 i) vs :=
  ⟨fun F x t r r' σ H S Q tr e ok q => by cases e; exact q _ (ok.set tr) (wipe_set h)⟩
theorem tgt2 {K : PySem.W.Frag} {i j : Nat} {vs : List Nat} (hi : i ∈ vs) (hj : j ∈ vs) : Tgt K (gTup K 2 (gCons (gName i) (gCons (gName j) gNil))) (up2 i j) vs :=
  ⟨fun F x t r r' σ H S Q tr e ok q => by
    unfold up2 at e
    split at e
    · cases e
      obtain ⟨p, ws, rfl, sq, rs⟩ := tr.tup_inv
      obtain ⟨v1, v2, rfl, r1, r2⟩ := rs.two
      exact ⟨p, _, rfl, sq, rfl, v1, _, rfl, v2, _, rfl, rfl, q _ ((ok.set r1).set r2) (by rw [wipe_set hj, wipe_set hi])⟩
    · cases e⟩
theorem tgt3 {K : PySem.W.Frag} {i j l : Nat} {vs : List Nat} (hi : i ∈ vs) (hj : j ∈ vs) (hl : l ∈ vs) : Tgt K (gTup K 3 (gCons (gName i) (gCons (gName j) (gCons (gName l) gNil)))) (up3 i j l) vs :=
  ⟨fun F x t r r' σ H S Q tr e ok q => by
    unfold up3 at e
    split at e
    · cases e
      obtain ⟨p, ws, rfl, sq, rs⟩ := tr.tup_inv
      cases rs with
      | cons r1 rs =>
        obtain ⟨v2, v3, rfl, r2, r3⟩ := rs.two
        exact ⟨p, _, rfl, sq, rfl, _, _, rfl, v2, _, rfl, v3, _, rfl, rfl, q _ (((ok.set r1).set r2).set r3) (by rw [wipe_set hl, wipe_set hj, wipe_set hi])⟩
    · cases e⟩
section
variable {F : Sto} {X : Cx} {r : Rho} {S : Sto} {pos : Pos} {tg iter : Expr}
/-- for -/
theorem s1_for {body : List Stmt} {k : KE} {g : TG} {up : T → Rho → Option Rho} {vs : List Nat} (hp : PassesOwn (model X.prog X.w) X.A X.env X.xe) (hc : X.calm = true) (hg : PG X tg g) (ht : Tgt X.K g up vs)
    (h : iw F X tg iter r S fun ts rd S1 => ∃ P : Nat → Rho → Sto → Prop, P 0 r S1 ∧ (∀ n r2 S2, P n r2 S2 → rd S2) ∧
      (∀ n u r2 S2, ts[n]? = some u → P n r2 S2 → ∃ r3, up u r2 = some r3 ∧ sw F X body r3 S2 { k with nx := P (n + 1), ct := P (n + 1), bk := k.nx }) ∧ ∀ r2 S2, P ts.length r2 S2 → k.nx r2 S2)
    (hs : ∀ x, foldedSetIterable iter X.env x = pure x := by intro _; rfl) : s1w F X (.For tg iter body [] pos) r S k := by
  intro σ H D ok cc
  obtain ⟨wi, hi, h⟩ := h
  refine ws1_of (ps_for hp hc hi hg psW hs) ?_
  refine h σ H _ ok fun J H1 ts rd S1 R k1 ok1 it hR q => ?_
  obtain ⟨P, p0, hl, hstep, hd⟩ := q
  refine ⟨fun n m σ2 H2 => m = ts.length - n ∧ n ≤ ts.length ∧ ∃ r2 S2, Ok X.K F σ2 H2 r2 S2 ∧ Stp H S H2 S2 ∧ KeepI H1 H2 ∧ P n r2 S2, ⟨ts.length, by simp, Nat.zero_le _, r, S1, ok1, k1, .refl H1, p0⟩, ?_⟩
  rintro n m σ2 H2 ⟨rfl, hn, r2, S2, ok2, st2, kp2, p2⟩
  have hR2 := hR H2 S2 ok2.toOkH kp2 (hl n r2 S2 p2)
  have cc2 := cc.mono st2
  by_cases hlt : n < ts.length
  · refine .inr ⟨it.go n H2 hR2 hlt, fun σ3 H3 => ∃ r3 S3, Ok X.K F σ3 H3 r3 S3 ∧ Stp H S H3 S3 ∧ KeepI H1 H3 ∧ P (n + 1) r3 S3, fun σ3 H3 ⟨r3, S3, ok3, st3, kp3, p3⟩ => ⟨ts.length - (n + 1), by omega, rfl, hlt, r3, S3, ok3, st3, kp3, p3⟩, fun y H' yl => ?_⟩
    obtain ⟨gr, u, hu, tru⟩ := it.yld n H2 y H' hR2 hlt yl
    obtain ⟨r3, e3, hb⟩ := hstep n u r2 S2 hu p2
    have st' := st2.trans (gr.stp S2)
    have kp' := kp2.trans (gr.stp S2).toI
    refine ht.sem F y u r2 r3 σ2 H' S2 _ tru e3 (ok2.grw gr) fun σ3 ok3 _ => ?_
    have cc3 := cc.mono st'
    exact hb σ3 H' _ ok3 ⟨fun σ4 H4 r4 S4 st4 ok4 q4 => ⟨r4, S4, ok4, st'.trans st4, kp'.trans st4.toI, q4⟩, cc3.rt, cc3.nx, fun σ4 H4 r4 S4 st4 ok4 q4 => ⟨r4, S4, ok4, st'.trans st4, kp'.trans st4.toI, q4⟩⟩
  · have e : n = ts.length := by omega
    subst e
    exact .inl ⟨it.stop _ H2 hR2 (Nat.le_refl _), cc2.nx σ2 H2 r2 S2 (.refl H2 S2) ok2 (hd r2 S2 p2)⟩
/-- the contexts of a comprehension's block -/
abbrev Blk (X : Cx) (scope : Scope) (p : Cx → Prop) : Prop := ∀ (s : Shared) (H : Hp) (C : Addr) (cl : List (Str × Addr)) (fp : List Addr), p (X.blk s H scope (compEnvC scope cl C X.env) fp)
/-- a clause's tests by data -/
def WTs (X : Cx) (ifs : List Expr) (σ : L2.St) (H : Hp) (Q : Bool → Hp → Prop) : Prop := ∀ (pins : List (Addr × Obj)) (s : Shared), Inv X pins σ H s →
    wpAny (model X.prog X.w) X.A (forIn ifs true fun c r => if r = true then do let ok ← isTrue c X.env (eval c X.env); pure (ForInStep.yield ok) else pure (ForInStep.yield r)) (TP X pins σ Q) X.xe s
def tsw (F : Sto) (X : Cx) (ifs : List Expr) (r : Rho) (S : Sto) (k : Bool → Sto → Prop) : Prop := ∀ σ H Q, Ok X.K F σ H r S → CoT X.K F σ H r S k Q → WTs X ifs σ H Q
theorem tsw_nil {k : Bool → Sto → Prop} (h : k true S) : tsw F X [] r S k := fun σ H Q ok cc pins s I => (pts_nil (X := X)).run pins s σ H Q I (cc true H S (.refl H S) ok h)
theorem tsw_one {c : Expr} {k : Bool → Sto → Prop} (h : tw F X c r S k) : tsw F X [c] r S k := fun σ H Q ok cc pins s I => (pts_one (X := X) ptW).run pins s σ H Q I (h σ H Q ok cc)
/-- the list under work beside the store -/
theorem Ok.lstD {K : PySem.W.Frag} {σ : L2.St} {H : Hp} {D : Addr} {vacc : List V} {acc : List T} (ok : Ok K F σ H r S) (hD : H D = some (.lst vacc)) (ha : TRs K H vacc acc) (hs : D ∉ feet S) (hf : ∀ p ∈ F, D ∉ foot p) : Ok K F σ H r ((D, .lst acc) :: S) := by
  refine ⟨⟨fun p hp => ?_, ?_, fun p hp => ⟨(ok.rdo p hp).1, fun a h hh => ?_⟩⟩, ok.len, ok.loc⟩
  · rcases List.mem_cons.mp hp with rfl | hp
    · exact ⟨vacc, hD, ha⟩
    · exact ok.sto p hp
  · exact List.nodup_cons.mpr ⟨hs, ok.nd⟩
  · rcases List.mem_cons.mp (show a ∈ D :: feet S from hh) with rfl | hh
    · exact hf p hp h
    · exact (ok.rdo p hp).2 a h hh
/-- [elt for tg in iter if ..] -/
theorem lc_t {elt : Expr} {ifs : List Expr} {scope : Scope} {own : List (Str × Nat)} {k : T → Sto → Prop} {g : TG} {wi : TI} {up : T → Rho → Option Rho} {σ : L2.St} {H : Hp} {Q : VK} (ht : Tgt X.K g up (own.map (·.2))) (oka : Ok X.K F σ H r S) (cc : CoE X.K F σ H r S k Q)
    (h : ∀ σ H R, Ok X.K F σ H r S →
  (∀ (J : It) (H1 : Hp) (ts : List T) (rd : Sto → Prop) (S1 : Sto) (Q : Hp → Prop), Stp H S H1 S1 → Ok X.K F σ H1 r S1 → IterOk X.K J ts Q → (∀ H2 S2, OkH X.K F H2 S2 → KeepI H1 H2 → rd S2 → Q H2) → (∃ P : Nat → List T → Sto → Prop, P 0 [] S1 ∧ (∀ n acc S2, P n acc S2 → rd S2) ∧
      (∀ n u acc S2, ts[n]? = some u → P n acc S2 → acc.length < 100000 ∧ ∃ r3, up u (wipeT r (own.map (·.2))) = some r3 ∧ Blk X scope fun X1 => tsw F X1 ifs r3 S2 fun d S3 => (d = true → Blk X scope fun X2 => ew F X2 elt r3 S3 fun w S4 => P (n + 1) (acc ++ [w]) S4) ∧ (d = false → P (n + 1) acc S3)) ∧
      ∀ acc S2, P ts.length acc S2 → ∀ q, q ∉ feet S2 → k (.ref q) ((q, .lst acc) :: S2)) → R J H1) → wi σ H R) :
    tLc wi g (fun σ H Q => Blk X scope fun X' => WTs X' ifs σ H Q) (fun σ H Q => Blk X scope fun X' => WE X' elt σ H Q) (own.map (·.2)) σ H Q := by
  refine h σ H _ oka fun J H1 ts rd S1 R k1 ok1 it hR q D hD => ?_
  obtain ⟨P, p0, hl, hstep, hd⟩ := q
  have hF : ∀ p ∈ F, D ∉ foot p := fun p hp hm => by
    obtain ⟨o, e⟩ := (ok1.rdo p hp).1.there D hm
    rw [hD] at e; cases e
  let W : Nat → Hp → Prop := fun n H2 => ∃ acc vacc S2, H2 D = some (.lst vacc) ∧ TRs X.K H2 vacc acc ∧ D ∉ feet S2 ∧ Ok X.K F σ H2 r S2 ∧ Stp H S H2 S2 ∧ KeepI H1 H2 ∧ P n acc S2
  have w0 : W 0 (upd H1 D (.lst [])) := ⟨[], [], S1, upd_same, .nil, ok1.toOkH.fresh hD, ok1.new hD, k1.trans (.new hD), .new hD, p0⟩
  refine ⟨fun n m H2 => m = ts.length - n ∧ n ≤ ts.length ∧ W n H2, ⟨ts.length, by simp, Nat.zero_le _, w0⟩, ?_⟩
  rintro n m H2 ⟨rfl, hn, acc, vacc, S2, hD2, ha2, hs2, ok2, st2, kp2, p2⟩
  have hR2 := hR H2 S2 ok2.toOkH kp2 (hl n acc S2 p2)
  by_cases hlt : n < ts.length
  · refine .inr ⟨it.go n H2 hR2 hlt, W (n + 1), fun H3 w3 => ⟨ts.length - (n + 1), by omega, rfl, hlt, w3⟩, fun y H' yl => ?_⟩
    obtain ⟨gr, u, hu, tru⟩ := it.yld n H2 y H' hR2 hlt yl
    obtain ⟨hz, r3, e3, hb⟩ := hstep n u acc S2 hu p2
    have okw := (ok2.grw gr).wipe (own.map (·.2))
    refine ht.sem F y u _ r3 _ H' S2 _ tru e3 okw fun σ3 ok3 hw => ⟨by rw [hw, wipe_wipe], fun s1 Hs C cl fp => ?_⟩
    have stA : Stp H S H' S2 := st2.trans (gr.stp S2)
    have kpA : KeepI H1 H' := kp2.trans (gr.stp S2).toI
    have hDA := gr.at_ D _ hD2
    have haA := ha2.keep (gr.stp S2).toI
    refine hb s1 Hs C cl fp σ3 H' _ ok3 fun d H3 S3 st3 ok4 q3 => ?_
    have own3 : D ∉ feet S3 := fun hm => by
      rcases st3.own D hm with z | z
      · exact hs2 z
      · rw [hDA] at z; cases z
    have hD3 : H3 D = some (.lst vacc) := st3.at_ D _ (.inl hs2) hDA
    have back : ∀ {H4 S4} (st : Stp H' S2 H4 S4), OkH X.K F H4 S4 → Ok X.K F σ H4 r S4 := fun {H4 S4} st ok5 => ⟨ok5, ok2.len, fun i t e => let ⟨v, h1, h2⟩ := (ok2.grw gr).loc i t e; ⟨v, h1, h2.keep st.toI⟩⟩
    cases d with
    | true =>
      rw [if_pos rfl]
      intro s2 Hs2 C2 cl2 fp2
      refine (q3.1 rfl) s2 Hs2 C2 cl2 fp2 σ3 H3 _ ok4 fun w H4 tw S4 st4 ok5 trw p4 => ?_
      have st34 := st3.trans st4
      have hD4 : H4 D = some (.lst vacc) := st4.at_ D _ (.inl own3) hD3
      have own4 : D ∉ feet S4 := fun hm => by
        rcases st4.own D hm with z | z
        · exact own3 z
        · rw [hD3] at z; cases z
      have hlen := ha2.length
      have hni : ¬ Imm (.lst vacc) := fun z => by rcases z with ⟨_, z⟩ | ⟨_, _, z⟩ <;> cases z
      have kpm : KeepI H4 (upd H4 D (.lst (vacc ++ [w]))) := .mut hD4 hni
      have ok6 := back st34 ok5.toOkH
      refine ⟨vacc, hD4, by rw [hlen]; exact Nat.lt_of_lt_of_le hz (by decide), acc ++ [tw], vacc ++ [w], S4, upd_same, ((haA.keep st34.toI).app (.cons trw .nil)).keep kpm, own4, ?_, ?_, (kpA.trans st34.toI).trans kpm, p4⟩
      · refine ⟨⟨fun p hp => (ok6.sto p hp).keep kpm fun a hm o e => ?_, ok6.nd, fun p hp => ⟨(ok6.rdo p hp).1.keep kpm fun a hm o e => ?_, (ok6.rdo p hp).2⟩⟩, ok6.len, fun i t e => let ⟨v, h1, h2⟩ := ok6.loc i t e; ⟨v, h1, h2.keep kpm⟩⟩
        · rw [upd_ne (fun z => own4 (by rw [← z]; exact feet_of hp hm))]; exact e
        · rw [upd_ne (fun z => hF p hp (by rw [← z]; exact hm))]; exact e
      · have stB := (stA.trans st34)
        refine ⟨fun a o i e => ?_, fun a e => stB.fre a (upd_none e), fun a hm => stB.own a hm⟩
        by_cases z : a = D
        · subst z
          have := k1.fre _ hD
          rw [this] at e; cases e
        · rw [upd_ne z]; exact stB.at_ a o i e
    | false =>
      rw [if_neg Bool.false_ne_true]
      exact ⟨acc, vacc, S3, hD3, haA.keep st3.toI, own3, back st3 ok4.toOkH, stA.trans st3, kpA.trans st3.toI, q3.2 rfl⟩
  · have e : n = ts.length := by omega
    subst e
    refine .inl ⟨it.stop _ H2 hR2 (Nat.le_refl _), cc (.ref D) H2 (.ref D) ((D, .lst acc) :: S2) ⟨st2.at_, st2.fre, fun a hm => ?_⟩ (ok2.lstD hD2 ha2 hs2 hF) (.ref D) (hd acc S2 p2 D hs2)⟩
    rcases List.mem_cons.mp (show a ∈ D :: feet S2 from hm) with rfl | hm
    · exact .inr (k1.fre _ hD)
    · exact st2.own a hm
theorem ew_lc {elt : Expr} {ifs : List Expr} {scope : Scope} {own : List (Str × Nat)} {k : T → Sto → Prop} {g : TG} {up : T → Rho → Option Rho} (hc : X.calm = true) (hN : X.N.Nodup) (ok : BlkOk X.N X.env.scope scope own)
    (hg : Blk X scope fun X' => PG X' tg g) (ht : Tgt X.K g up (own.map (·.2)))
    (h : iw F X tg iter r S fun ts rd S1 => ∃ P : Nat → List T → Sto → Prop, P 0 [] S1 ∧ (∀ n acc S2, P n acc S2 → rd S2) ∧
      (∀ n u acc S2, ts[n]? = some u → P n acc S2 → acc.length < 100000 ∧ ∃ r3, up u (wipeT r (own.map (·.2))) = some r3 ∧ Blk X scope fun X1 => tsw F X1 ifs r3 S2 fun d S3 => (d = true → Blk X scope fun X2 => ew F X2 elt r3 S3 fun w S4 => P (n + 1) (acc ++ [w]) S4) ∧ (d = false → P (n + 1) acc S3)) ∧
      ∀ acc S2, P ts.length acc S2 → ∀ q, q ∉ feet S2 → k (.ref q) ((q, .lst acc) :: S2))
    (hs : ∀ x, foldedSetIterable iter X.env x = pure x := by intro _; rfl) : ew F X (.ListComp elt [⟨tg, iter, ifs, 0⟩] scope pos) r S k := by
  intro σ H Q oka cc
  obtain ⟨wi, hi, h⟩ := h
  have hT : Blk X scope fun X' => PTs X' ifs fun σ H Q => Blk X scope fun X' => WTs X' ifs σ H Q := fun s1 H1 C cl fp => ⟨fun pins s σ H Q I h => h s1 H1 C cl fp pins s I⟩
  have hE : Blk X scope fun X' => PE X' elt fun σ H Q => Blk X scope fun X' => WE X' elt σ H Q := fun s1 H1 C cl fp => ⟨fun pins s σ H Q I h => h s1 H1 C cl fp pins s I⟩
  exact we_of (pe_lc hc hN hi ok hg hT hE hs) (lc_t ht oka cc h)
/-- y = [elt for ..], stored by the comprehension itself -/
theorem s1_setLc {i : Nat} {y : Str} {py spos : Pos} {elt : Expr} {ifs : List Expr} {scope : Scope} {own : List (Str × Nat)} {k : KE} {g : TG} {up : T → Rho → Option Rho} (hc : X.calm = true) (hN : X.N.Nodup) (hy : X.N[i]? = some y) (ok : BlkOk X.N X.env.scope scope own)
    (hg : Blk X scope fun X' => PG X' tg g) (ht : Tgt X.K g up (own.map (·.2)))
    (h : iw F X tg iter r S fun ts rd S1 => ∃ P : Nat → List T → Sto → Prop, P 0 [] S1 ∧ (∀ n acc S2, P n acc S2 → rd S2) ∧
      (∀ n u acc S2, ts[n]? = some u → P n acc S2 → acc.length < 100000 ∧ ∃ r3, up u (wipeT r (own.map (·.2))) = some r3 ∧ Blk X scope fun X1 => tsw F X1 ifs r3 S2 fun d S3 => (d = true → Blk X scope fun X2 => ew F X2 elt r3 S3 fun w S4 => P (n + 1) (acc ++ [w]) S4) ∧ (d = false → P (n + 1) acc S3)) ∧
      ∀ acc S2, P ts.length acc S2 → ∀ q, q ∉ feet S2 → k.nx (r.set i (some (.ref q))) ((q, .lst acc) :: S2))
    (hyl : X.env.scope.names.lookup y = some .local := by rfl) (hsw : swapsWith (.ListComp elt [⟨tg, iter, ifs, 0⟩] scope pos) (some (.Name y py)) spos.line X.env = pure true := by rfl)
    (hs : ∀ x, foldedSetIterable iter X.env x = pure x := by intro _; rfl) : s1w F X (.Assign [.Name y py] (.ListComp elt [⟨tg, iter, ifs, 0⟩] scope pos) spos) r S k := by
  intro σ H D oka cc
  obtain ⟨wi, hi, h⟩ := h
  have hT : Blk X scope fun X' => PTs X' ifs fun σ H Q => Blk X scope fun X' => WTs X' ifs σ H Q := fun s1 H1 C cl fp => ⟨fun pins s σ H Q I h => h s1 H1 C cl fp pins s I⟩
  have hE : Blk X scope fun X' => PE X' elt fun σ H Q => Blk X scope fun X' => WE X' elt σ H Q := fun s1 H1 C cl fp => ⟨fun pins s σ H Q I h => h s1 H1 C cl fp pins s I⟩
  refine ws1_of (ps_setLc hc hN hy hyl hsw hi ok hg hT hE hs) ?_
  refine lc_t (k := fun t S2 => k.nx (r.set i (some t)) S2) ht oka ?_ h
  intro v H' t S' st ok' tr hk
  exact cc.nx _ H' _ S' st (ok'.set tr) hk
end
end PT

set_option Elab.async false
set_option linter.all false
set_option maxRecDepth 100000
set_option maxHeartbeats 2000000
set_option autoImplicit false
namespace PT
open PySem L2 PySem.Spec PyProof.Rows

/-! ### {**d, k: v} -/
section
variable {prog : Program} {w : World} {κ : Type} [DecidableEq κ] {knd : KeyKind prog w κ} {A : Around} {E : Value → Shared → Prop} {s : Shared}
theorem dictPut_pairs {d : Addr} {kvs : List (κ × Value)} {k : κ} {key v : Value} {Q : Unit → Shared → Prop} (hkey : knd.is k key = true) (hm : s.heap.DictOf knd d kvs)
    (hQ : ∀ h', h'.DictOf knd d (stored kvs k v) → Heap.SameBut d s.heap h' → Q () { s with heap := h' }) (hsz : kvs.length ≤ sizeLine) :
    wpAny (model prog w) A (dictPut d (knd.hash k) key v) Q E s := by
  obtain ⟨o, es, ep, ho, hc, hd, hk, hp, hn⟩ := hm
  have hes : es.size ≤ sizeLine := by
    have e1 := hp.length
    have e2 : es.toList.length = es.size := by simp
    omega
  unfold dictPut
  refine wpAny_bind (wpAny_dictFind_of hkey ho hd hk ?_)
  have hidx : (es.findIdx? fun e => knd.is k e.key) = kvs.findIdx? fun kv => decide (kv.1 = k) := by
    rw [← hp.findIdx k]; obtain ⟨l⟩ := es; simp
  cases hi : es.findIdx? fun e => knd.is k e.key with
  | some i =>
    refine wpAny_updateDict ho hd (hQ _ ⟨_, _, ep, Heap.get?_update_self _ ho (Obj.isFreed_of_dict (Obj.data_mapDict hd _)), hc.mapDict _, Obj.data_mapDict hd _, hk.modify _ _, ?_, ?_⟩ (Heap.SameBut.update ..))
    · rw [stored, if_pos (any_of_findIdx_some (hidx ▸ hi))]
      have hl : (es.toList.findIdx? fun e => knd.is k e.key) = some i := by rw [← hi]; obtain ⟨l⟩ := es; simp
      have := hp.modify hn hl v
      obtain ⟨l⟩ := es
      simpa using this
    · rw [stored, if_pos (any_of_findIdx_some (hidx ▸ hi)), keys_map_store]; exact hn
  | none =>
    have hnot : k ∉ kvs.map (·.1) := not_mem_of_findIdx_none (hidx ▸ hi)
    have hany : ¬ (kvs.any fun kv => decide (kv.1 = k)) = true := by
      rw [List.any_eq_true]; rintro ⟨kv, hkv, he⟩
      exact hnot (List.mem_map.mpr ⟨kv, hkv, of_decide_eq_true he⟩)
    refine wpAny_updateDictKeys (hz := hes) ho hd (hQ _ ⟨_, _, ep + 1, Heap.get?_update_self _ ho (Obj.isFreed_of_dict (Obj.data_mapDictKeys hd _)), hc.mapDictKeys _, Obj.data_mapDictKeys hd _, hk.push hkey _, ?_, ?_⟩ (Heap.SameBut.update ..))
    · rw [stored, if_neg hany]
      have := hp.append hkey (knd.hash k) v
      obtain ⟨l⟩ := es
      simpa using this
    · rw [stored, if_neg hany, List.map_append, List.nodup_append]
      refine ⟨hn, by simp, ?_⟩
      intro a ha b hb
      simp only [List.map_cons, List.map_nil, List.mem_singleton] at hb
      subst hb
      exact fun e => hnot (e ▸ ha)
theorem mergeMapping_pairs {d o : Addr} {kvs more : List (κ × Value)} {Q : Unit → Shared → Prop} (hdo : d ≠ o) (hoS : (o == sysModules) = false)
    (hd : s.heap.DictOf knd d kvs) (ho : s.heap.DictOf knd o more) (hsz : kvs.length + more.length ≤ sizeLine)
    (hQ : ∀ h', h'.DictOf knd d (merged kvs more) → h'.DictOf knd o more → Heap.SameBut d s.heap h' → Q () { s with heap := h' }) :
    wpAny (model prog w) A (mergeMapping d (.ref o) false) Q E s := by
  obtain ⟨od, esd, epd, hod, hcd, hdd, hkd, hpd, hnd⟩ := id hd
  obtain ⟨oo, eso, epo, hoo, hco, hdo', hko, hpo, hno⟩ := id ho
  have hlen : more.length = eso.size := by rw [← hpo.length]; simp
  unfold mergeMapping
  refine wpAny_bind (wpAny_isInstance ho.typeIs isSubtype_dict_dict ?_)
  simp only [if_true]
  refine wpAny_bind (wpAny_specialOf ho.typeIs F.slot_dict_iter.lookup ?_)
  refine wpAny_bind (wpAny_pure ?_)
  simp only [beq_self_eq_true, hoS, Bool.false_eq_true, if_false]
  refine wpAny_bind (wpAny_dictEntries hod hdd ?_)
  have loop : wpAny (model prog w) A (do
      let l ← dictEntries o
      let epoch ← dictEpoch o
      forIn (List.range l.size) PUnit.unit fun i (_ : PUnit) => (do
          let l' ← dictEntries o
          match l'[i]? with
            | some e => do
              holding [e.key, e.val] (dictPut d e.hash e.key e.val)
              let ep' ← dictEpoch o
              if (ep' != epoch) = true then do
                  (unsupported "dict.changed-during-merge" : Sem PUnit)
                  pure (ForInStep.yield PUnit.unit)
                else pure (ForInStep.yield PUnit.unit)
            | _ => do
              (unsupported "dict.changed-during-merge" : Sem PUnit)
              pure (ForInStep.yield PUnit.unit) : Sem (ForInStep PUnit))
      pure ()) Q E s := by
    refine wpAny_bind (wpAny_dictEntries hoo hdo' ?_)
    refine wpAny_bind (wpAny_dictEpoch hoo hdo' ?_)
    refine wpAny_bind ?_
    rw [List.range_eq_range']
    refine wpAny_forIn_list _
      (fun rest _ s' => ∃ h' i, s' = { s with heap := h' } ∧ rest = List.range' i (eso.size - i) ∧ i ≤ eso.size ∧ h'.DictOf knd d (merged kvs (more.take i)) ∧ h'.get? o = some oo ∧ Heap.SameBut d s.heap h')
      _ ?_ ?_ _ _ ⟨s.heap, 0, rfl, by simp, Nat.zero_le _, by simpa [merged] using hd, hoo, Heap.SameBut.refl _ _⟩
    · rintro x rest b s' ⟨h', i, rfl, hr, hi, hd', hoo', hs'⟩
      have hlt : i < eso.size := by
        rcases Nat.lt_or_ge i eso.size with h | h
        · exact h
        · rw [Nat.sub_eq_zero_of_le h] at hr; simp at hr
      obtain ⟨rfl, hrest⟩ : x = i ∧ rest = List.range' (i + 1) (eso.size - (i + 1)) := by
        have e : eso.size - i = (eso.size - (i + 1)) + 1 := by omega
        rw [e, List.range'_succ] at hr
        injection hr with h1 h2
        exact ⟨h1, h2⟩
      refine wpAny_bind (wpAny_dictEntries hoo' hdo' ?_)
      rw [Array.getElem?_eq_getElem hlt]
      obtain ⟨kv, hkv⟩ : ∃ kv, more[x]? = some kv := ⟨more[x]'(by rw [hlen]; exact hlt), List.getElem?_eq_getElem _⟩
      obtain ⟨k, v⟩ := kv
      obtain ⟨hkey, hval⟩ := hpo.get? (e := eso[x]) (by simp [hlt]) hkv
      obtain ⟨k', hkey', hhash⟩ := hko eso[x] (Array.getElem_mem hlt)
      obtain rfl : k' = k := knd.inj _ _ _ hkey' hkey
      show wpAny _ _ (holding [eso[x].key, eso[x].val] (dictPut d eso[x].hash eso[x].key eso[x].val) >>= _) _ _ _
      rw [hhash, hval]
      have hmx : (merged kvs (more.take x)).length ≤ sizeLine := by
        have e1 := merged_length_le kvs (more.take x)
        have e2 : (more.take x).length ≤ more.length := by rw [List.length_take]; omega
        omega
      refine wpAny_bind (wpAny_holding (dictPut_pairs hkey hd' (fun h'' hd'' hs'' => ?_) hmx))
      have hoo'' : h''.get? o = some oo := (hs''.2 o (Ne.symm hdo)).trans hoo'
      refine wpAny_bind (wpAny_dictEpoch hoo'' hdo' ?_)
      rw [if_neg (by simp)]
      exact wpAny_pure ⟨h'', x + 1, rfl, hrest, hlt, by rw [merged_take_succ kvs more x (k', v) hkv]; exact hd'', hoo'', hs'.trans hs''⟩
    · rintro b s' ⟨h', i, rfl, hr, hi, hd', hoo', hs'⟩
      have hin : i = eso.size := by
        rcases Nat.lt_or_ge i eso.size with h | h
        · have e : eso.size - i = (eso.size - (i + 1)) + 1 := by omega
          rw [e, List.range'_succ] at hr; exact nomatch hr
        · exact Nat.le_antisymm hi h
      refine wpAny_pure (hQ h' ?_ ⟨oo, eso, epo, hoo', hco, hdo', hko, hpo, hno⟩ hs')
      rw [hin, ← hlen, List.take_length] at hd'; exact hd'
  split
  · refine wpAny_bind (wpAny_dictEntries hoo hdo' ?_)
    have hl : (forIn eso PUnit.unit fun e (_ : PUnit) => (match e.key with
        | .ref a => (do
          let r ← specialOf e.key (Str.ofString "__eq__")
          if (r != some (Value.builtin "object.__eq__")) = true then
            if (eso.filter (fun x => x.hash == e.hash)).size > 1 then (do let _ ← (unsupported "dict.merge-into-an-empty-dict:keys-of-equal-hash" : Sem PUnit); pure (ForInStep.yield PUnit.unit)) else pure (ForInStep.yield PUnit.unit)
          else pure (ForInStep.yield PUnit.unit))
        | _ => pure (ForInStep.yield PUnit.unit) : Sem (ForInStep PUnit))) = pure PUnit.unit := by
      rw [← Array.forIn_toList]
      refine forIn_yield_id _ fun e he c => ?_
      obtain ⟨k, hkey, _⟩ := hko e (Array.mem_toList_iff.mp he)
      have hb := knd.byValue k _ hkey
      cases e with
      | mk h kk v =>
        cases kk with
        | ref a => simp [carriedByValue] at hb
        | _ => rfl
    refine wpAny_bind (wpAny_of_eq hl ?_)
    exact loop
  · exact loop
/-- {**e, k: v} by its steps -/
theorem spread_walk {env : Env} {e k v : Expr} {pos : Pos} {Q : Value → Shared → Prop}
    (h : wpAny (model prog w) A (eval e env) (fun m s1 => ∃ a kvs, m = .ref a ∧ (a == sysModules) = false ∧ s.heap.objs.size ≠ a ∧ kvs.length < sizeLine ∧ (kvs.map (·.1)).Nodup ∧ s1.heap.DictOf knd a kvs ∧ s1.heap.DictOf knd s.heap.objs.size [] ∧
      ∀ h2, h2.DictOf knd s.heap.objs.size kvs → Heap.SameBut s.heap.objs.size s1.heap h2 →
        wpAny (model prog w) A (eval k env) (fun kv s3 => wpAny (model prog w) A (eval v env) (fun vv s4 => ∃ kk kvs4, knd.is kk kv = true ∧ kvs4.length < sizeLine ∧ (h2.objs.size == sysModules) = false ∧ s.heap.objs.size ≠ h2.objs.size ∧ s4.heap.DictOf knd h2.objs.size [] ∧ s4.heap.DictOf knd s.heap.objs.size kvs4 ∧
          ∀ h4 h5, h4.DictOf knd h2.objs.size [(kk, vv)] → Heap.SameBut h2.objs.size s4.heap h4 → h5.DictOf knd s.heap.objs.size (stored kvs4 kk vv) → Heap.SameBut s.heap.objs.size h4 h5 → ∀ tk, Q (.ref s.heap.objs.size) { s4 with heap := h5, toks := tk }) E s3) E
          { s1 with heap := h2.push { cls := .type "dict", data := .dict #[] } }) E { s with heap := s.heap.push { cls := .type "dict", data := .dict #[] } }) :
    wpAny (model prog w) A (eval (.Dict [none, some k] [e, v] pos) env) Q E s := by
  rw [arm_eval_Dict]
  refine wpAny_bind (wpAny_standAt ?_)
  show wpAny _ _ (dictDisplay [(none, do let x ← eval e env; standAt pos; pure x), (some (eval k env), do let x ← eval v env; standAt pos; pure x)]) _ _ _
  unfold dictDisplay
  simp only [List.forIn_cons, List.forIn_nil, List.isEmpty_nil, if_true, pure_bind, bind_assoc]
  refine wpAny_bind (wpAny_alloc ?_)
  refine wpAny_bind (wpAny_holding ?_)
  refine wpAny_bind (wpAny_mono h (fun m s1 h1 => ?_) fun _ _ z => z)
  obtain ⟨a, kvs, rfl, hsys, hne, hz, hnd, da, d0, h1⟩ := h1
  refine wpAny_bind (wpAny_standAt (wpAny_pure ?_))
  refine wpAny_bind (wpAny_onRaise (wpAny_tryCatch (wpAny_onRaise (wpAny_holding (mergeMapping_pairs hne hsys d0 da (by simp; omega) fun h2 dd2 da2 sb2 => ?_)))))
  rw [merged_nil_of_nodup kvs hnd] at dd2
  have h1 := h1 h2 dd2 sb2
  simp only [List.nil_append, List.length_cons, List.length_nil, List.isEmpty_cons]
  refine wpAny_bind ?_
  rw [if_neg (by decide)]
  refine wpAny_pure ?_
  refine wpAny_bind (wpAny_pure ?_)
  simp only [List.isEmpty_cons, Bool.false_eq_true, if_false]
  refine wpAny_bind (wpAny_bind (wpAny_holding (wpAny_subDict (knd := knd) (by simp) ?_)))
  refine evalPairs_cons ?_
  refine wpAny_mono h1 (fun kv s3 h3 => wpAny_bind (wpAny_mono h3 (fun vv s4 h4 => wpAny_bind (wpAny_standAt (wpAny_pure (evalPairs_nil ?_)))) fun _ _ z => z)) fun _ _ z => z
  obtain ⟨kk, kvs4, hk, hz4, hs2, hn2, dD, d1, q⟩ := h4
  refine ⟨[(kk, vv)], ⟨hk, rfl, trivial⟩, dD, fun h5 d5 sb5 => ?_⟩
  refine wpAny_bind (wpAny_onRaise (wpAny_holding (mergeMapping_pairs hn2 hs2 (d1.sameBut sb5 hn2) d5 (by simp [merged, stored]; omega) fun h6 dd6 da6 sb6 => ?_)))
  refine wpAny_pure (wpAny_pure ?_)
  exact q h5 h6 d5 sb5 dd6 sb6 _
end

section
variable {K : PySem.W.Frag} {F : Sto} {X : Cx} {σ : L2.St} {H H1 : Hp} {r : Rho} {S S1 : Sto} {pos : Pos} {q : Addr}
/-- an object beside the store -/
theorem Stp.side {o : HO} (st : Stp H S H1 S1) (hq : H q = none) : Stp H S (upd H1 q o) S1 :=
  ⟨fun a u i e => by rw [upd_ne (ne_of_none e hq)]; exact st.at_ a u i e, fun a e => st.fre a (upd_none e), st.own⟩
theorem Ok.side {o u : HO} (ok : Ok K F σ H r S) (hq : H q = some u) (hi : ¬ Imm u) (hs : q ∉ feet S) (hf : ∀ p ∈ F, q ∉ foot p) : Ok K F σ (upd H q o) r S := by
  have kp : KeepI H (upd H q o) := .mut hq hi
  refine ⟨⟨fun p hp => (ok.sto p hp).keep kp fun a hm w e => ?_, ok.nd, fun p hp => ⟨(ok.rdo p hp).1.keep kp fun a hm w e => ?_, (ok.rdo p hp).2⟩⟩, ok.len, fun i t e => let ⟨v, h1, h2⟩ := ok.loc i t e; ⟨v, h1, h2.keep kp⟩⟩
  · rw [upd_ne (fun z => hs (by rw [← z]; exact feet_of hp hm))]; exact e
  · rw [upd_ne (fun z => hf p hp (by rw [← z]; exact hm))]; exact e
theorem Ok.add {m : MO} (ok : Ok K F σ H r S) (hm : MOk K H (q, m)) (he : foot (q, m) = [q]) (hs : q ∉ feet S) (hf : ∀ p ∈ F, q ∉ foot p) : Ok K F σ H r ((q, m) :: S) := by
  refine ⟨⟨fun p hp => ?_, ?_, fun p hp => ⟨(ok.rdo p hp).1, fun a h hh => ?_⟩⟩, ok.len, ok.loc⟩
  · rcases List.mem_cons.mp hp with rfl | hp
    · exact hm
    · exact ok.sto p hp
  · show (foot (q, m) ++ feet S).Nodup
    rw [he]
    exact List.nodup_cons.mpr ⟨hs, ok.nd⟩
  · have hh : a ∈ foot (q, m) ++ feet S := hh
    rw [he] at hh
    rcases List.mem_cons.mp hh with rfl | hh
    · exact hf p hp h
    · exact (ok.rdo p hp).2 a h hh
theorem OkH.offF (ok : OkH K F H S) (hq : H q = none) : ∀ p ∈ F, q ∉ foot p := fun p hp hm => by
  obtain ⟨o, e⟩ := (ok.rdo p hp).1.there q hm
  rw [hq] at e; cases e
theorem Stp.off (st : Stp H S H1 S1) {o : HO} (hq : H q = some o) (hs : q ∉ feet S) : q ∉ feet S1 := fun h => by
  rcases st.own q h with z | z
  · exact hs z
  · rw [hq] at z; cases z
theorem notImm_dK {kvs : List (Key × V)} : ¬ Imm (.dK kvs) := fun z => by rcases z with ⟨_, z⟩ | ⟨_, _, z⟩ <;> cases z
theorem notImm_dT {kvs : List (List Key × V)} : ¬ Imm (.dT kvs) := fun z => by rcases z with ⟨_, z⟩ | ⟨_, _, z⟩ <;> cases z
theorem notImm_lst {xs : List V} : ¬ Imm (.lst xs) := fun z => by rcases z with ⟨_, z⟩ | ⟨_, _, z⟩ <;> cases z
/-- {**e, k: v} -/
theorem ew_spread {e kx vx : Expr} {k : T → Sto → Prop} (h : ew F X e r S fun t S1 => ∃ p kvs, t = .ref p ∧ Rdb F S1 (p, .dk kvs) ∧ kvs.length ≤ 60000 ∧
      ew F X kx r S1 fun tk S2 => ew F X vx r S2 fun tv S3 => ∃ kk, tk = kT kk ∧ ∀ q, q ∉ feet S3 → k (.ref q) ((q, .dk (putT kvs kk tv)) :: S3)) : ew F X (.Dict [none, some kx] [e, vx] pos) r S k := by
  intro σ H Q ok cc pins s I
  have hn := I.hok.fresh (Nat.le_refl s.heap.objs.size)
  have I1 := I.laid (a := s.heap.objs.size) (o := .dK []) (h' := s.heap.push { cls := .type "dict", data := .dict #[] }) (t' := s.toks) (fun _ _ q => Heap.get?_push_of_some _ q) (Nat.le_refl _) (dk_empty s.heap I.big)
  refine spread_walk (knd := mixKind X.prog X.w) ?_
  generalize hd : s.heap.objs.size = q at hn I1
  have offF := ok.toOkH.offF hn
  have offS := ok.toOkH.fresh hn
  have ok1 : Ok X.K F σ (upd H q (.dK [])) r S := ok.new hn
  refine thn (h σ (upd H q (.dK [])) (fun m H1 => ∃ p kvs vkvs S1, m = .ref p ∧ Stp (upd H q (.dK [])) S H1 S1 ∧ Ok X.K F σ H1 r S1 ∧ p ≠ q ∧ H1 p = some (.dK vkvs) ∧ PKV X.K H1 vkvs kvs ∧ kvs.length ≤ 60000 ∧
      ew F X kx r S1 fun tk S2 => ew F X vx r S2 fun tv S3 => ∃ kk, tk = kT kk ∧ ∀ q, q ∉ feet S3 → k (.ref q) ((q, .dk (putT kvs kk tv)) :: S3)) ok1 (fun v H1 t S1 st ok2 tr qq => ?_) pins _ I1) fun m s1 ⟨x, H1, I2, rx, p, kvs, vkvs, S1, ex, st, ok2, hpq, hp, pk, hz, qq⟩ => ?_
  · obtain ⟨p, kvs, rfl, hr, hz, qq⟩ := qq
    obtain ⟨vkvs, hp, pk⟩ := ok2.toOkH.read hr
    refine ⟨p, kvs, vkvs, S1, tr.ref_inv, st, ok2, fun z => ?_, hp, pk, hz, qq⟩
    subst z
    rcases hr with hr | hr
    · exact st.off (upd_same) offS (feet_of hr (by simp [foot]))
    · exact offF _ hr (by simp [foot])
  subst ex
  obtain rfl : m = Value.ref p := rx
  obtain ⟨_, hps, vs, rel, dd⟩ := dk_of I2.hok hp
  have hq1 : H1 q = some (.dK []) := st.at_ q _ (.inl offS) upd_same
  obtain ⟨_, hqs, vs0, rel0, dd0⟩ := dk_of I2.hok hq1
  cases rel0
  have lz : (60000 : Nat) + 2 ≤ sizeLine := by decide
  have ln := pk.length
  have ln2 : vkvs.length = vs.length := rel.length
  refine ⟨p, vs, rfl, hps, (Ne.symm hpq), by omega, ?_, dd, dd0, fun h2 d2 sb2 => ?_⟩
  · obtain ⟨_, _, _, _, _, _, _, _, nd⟩ := dd; exact nd
  have he2 : ∃ o, h2.get? q = some o := let ⟨o, _, _, ho, _⟩ := d2; ⟨o, ho⟩
  have off1 := st.off upd_same offS
  have I3 : Inv X pins σ (upd H1 q (.dK vkvs)) { s1 with heap := h2 } := d_write I2 (t' := s1.toks) (by rw [hq1]; exact True.intro) sb2 he2 (dk_new (by omega) hqs rel d2)
  have ok3 : Ok X.K F σ (upd H1 q (.dK vkvs)) r S1 := ok2.side hq1 notImm_dK off1 offF
  have n3 := I3.hok.fresh (Nat.le_refl h2.objs.size)
  have I4 := I3.laid (a := h2.objs.size) (o := .dK []) (h' := h2.push { cls := .type "dict", data := .dict #[] }) (t' := s1.toks) (fun _ _ q => Heap.get?_push_of_some _ q) (Nat.le_refl _) (dk_empty h2 I3.big)
  generalize hD : h2.objs.size = D at n3 I4
  have hDq : D ≠ q := fun z => by subst z; rw [upd_same] at n3; cases n3
  have ok4 : Ok X.K F σ (upd (upd H1 q (.dK vkvs)) D (.dK [])) r S1 := ok3.new n3
  have st0 : Stp H S H1 S1 := (Stp.new hn).trans st
  have st4 : Stp H S (upd (upd H1 q (.dK vkvs)) D (.dK [])) S1 := (st0.side hn).side (by
    have := upd_none n3
    exact st0.fre D this)
  have offD := ok3.toOkH.fresh n3
  have offDF := ok3.toOkH.offF n3
  have hHD : H D = none := st0.fre D (upd_none n3)
  have pk1 : PKV X.K (upd (upd H1 q (.dK vkvs)) D (.dK [])) vkvs kvs := (pk.keep (.mut hq1 notImm_dK)).keep (.new n3)
  generalize hH4 : upd (upd H1 q (.dK vkvs)) D (.dK []) = H4 at I4 ok4 st4 pk1
  have hq4 : H4 q = some (.dK vkvs) := by rw [← hH4, upd_ne (Ne.symm hDq), upd_same]
  have hD4 : H4 D = some (.dK []) := by rw [← hH4, upd_same]
  refine thn (qq σ H4 (fun x5 H5 => WE X vx σ H5 fun v6 H6 => ∃ kk tv S6, x5 = kV kk ∧ Stp H4 S1 H6 S6 ∧ Ok X.K F σ H6 r S6 ∧ TR X.K H6 v6 tv ∧ ∀ q, q ∉ feet S6 → k (.ref q) ((q, .dk (putT kvs kk tv)) :: S6)) ok4 (fun x5 H5 tk S5 st5 ok5 tr5 q5 => ?_) pins _ I4) fun kv s3 ⟨x5, H5, I5, r5, q5⟩ => thn (q5 pins s3 I5) fun vv s4 ⟨v6, H6, I6, r6, kk, tv, S6, e5, st6, ok6, tr6, q6⟩ => ?_
  · refine q5 σ H5 _ ok5 fun v6 H6 tv S6 st6 ok6 tr6 q6 => ?_
    obtain ⟨kk, rfl, q6⟩ := q6
    exact ⟨kk, tv, S6, kT_tr tr5, st5.trans st6, ok6, tr6, q6⟩
  subst e5
  have hq6 : H6 q = some (.dK vkvs) := st6.at_ q _ (.inl off1) hq4
  have hD6 : H6 D = some (.dK []) := st6.at_ D _ (.inl offD) hD4
  obtain ⟨_, hDs, vs1, rel1, dd1⟩ := dk_of I6.hok hD6
  cases rel1
  obtain ⟨_, hqs6, vs6, rel6, dd6⟩ := dk_of I6.hok hq6
  have ln6 : vkvs.length = vs6.length := rel6.length
  refine ⟨kk, vs6, kV_is r5, by omega, hDs, (Ne.symm hDq), dd1, dd6, fun h4 h5 d4 sb4 d5 sb5 tk => ?_⟩
  have heD : ∃ o, h4.get? D = some o := let ⟨o, _, _, ho, _⟩ := d4; ⟨o, ho⟩
  have I7 : Inv X pins σ (upd H6 D (.dK [(kk, v6)])) { s4 with heap := h4 } := d_write I6 (t' := s4.toks) (by rw [hD6]; exact True.intro) sb4 heD (dk_new (by simp; decide) hDs (.cons ⟨rfl, r6⟩ .nil) d4)
  have hq7 : (upd H6 D (.dK [(kk, v6)])) q = some (.dK vkvs) := by rw [upd_ne (Ne.symm hDq)]; exact hq6
  have heq : ∃ o, h5.get? q = some o := let ⟨o, _, _, ho, _⟩ := d5; ⟨o, ho⟩
  have hl := length_putK vkvs kk v6
  have I8 : Inv X pins σ (upd (upd H6 D (.dK [(kk, v6)])) q (.dK (putK vkvs kk v6))) { s4 with heap := h5, toks := tk } := d_write (s := { s4 with heap := h4 }) (t' := tk) I7 (by rw [hq7]; exact True.intro) sb5 heq (dk_new (by omega) hqs (rel6.put kk r6) d5)
  have off6 := st6.off hq4 off1
  have off6D := st6.off hD4 offD
  have ok7 : Ok X.K F σ (upd H6 D (.dK [(kk, v6)])) r S6 := ok6.side hD6 notImm_dK off6D offDF
  have ok8 : Ok X.K F σ (upd (upd H6 D (.dK [(kk, v6)])) q (.dK (putK vkvs kk v6))) r S6 := ok7.side hq7 notImm_dK off6 offF
  have kp : KeepI H6 (upd (upd H6 D (.dK [(kk, v6)])) q (.dK (putK vkvs kk v6))) := (KeepI.mut hD6 notImm_dK).trans (.mut hq7 notImm_dK)
  have pk8 : PKV X.K (upd (upd H6 D (.dK [(kk, v6)])) q (.dK (putK vkvs kk v6))) (putK vkvs kk v6) (putT kvs kk tv) := PKV.put kk (tr6.keep kp) ((pk1.keep st6.toI).keep kp)
  have st8 : Stp H S (upd (upd H6 D (.dK [(kk, v6)])) q (.dK (putK vkvs kk v6))) S6 := ((st4.trans st6).side hHD).side hn
  refine ⟨.ref q, _, I8, rfl, cc _ _ (.ref q) ((q, .dk (putT kvs kk tv)) :: S6) ⟨st8.at_, st8.fre, fun a ha => ?_⟩ (ok8.add ⟨_, upd_same, pk8⟩ rfl off6 offF) (.ref q) (q6 q off6)⟩
  rcases List.mem_cons.mp (show a ∈ q :: feet S6 from ha) with rfl | ha
  · exact .inr hn
  · exact st8.own a ha
end
end PT

set_option Elab.async false
set_option linter.all false
set_option maxRecDepth 100000
set_option maxHeartbeats 2000000
set_option autoImplicit false
namespace PT
open PySem L2 PySem.Spec PyProof.Rows

/-! ### lists that change -/
section
variable {F : Sto} {X : Cx} {r : Rho} {S : Sto} {pos apos cpos p2 : Pos} {e o a b : Expr} {es : List Expr}
theorem hundred : (100000 : Nat) < sizeLine := by decide
/-- a method by values -/
def mw (F : Sto) (X : Cx) (rr : V → List V → Hp → VK → Prop) (p : Addr) (us : List T) (r : Rho) (S : Sto) (k : T → Sto → Prop) : Prop := ∀ σ H vs Q, Ok X.K F σ H r S → TRs X.K H vs us → CoE X.K F σ H r S k Q → rr (.ref p) vs H Q
theorem ew_mth {name : Str} {id : String} {rr : V → List V → Hp → VK → Prop} {k : T → Sto → Prop} (slot : Slot "list" name id) (hty : typeOf (.builtin id) = pure (.type "method_descriptor")) (hm : MtR X id rr)
    (h : ew F X o r S fun t S1 => ∃ p ts0, t = .ref p ∧ Rdb F S1 (p, .lst ts0) ∧ aw F X (e :: es) r S1 fun us S2 => mw F X rr p us r S2 k)
    (hbase : attributeBase o name X.env (eval o X.env) = eval o X.env)
    (hfew : ((backTo cpos (starEach (e :: es) X.env)).all (fun x => !x.1) && (backToKw cpos (keywordEach [] X.env)).all (fun x => x.1.isSome) && decide ((e :: es).length + ([] : List Keyword).length + (if ([] : List Keyword).isEmpty then 0 else 1) < 30)) = true)
    (hline : (apos.endLine == cpos.line) = true) (hs : starEach (e :: es) X.env = (false, eval e X.env) :: starEach es X.env) (hplain : (backTo cpos (starEach es X.env)).any (·.1) = false) :
    ew F X (.Call (.Attribute o name apos) (e :: es) [] cpos) r S k := by
  intro σ H Q ok cc
  refine we_of (pe_bm PySem.F.plainAttrs_list slot hty hm peW paW hbase hfew hline hs hplain) ?_
  refine h σ H _ ok fun v H1 t S1 k1 ok1 tr q => ?_
  obtain ⟨p, ts0, rfl, hr, q⟩ := q
  obtain ⟨vs, rd, rs⟩ := ok1.toOkH.read hr
  rw [tr.ref_inv]
  refine ⟨.inl ⟨rfl, vs, .inl rd⟩, ?_⟩
  refine q σ H1 _ ok1 fun us H2 ts S2 k2 ok2 trs q2 => ?_
  exact q2 σ H2 us Q ok2 trs (cc.mono (k1.trans k2))
theorem ew_mth0 {name : Str} {id : String} {rr : V → List V → Hp → VK → Prop} {k : T → Sto → Prop} (slot : Slot "list" name id) (hty : typeOf (.builtin id) = pure (.type "method_descriptor")) (hm : MtR X id rr)
    (h : ew F X o r S fun t S1 => ∃ p ts0, t = .ref p ∧ Rdb F S1 (p, .lst ts0) ∧ mw F X rr p [] r S1 k)
    (hbase : attributeBase o name X.env (eval o X.env) = eval o X.env) (hline : (apos.endLine == cpos.line) = true) : ew F X (.Call (.Attribute o name apos) [] [] cpos) r S k := by
  intro σ H Q ok cc
  refine we_of (pe_bm0 PySem.F.plainAttrs_list slot hty hm peW hbase hline) ?_
  refine h σ H _ ok fun v H1 t S1 k1 ok1 tr q => ?_
  obtain ⟨p, ts0, rfl, hr, q⟩ := q
  obtain ⟨vs, rd, rs⟩ := ok1.toOkH.read hr
  rw [tr.ref_inv]
  exact ⟨.inl ⟨rfl, vs, .inl rd⟩, q σ H1 [] Q ok1 .nil (cc.mono k1)⟩
theorem TRs.mid {K : PySem.W.Frag} {H : Hp} {p : Addr} {Sa Sb : Sto} {ts : List T} (ok : OkH K F H (Sa ++ (p, .lst ts) :: Sb)) : ∃ vs, H p = some (.lst vs) ∧ TRs K H vs ts := ok.sto (p, .lst ts) (by simp)
/-- a list of the store is written -/
theorem Ok.wr {K : PySem.W.Frag} {σ : L2.St} {H : Hp} {p : Addr} {Sa Sb : Sto} {ts us : List T} {vs ws : List V} (ok : Ok K F σ H r (Sa ++ (p, .lst ts) :: Sb)) (hp : H p = some (.lst vs)) (hw : TRs K H ws us) :
    Stp H (Sa ++ (p, .lst ts) :: Sb) (upd H p (.lst ws)) (Sa ++ (p, .lst us) :: Sb) ∧ Ok K F σ (upd H p (.lst ws)) r (Sa ++ (p, .lst us) :: Sb) :=
  ⟨.mut rfl rfl hp notImm_lst, ok.mut (.lst us) rfl rfl hp notImm_lst ⟨ws, upd_same, hw.keep (.mut hp notImm_lst)⟩⟩
theorem mw_append {p : Addr} {Sa Sb : Sto} {ts : List T} {y : T} {k : T → Sto → Prop} (hz : ts.length < 100000) (hk : k .non (Sa ++ (p, .lst (ts ++ [y])) :: Sb)) : mw F X rAppend p [y] r (Sa ++ (p, .lst ts) :: Sb) k := fun σ H vs Q ok trs cc => by
  obtain ⟨v, rfl, tr⟩ := trs.one
  obtain ⟨xs, hp, rs⟩ := TRs.mid ok.toOkH
  obtain ⟨st, ok2⟩ := ok.wr hp (rs.app (.cons tr .nil))
  exact ⟨p, xs, v, rfl, rfl, hp, Nat.lt_trans (by rw [rs.length]; exact hz) hundred, cc _ _ _ _ st ok2 .non hk⟩
theorem mw_extend {p b : Addr} {Sa Sb : Sto} {ts us : List T} {k : T → Sto → Prop} (hb : (b, .lst us) ∈ Sa ++ (p, .lst ts) :: Sb) (hz : ts.length + us.length ≤ 100000) (hk : k .non (Sa ++ (p, .lst (ts ++ us)) :: Sb)) : mw F X rExtend p [.ref b] r (Sa ++ (p, .lst ts) :: Sb) k := fun σ H vs Q ok trs cc => by
  obtain ⟨v, rfl, tr⟩ := trs.one
  obtain ⟨xs, hp, rs⟩ := TRs.mid ok.toOkH
  obtain ⟨ys, hb2, rs2⟩ := ok.sto _ hb
  obtain ⟨st, ok2⟩ := ok.wr hp (rs.app rs2)
  exact ⟨p, b, xs, ys, rfl, by rw [tr.ref_inv], hp, hb2, Nat.le_trans (by rw [rs.length, rs2.length]; exact hz) (Nat.le_of_lt hundred), cc _ _ _ _ st ok2 .non hk⟩
theorem mw_pop {p : Addr} {Sa Sb : Sto} {ts : List T} {y : T} {k : T → Sto → Prop} (hk : k y (Sa ++ (p, .lst ts) :: Sb)) : mw F X rPop p [] r (Sa ++ (p, .lst (ts ++ [y])) :: Sb) k := fun σ H vs Q ok trs cc => by
  cases trs
  obtain ⟨xs, hp, rs⟩ := TRs.mid ok.toOkH
  obtain ⟨v, e, tr⟩ := rs.last
  obtain ⟨st, ok2⟩ := ok.wr (us := ts) hp (by have := rs.dropLast; rwa [List.dropLast_concat] at this)
  exact ⟨p, xs, v, rfl, rfl, hp, e, cc _ _ _ _ st ok2 (tr.keep st.toI) hk⟩
theorem mw_popAt {p : Addr} {Sa Sb : Sto} {ts : List T} {i : Int} {n : Nat} {y : T} {k : T → Sto → Prop} (hi : -(2 ^ 63) ≤ i ∧ i < 2 ^ 63) (hn : seqIndex? i ts.length = some n) (hy : ts[n]? = some y) (hk : k y (Sa ++ (p, .lst (ts.eraseIdx n)) :: Sb)) : mw F X rPopAt p [.int i] r (Sa ++ (p, .lst ts) :: Sb) k := fun σ H vs Q ok trs cc => by
  obtain ⟨v, rfl, tr⟩ := trs.one
  obtain ⟨xs, hp, rs⟩ := TRs.mid ok.toOkH
  obtain ⟨w, e, trw⟩ := rs.get hy
  obtain ⟨st, ok2⟩ := ok.wr hp (rs.eraseIdx n)
  exact ⟨p, xs, i, n, w, rfl, by rw [tr.int_inv], hp, hi.1, hi.2, by rw [rs.length]; exact hn, e, cc _ _ _ _ st ok2 (trw.keep st.toI) hk⟩
theorem bw_catL {p q : Addr} {ts us : List T} {k : T → Sto → Prop} (hp : (p, .lst ts) ∈ S) (hq : (q, .lst us) ∈ S) (hz : ts.length + us.length ≤ 100000) (hk : ∀ z, z ∉ feet S → k (.ref z) ((z, .lst (ts ++ us)) :: S)) : bw F X (binaryOp .Add) (.ref p) (.ref q) r S k :=
  bw_of op_cat fun σ H x y Q ok ha hb cc => by
    obtain ⟨xs, e1, r1⟩ := ok.sto _ hp
    obtain ⟨ys, e2, r2⟩ := ok.sto _ hq
    exact ⟨p, q, xs, ys, ha.ref_inv, hb.ref_inv, e1, e2, Nat.le_trans (by rw [r1.length, r2.length]; exact hz) (Nat.le_of_lt hundred), fun z hz => cc _ _ _ _ (.put hz rfl) (ok.put (.lst _) hz rfl ⟨_, upd_same, (r1.app r2).keep (.new hz)⟩) (.ref z) (hk z (ok.toOkH.fresh hz))⟩
theorem TRs.nil_inv {K : PySem.W.Frag} {H : Hp} {ts : List T} (h : TRs K H [] ts) : ts = [] := by cases h; rfl
theorem bw_catT {ts us : List T} {k : T → Sto → Prop} (hz : ts.length + us.length ≤ 100000) (hk : k (.tup (ts ++ us)) S) : bw F X (binaryOp .Add) (.tup ts) (.tup us) r S k :=
  bw_of op_catA fun σ H x y Q ok ha hb cc => by
    obtain ⟨p, xs, rfl, s1, r1⟩ := ha.tup_inv
    obtain ⟨q, ys, rfl, s2, r2⟩ := hb.tup_inv
    refine ⟨p, q, xs, ys, rfl, rfl, s1, s2, Nat.le_trans (by rw [r1.length, r2.length]; exact hz) (Nat.le_of_lt hundred), fun e => ?_, fun _ e => ?_, fun _ _ z hz => ?_⟩
    · subst e
      rw [r1.nil_inv, List.nil_append] at hk
      exact cc _ H _ S (.refl H S) ok hb hk
    · subst e
      rw [r2.nil_inv, List.append_nil] at hk
      exact cc _ H _ S (.refl H S) ok ha hk
    · exact cc _ _ _ S (.new hz) (ok.new hz) (.tup (.inl (.inl upd_same)) ((r1.app r2).keep (.new hz))) hk
/-! o[i] = e -/
theorem s1_setL {k : KE} (h : ew F X e r S fun t S1 => ew F X o r S1 fun u S2 => ew F X a r S2 fun w S3 => ∃ p Sa Sb ts i j, u = .ref p ∧ w = .int i ∧ S3 = Sa ++ (p, .lst ts) :: Sb ∧ ixN ts.length i = some j ∧ k.nx r (Sa ++ (p, .lst (ts.set j t)) :: Sb))
    (hw : swappedStores [.Subscript o a p2] e X.env = pure none := by rfl) (hs : swapsWithSole [.Subscript o a p2] e pos.line X.env = pure false := by rfl)
    (ha : ∀ v, assign (.Subscript o a p2) X.env v = (do
      let ov ← holding [v] (eval o X.env)
      let iv ← holding [v, ov] (eval a X.env)
      standAt p2
      holding [v, ov, iv] (setItem ov iv v)
      release [v, ov, iv] []) := by intro _; rfl) (h1 : (assignEach [.Subscript o a p2] X.env).map (·.2) = [assign (.Subscript o a p2) X.env] := by rfl) :
    s1w F X (.Assign [.Subscript o a p2] e pos) r S k := by
  intro σ H D ok cc
  refine ws1_of (ps_asg peW (pg_sub peW peW set_list ha) hs hw h1) ?_
  refine h σ H _ ok fun v H1 t S1 k1 ok1 tr q => ?_
  refine q σ H1 _ ok1 fun u H2 tu S2 k2 ok2 tru q2 => ?_
  refine q2 σ H2 _ ok2 fun w H3 tw S3 k3 ok3 trw q3 => ?_
  obtain ⟨p, Sa, Sb, ts, i, j, rfl, rfl, rfl, hj, q3⟩ := q3
  obtain ⟨xs, hp, rs⟩ := TRs.mid ok3.toOkH
  obtain ⟨st, ok4⟩ := ok3.wr hp (rs.set ((tr.keep k2.toI).keep k3.toI) j)
  exact ⟨p, xs, i, j, tru.ref_inv, trw.int_inv, hp, by rw [rs.length]; exact hj, cc.nx σ _ r _ (((k1.trans k2).trans k3).trans st) ok4 q3⟩
theorem s1_dput {k : KE} (hu : X.A.units + 1 < cLine) (h : ew F X e r S fun t S1 => ew F X o r S1 fun u S2 => ew F X a r S2 fun w S3 => ∃ p Sa Sb kvs kk, u = .ref p ∧ w = kT kk ∧ S3 = Sa ++ (p, .dk kvs) :: Sb ∧ kvs.length < 100000 ∧ k.nx r (Sa ++ (p, .dk (putT kvs kk t)) :: Sb))
    (hs : swapsWith e (some (.Subscript o a p2)) pos.line X.env = pure false := by rfl) : s1w F X (.Assign [.Subscript o a p2] e pos) r S k := by
  intro σ H D ok cc
  refine ws1_of (ps_dput hu peW peW peW hs) ?_
  refine h σ H _ ok fun v H1 t S1 k1 ok1 tr q => ?_
  refine q σ H1 _ ok1 fun u H2 tu S2 k2 ok2 tru q2 => ?_
  refine q2 σ H2 _ ok2 fun w H3 tw S3 k3 ok3 trw q3 => ?_
  obtain ⟨p, Sa, Sb, kvs, kk, rfl, rfl, rfl, hz, q3⟩ := q3
  obtain ⟨vs, hp, pk⟩ := ok3.sto (p, .dk kvs) (by simp)
  have hl := pk.length
  refine ⟨p, _, tru.ref_inv, .inl ⟨vs, kk, hp, kT_tr trw, Nat.lt_trans (by rw [hl]; exact hz) hundred, rfl⟩, ?_⟩
  have tr3 := (tr.keep k2.toI).keep k3.toI
  have km : KeepI H3 (upd H3 p (.dK (putK vs kk v))) := .mut hp notImm_dK
  exact cc.nx σ _ r _ (((k1.trans k2).trans k3).trans (.mut rfl rfl hp notImm_dK)) (ok3.mut (.dk (putT kvs kk t)) rfl rfl hp notImm_dK ⟨_, upd_same, PKV.put kk (tr3.keep km) (pk.keep km)⟩) q3
/-- d[k] = e, k a tracked tuple of keys -/
theorem s1_dputT {k : KE} (hu : X.A.units + 1 < cLine) (h : ew F X e r S fun t S1 => ew F X o r S1 fun u S2 => ew F X a r S2 fun w S3 => ∃ p Sa Sb kvs kk, u = .ref p ∧ w = .kt kk ∧ S3 = Sa ++ (p, .dt kvs) :: Sb ∧ kvs.length < 100000 ∧ k.nx r (Sa ++ (p, .dt (putT kvs kk t)) :: Sb))
    (hs : swapsWith e (some (.Subscript o a p2)) pos.line X.env = pure false := by rfl) : s1w F X (.Assign [.Subscript o a p2] e pos) r S k := by
  intro σ H D ok cc
  refine ws1_of (ps_dput hu peW peW peW hs) ?_
  refine h σ H _ ok fun v H1 t S1 k1 ok1 tr q => ?_
  refine q σ H1 _ ok1 fun u H2 tu S2 k2 ok2 tru q2 => ?_
  refine q2 σ H2 _ ok2 fun w H3 tw S3 k3 ok3 trw q3 => ?_
  obtain ⟨p, Sa, Sb, kvs, kk, rfl, rfl, rfl, hz, q3⟩ := q3
  obtain ⟨b, eb, hk⟩ := trw.kt_inv
  obtain ⟨vs, hp, pk⟩ := ok3.sto (p, .dt kvs) (by simp)
  have hl := pk.length
  refine ⟨p, _, tru.ref_inv, .inr ⟨vs, kk, b, hp, eb, hk, Nat.lt_trans (by rw [hl]; exact hz) hundred, rfl⟩, ?_⟩
  have tr3 := (tr.keep k2.toI).keep k3.toI
  have km : KeepI H3 (upd H3 p (.dT (putK vs kk v))) := .mut hp notImm_dT
  exact cc.nx σ _ r _ (((k1.trans k2).trans k3).trans (.mut rfl rfl hp notImm_dT)) (ok3.mut (.dt (putT kvs kk t)) rfl rfl hp notImm_dT ⟨_, upd_same, PKV.put kk (tr3.keep km) (pk.keep km)⟩) q3
/-! tuples of keys, tracked -/
theorem TRs.keys {K : PySem.W.Frag} {H : Hp} : ∀ {vs : List V} {ks : List Key}, TRs K H vs (ks.map kT) → vs = ks.map kV
  | _, [], .nil => rfl
  | _, k :: ks, .cons r t => by rw [List.map_cons, kT_tr r, TRs.keys t]
theorem TR.kt_tup {K : PySem.W.Frag} {H : Hp} {v : V} {ks : List Key} (h : TR K H v (.kt ks)) : TR K H v (.tup (ks.map kT)) := by
  obtain ⟨a, rfl, e⟩ := h.kt_inv
  have : ∀ ks : List Key, TRs K H (ks.map kV) (ks.map kT) := fun ks => by
    induction ks with
    | nil => exact .nil
    | cons k ks ih => exact .cons (tr_kV k) ih
  exact .tup (.inl (.inl e)) (this ks)
theorem ew_tupK {es : List Expr} {x1 : _} {k : T → Sto → Prop} (h : aw F X es r S fun ts S1 => ∃ ks : List Key, ts = ks.map kT ∧ ks.length ≤ 100000 ∧ k (.kt ks) S1) : ew F X (.Tuple es x1 pos) r S k := by
  intro σ H Q ok cc
  refine we_of (pe_tup paW) ?_
  refine h σ H _ ok fun vs H1 ts S1 k1 ok1 trs q => ?_
  obtain ⟨ks, rfl, hz, q⟩ := q
  have e := trs.keys
  subst e
  refine ⟨Nat.le_trans (by simpa using hz) (by decide), fun p hp => ?_⟩
  exact cc (.ref p) _ (.kt ks) S1 (k1.trans (.new hp)) (ok1.new hp) (.kt upd_same) q
theorem bw_catK {ks ls : List Key} {k : T → Sto → Prop} (hz : ks.length + ls.length ≤ 100000) (hk : k (.kt (ks ++ ls)) S) : bw F X (binaryOp .Add) (.kt ks) (.kt ls) r S k :=
  bw_of op_catA fun σ H x y Q ok ha hb cc => by
    obtain ⟨p, rfl, s1⟩ := ha.kt_inv
    obtain ⟨q, rfl, s2⟩ := hb.kt_inv
    refine ⟨p, q, _, _, rfl, rfl, .inl (.inl s1), .inl (.inl s2), Nat.le_trans (by simpa using hz) (Nat.le_of_lt hundred), fun e => ?_, fun _ e => ?_, fun _ _ z hz => ?_⟩
    · have e : ks = [] := by simpa using e
      subst e
      exact cc _ H _ S (.refl H S) ok hb hk
    · have e : ls = [] := by simpa using e
      subst e
      rw [List.append_nil] at hk
      exact cc _ H _ S (.refl H S) ok ha hk
    · refine cc _ _ (.kt (ks ++ ls)) S (.new hz) (ok.new hz) (.kt ?_) hk
      rw [upd_same, List.map_append]
end
end PT

set_option Elab.async false
set_option linter.all false
set_option maxRecDepth 100000
set_option maxHeartbeats 2000000
set_option autoImplicit false
namespace PT
open PySem L2 PySem.Spec PyProof.Rows

/-! ### dicts -/
section
variable {F : Sto} {X : Cx} {r : Rho} {S : Sto} {pos apos cpos p2 : Pos} {e o a b f : Expr} {es : List Expr}
/-- d.get(k, x) -/
theorem ew_dget2 {k : T → Sto → Prop} (hu : X.A.units + 1 < cLine) (h : ew F X o r S fun t S1 => ∃ p kvs0, t = .ref p ∧ Rdb F S1 (p, .dk kvs0) ∧ ew F X e r S1 fun tk S2 => ew F X f r S2 fun tx S3 => ∃ kvs kk, tk = kT kk ∧ Rdb F S3 (p, .dk kvs) ∧ k ((valT kvs kk).getD tx) S3)
    (m : M2 X o "get" apos e f cpos := by exact ⟨rfl, rfl, rfl, rfl⟩) : ew F X (.Call (.Attribute o "get" apos) [e, f] [] cpos) r S k := by
  intro σ H Q ok cc
  refine we_of (pe_dget2 hu peW peW peW m) ?_
  refine h σ H _ ok fun v H1 t S1 k1 ok1 tr q => ?_
  obtain ⟨p, kvs0, rfl, hr, q⟩ := q
  obtain ⟨vs0, hp0, _⟩ := ok1.toOkH.read hr
  refine ⟨p, tr.ref_inv, .inl ⟨vs0, .inl hp0⟩, ?_⟩
  refine q σ H1 _ ok1 fun y H2 tk S2 k2 ok2 trk q2 => ?_
  refine q2 σ H2 _ ok2 fun z H3 tx S3 k3 ok3 trx q3 => ?_
  obtain ⟨kvs, kk, rfl, hr3, q3⟩ := q3
  obtain ⟨vs, hp, pk⟩ := ok3.toOkH.read hr3
  refine ⟨_, .inl ⟨vs, kk, .inl hp, kT_tr trk, rfl⟩, ?_⟩
  have pv := pk.val kk
  have st := (k1.trans k2).trans k3
  cases hv : valT kvs kk with
  | none =>
    rw [hv] at pv q3
    rw [show valV vs kk = none from pv]
    exact cc _ H3 _ S3 st ok3 trx q3
  | some t =>
    rw [hv] at pv q3
    obtain ⟨w, ew', trw⟩ := pv
    rw [ew']
    exact cc _ H3 _ S3 st ok3 trw q3
/-- list(d.items()) -/
def pairT (p : Key × T) : T := .tup [kT p.1, p.2]
theorem ew_listItems {p : Pos} {k : T → Sto → Prop} (hc : X.calm = true) (hm : X.mg "list" = none) (h : ew F X e r S fun t S1 => ∃ d kvs, t = .ref d ∧ Rdb F S1 (d, .dk kvs) ∧ ∀ q, q ∉ feet S1 → k (.ref q) ((q, .lst (kvs.map pairT)) :: S1))
    (hg : Gl X "list" := by rfl) (hbase : attributeBase e "items" X.env (eval e X.env) = eval e X.env := by rfl) (hline : (apos.endLine == cpos.line) = true := by rfl)
    (hs : starEach [.Call (.Attribute e "items" apos) [] [] cpos] X.env = (false, eval (.Call (.Attribute e "items" apos) [] [] cpos) X.env) :: starEach [] X.env := by rfl) :
    ew F X (.Call (.Name "list" p) [.Call (.Attribute e "items" apos) [] [] cpos] [] pos) r S k := by
  intro σ H Q ok cc
  refine we_of (LiI.pe_listItems hc peW hg hm boot_list hbase hline hs) ?_
  refine h σ H _ ok fun v H1 t S1 k1 ok1 tr q => ?_
  obtain ⟨d, kvs, rfl, hr, q⟩ := q
  obtain ⟨vs, hd, pk⟩ := ok1.toOkH.read hr
  refine ⟨d, vs, tr.ref_inv, hd, fun H' z ts g hz hts hzt hl hp => ?_⟩
  have gr : ∀ a o, H1 a = some o → H' a = some o := g
  have kp : KeepI H1 H' := fun a o _ e => g a o e
  have rs : TRs X.K H' (ts.map V.ref) (kvs.map pairT) := by
    have pk2 := pk.keep kp
    clear cc q hr hd pk hl hts hzt
    revert pk2
    generalize kvs = us
    intro pk2
    induction hp generalizing us with
    | nil => cases pk2; exact .nil
    | cons h1 h2 ih =>
      cases pk2 with
      | cons g1 g2 =>
        refine .cons (.tup (.inl (.inl h1)) (.cons ?_ (.cons g1.2 .nil))) (ih _ g2)
        rw [g1.1]; exact tr_kV _
  have fre : ∀ a, H' a = none → H1 a = none := fun a e => by
    cases e1 : H1 a with
    | none => rfl
    | some o => rw [g a o e1] at e; cases e
  have hzs := ok1.toOkH.fresh hz
  have st : Stp H1 S1 H' ((z, .lst (kvs.map pairT)) :: S1) := ⟨fun a o _ e => g a o e, fre, fun a ha => by
    rcases List.mem_cons.mp (show a ∈ z :: feet S1 from ha) with rfl | ha
    · exact .inr hz
    · exact .inl ha⟩
  have gw : Grw H1 H' := ⟨g⟩
  exact cc _ H' (.ref z) _ (k1.trans st) ((ok1.grw gw).add ⟨_, hl, rs⟩ rfl hzs (ok1.toOkH.offF hz)) (.ref z) (q z hzs)
/-- dict(a list of pairs) -/
def mergeT (kvs more : List (Key × T)) : List (Key × T) := more.foldl (fun acc kv => putT acc kv.1 kv.2) kvs
theorem PKV.merge {K : PySem.W.Frag} {H : Hp} : ∀ {more : List (Key × V)} {mt : List (Key × T)} {kvs : List (Key × V)} {ks : List (Key × T)}, PKV K H more mt → PKV K H kvs ks → PKV K H (mergeK kvs more) (mergeT ks mt) := by
  intro more mt kvs ks h
  induction h generalizing kvs ks with
  | nil => intro g; exact g
  | @cons p q ps qs h t ih =>
    intro g
    have e : p.1 = q.1 := h.1
    have := ih (PKV.put p.1 h.2 g)
    rw [e] at this
    show PKV K H (mergeK (putK kvs p.1 p.2) ps) (mergeT (putT ks q.1 q.2) qs)
    rw [e]
    exact this
theorem cw_dictP {p : Addr} {kvs : List (Key × T)} {k : T → Sto → Prop} (hc : X.calm = true) (hp : Rdb F S (p, .lst (kvs.map pairT))) (hk : ∀ q, q ∉ feet S → k (.ref q) ((q, .dk (mergeT [] kvs)) :: S)) : cw F X (.type "dict") [.ref p] r S k :=
  cw_of (call_dictP hc) fun σ H xs Q ok trs cc => by
    obtain ⟨v, rfl, tr⟩ := trs.one
    obtain ⟨vs, rd, rs⟩ := ok.toOkH.read hp
    have : ∀ {kvs : List (Key × T)} {vs : List V}, TRs X.K H vs (kvs.map pairT) → ∃ (ps : List Addr) (ws : List (Key × V)), vs = ps.map V.ref ∧ Paired (fun p kv => SqT X.K H p [kV kv.1, kv.2]) ps ws ∧ PKV X.K H ws kvs := by
      intro kvs
      induction kvs with
      | nil => intro vs h; cases h; exact ⟨[], [], rfl, .nil, .nil⟩
      | cons kv kvs ih =>
        intro vs h
        cases h with
        | cons h1 h2 =>
          obtain ⟨ps, ws, rfl, g1, g2⟩ := ih h2
          obtain ⟨a, xs, rfl, sq, r2⟩ := h1.tup_inv
          obtain ⟨v1, v2, rfl, t1, t2⟩ := r2.two
          rw [kT_tr t1] at sq
          exact ⟨a :: ps, (kv.1, v2) :: ws, rfl, .cons sq g1, .cons ⟨rfl, t2⟩ g2⟩
    obtain ⟨ps, ws, rfl, g1, g2⟩ := this rs
    refine ⟨p, ps, ws, by rw [tr.ref_inv], .inl rd, g1, fun z hz => ?_⟩
    exact cc _ _ _ _ (.put hz rfl) (ok.put (.dk _) hz rfl ⟨_, upd_same, (PKV.merge g2 .nil).keep (.new hz)⟩) (.ref z) (hk z (ok.toOkH.fresh hz))
/-- sorted(d), its keys texts -/
theorem cw_sortD {p : Addr} {kvs : List (Key × T)} {ks : List Str} {k : T → Sto → Prop} (hc : X.calm = true) (hp : Rdb F S (p, .dk kvs)) (hks : kvs.map (·.1) = ks.map Sum.inr) (hl : ks.length < 64) (hk : ∀ ys q, ys.Perm ks → sortedS ys = true → q ∉ feet S → k (.ref q) ((q, .lst (ys.map T.str)) :: S)) : cw F X (.builtin "sorted") [.ref p] r S k :=
  cw_of (call_sortedD hc) fun σ H xs Q ok trs cc => by
    obtain ⟨v, rfl, tr⟩ := trs.one
    obtain ⟨vs, hd, pk⟩ := ok.toOkH.read hp
    have e : vs.map (·.1) = ks.map Sum.inr := by
      rw [← hks]
      clear hks hk hp hd
      induction pk with
      | nil => rfl
      | cons h t ih => rw [List.map_cons, List.map_cons, h.1, ih]
    exact ⟨p, vs, ks, by rw [tr.ref_inv], .inl hd, e, hl, fun ys q hy hs hq => cc _ _ _ _ (.put hq rfl) (ok.put (.lst _) hq rfl ⟨_, upd_same, .ofStrs ys⟩) (.ref q) (hk ys q hy hs (ok.toOkH.fresh hq))⟩
/-- {k: v} -/
theorem ew_disp1 {kx vx : Expr} {k : T → Sto → Prop} (h : ew F X kx r S fun tk S1 => ew F X vx r S1 fun tv S2 => ∃ kk, tk = kT kk ∧ ∀ q, q ∉ feet S2 → k (.ref q) ((q, .dk [(kk, tv)]) :: S2)) : ew F X (.Dict [some kx] [vx] pos) r S k := by
  intro σ H Q ok cc
  refine we_of (pe_disp (pps_cons peW peW pps_nil) rfl rfl (by simp) (by simp)) fun p hp => ?_
  have offS := ok.toOkH.fresh hp
  have offF := ok.toOkH.offF hp
  refine h σ _ _ (ok.new hp) fun x H1 tk S1 k1 ok1 trk q => ?_
  refine q σ H1 _ ok1 fun y H2 tv S2 k2 ok2 trv q2 => ?_
  obtain ⟨kk, rfl, q2⟩ := q2
  have k12 := k1.trans k2
  have hp2 : H2 p = some (.dK []) := k12.at_ p _ (.inl offS) upd_same
  have off2 := k12.off upd_same offS
  refine ⟨hp2, [(kk, y)], by rw [kT_tr (trk)]; rfl, by simp, ?_⟩
  have st : Stp H S H2 S2 := (Stp.new hp).trans k12
  have st2 := st.side (o := .dK (mergeK [] [(kk, y)])) hp
  have ok3 := ok2.side (o := .dK (mergeK [] [(kk, y)])) hp2 notImm_dK off2 offF
  have km : KeepI H2 (upd H2 p (.dK (mergeK [] [(kk, y)]))) := .mut hp2 notImm_dK
  refine cc _ _ (.ref p) _ ⟨st2.at_, st2.fre, fun a ha => ?_⟩ (ok3.add (m := .dk [(kk, tv)]) ⟨_, upd_same, .cons ⟨rfl, trv.keep km⟩ .nil⟩ rfl off2 offF) (.ref p) (q2 p off2)
  rcases List.mem_cons.mp (show a ∈ p :: feet S2 from ha) with rfl | ha
  · exact .inr hp
  · exact st2.own a ha
/-- name op= e of ints -/
theorem s1_aug {i : Nat} {x : Str} {j : Int} {pos' : Pos} {k : KE} (hN : X.N.Nodup) (hi : X.N[i]? = some x) (hr : r[i]? = some (some (.int j))) (h : ew F X e r S fun t S1 => ∃ n, t = .int n ∧ k.nx (r.set i (some (.int (j + n)))) S1)
    (hx : Loc X.env.scope x := by first | exact .inl rfl | exact .inr rfl) (hf : X.fn x = true ∨ X.env.scope.names.lookup x = some .local := by first | exact .inl rfl | exact .inr rfl) : s1w F X (.AugAssign (.Name x pos') .Add e pos) r S k := by
  intro σ H D ok cc
  refine ws1_of (ps_aug hN hi hx peW ip_add hf) ?_
  obtain ⟨v, ev, tr⟩ := ok.loc i _ hr
  refine ⟨v, ev, h σ H _ ok fun y H1 t S1 k1 ok1 trt q => ?_⟩
  obtain ⟨n, rfl, q⟩ := q
  exact ⟨j, n, tr.int_inv, trt.int_inv, cc.nx _ H1 _ S1 k1 (ok1.set (.int (j + n))) q⟩
/-- enumerate(list) -/
theorem iw_enum {elts : List Expr} {kk : Nat} {tpos p : Pos} {k : List T → (Sto → Prop) → Sto → Prop} (hm : X.mg "enumerate" = none) (h : ew F X e r S fun t S1 => ∃ q ts, t = .ref q ∧ Rdb F S1 (q, .lst ts) ∧ k (ts.mapIdx fun i t => .tup [.int (i : Nat), t]) (fun S2 => Rdb F S2 (q, .lst ts)) S1)
    (hg : Gl X "enumerate" := by rfl) (hs : starEach [e] X.env = [(false, eval e X.env)] := by rfl) : iw F X (.Tuple elts kk tpos) (.Call (.Name "enumerate" p) [e] [] pos) r S k := by
  refine ⟨_, pi_enum hg hm (pa_cons peW pa_nil hs) hs, fun σ H R ok cc => ?_⟩
  refine h σ H _ ok fun v H1 t S1 k1 ok1 tr q => ?_
  obtain ⟨q', ts, rfl, hr, q⟩ := q
  obtain ⟨vs, rd, rs⟩ := ok1.toOkH.read hr
  refine ⟨q', vs, by rw [tr.ref_inv], .inl rd, cc _ H1 _ (fun S2 => Rdb F S2 (q', .lst ts)) S1 (fun H2 => ∃ ws, SqL X.K H2 q' ws ∧ TRs X.K H2 ws ts) k1 ok1 ⟨fun n H2 ⟨ws, s, w⟩ hn => ?_, fun n H2 x H' ⟨ws, s, w⟩ hn y => ?_, fun n H2 ⟨ws, s, w⟩ hn => ?_⟩ (fun H2 S2 ok2 _ r2 => ?_) q⟩
  · rw [List.length_mapIdx] at hn
    exact ⟨ws, ws[n]'(by rw [w.length]; exact hn), s, by simp [w.length, hn]⟩
  · obtain ⟨z, x1, rfl, hz, rfl, y⟩ := y
    obtain ⟨t, h1, h2⟩ := w.get' (y ws s)
    refine ⟨⟨fun a o e => by rw [upd_ne (ne_of_none e hz)]; exact e⟩, .tup [.int (n : Nat), t], by rw [List.getElem?_mapIdx, h1]; rfl, .tup (.inl (.inl upd_same)) (.cons (.int _) (.cons (h2.keep (.new hz)) .nil))⟩
  · rw [List.length_mapIdx] at hn
    exact ⟨ws, s, by rw [w.length]; exact hn⟩
  · obtain ⟨ws, rd, rs⟩ := ok2.read r2
    exact ⟨ws, .inl rd, rs⟩
end
end PT

set_option Elab.async false
set_option linter.all false
set_option maxRecDepth 100000
set_option maxHeartbeats 2000000
set_option autoImplicit false
namespace PT
open PySem L2 PySem.Spec PyProof.Rows

/-! ### the def rule -/
/-- what a call stands in -/
structure BA where
  (f : Addr) (cdv : Value) (A : Around) (outer : List Env) (s : Shared) (H : Hp) (E : XK)
def bx (P : Program) (w : World) (K : PySem.W.Frag) (mg : Str → Option Value) (base : Heap) (N : List Str) (qual : Str) (st : Stmt) (a : BA) : Cx := (cxOf CX0 P w K mg base N qual (defScope st) a.f a.cdv a.A a.outer a.s a.H a.E).nox
/-- a def of the text -/
structure Df (K : PySem.W.Frag) (mg : Str → Option Value) (x : Str) (st : Stmt) (ps : List Str) : Prop where
  ex : ∃ f fd, Fun K x x st f fd ∧ mg x = some (.ref f) ∧ Binds K fd ps []
section
variable {P : Program} {w : World} {K : PySem.W.Frag} {mg : Str → Option Value} {base : Heap} {x : Str} {st : Stmt} {N ps : List Str} {n : Nat}
/-- the slots at the start -/
def slots (N : List Str) (ts : List T) : Rho := ts.map some ++ List.replicate (N.length - ts.length) none
theorem slots_ok {F : Sto} {H : Hp} {S : Sto} {vs : List V} {ts : List T} (trs : TRs K H vs ts) (ok : OkH K F H S) : Ok K F (L2.start N vs) H (slots N ts) S := by
  refine ⟨ok, ?_, fun i t e => ?_⟩
  · unfold slots L2.start; simp [trs.length]
  · unfold slots at e
    by_cases hi : i < ts.length
    · rw [List.getElem?_append_left (by simpa using hi), List.getElem?_map] at e
      obtain ⟨u, h1, h2⟩ := Option.map_eq_some_iff.mp e
      cases h2
      obtain ⟨v, h3, h4⟩ := trs.get h1
      refine ⟨v, ?_, h4⟩
      unfold L2.start
      rw [List.getElem?_append_left (by rw [List.length_map, trs.length]; exact hi), List.getElem?_map, h3]
      rfl
    · rw [List.getElem?_append_right (by simpa using hi), List.getElem?_replicate] at e
      split at e
      · cases e
      · cases e
theorem cl_of {c : Con} (D : Df K mg x st ps) (S : FnScope N ps (defScope st)) (hlen : ∀ ts F S k, c ts F S k → ts.length = ps.length)
    (h : ∀ a : BA, Room n (bx P w K mg base N x st a).A → ∀ ts F S k, c ts F S k → sw F (bx P w K mg base N x st a) (defBody st) (slots N ts) S { nx := fun _ S' => k .non S', rt := k }) : Cl P w K mg base (n + 1) x c := by
  obtain ⟨f, fd, G, hm, hb⟩ := D.ex
  refine ⟨f, fd, ps, G.ok S (fun vs H Q E ⟨ts, F, S, k, trs, _, hc, _⟩ => by rw [trs.length]; exact hlen ts F S k hc) (fun cdv A outer s H vs Q E hr ⟨ts, F, S1, k, trs, ok, hc, post⟩ => ?_), hm, G.kp, hb⟩
  refine ⟨_, psW, ?_⟩
  have q := h ⟨f, cdv, A, outer, s, H, E⟩ hr ts F S1 k hc (L2.start N vs) H { nx := fun _ H' => Q .non H', rt := Q } (slots_ok trs ok)
  refine q ⟨fun σ' H' r' S' s2 ok2 hk => post .non H' .non S' s2 ok2.toOkH .non hk, fun v H' t S' s2 ok2 tr hk => post v H' t S' s2 ok2 tr hk, fun _ _ _ _ _ _ z => z.elim, fun _ _ _ _ _ _ z => z.elim⟩
end
/-- a function of data: reads F, leaves nothing -/
def Fn (pre : List T → Sto → (T → Prop) → Prop) : Con := fun ts F S k => S = [] ∧ pre ts F fun t => k t []
section
variable {F : Sto} {X : Cx} {r : Rho} {S : Sto} {pos : Pos} {e : Expr} {es : List Expr}
theorem ew_callF {x : Str} {p : Pos} {n : Nat} {pre : List T → Sto → (T → Prop) → Prop} {k : T → Sto → Prop} (C : Cl X.prog X.w X.K X.mg X.base n x (Fn pre)) (hr : Room n X.A)
    (h : aw F X (e :: es) r S fun ts S1 => ∃ Fc, (∀ p ∈ Fc, p ∈ F ∨ p ∈ S1) ∧ pre ts Fc fun t => k t S1)
    (hg : Gl X x := by rfl) (hdb : (x == ("__debug__" : Str)) = false := by decide) (he : starEach (e :: es) X.env = (false, eval e X.env) :: starEach es X.env := by rfl) (hpl : (backTo pos (starEach es X.env)).any (·.1) = false := by rfl) :
    ew F X (.Call (.Name x p) (e :: es) [] pos) r S k := by
  refine ew_call C hr ?_ hg hdb he hpl
  intro σ H Q ok cc
  refine h σ H Q ok fun vs H1 ts S1 st ok1 trs q => cc vs H1 ts S1 st ok1 trs ?_
  obtain ⟨Fc, hf, q⟩ := q
  refine ⟨[], [], S1, Fc, rfl, fun p hp => ?_, rfl, q⟩
  rcases hf p hp with h | h
  · exact .inl h
  · exact .inr (.inr h)
end
end PT

set_option Elab.async false
set_option linter.all false
set_option maxRecDepth 100000
set_option maxHeartbeats 2000000
set_option autoImplicit false
namespace PT
open PySem L2 PySem.Spec PyProof.Rows
/-- the built-in names that no def hides -/
structure Mg (mg : Str → Option Value) : Prop where
  (len : mg "len" = none) (sum : mg "sum" = none) (all : mg "all" = none) (any : mg "any" = none) (sorted : mg "sorted" = none) (isinstance : mg "isinstance" = none) (abs : mg "abs" = none)
  (tuple : mg "tuple" = none) (list : mg "list" = none) (dict : mg "dict" = none) (str : mg "str" = none) (int : mg "int" = none) (range : mg "range" = none) (enumerate : mg "enumerate" = none)
section
variable {F : Sto} {X : Cx} {r : Rho} {S : Sto} {pos : Pos} {e : Expr} {es : List Expr}
/-- data with its own form, not deeper than n -/
def Fit (n : Nat) (t : T) : Prop := ∃ d, T.py t = some d ∧ d.canLay0 = true ∧ d.depth ≤ n
theorem fits_all {n : Nat} : ∀ {ts : List T}, (∀ t ∈ ts, Fit n t) → ∃ ds, T.pys ts = some ds ∧ PyData.canLayAll0 ds = true ∧ PyData.depthAll ds ≤ n ∧ (ds = [] ↔ ts = [])
  | [], _ => ⟨[], rfl, rfl, Nat.zero_le _, by simp⟩
  | t :: ts, h => by
    obtain ⟨d, h1, h2, h3⟩ := h t (by simp)
    obtain ⟨ds, g1, g2, g3, _⟩ := fits_all (ts := ts) fun u hu => h u (by simp [hu])
    refine ⟨d :: ds, by rw [T.pys, h1, g1], ?_, ?_, by simp⟩
    · rw [PyData.canLayAll0, h2, g2]; rfl
    · rw [PyData.depthAll]; omega
/-- a list of data is not empty -/
theorem bw_neE {p q : Addr} {ts : List T} {k : T → Sto → Prop} (hu : X.A.units + 64 < cLine) (hp : Rdb F S (p, .lst ts)) (hq : Rdb F S (q, .lst [])) (hd : ∀ t ∈ ts, Fit 63 t) (hk : k (.bl (!ts.isEmpty)) S) : bw F X (compareOp .NotEq) (.ref p) (.ref q) r S k :=
  bw_of (op_neD hu) fun σ H x y Q ok ha hb cc => by
    obtain ⟨xs, rd, rs⟩ := ok.toOkH.read hp
    obtain ⟨ys, rd2, rs2⟩ := ok.toOkH.read hq
    obtain ⟨ds, g1, g2, g3, g4⟩ := fits_all hd
    cases rs2
    refine ⟨.list ds, .list [], ?_, ?_, ?_, by decide, ?_⟩
    · rw [ha.ref_inv]; exact .lst (.inl rd) (rs.dp g1)
    · rw [hb.ref_inv]; exact .lst (.inl rd2) .nil
    · unfold SeqAt.shaped
      rw [Bool.and_eq_true, decide_eq_true_eq]
      exact ⟨by rw [PyData.canLay0]; exact g2, by rw [PyData.depth]; omega⟩
    · have e : PyData.eqv (.list ds) (.list []) = ts.isEmpty := by
        cases ts with
        | nil => rw [g4.mpr rfl]; rfl
        | cons t ts =>
          cases ds with
          | nil => have := g4.mp rfl; cases this
          | cons d ds => rfl
      rw [e]
      exact cc _ H _ S (.refl H S) ok (.bl _) hk
theorem eqT_fit {ta tb : T} {d e : PyData} (h1 : T.py ta = some d) (h2 : T.py tb = some e) (c1 : d.canLay0 = true) (c2 : e.canLay0 = true) (d1 : d.depth ≤ 64) (d2 : e.depth ≤ 64) : EqT ta tb (PyData.eqv d e) :=
  ⟨d, e, h1, h2, by unfold SeqAt.shaped; rw [c1]; simpa using d1, by unfold SeqAt.shaped; rw [c2]; simpa using d2, rfl⟩
theorem cw_int {i : Int} {k : T → Sto → Prop} (hk : k (.int i) S) : cw F X (.type "int") [.int i] r S k :=
  cw_of call_int1 fun σ H xs Q ok trs cc => by
    obtain ⟨v, rfl, tr⟩ := trs.one
    exact .inl ⟨i, by rw [tr.int_inv], cc _ H _ S (.refl H S) ok (.int _) hk⟩
theorem cw_abs {i : Int} {k : T → Sto → Prop} (hk : k (.int (if i < 0 then -i else i)) S) : cw F X (.builtin "abs") [.int i] r S k :=
  cw_of call_abs fun σ H xs Q ok trs cc => by
    obtain ⟨v, rfl, tr⟩ := trs.one
    exact ⟨i, by rw [tr.int_inv], cc _ H _ S (.refl H S) ok (.int _) hk⟩
/-! what is no more needed is left out -/
theorem feet_sub {S S' : Sto} (h : S'.Sublist S) : (feet S').Sublist (feet S) := by
  induction h with
  | slnil => exact .slnil
  | cons a h ih =>
    show (feet _).Sublist (foot a ++ feet _)
    exact ih.trans (List.sublist_append_right _ _)
  | cons_cons a h ih =>
    show (foot a ++ feet _).Sublist (foot a ++ feet _)
    exact ih.append_left _
theorem OkH.sub {K : PySem.W.Frag} {H : Hp} {S S' : Sto} (ok : OkH K F H S) (h : S'.Sublist S) : OkH K F H S' :=
  ⟨fun p hp => ok.sto p (h.subset hp), ok.nd.sublist (feet_sub h), fun p hp => ⟨(ok.rdo p hp).1, fun a ha hs => (ok.rdo p hp).2 a ha ((feet_sub h).subset hs)⟩⟩
theorem Stp.sub {H H' : Hp} {S S1 S2 : Sto} (st : Stp H S H' S1) (h : S2.Sublist S1) : Stp H S H' S2 := ⟨st.at_, st.fre, fun a ha => st.own a ((feet_sub h).subset ha)⟩
theorem ew_drop {k : T → Sto → Prop} (h : ew F X e r S fun t S1 => ∃ S2, S2.Sublist S1 ∧ k t S2) : ew F X e r S k := fun σ H Q ok cc =>
  h σ H Q ok fun v H1 t S1 st ok1 tr ⟨S2, hs, q⟩ => cc v H1 t S2 (st.sub hs) ⟨ok1.toOkH.sub hs, ok1.len, ok1.loc⟩ tr q
theorem sw_drop {sts : List Stmt} {k : KE} {S2 : Sto} (hs : S2.Sublist S) (h : sw F X sts r S2 k) : sw F X sts r S k := fun σ H D ok cc => by
  have st : Stp H S H S2 := (Stp.refl H S).sub hs
  exact h σ H D ⟨ok.toOkH.sub hs, ok.len, ok.loc⟩ (cc.mono st)
/-- what is known of a slot is left out -/
theorem Ok.less {K : PySem.W.Frag} {σ : L2.St} {H : Hp} {r' : Rho} (ok : Ok K F σ H r S) (hl : r'.length = r.length) (h : ∀ (i : Nat) (t : T), r'[i]? = some (some t) → r[i]? = some (some t)) : Ok K F σ H r' S := ⟨ok.toOkH, by rw [hl, ok.len], fun i t e => ok.loc i t (h i t e)⟩
end
section
variable {P : Program} {w : World} {K : PySem.W.Frag} {mg : Str → Option Value} {base : Heap} {x : Str} {st : Stmt} {ps : List Str}
/-- nothing is promised without a call -/
theorem cl_zero {c : Con} (D : Df K mg x st ps) (h : ∀ ts F S k, ¬ c ts F S k) : Cl P w K mg base 0 x c := by
  obtain ⟨f, fd, G, hm, hb⟩ := D.ex
  have no : ∀ vs H Q E, ¬ spOf K c vs H Q E := fun vs H Q E ⟨ts, F, S, k, _, _, hc, _⟩ => h ts F S k hc
  exact ⟨f, fd, ps, ⟨fun vs H Q E q => absurd q (no vs H Q E), fun A outer s H args us vs Q E _ _ _ _ q => absurd q (no vs H Q E)⟩, hm, G.kp, hb⟩
end
end PT

set_option Elab.async false
set_option linter.all false
set_option maxRecDepth 100000
set_option maxHeartbeats 2000000
set_option autoImplicit false
namespace PT
open PySem L2 PySem.Spec PyProof.Rows
/-- a knows no more than b -/
def lessT : Rho → Rho → Prop
  | [], [] => True
  | none :: a, _ :: b => lessT a b
  | some t :: a, some u :: b => t = u ∧ lessT a b
  | _, _ => False
theorem lessT.len : ∀ {a b : Rho}, lessT a b → a.length = b.length
  | [], [], _ => rfl
  | none :: a, _ :: b, h => congrArg (· + 1) (lessT.len (a := a) (b := b) h)
  | some t :: a, some u :: b, h => congrArg (· + 1) (lessT.len (a := a) (b := b) h.2)
theorem lessT.at : ∀ {a b : Rho} {i : Nat} {t : T}, lessT a b → a[i]? = some (some t) → b[i]? = some (some t)
  | [], [], i, t, _, e => by simp at e
  | none :: a, _ :: b, 0, t, h, e => by simp at e
  | none :: a, _ :: b, i + 1, t, h, e => by simpa using lessT.at (a := a) (b := b) (i := i) h (by simpa using e)
  | some s :: a, some u :: b, 0, t, h, e => by
    have h1 := h.1
    subst h1
    simpa using e
  | some s :: a, some u :: b, i + 1, t, h, e => by simpa using lessT.at (a := a) (b := b) (i := i) h.2 (by simpa using e)
theorem lessT.refl : ∀ a : Rho, lessT a a
  | [] => trivial
  | none :: a => lessT.refl a
  | some t :: a => ⟨rfl, lessT.refl a⟩
section
variable {F : Sto} {X : Cx} {r : Rho} {S : Sto} {pos : Pos} {tg iter c e : Expr} {body sts : List Stmt}
theorem sw_less {r0 : Rho} {k : KE} (h : lessT r0 r) (q : sw F X sts r0 S k) : sw F X sts r S k := fun σ H D ok cc => q σ H D (ok.less h.len fun i t e => h.at e) cc
/-- what is wanted, at slots that know more -/
def KE.up (k : KE) : KE := { nx := fun r S => ∃ r0, lessT r0 r ∧ k.nx r0 S, rt := k.rt, bk := fun r S => ∃ r0, lessT r0 r ∧ k.bk r0 S, ct := fun r S => ∃ r0, lessT r0 r ∧ k.ct r0 S }
theorem Ok.low {K : PySem.W.Frag} {σ : L2.St} {H : Hp} {r0 : Rho} (ok : Ok K F σ H r S) (h : lessT r0 r) : Ok K F σ H r0 S := ok.less h.len fun i t e => h.at e
theorem CoS.up {K : PySem.W.Frag} {H : Hp} {k : KE} {D : Ends} (cc : CoS K F H S k D) : CoS K F H S k.up D :=
  ⟨fun σ' H' r' S' st ok' ⟨r0, l, q⟩ => cc.nx σ' H' r0 S' st (ok'.low l) q, cc.rt, fun σ' H' r' S' st ok' ⟨r0, l, q⟩ => cc.bk σ' H' r0 S' st (ok'.low l) q, fun σ' H' r' S' st ok' ⟨r0, l, q⟩ => cc.ct σ' H' r0 S' st (ok'.low l) q⟩
theorem s1_up {st : Stmt} {k : KE} (h : s1w F X st r S k.up) : s1w F X st r S k := fun σ H D ok cc => h σ H D ok cc.up
theorem sw_up {k : KE} (h : sw F X sts r S k.up) : sw F X sts r S k := fun σ H D ok cc => h σ H D ok cc.up
/-- a block's ends may be weakened -/
theorem sw_imp {k k' : KE} (h : sw F X sts r S k) (i1 : ∀ r S, k.nx r S → k'.nx r S) (i2 : ∀ t S, k.rt t S → k'.rt t S) (i3 : ∀ r S, k.bk r S → k'.bk r S) (i4 : ∀ r S, k.ct r S → k'.ct r S) : sw F X sts r S k' := fun σ H D ok cc =>
  h σ H D ok ⟨fun σ' H' r' S' st ok' q => cc.nx σ' H' r' S' st ok' (i1 _ _ q), fun v H' t S' st ok' tr q => cc.rt v H' t S' st ok' tr (i2 _ _ q), fun σ' H' r' S' st ok' q => cc.bk σ' H' r' S' st ok' (i3 _ _ q), fun σ' H' r' S' st ok' q => cc.ct σ' H' r' S' st ok' (i4 _ _ q)⟩
theorem tw_imp {k k' : Bool → Sto → Prop} (h : tw F X c r S k) (i : ∀ b S, k b S → k' b S) : tw F X c r S k' := fun σ H Q ok cc => h σ H Q ok fun b H' S' st ok' q => cc b H' S' st ok' (i _ _ q)
theorem tw_less {r0 : Rho} {k : Bool → Sto → Prop} (h : lessT r0 r) (q : tw F X c r0 S k) : tw F X c r S k := fun σ H Q ok cc =>
  q σ H Q (ok.low h) fun d H2 S2 st ok3 z => cc d H2 S2 st ⟨ok3.toOkH, ok.len, fun i t e => let ⟨v, h3, h4⟩ := ok.loc i t e; ⟨v, h3, h4.keep st.toI⟩⟩ z
/-- while with the slots r0 at each turn's start -/
theorem s1_whileW {k : KE} (r0 : Rho) (hp : PassesOwn (model X.prog X.w) X.A X.env X.xe) (P : Nat → Sto → Prop) (h0 : lessT r0 r) (h1 : ∃ m, P m S)
    (hs : ∀ m S1, P m S1 → tw F X c r0 S1 fun d S2 => (d = true → sw F X body r0 S2 { k with nx := fun r3 S3 => lessT r0 r3 ∧ ∃ m', m' < m ∧ P m' S3, ct := fun r3 S3 => lessT r0 r3 ∧ ∃ m', m' < m ∧ P m' S3, bk := k.nx }) ∧ (d = false → k.nx r0 S2)) :
    s1w F X (.While c body [] pos) r S k := by
  refine s1_up (s1_while hp (fun m r1 S1 => lessT r0 r1 ∧ P m S1) (h1.imp fun m p => ⟨h0, p⟩) ?_)
  rintro m r1 S1 ⟨l, p⟩
  refine tw_imp (tw_less l (hs m S1 p)) fun d S2 q => ⟨fun hd => ?_, fun hd => ⟨r0, l, q.2 hd⟩⟩
  refine sw_less l (sw_imp (q.1 hd) (fun r S z => z.2.imp fun m' y => ⟨y.1, z.1, y.2⟩) (fun _ _ z => z) (fun r S z => ⟨r, lessT.refl r, z⟩) (fun r S z => z.2.imp fun m' y => ⟨y.1, z.1, y.2⟩))
/-- for with the slots r0 at each turn's start -/
theorem s1_forW {k : KE} {g : TG} {up : T → Rho → Option Rho} {vs : List Nat} (r0 : Rho) (hp : PassesOwn (model X.prog X.w) X.A X.env X.xe) (hc : X.calm = true) (hg : PG X tg g) (ht : Tgt X.K g up vs) (h0 : lessT r0 r)
    (h : iw F X tg iter r S fun ts rd S1 => ∃ P : Nat → Sto → Prop, P 0 S1 ∧ (∀ n S2, P n S2 → rd S2) ∧
      (∀ n u S2, ts[n]? = some u → P n S2 → ∃ r3, up u r0 = some r3 ∧ sw F X body r3 S2 { k with nx := fun r4 S4 => lessT r0 r4 ∧ P (n + 1) S4, ct := fun r4 S4 => lessT r0 r4 ∧ P (n + 1) S4, bk := k.nx }) ∧ ∀ S2, P ts.length S2 → k.nx r0 S2)
    (hup : ∀ u r1 r3, lessT r0 r1 → up u r0 = some r3 → ∃ r4, up u r1 = some r4 ∧ lessT r3 r4)
    (hs : ∀ x, foldedSetIterable iter X.env x = pure x := by intro _; rfl) : s1w F X (.For tg iter body [] pos) r S k := by
  refine s1_up (s1_for hp hc hg ht ?_ hs)
  obtain ⟨wi, hi, h⟩ := h
  refine ⟨wi, hi, fun σ H R ok cc => h σ H R ok fun J H1 ts rd S1 Q st ok1 it hR q => cc J H1 ts rd S1 Q st ok1 it hR ?_⟩
  obtain ⟨P, p0, hl, hstep, hd⟩ := q
  refine ⟨fun n r2 S2 => lessT r0 r2 ∧ P n S2, ⟨h0, p0⟩, fun n r2 S2 p => hl n S2 p.2, fun n u r2 S2 hu p => ?_, fun r2 S2 p => ⟨r0, p.1, hd S2 p.2⟩⟩
  obtain ⟨r3, e3, hb⟩ := hstep n u S2 hu p.2
  obtain ⟨r4, e4, l4⟩ := hup u r2 r3 p.1 e3
  exact ⟨r4, e4, sw_less l4 (sw_imp hb (fun _ _ z => z) (fun _ _ z => z) (fun r S z => ⟨r, lessT.refl r, z⟩) (fun _ _ z => z))⟩
theorem lessT.set : ∀ {a b : Rho} (i : Nat) (t : T), lessT a b → lessT (a.set i (some t)) (b.set i (some t))
  | [], [], _, _, _ => trivial
  | none :: a, o :: b, 0, t, h => ⟨rfl, h⟩
  | none :: a, o :: b, i + 1, t, h => lessT.set (a := a) (b := b) i t h
  | some s :: a, some u :: b, 0, t, h => ⟨rfl, h.2⟩
  | some s :: a, some u :: b, i + 1, t, h => ⟨h.1, lessT.set (a := a) (b := b) i t h.2⟩
theorem up1_less {i : Nat} {r0 : Rho} : ∀ u r1 r3, lessT r0 r1 → up1 i u r0 = some r3 → ∃ r4, up1 i u r1 = some r4 ∧ lessT r3 r4 := fun u r1 r3 h e => by cases e; exact ⟨_, rfl, h.set i u⟩
theorem up2_less {i j : Nat} {r0 : Rho} : ∀ u r1 r3, lessT r0 r1 → up2 i j u r0 = some r3 → ∃ r4, up2 i j u r1 = some r4 ∧ lessT r3 r4 := fun u r1 r3 h e => by
  unfold up2 at e ⊢
  split at e
  · cases e; exact ⟨_, rfl, (h.set i _).set j _⟩
  · cases e
theorem up3_less {i j l : Nat} {r0 : Rho} : ∀ u r1 r3, lessT r0 r1 → up3 i j l u r0 = some r3 → ∃ r4, up3 i j l u r1 = some r4 ∧ lessT r3 r4 := fun u r1 r3 h e => by
  unfold up3 at e ⊢
  split at e
  · cases e; exact ⟨_, rfl, ((h.set i _).set j _).set l _⟩
  · cases e
/-- a test that is known -/
theorem tst_t {A B : Prop} {d : Bool} (h : d = true) (a : A) : (d = true → A) ∧ (d = false → B) := ⟨fun _ => a, fun e => (by rw [h] at e; cases e)⟩
theorem tst_f {A B : Prop} {d : Bool} (h : d = false) (b : B) : (d = true → A) ∧ (d = false → B) := ⟨fun e => (by rw [h] at e; cases e), fun _ => b⟩
end
section
variable {F : Sto} {X : Cx} {r : Rho} {S : Sto} {pos : Pos}
/-- the pairs of a display -/
def pw2 (F : Sto) (X : Cx) : List (Expr × Expr) → Rho → Sto → (List (Key × T) → Sto → Prop) → Prop
  | [], _, S, k => k [] S
  | (a, b) :: ps, r, S, k => ew F X a r S fun ta S1 => ew F X b r S1 fun tb S2 => ∃ kk, ta = kT kk ∧ pw2 F X ps r S2 fun kvs S3 => k ((kk, tb) :: kvs) S3
theorem pw2_run {ps : List (Expr × Expr)} : ∀ {S : Sto} {k : List (Key × T) → Sto → Prop} {σ : L2.St} {H : Hp} {Q : List (V × V) → Hp → Prop}, pw2 F X ps r S k → Ok X.K F σ H r S →
    (∀ vs H' kvs S', Stp H S H' S' → Ok X.K F σ H' r S' → PKV X.K H' vs kvs → kvs.length = ps.length → k kvs S' → Q (vs.map fun p => (kV p.1, p.2)) H') → tPairs (ps.map fun p => (WE X p.1, WE X p.2)) σ H Q := by
  induction ps with
  | nil =>
    intro S k σ H Q h ok cc
    exact cc [] H [] S (.refl H S) ok .nil rfl h
  | cons p ps ih =>
    intro S k σ H Q h ok cc
    obtain ⟨a, b⟩ := p
    refine h σ H _ ok fun x H1 ta S1 k1 ok1 tra q => ?_
    refine q σ H1 _ ok1 fun y H2 tb S2 k2 ok2 trb q2 => ?_
    obtain ⟨kk, rfl, q2⟩ := q2
    refine ih q2 ok2 fun vs H3 kvs S3 k3 ok3 pk hl q3 => ?_
    rw [kT_tr tra]
    exact cc ((kk, y) :: vs) H3 _ S3 ((k1.trans k2).trans k3) ok3 (.cons ⟨rfl, trb.keep k3.toI⟩ pk) (congrArg (· + 1) hl) q3
theorem pps_of {ps : List (Expr × Expr)} : PPs X pos (ps.map fun p => some p.1) (ps.map (·.2)) (ps.map fun p => (WE X p.1, WE X p.2)) := by
  induction ps with
  | nil => exact pps_nil
  | cons p ps ih => exact pps_cons peW peW ih
/-- {k: v, ..}, fifteen at most -/
theorem ew_disp {ps : List (Expr × Expr)} {k : T → Sto → Prop} (h0 : ps ≠ []) (h15 : ps.length ≤ 15) (h : pw2 F X ps r S fun kvs S2 => ∀ q, q ∉ feet S2 → k (.ref q) ((q, .dk (mergeT [] kvs)) :: S2)) : ew F X (.Dict (ps.map fun p => some p.1) (ps.map (·.2)) pos) r S k := by
  intro σ H Q ok cc
  refine we_of (pe_disp pps_of (by simp) (by simp) (by simpa using h0) (by simpa using h15)) fun p hp => ?_
  have offS := ok.toOkH.fresh hp
  have offF := ok.toOkH.offF hp
  refine pw2_run h (ok.new hp) fun vs H2 kvs S2 k12 ok2 pk hl q2 => ?_
  have hp2 : H2 p = some (.dK []) := k12.at_ p _ (.inl offS) upd_same
  have off2 := k12.off upd_same offS
  have lv := pk.length
  refine ⟨hp2, vs, rfl, by omega, ?_⟩
  have st : Stp H S H2 S2 := (Stp.new hp).trans k12
  have st2 := st.side (o := .dK (mergeK [] vs)) hp
  have ok3 := ok2.side (o := .dK (mergeK [] vs)) hp2 notImm_dK off2 offF
  have km : KeepI H2 (upd H2 p (.dK (mergeK [] vs))) := .mut hp2 notImm_dK
  refine cc _ _ (.ref p) _ ⟨st2.at_, st2.fre, fun a ha => ?_⟩ (ok3.add (m := .dk (mergeT [] kvs)) ⟨_, upd_same, PKV.merge (pk.keep km) .nil⟩ rfl off2 offF) (.ref p) (q2 p off2)
  rcases List.mem_cons.mp (show a ∈ p :: feet S2 from ha) with rfl | ha
  · exact .inr hp
  · exact st2.own a ha
end
end PT

set_option Elab.async false
set_option linter.all false
set_option maxRecDepth 100000
set_option maxHeartbeats 2000000
set_option autoImplicit false
namespace PT
open PySem L2 PySem.Spec PyProof.Rows
/-! ### {k: v for a in e for b in f} -/
/-- the expression -/
abbrev dc2 (kx vx ta ia tb ib : Expr) (scope : Scope) (pos : Pos) : Expr := .DictComp kx vx [⟨ta, ia, [], 0⟩, ⟨tb, ib, [], 0⟩] scope pos
section
variable {kx vx ta ia tb ib : Expr} {scope : Scope} {pos : Pos} {it : Value} {d : Addr} {env : Env} {prog : Program} {w : World} {A : Around} {R : Result → Shared → Prop} {s : Shared}
abbrev NoE : Value → Shared → Prop := fun _ _ => False
theorem dc2_turn0 : compTurn (dc2 kx vx ta ia tb ib scope pos) 0 it (.ref d) env = (standAt ia.pos >>= fun _ => pyNext it >>= fun got => match got with
    | none => pure (.done .next)
    | some v => letOwnedTupleGo ta it v >>= fun _ => assign ta env v >>= fun _ => eval ib env >>= fun x => standAt ib.pos >>= fun _ => foldedSetIterable ib env x >>= fun x => holding [x] (pyIter x) >>= fun j =>
      runOwn (.compStart (dc2 kx vx ta ia tb ib scope pos) 1 j (.ref d) env) env >>= fun _ => again (.compLoop (dc2 kx vx ta ia tb ib scope pos) 0 it (.ref d) env)) := by rfl
theorem dc2_turn1 : compTurn (dc2 kx vx ta ia tb ib scope pos) 1 it (.ref d) env = (standAt ib.pos >>= fun _ => pyNext it >>= fun got => match got with
    | none => pure (.done .next)
    | some v => letOwnedTupleGo tb it v >>= fun _ => assign tb env v >>= fun _ => (eval kx env >>= fun a => holding [a] (eval vx env) >>= fun b => standAt { kx.pos with endLine := vx.pos.endLine, endCol := vx.pos.endCol } >>= fun _ => holding [a, b] (dictSet d a b)) >>= fun _ =>
      again (.compLoop (dc2 kx vx ta ia tb ib scope pos) 1 it (.ref d) env)) := by rfl
theorem dc2_loop0 (hs : ∀ x, foldedSetIterable ib env x = pure x) (J : Nat → Shared → Prop)
    (turn : ∀ n s, J n s → wpAny (model prog w) A (pyNext it) (fun got s1 => match got with
      | none => R (.ok .next) s1
      | some v => wpAny (model prog w) A (letOwnedTupleGo ta it v) (fun _ s2 => wpAny (model prog w) A (assign ta env v) (fun _ s3 => wpAny (model prog w) A (eval ib env) (fun x s4 => wpAny (model prog w) A (pyIter x) (fun j s5 =>
          codeAny (model prog w) A (.compStart (dc2 kx vx ta ia tb ib scope pos) 1 j (.ref d) env) (fun q s' => match q with | .ok _ => ∃ m, m < n ∧ J m s' | .error _ => False) s5) NoE s4) NoE s3) NoE s2) NoE s1) NoE s)
    (n : Nat) (h : J n s) : codeAny (model prog w) A (.compLoop (dc2 kx vx ta ia tb ib scope pos) 0 it (.ref d) env) R s := by
  refine codeAny_loop rfl J (fun n s hJ => wpAny_noted ?_) n h
  rw [dc2_turn0]
  refine wpAny_bind (wpAny_standAt (wpAny_bind (thnF (turn n s hJ) fun got s1 h1 => ?_)))
  match got, h1 with
  | none, h1 => exact wpAny_pure h1
  | some v, h1 =>
    refine wpAny_bind (thnF h1 fun _ s2 h2 => wpAny_bind (thnF h2 fun _ s3 h3 => wpAny_bind (thnF h3 fun x s4 h4 => ?_)))
    refine wpAny_bind (wpAny_standAt (wpAny_bind (wpAny_of_eq (hs x) (wpAny_bind (wpAny_holding (thnF h4 fun j s5 h5 => wpAny_bind (wpAny_runOwn ?_)))))))
    rw [Around.mark_none]
    refine codeAny_mono h5 fun q s' hq => ?_
    match q, hq with
    | .ok _, hq => exact wpAny_pure ⟨rfl, hq⟩
    | .error _, hq => exact hq.elim
theorem dc2_loop1 (J : Nat → Shared → Prop)
    (turn : ∀ n s, J n s → wpAny (model prog w) A (pyNext it) (fun got s1 => match got with
      | none => R (.ok .next) s1
      | some v => wpAny (model prog w) A (letOwnedTupleGo tb it v) (fun _ s2 => wpAny (model prog w) A (assign tb env v) (fun _ s3 => wpAny (model prog w) A (eval kx env) (fun a s4 => wpAny (model prog w) A (eval vx env) (fun b s5 =>
          wpAny (model prog w) A (dictSet d a b) (fun _ s6 => ∃ m, m < n ∧ J m s6) NoE s5) NoE s4) NoE s3) NoE s2) NoE s1) NoE s)
    (n : Nat) (h : J n s) : codeAny (model prog w) A (.compLoop (dc2 kx vx ta ia tb ib scope pos) 1 it (.ref d) env) R s := by
  refine codeAny_loop rfl J (fun n s hJ => wpAny_noted ?_) n h
  rw [dc2_turn1]
  refine wpAny_bind (wpAny_standAt (wpAny_bind (thnF (turn n s hJ) fun got s1 h1 => ?_)))
  match got, h1 with
  | none, h1 => exact wpAny_pure h1
  | some v, h1 =>
    refine wpAny_bind (thnF h1 fun _ s2 h2 => wpAny_bind (thnF h2 fun _ s3 h3 => wpAny_bind (wpAny_bind (thnF h3 fun a s4 h4 => ?_))))
    exact wpAny_bind (wpAny_holding (thnF h4 fun b s5 h5 => wpAny_bind (wpAny_standAt (wpAny_holding (thnF h5 fun _ s6 h6 => wpAny_pure ⟨rfl, h6⟩)))))
theorem dc2_start1 (h0 : codeAny (model prog w) A (.compLoop (dc2 kx vx ta ia tb ib scope pos) 1 it (.ref d) env) R s)
    (h : wpAny (model prog w) A (pyIter it) (fun j s' => codeAny (model prog w) A (.compLoop (dc2 kx vx ta ia tb ib scope pos) 1 j (.ref d) env) R s') NoE s) :
    codeAny (model prog w) A (.compStart (dc2 kx vx ta ia tb ib scope pos) 1 it (.ref d) env) R s := by
  refine codeAny_of_tree ?_
  show wpAny _ _ ((compStart (dc2 kx vx ta ia tb ib scope pos) 1 it (.ref d) env).onRaise (fun x => do noteFrame x env; standAt theWindowsPlace)) _ _ s
  refine wpAny_notedAt ?_
  unfold compStart
  show wpAny _ _ (ask >>= _) _ _ s
  refine wpAny_bind (wpAny_askSetting (wpAny_ite ?_))
  split
  · first
      | exact wpAny_bind (wpAny_pure (wpAny_pure ⟨rfl, h0⟩))
      | exact wpAny_pure ⟨rfl, h0⟩
  · first
      | exact wpAny_bind (wpAny_rule (wpAny_bind (wpAny_standAt (wpAny_bind (thnF h fun j s' h' => wpAny_pure ⟨rfl, h'⟩)))))
      | (refine wpAny_bind (wpAny_rule ?_); show wpAny _ _ (standAt ib.pos >>= _) _ _ s; exact wpAny_bind (wpAny_standAt (wpAny_bind (thnF h fun j s' h' => wpAny_pure ⟨rfl, h'⟩))))
end
section
variable {X : Cx}
/-- what is to be shown: D the new dict; the inner loop goes from the outer turn's slots -/
def tDc2 (wa : TI) (ga : TG) (wb : TI) (gb : TG) (tk tv : TE) (vs us : List Nat) : TE := fun σ H Q => wa σ H fun J H1 => ∀ D, H1 D = none → ∃ W : Nat → Nat → Hp → Prop, (∃ m, W 0 m (upd H1 D (.dK []))) ∧ ∀ i m H, W i m H →
  (J.stop i H ∧ Q (.ref D) H) ∨ (J.go i H ∧ ∃ Nx : Hp → Prop, (∀ H', Nx H' → ∃ m', m' < m ∧ W (i + 1) m' H') ∧ ∀ x H', J.yld i H x H' → ga x (wipe σ vs) H' fun σ2 H2 => wipe σ2 vs = wipe σ vs ∧
    wb σ2 H2 fun J1 H4 => ∃ U : Nat → Nat → Hp → Prop, (∃ m, U 0 m H4) ∧ ∀ j l H, U j l H →
      (J1.stop j H ∧ Nx H) ∨ (J1.go j H ∧ ∃ Ny : Hp → Prop, (∀ H', Ny H' → ∃ l', l' < l ∧ U (j + 1) l' H') ∧ ∀ x H', J1.yld j H x H' → gb x (wipe σ2 us) H' fun σ3 H5 => wipe σ3 us = wipe σ2 us ∧
        tk σ3 H5 fun y H6 => tv σ3 H6 fun z H7 => ∃ kvs k, y = kV k ∧ H7 D = some (.dK kvs) ∧ kvs.length < sizeLine ∧ Ny (upd H7 D (.dK (putK kvs k z)))))
theorem dc2_core {pins : List (Addr × Obj)} {s : Shared} {σ : L2.St} {H : Hp} {Q : VK} {use : Option (Value → Sem Unit)} {Qf : Value → Shared → Prop} {kx vx ta ia tb ib : Expr} {scope : Scope} {own : List (Str × Nat)} {us : List Nat} {pos pos' : Pos} {wa wb : TI} {ga gb : TG} {tk tv : TE} (hc : X.calm = true) (hN : X.N.Nodup) (I : Inv X pins σ H s) (hi : PI X ta ia wa) (ok : BlkOk X.N X.env.scope scope own) (hus : ∀ i ∈ us, i ∈ own.map (·.2))
    (hga : Blk X scope fun Y => PG Y ta ga) (hib : Blk X scope fun Y => PI Y tb ib wb) (hgb : Blk X scope fun Y => PG Y tb gb) (hk : Blk X scope fun Y => PE Y kx tk) (hv : Blk X scope fun Y => PE Y vx tv)
    (hsa : ∀ x, foldedSetIterable ia X.env x = pure x) (hsb : ∀ env x, foldedSetIterable ib env x = pure x) (h : tDc2 wa ga wb gb tk tv (own.map (·.2)) us σ H Q)
    (fin : ∀ D C s' m H', Inv X pins σ H' s' → Q (.ref D) H' → s'.heap.Ns C m → FpOk X pins H' C → compPost (model X.prog X.w) X.A X.xe use Qf (.ref D) C (.ok .next) s') :
    wpAny (model X.prog X.w) X.A (comprehension (dc2 kx vx ta ia tb ib scope pos) scope X.env pos' newDict false (eval ia X.env) use) Qf X.xe s := by
  have cellsThere : ∀ y ∈ scope.names, y.2 = .free → ∃ c, X.env.cells.lookup y.1 = some c := fun y hy e => (ok.free y hy e).elim (fun z => I.ok.has _ (.inl z)) (fun z => I.ok.has _ (.inr z))
  refine wpAny_comprehension_free (use := use) rfl hsa (closure_ok cellsThere) ok.kind (fun y hy e => by rw [ok.uniq y hy, e]) (thn (hi.run pins s σ H _ I h) fun xv s1 hx => thn hx fun itv s2 h2 => ?_)
  obtain ⟨it, fp, tn, J, H2, rfl, I2, Tu, tn2, fp2, q⟩ := h2
  refine wpAny_newObj_type (newEnv_comp ?_)
  generalize hD : s2.heap.objs.size = D
  have freeD : H2 D = none := I2.hok.fresh (Nat.le_of_eq hD)
  obtain ⟨W, ⟨m0, w0⟩, turn⟩ := q D freeD
  generalize hs3 : ({ s2 with heap := s2.heap.push { cls := .type "dict", data := .dict #[] } } : Shared) = s3
  have I3 : Inv X pins σ (upd H2 D (.dK [])) s3 := by
    have z := I2.laid (t' := s2.toks) (a := D) (o := .dK []) (h' := s2.heap.push { cls := .type "dict", data := .dict #[] }) (fun b o e => Heap.get?_push_of_some _ e) (Nat.le_of_eq hD) (by rw [← hD]; exact dk_empty s2.heap I2.big)
    rw [← hs3]; exact z
  have heap3 : s3.heap = s2.heap.push { cls := .type "dict", data := .dict #[] } := by rw [← hs3]
  have fp3 : ∀ b ∈ fp, FpOk X pins (upd H2 D (.dK [])) b ∧ b < s3.heap.objs.size := fun b hb => by
    obtain ⟨o, e, _⟩ := Tu.obj _ _ tn2 b hb
    have lt := Heap.lt_size e
    have ne : b ≠ D := by rw [← hD]; exact Nat.ne_of_lt lt
    exact ⟨⟨by rw [upd_ne ne]; exact (fp2 b hb).1, (fp2 b hb).2⟩, by rw [heap3, Heap.size_push]; exact Nat.lt_succ_of_lt lt⟩
  have tn3 : tn 0 s3.heap := Tu.keep _ _ _ tn2 fun b _ o e => by rw [heap3]; exact Heap.get?_push_of_some _ e
  have I4 := block_start I3 ok hN fp3
  generalize hce : compEnvC scope (cellsFrom (s3.heap.objs.size + 1) scope.names (cloFrom X.env.cells scope.names [])) s3.heap.objs.size X.env = ce at I4
  have pga : PG (X.blk s3 (upd H2 D (.dK [])) scope ce fp) ta ga := by rw [← hce]; exact hga ..
  have pib : PI (X.blk s3 (upd H2 D (.dK [])) scope ce fp) tb ib wb := by rw [← hce]; exact hib ..
  have pgb : PG (X.blk s3 (upd H2 D (.dK [])) scope ce fp) tb gb := by rw [← hce]; exact hgb ..
  have pk : PE (X.blk s3 (upd H2 D (.dK [])) scope ce fp) kx tk := by rw [← hce]; exact hk ..
  have pv : PE (X.blk s3 (upd H2 D (.dK [])) scope ce fp) vx tv := by rw [← hce]; exact hv ..
  have ceL : ce.locals = s3.heap.objs.size := by rw [← hce]; rfl
  have clear3 : ∀ b ∈ fp, (upd H2 D (.dK [])) b = none := fun b hb => (fp3 b hb).1.1
  generalize hH3 : upd H2 D (.dK []) = H3 at I3 I4 pga pib pgb pk pv w0 clear3 fp3
  show codeAny _ _ (.compStart (dc2 kx vx ta ia tb ib scope pos) 0 (.ref it) (.ref D) (compEnvC scope (cellsFrom (s3.heap.objs.size + 1) scope.names (cloFrom X.env.cells scope.names [])) s3.heap.objs.size X.env)) _ { s3 with heap := pushCells (s3.heap.push { cls := .type "dict", data := .dict #[] }) scope.names }
  rw [hce]
  generalize hs4 : ({ s3 with heap := pushCells (s3.heap.push { cls := .type "dict", data := .dict #[] }) scope.names } : Shared) = s4 at I4 ⊢
  have tn4 : tn 0 s4.heap := Tu.keep _ _ _ tn3 fun b _ o e => by rw [← hs4]; exact pushCells_keeps _ _ _ _ (Heap.get?_push_of_some _ e)
  let B : Cx := X.blk s3 H3 scope ce fp
  have fpIn : ∀ {σ' : L2.St} {H' : Hp} {s' : Shared}, Inv B [] σ' H' s' → (∀ b ∈ fp, H' b = none) → ∀ b ∈ fp, FpOk B [] H' b := fun {σ' H' s'} I' hn b hb =>
    ⟨hn b hb, (I'.ok.exf b hb).1, I'.ok.exfs b hb, .inl hb, fun x c e => (I'.ok.exf b hb).2 x c e, fun p hp => absurd (show p ∈ ([] : List (Addr × Obj)) ++ [] from hp) (by simp)⟩
  have hus2 : ∀ {σ' σ2 : L2.St}, wipe σ2 (own.map (·.2)) = wipe σ' (own.map (·.2)) → ∀ (j : Nat) u, (wipe σ' (own.map (·.2)))[j]? = some (some u) → σ2[j]? = some (some u) ∧ j ∉ own.map (·.2) := fun {σ' σ2} e j u z => by
    rw [← e] at z
    exact wipe_some z
  -- a state at the outer loop's head
  let Hd : Nat → Shared → Prop := fun n s' => ∃ i H', Inv B [] (wipe σ (own.map (·.2))) H' s' ∧ tn i s'.heap ∧ (∀ b ∈ fp, H' b = none) ∧ W i n H'
  have loop : codeAny (model X.prog X.w) X.A (.compLoop (dc2 kx vx ta ia tb ib scope pos) 0 (.ref it) (.ref D) ce) (compPost (model X.prog X.w) X.A X.xe use Qf (.ref D) s3.heap.objs.size) s4 := by
    refine dc2_loop0 (hsb ce) Hd ?_ m0 ⟨0, H3, I4, tn4, clear3, w0⟩
    rintro n s5 ⟨i, H5, I5, t5, c5, w5⟩
    rcases turn i n H5 w5 with ⟨stop, qq⟩ | ⟨go, Nx, hNx, step⟩
    · refine thnF (Tu.done B rfl rfl rfl hc i [] s5 _ H5 (fun _ _ => False) I5 (fpIn I5 c5) t5 stop) fun r s6 ⟨hr, I6⟩ => ?_
      subst hr
      have I7 : Inv X pins σ H5 s6 := I3.call' (ch := fp) I6.os I6.base I6.hok I6.bare fun b hb => ⟨(fp3 b hb).1.2.2.2.1, (fp3 b hb).1.2.1, (fp3 b hb).1.2.2.2.2.1, (fp3 b hb).1.2.2.2.2.2⟩
      have free5 : H5 s3.heap.objs.size = none := by rw [← ceL]; exact I6.free
      obtain ⟨m, ns, _⟩ := I6.loc
      have ns : s6.heap.Ns ce.locals m := ns
      rw [ceL] at ns
      exact fin D s3.heap.objs.size s6 m H5 I7 qq ns (I3.fpOk (Nat.le_refl _) free5)
    · refine thnF (Tu.item B rfl rfl rfl hc i [] s5 _ H5 (fun _ _ => False) I5 (fpIn I5 c5) t5 go) fun r s6 ⟨u, hr, h6⟩ => ?_
      subst hr
      refine thnF h6 fun _ s7 ⟨x, H7, I7, r7, y7, t7, c7⟩ => ?_
      have I7p := I7.pinned (fpIn I7 c7) (Tu.obj _ _ t7)
      refine thnF (pga.run _ s7 _ H7 x u _ I7p r7 (step x H7 y7)) fun _ s8 ⟨σ8, H8, I8, hw8, q8⟩ => ?_
      -- back to the outer head from any state of this turn
      have home : ∀ {σ9 : L2.St} {s' : Shared} {H' : Hp}, Inv B ([] ++ pinsAt fp s7.heap) σ9 H' s' → (wipe σ (own.map (·.2))).length = σ9.length → (∀ (j : Nat) v, (wipe σ (own.map (·.2)))[j]? = some (some v) → σ9[j]? = some (some v)) → Nx H' → ∃ m, m < n ∧ Hd m s' := fun {σ9 s' H'} I' hl hkeep nx => by
        obtain ⟨m', hm, w'⟩ := hNx H' nx
        have there : ∀ b ∈ fp, ∀ o, s7.heap.get? b = some o → s'.heap.get? b = some o ∧ H' b = none := fun b hb o e =>
          have z := I'.pin (b, o) (List.mem_append_right _ (List.mem_append_right _ (mem_pinsAt hb e)))
          ⟨z.1, z.2.1⟩
        refine ⟨m', hm, i + 1, H', (I'.unpinned (pins := [])).weak hl hkeep, Tu.keep _ _ _ t7 (fun b hb o e => (there b hb o e).1), fun b hb => ?_, w'⟩
        obtain ⟨o, e, _⟩ := Tu.obj _ _ t7 b hb
        exact (there b hb o e).2
      have len8 : (wipe σ (own.map (·.2))).length = σ8.length := by rw [← hw8, wipe_length]
      refine thnF (pib.run _ s8 σ8 H8 _ I8 q8) fun xv s10 hx => thnF hx fun itv s11 h11 => ?_
      obtain ⟨it1, fp1, tn1, J1, H11, rfl, I11, T1, t11, f11, U, ⟨l0, u0⟩, turn1⟩ := h11
      have fpIn1 : ∀ {H' : Hp}, (∀ b ∈ fp1, H' b = none) → ∀ b ∈ fp1, FpOk B ([] ++ pinsAt fp s7.heap) H' b := fun hn b hb => ⟨hn b hb, (f11 b hb).2⟩
      let Ud : Nat → Shared → Prop := fun l s' => ∃ j H', Inv B ([] ++ pinsAt fp s7.heap) (wipe σ8 us) H' s' ∧ tn1 j s'.heap ∧ (∀ b ∈ fp1, H' b = none) ∧ U j l H'
      have loop1 : codeAny (model X.prog X.w) X.A (.compLoop (dc2 kx vx ta ia tb ib scope pos) 1 (.ref it1) (.ref D) ce) (fun q s' => match q with | .ok _ => ∃ m, m < n ∧ Hd m s' | .error _ => False) s11 := by
        refine dc2_loop1 Ud ?_ l0 ⟨0, H11, I11.weak (wipe_length _ _) (fun j v e => (wipe_some e).1), t11, fun b hb => (f11 b hb).1, u0⟩
        rintro l s12 ⟨j, H12, I12, t12, c12, u12⟩
        rcases turn1 j l H12 u12 with ⟨stop1, nx1⟩ | ⟨go1, Ny, hNy, step1⟩
        · refine thnF (T1.done B rfl rfl rfl hc j _ s12 (wipe σ8 us) H12 (fun _ _ => False) I12 (fpIn1 c12) t12 stop1) fun r s13 ⟨hr, I13⟩ => ?_
          subst hr
          refine home I13 (len8.trans (wipe_length σ8 us).symm) (fun j v e => ?_) nx1
          obtain ⟨e1, e2⟩ := hus2 hw8 j v e
          rw [wipe_out fun z => e2 (hus j z)]
          exact e1
        · refine thnF (T1.item B rfl rfl rfl hc j _ s12 (wipe σ8 us) H12 (fun _ _ => False) I12 (fpIn1 c12) t12 go1) fun r s13 ⟨u1, hr, h13⟩ => ?_
          subst hr
          refine thnF h13 fun _ s14 ⟨x1, H14, I14, r14, y14, t14, c14⟩ => ?_
          have I14p := I14.pinned (fpIn1 c14) (T1.obj _ _ t14)
          refine thnF (pgb.run _ s14 (wipe σ8 us) H14 x1 u1 _ I14p r14 (step1 x1 H14 y14)) fun _ s15 ⟨σ15, H15, I15, hw15, q15⟩ => ?_
          refine thnF (pk.run _ s15 σ15 H15 _ I15 q15) fun a s16 ⟨yk, H16, I16, r16, q16⟩ => thnF (pv.run _ s16 σ15 H16 _ I16 q16) fun b s17 ⟨yv, H17, I17, r17, kvs, k, ek, hD17, hz17, ny⟩ => ?_
          subst ek
          refine d_dictSet (X := B) I17 hD17 hz17 r16 r17 fun s18 I18 => ?_
          obtain ⟨l', hl', u'⟩ := hNy _ ny
          have there : ∀ b ∈ fp1, ∀ o, s14.heap.get? b = some o → s18.heap.get? b = some o ∧ (upd H17 D (.dK (putK kvs k yv))) b = none := fun b hb o e =>
            have z := I18.pin (b, o) (List.mem_append_right _ (List.mem_append_right _ (mem_pinsAt hb e)))
            ⟨z.1, z.2.1⟩
          refine ⟨l', hl', j + 1, _, I18.unpinned.weak (by rw [← hw15, wipe_length]) (fun j v e => by rw [← hw15] at e; exact (wipe_some e).1), T1.keep _ _ _ t14 (fun b hb o e => (there b hb o e).1), fun b hb => ?_, u'⟩
          obtain ⟨o, e, _⟩ := T1.obj _ _ t14 b hb
          exact (there b hb o e).2
      exact dc2_start1 loop1 (T1.self X.A 0 _ _ _ t11 loop1)
  exact codeAny_compStart_dict loop (Tu.self X.A 0 _ _ _ tn4 loop)
theorem pe_dc2 {kx vx ta ia tb ib : Expr} {scope : Scope} {own : List (Str × Nat)} {us : List Nat} {pos : Pos} {wa wb : TI} {ga gb : TG} {tk tv : TE} (hc : X.calm = true) (hN : X.N.Nodup) (hi : PI X ta ia wa) (ok : BlkOk X.N X.env.scope scope own) (hus : ∀ i ∈ us, i ∈ own.map (·.2))
    (hga : Blk X scope fun Y => PG Y ta ga) (hib : Blk X scope fun Y => PI Y tb ib wb) (hgb : Blk X scope fun Y => PG Y tb gb) (hk : Blk X scope fun Y => PE Y kx tk) (hv : Blk X scope fun Y => PE Y vx tv)
    (hsa : ∀ x, foldedSetIterable ia X.env x = pure x) (hsb : ∀ env x, foldedSetIterable ib env x = pure x) : PE X (dc2 kx vx ta ia tb ib scope pos) (tDc2 wa ga wb gb tk tv (own.map (·.2)) us) := by
  refine ⟨fun pins s σ H Q I h => ?_⟩
  rw [arm_eval_DictComp]
  refine dc2_core hc hN I hi ok hus hga hib hgb hk hv hsa hsb h fun D C s' m H' I' q ns f => ⟨m, ns, fun h3 sb => ?_⟩
  obtain ⟨g0, g1, g2, g3, g4, g5⟩ := f
  exact ⟨.ref D, H', I'.turned (t' := s'.toks) (fun b o hb e => (sb.2 b hb).trans e) g0 g1 g3 g4 g5, rfl, q⟩
/-- y = {..}, stored by the comprehension itself -/
theorem ps_setDc2 {i : Nat} {y : Str} {py spos : Pos} {kx vx ta ia tb ib : Expr} {scope : Scope} {own : List (Str × Nat)} {us : List Nat} {pos : Pos} {wa wb : TI} {ga gb : TG} {tk tv : TE} (hc : X.calm = true) (hN : X.N.Nodup) (hy : X.N[i]? = some y) (hyl : X.env.scope.names.lookup y = some .local)
    (hsw : swapsWith (dc2 kx vx ta ia tb ib scope pos) (some (.Name y py)) spos.line X.env = pure true) (hi : PI X ta ia wa) (ok : BlkOk X.N X.env.scope scope own) (hus : ∀ i ∈ us, i ∈ own.map (·.2))
    (hga : Blk X scope fun Y => PG Y ta ga) (hib : Blk X scope fun Y => PI Y tb ib wb) (hgb : Blk X scope fun Y => PG Y tb gb) (hk : Blk X scope fun Y => PE Y kx tk) (hv : Blk X scope fun Y => PE Y vx tv)
    (hsa : ∀ x, foldedSetIterable ia X.env x = pure x) (hsb : ∀ env x, foldedSetIterable ib env x = pure x) : PS X (.Assign [.Name y py] (dc2 kx vx ta ia tb ib scope pos) spos) (tAsg (tDc2 wa ga wb gb tk tv (own.map (·.2)) us) (gName i)) := by
  refine ⟨fun pins s σ H D I h => ?_⟩
  rw [exec_Assign_Name_used _ _ _ _ hsw]
  refine wpAny_bind (wpAny_standAt (wpAny_bind ?_))
  show wpAny _ X.A (comprehension (dc2 kx vx ta ia tb ib scope pos) scope X.env (firstIterPos [⟨ta, ia, [], 0⟩, ⟨tb, ib, [], 0⟩] pos) newDict false (eval ia X.env) (some (assign (.Name y py) X.env)) >>= fun _ => pure ()) _ _ s
  have h' : tDc2 wa ga wb gb tk tv (own.map (·.2)) us σ H (fun x H1 => gName i x σ H1 D.nx) := h
  refine wpAny_bind (thn (dc2_core (Qf := fun _ s' => SP X pins D .next s') hc hN I hi ok hus hga hib hgb hk hv hsa hsb h' fun L C s' m H' I' q ns f => ?_) fun _ s' hq => wpAny_pure (wpAny_pure hq))
  show wpAny _ _ (assign (.Name y py) X.env (.ref L)) _ _ _
  refine wpAny_assign_Name (store_ok2 (v := V.ref L) I' hN hy (.inl hyl) rfl (fun s2 I2 ⟨a, sb, ha⟩ => ?_) (.inr hyl))
  obtain ⟨g0, g1, g2, g3, g4, g5⟩ := f
  have ne : C ≠ a := ha.elim (fun z => by rw [z]; exact g1) (fun z e => g4 y a z e.symm)
  exact ⟨m, ns.sameBut sb ne, fun h3 sb3 => ⟨_, H', I2.turned (t' := s2.toks) (fun b o hb e => (sb3.2 b hb).trans e) g0 g1 g3 g4 g5, q⟩⟩
end
end PT

set_option Elab.async false
set_option linter.all false
set_option maxRecDepth 100000
set_option maxHeartbeats 2000000
set_option autoImplicit false
namespace PT
open PySem L2 PySem.Spec PyProof.Rows
/-- what an iterable is to lead to -/
def WI (X : Cx) (tg iter : Expr) (σ : L2.St) (H : Hp) (R : It → Hp → Prop) : Prop := ∀ (pins : List (Addr × Obj)) (s : Shared), Inv X pins σ H s → wpAny (model X.prog X.w) X.A (eval iter X.env) (fun v s1 => wpAny (model X.prog X.w) X.A (pyIter v) (PIE X pins σ tg R) X.xe s1) X.xe s
theorem piW {X : Cx} {tg iter : Expr} : PI X tg iter (WI X tg iter) := ⟨fun pins s σ H R I h => h pins s I⟩
section
variable {F : Sto} {X : Cx} {r : Rho} {S : Sto} {pos : Pos}
theorem iw_run {tg iter : Expr} {k : List T → (Sto → Prop) → Sto → Prop} (h : iw F X tg iter r S k) {σ : L2.St} {H : Hp} {R : It → Hp → Prop} (ok : Ok X.K F σ H r S)
    (cc : ∀ J H1 ts rd S1 Q, Stp H S H1 S1 → Ok X.K F σ H1 r S1 → IterOk X.K J ts Q → (∀ H2 S2, OkH X.K F H2 S2 → KeepI H1 H2 → rd S2 → Q H2) → k ts rd S1 → R J H1) : WI X tg iter σ H R := by
  obtain ⟨wi, hi, h⟩ := h
  exact fun pins s I => hi.run pins s σ H R I (h σ H R ok cc)
/-- a dict under work beside the store -/
structure DSide (X : Cx) (F : Sto) (σ : L2.St) (r : Rho) (H0 : Hp) (S0 : Sto) (H1 : Hp) (D : Addr) (H : Hp) (acc : List (Key × T)) (vacc : List (Key × V)) (S : Sto) : Prop where
  (at_ : H D = some (.dK vacc)) (pk : PKV X.K H vacc acc) (off : D ∉ feet S) (ok : Ok X.K F σ H r S) (st : Stp H0 S0 H S) (kp : KeepI H1 H)
/-- a step beside it -/
theorem DSide.step {σ : L2.St} {H0 H1 H H' : Hp} {S0 S' : Sto} {D : Addr} {acc : List (Key × T)} {vacc : List (Key × V)} (d : DSide X F σ r H0 S0 H1 D H acc vacc S) (st : Stp H S H' S') (ok' : OkH X.K F H' S') : DSide X F σ r H0 S0 H1 D H' acc vacc S' :=
  ⟨st.at_ D _ (.inl d.off) d.at_, d.pk.keep st.toI, st.off d.at_ d.off, ⟨ok', d.ok.len, fun i t e => let ⟨v, h1, h2⟩ := d.ok.loc i t e; ⟨v, h1, h2.keep st.toI⟩⟩, d.st.trans st, d.kp.trans st.toI⟩
theorem DSide.put {σ : L2.St} {H0 H1 H : Hp} {S0 : Sto} {D : Addr} {acc : List (Key × T)} {vacc : List (Key × V)} (d : DSide X F σ r H0 S0 H1 D H acc vacc S) (hD : H0 D = none) (hF : ∀ p ∈ F, D ∉ foot p) (kk : Key) {v : V} {t : T} (tr : TR X.K H v t) :
    DSide X F σ r H0 S0 H1 D (upd H D (.dK (putK vacc kk v))) (putT acc kk t) (putK vacc kk v) S :=
  have km : KeepI H (upd H D (.dK (putK vacc kk v))) := .mut d.at_ notImm_dK
  ⟨upd_same, PKV.put kk (tr.keep km) (d.pk.keep km), d.off, d.ok.side d.at_ notImm_dK d.off hF, d.st.side hD, d.kp.trans km⟩
/-- {k: v for a in e for b in f} -/
theorem dc2_t {kx vx tb ib : Expr} {scope : Scope} {own : List (Str × Nat)} {us : List Nat} {k : T → Sto → Prop} {wi : TI} {ga gb : TG} {ua ub : T → Rho → Option Rho} {σ : L2.St} {H : Hp} {Q : VK} (ta' : Tgt X.K ga ua (own.map (·.2))) (tb' : Tgt X.K gb ub us) (oka : Ok X.K F σ H r S) (cc : CoE X.K F σ H r S k Q)
    (h : ∀ σ H R, Ok X.K F σ H r S → (∀ (J : It) (H1 : Hp) (ts : List T) (rd : Sto → Prop) (S1 : Sto) (Q : Hp → Prop), Stp H S H1 S1 → Ok X.K F σ H1 r S1 → IterOk X.K J ts Q → (∀ H2 S2, OkH X.K F H2 S2 → KeepI H1 H2 → rd S2 → Q H2) → (∃ P : Nat → List (Key × T) → Sto → Prop, P 0 [] S1 ∧ (∀ n acc S2, P n acc S2 → rd S2) ∧
      (∀ n u acc S2, ts[n]? = some u → P n acc S2 → ∃ r3, ua u (wipeT r (own.map (·.2))) = some r3 ∧ ∃ C : List T → (Sto → Prop) → Sto → Prop, (Blk X scope fun Y => iw F Y tb ib r3 S2 C) ∧ ∀ xs rd2 S3, C xs rd2 S3 → ∃ P2 : Nat → List (Key × T) → Sto → Prop, P2 0 acc S3 ∧ (∀ j acc S4, P2 j acc S4 → rd2 S4) ∧
        (∀ j u2 acc2 S4, xs[j]? = some u2 → P2 j acc2 S4 → acc2.length < 100000 ∧ ∃ r4, ub u2 (wipeT r3 us) = some r4 ∧ Blk X scope fun Y => ew F Y kx r4 S4 fun tk S5 => ∃ kk, tk = kT kk ∧ Blk X scope fun Z => ew F Z vx r4 S5 fun tv S6 => P2 (j + 1) (putT acc2 kk tv) S6) ∧
        ∀ acc2 S4, P2 xs.length acc2 S4 → P (n + 1) acc2 S4) ∧
      ∀ acc S2, P ts.length acc S2 → ∀ q, q ∉ feet S2 → k (.ref q) ((q, .dk acc) :: S2)) → R J H1) → wi σ H R) :
    tDc2 wi ga (fun σ H R => Blk X scope fun Y => WI Y tb ib σ H R) gb (fun σ H Q => Blk X scope fun Y => WE Y kx σ H Q) (fun σ H Q => Blk X scope fun Y => WE Y vx σ H Q) (own.map (·.2)) us σ H Q := by
  refine h σ H _ oka fun J H1 ts rd S1 R k1 ok1 it hR q D hD => ?_
  obtain ⟨P, p0, hl, hstep, hd⟩ := q
  have hF := ok1.toOkH.offF hD
  have hD0 : H D = none := k1.fre _ hD
  let W : Nat → Hp → Prop := fun n H2 => ∃ acc vacc S2, DSide X F σ r H S H1 D H2 acc vacc S2 ∧ P n acc S2
  have w0 : W 0 (upd H1 D (.dK [])) := ⟨[], [], S1, ⟨upd_same, .nil, ok1.toOkH.fresh hD, ok1.new hD, k1.trans (.new hD), .new hD⟩, p0⟩
  refine ⟨fun n m H2 => m = ts.length - n ∧ n ≤ ts.length ∧ W n H2, ⟨ts.length, by simp, Nat.zero_le _, w0⟩, ?_⟩
  rintro n m H2 ⟨rfl, hn, acc, vacc, S2, ds, p2⟩
  have hR2 := hR H2 S2 ds.ok.toOkH ds.kp (hl n acc S2 p2)
  by_cases hlt : n < ts.length
  · refine .inr ⟨it.go n H2 hR2 hlt, W (n + 1), fun H3 w3 => ⟨ts.length - (n + 1), by omega, rfl, hlt, w3⟩, fun y H' yl => ?_⟩
    obtain ⟨gr, u, hu, tru⟩ := it.yld n H2 y H' hR2 hlt yl
    obtain ⟨r3, e3, C, hC, hin⟩ := hstep n u acc S2 hu p2
    have ds1 := ds.step (gr.stp S2) (ds.ok.grw gr).toOkH
    refine ta'.sem F y u _ r3 _ H' S2 _ tru e3 (ds1.ok.wipe (own.map (·.2))) fun σ2 ok2 hw => ⟨by rw [hw, wipe_wipe], fun s1 Hs Ce cl fp => ?_⟩
    refine iw_run (hC s1 Hs Ce cl fp) ok2 fun J1 H4 xs rd2 S4 R2 k4 ok4 it4 hR4 q4 => ?_
    obtain ⟨P2, q0, ql, qstep, qd⟩ := hin xs rd2 S4 q4
    have ds4 := ds1.step k4 ok4.toOkH
    let U : Nat → Hp → Prop := fun j H5 => ∃ acc2 vacc2 S5, DSide X F σ r H S H1 D H5 acc2 vacc2 S5 ∧ Ok X.K F σ2 H5 r3 S5 ∧ KeepI H4 H5 ∧ P2 j acc2 S5
    refine ⟨fun j l H5 => l = xs.length - j ∧ j ≤ xs.length ∧ U j H5, ⟨xs.length, by simp, Nat.zero_le _, acc, vacc, S4, ds4, ok4, .refl H4, q0⟩, ?_⟩
    rintro j l H5 ⟨rfl, hj, acc2, vacc2, S5, ds5, ok5, kp5, q5⟩
    have hR5 := hR4 H5 S5 ok5.toOkH kp5 (ql j acc2 S5 q5)
    by_cases hlt2 : j < xs.length
    · refine .inr ⟨it4.go j H5 hR5 hlt2, U (j + 1), fun H6 w6 => ⟨xs.length - (j + 1), by omega, rfl, hlt2, w6⟩, fun y2 H6 yl2 => ?_⟩
      obtain ⟨gr2, u2, hu2, tru2⟩ := it4.yld j H5 y2 H6 hR5 hlt2 yl2
      obtain ⟨hz, r4, e4, hkv⟩ := qstep j u2 acc2 S5 hu2 q5
      have ds6 := ds5.step (gr2.stp S5) (ds5.ok.grw gr2).toOkH
      have ok6 := ok5.grw gr2
      refine tb'.sem F y2 u2 _ r4 _ H6 S5 _ tru2 e4 (ok6.wipe us) fun σ3 ok7 hw3 => ⟨by rw [hw3, wipe_wipe], fun s3 Hs3 C3 cl3 fp3 => ?_⟩
      refine hkv s3 Hs3 C3 cl3 fp3 σ3 H6 _ ok7 fun x8 H8 tk8 S8 st8 ok8 tr8 q8 => ?_
      obtain ⟨kk, rfl, q8⟩ := q8
      intro s4 Hs4 C4 cl4 fp4
      refine q8 s4 Hs4 C4 cl4 fp4 σ3 H8 _ ok8 fun x9 H9 tv9 S9 st9 ok9 tr9 q9 => ?_
      have st89 := st8.trans st9
      have ds9 := ds6.step st89 ok9.toOkH
      have lz := ds9.pk.length
      refine ⟨vacc2, kk, kT_tr tr8, ds9.at_, by rw [lz]; exact Nat.lt_trans hz hundred, ?_⟩
      have km : KeepI H9 (upd H9 D (.dK (putK vacc2 kk x9))) := .mut ds9.at_ notImm_dK
      have okU : Ok X.K F σ2 H9 r3 S9 := ⟨ok9.toOkH, ok6.len, fun i t e => let ⟨v, h1, h2⟩ := ok6.loc i t e; ⟨v, h1, h2.keep st89.toI⟩⟩
      exact ⟨putT acc2 kk tv9, putK vacc2 kk x9, S9, ds9.put hD0 hF kk tr9, okU.side ds9.at_ notImm_dK ds9.off hF, ((kp5.trans (gr2.stp S5).toI).trans st89.toI).trans km, q9⟩
    · have e : j = xs.length := by omega
      subst e
      exact .inl ⟨it4.stop _ H5 hR5 (Nat.le_refl _), acc2, vacc2, S5, ds5, qd acc2 S5 q5⟩
  · have e : n = ts.length := by omega
    subst e
    refine .inl ⟨it.stop _ H2 hR2 (Nat.le_refl _), cc (.ref D) H2 (.ref D) ((D, .dk acc) :: S2) ⟨ds.st.at_, ds.st.fre, fun a hm => ?_⟩ (ds.ok.add ⟨vacc, ds.at_, ds.pk⟩ rfl ds.off hF) (.ref D) (hd acc S2 p2 D ds.off)⟩
    rcases List.mem_cons.mp (show a ∈ D :: feet S2 from hm) with rfl | hm
    · exact .inr hD0
    · exact ds.st.own a hm
theorem ew_dc2 {kx vx ta ia tb ib : Expr} {scope : Scope} {own : List (Str × Nat)} {us : List Nat} {k : T → Sto → Prop} {ga gb : TG} {ua ub : T → Rho → Option Rho} (hc : X.calm = true) (hN : X.N.Nodup) (ok : BlkOk X.N X.env.scope scope own) (hus : ∀ i ∈ us, i ∈ own.map (·.2))
    (hga : Blk X scope fun Y => PG Y ta ga) (hgb : Blk X scope fun Y => PG Y tb gb) (ta' : Tgt X.K ga ua (own.map (·.2))) (tb' : Tgt X.K gb ub us)
    (h : iw F X ta ia r S fun ts rd S1 => ∃ P : Nat → List (Key × T) → Sto → Prop, P 0 [] S1 ∧ (∀ n acc S2, P n acc S2 → rd S2) ∧
      (∀ n u acc S2, ts[n]? = some u → P n acc S2 → ∃ r3, ua u (wipeT r (own.map (·.2))) = some r3 ∧ ∃ C : List T → (Sto → Prop) → Sto → Prop, (Blk X scope fun Y => iw F Y tb ib r3 S2 C) ∧ ∀ xs rd2 S3, C xs rd2 S3 → ∃ P2 : Nat → List (Key × T) → Sto → Prop, P2 0 acc S3 ∧ (∀ j acc S4, P2 j acc S4 → rd2 S4) ∧
        (∀ j u2 acc2 S4, xs[j]? = some u2 → P2 j acc2 S4 → acc2.length < 100000 ∧ ∃ r4, ub u2 (wipeT r3 us) = some r4 ∧ Blk X scope fun Y => ew F Y kx r4 S4 fun tk S5 => ∃ kk, tk = kT kk ∧ Blk X scope fun Z => ew F Z vx r4 S5 fun tv S6 => P2 (j + 1) (putT acc2 kk tv) S6) ∧
        ∀ acc2 S4, P2 xs.length acc2 S4 → P (n + 1) acc2 S4) ∧
      ∀ acc S2, P ts.length acc S2 → ∀ q, q ∉ feet S2 → k (.ref q) ((q, .dk acc) :: S2))
    (hsa : ∀ x, foldedSetIterable ia X.env x = pure x := by intro _; rfl) (hsb : ∀ env x, foldedSetIterable ib env x = pure x := by intro _ _; rfl) : ew F X (dc2 kx vx ta ia tb ib scope pos) r S k := by
  intro σ H Q oka cc
  obtain ⟨wi, hi, h⟩ := h
  have pi2 : Blk X scope fun Y => PI Y tb ib fun σ H R => Blk X scope fun Y => WI Y tb ib σ H R := fun s1 H1 C cl fp => ⟨fun pins s σ H R I h => h s1 H1 C cl fp pins s I⟩
  have pk : Blk X scope fun Y => PE Y kx fun σ H Q => Blk X scope fun Y => WE Y kx σ H Q := fun s1 H1 C cl fp => ⟨fun pins s σ H Q I h => h s1 H1 C cl fp pins s I⟩
  have pv : Blk X scope fun Y => PE Y vx fun σ H Q => Blk X scope fun Y => WE Y vx σ H Q := fun s1 H1 C cl fp => ⟨fun pins s σ H Q I h => h s1 H1 C cl fp pins s I⟩
  exact we_of (pe_dc2 hc hN hi ok hus hga pi2 hgb pk pv hsa hsb) (dc2_t ta' tb' oka cc h)
/-- y = {..}, stored by the comprehension itself -/
theorem s1_setDc2 {i : Nat} {y : Str} {py spos : Pos} {kx vx ta ia tb ib : Expr} {scope : Scope} {own : List (Str × Nat)} {us : List Nat} {k : KE} {ga gb : TG} {ua ub : T → Rho → Option Rho} (hc : X.calm = true) (hN : X.N.Nodup) (hy : X.N[i]? = some y) (ok : BlkOk X.N X.env.scope scope own) (hus : ∀ i ∈ us, i ∈ own.map (·.2))
    (hga : Blk X scope fun Y => PG Y ta ga) (hgb : Blk X scope fun Y => PG Y tb gb) (ta' : Tgt X.K ga ua (own.map (·.2))) (tb' : Tgt X.K gb ub us)
    (h : iw F X ta ia r S fun ts rd S1 => ∃ P : Nat → List (Key × T) → Sto → Prop, P 0 [] S1 ∧ (∀ n acc S2, P n acc S2 → rd S2) ∧
      (∀ n u acc S2, ts[n]? = some u → P n acc S2 → ∃ r3, ua u (wipeT r (own.map (·.2))) = some r3 ∧ ∃ C : List T → (Sto → Prop) → Sto → Prop, (Blk X scope fun Y => iw F Y tb ib r3 S2 C) ∧ ∀ xs rd2 S3, C xs rd2 S3 → ∃ P2 : Nat → List (Key × T) → Sto → Prop, P2 0 acc S3 ∧ (∀ j acc S4, P2 j acc S4 → rd2 S4) ∧
        (∀ j u2 acc2 S4, xs[j]? = some u2 → P2 j acc2 S4 → acc2.length < 100000 ∧ ∃ r4, ub u2 (wipeT r3 us) = some r4 ∧ Blk X scope fun Y => ew F Y kx r4 S4 fun tk S5 => ∃ kk, tk = kT kk ∧ Blk X scope fun Z => ew F Z vx r4 S5 fun tv S6 => P2 (j + 1) (putT acc2 kk tv) S6) ∧
        ∀ acc2 S4, P2 xs.length acc2 S4 → P (n + 1) acc2 S4) ∧
      ∀ acc S2, P ts.length acc S2 → ∀ q, q ∉ feet S2 → k.nx (r.set i (some (.ref q))) ((q, .dk acc) :: S2))
    (hyl : X.env.scope.names.lookup y = some .local := by rfl) (hsw : swapsWith (dc2 kx vx ta ia tb ib scope pos) (some (.Name y py)) spos.line X.env = pure true := by rfl)
    (hsa : ∀ x, foldedSetIterable ia X.env x = pure x := by intro _; rfl) (hsb : ∀ env x, foldedSetIterable ib env x = pure x := by intro _ _; rfl) : s1w F X (.Assign [.Name y py] (dc2 kx vx ta ia tb ib scope pos) spos) r S k := by
  intro σ H D oka cc
  obtain ⟨wi, hi, h⟩ := h
  have pi2 : Blk X scope fun Y => PI Y tb ib fun σ H R => Blk X scope fun Y => WI Y tb ib σ H R := fun s1 H1 C cl fp => ⟨fun pins s σ H R I h => h s1 H1 C cl fp pins s I⟩
  have pk : Blk X scope fun Y => PE Y kx fun σ H Q => Blk X scope fun Y => WE Y kx σ H Q := fun s1 H1 C cl fp => ⟨fun pins s σ H Q I h => h s1 H1 C cl fp pins s I⟩
  have pv : Blk X scope fun Y => PE Y vx fun σ H Q => Blk X scope fun Y => WE Y vx σ H Q := fun s1 H1 C cl fp => ⟨fun pins s σ H Q I h => h s1 H1 C cl fp pins s I⟩
  refine ws1_of (ps_setDc2 hc hN hy hyl hsw hi ok hus hga pi2 hgb pk pv hsa hsb) ?_
  refine dc2_t (k := fun t S2 => k.nx (r.set i (some t)) S2) ta' tb' oka ?_ h
  intro v H' t S' st ok' tr hk
  exact cc.nx _ H' _ S' st (ok'.set tr) hk
theorem ow_none {k : Option Int → Sto → Prop} (hk : k none S) : ow F X none r S k := hk
theorem ow_some {e : Expr} {k : Option Int → Sto → Prop} (h : ew F X e r S fun t S1 => ∃ i, t = .int i ∧ k (some i) S1) : ow F X (some e) r S k := h
end
theorem atT0 {a : T} {xs : List T} : atI (a :: xs) 0 = some a := atI_nat (j := 0) rfl
theorem atT1 {a b : T} {xs : List T} : atI (a :: b :: xs) 1 = some b := atI_nat (j := 1) rfl
theorem cutT1 {a : T} {xs : List T} : cutT (a :: xs) (some 1) none = xs := by
  unfold cutT HT.sIx
  simp
end PT

set_option Elab.async false
set_option linter.all false
set_option maxRecDepth 100000
set_option maxHeartbeats 2000000
set_option autoImplicit false
namespace PT
open PySem L2 PySem.Spec PyProof.Rows
section
variable {F : Sto} {X : Cx} {r : Rho} {S : Sto} {st : Stmt} {sts : List Stmt}
/-- a statement by itself, then the rest -/
theorem sw_cut {k : KE} (J : Rho → Sto → Prop) (h : s1w F X st r S { k with nx := J }) (h2 : ∀ r1 S1, J r1 S1 → sw F X sts r1 S1 k) : sw F X (st :: sts) r S k :=
  sw_cons fun σ H D ok cc => h σ H D ok ⟨fun σ' H' r' S' st' ok' q => cc.nx σ' H' r' S' st' ok' (h2 _ _ q), cc.rt, cc.bk, cc.ct⟩
theorem tw_bool {op : BoolOp} {vs : List Expr} {pos : Pos} {k : Bool → Sto → Prop} (h : ww F X (.BoolOp op vs pos) r S k) : tw F X (.BoolOp op vs pos) r S k := tw_ww h
theorem tw_call {f : Expr} {es : List Expr} {kws : List Keyword} {pos : Pos} {k : Bool → Sto → Prop} (h : ew F X (.Call f es kws pos) r S fun t S1 => ∃ b, t = .bl b ∧ k b S1) : tw F X (.Call f es kws pos) r S k := tw_val h fun _ => rfl
theorem tw_name {x : Str} {pos : Pos} {k : Bool → Sto → Prop} (h : ew F X (.Name x pos) r S fun t S1 => ∃ b, t = .bl b ∧ k b S1) : tw F X (.Name x pos) r S k := tw_val h fun _ => rfl
/-- return, nothing left behind -/
theorem s1_ret0 {e : Expr} {pos : Pos} {k : KE} (h : ew F X e r S fun t _ => k.rt t []) : s1w F X (.Return (some e) pos) r S k := s1_ret (ew_drop fun σ H Q ok cc => h σ H Q ok fun v H1 t S1 st ok1 tr q => cc v H1 t S1 st ok1 tr ⟨[], List.nil_sublist _, q⟩)
/-- return, some left behind -/
theorem s1_retD {e : Expr} {pos : Pos} {k : KE} (h : ew F X e r S fun t S1 => ∃ S2, S2.Sublist S1 ∧ k.rt t S2) : s1w F X (.Return (some e) pos) r S k := s1_ret (ew_drop h)
theorem perm_map {α β : Type} {f : α → β} {l₁ l₂ : List β} (h : l₁.Perm l₂) : ∀ ks : List α, l₂ = ks.map f → ∃ zs : List α, zs.Perm ks ∧ l₁ = zs.map f := by
  induction h with
  | nil => intro ks e; cases ks with
    | nil => exact ⟨[], .nil, rfl⟩
    | cons k ks => cases e
  | cons x h ih =>
    intro ks e
    cases ks with
    | nil => cases e
    | cons k ks =>
      rw [List.map_cons] at e
      injection e with e1 e2
      obtain ⟨zs, p, q⟩ := ih ks e2
      exact ⟨k :: zs, p.cons k, by rw [List.map_cons, ← e1, q]⟩
  | swap x y l =>
    intro ks e
    match ks, e with
    | a :: b :: ks, e =>
      simp only [List.map_cons, List.cons.injEq] at e
      obtain ⟨e1, e2, e3⟩ := e
      exact ⟨b :: a :: ks, .swap a b ks, by simp [e1, e2, e3]⟩
  | trans h1 h2 ih1 ih2 =>
    intro ks e
    obtain ⟨zs, p, q⟩ := ih2 ks e
    obtain ⟨us, p2, q2⟩ := ih1 zs q
    exact ⟨us, p2.trans p, q2⟩
end
end PT

set_option Elab.async false
set_option linter.all false
set_option maxRecDepth 100000
set_option maxHeartbeats 2000000
set_option autoImplicit false
namespace B33
open PT PySem L2 PySem.Spec PyProof.Rows
def top (i : Nat) : Stmt := PySem.Challenge.pw_briefproof_k33_whole_exchanges.main.body.getD i (.Pass ⟨0, 0, 0, 0⟩)
/-! ### sayings and terms -/
/-- a text that may stand in data -/
structure Nm where
  s : Str
  ok : (PyData.str s).canLay0 = true
deriving DecidableEq
def nm (x : String) (h : (PyData.str (Str.ofString x)).canLay0 = true := by decide +kernel) : Nm := ⟨Str.ofString x, h⟩
inductive Say where
  | atom (x : Nm) | fls | thn (a b : Say) | and (a b : Say) | or (a b : Say)
deriving DecidableEq
def Say.t : Say → T
  | .atom x => .tup [.str "atom", .str x.s]
  | .fls => .tup [.str "false"]
  | .thn a b => .tup [.str "then", a.t, b.t]
  | .and a b => .tup [.str "and", a.t, b.t]
  | .or a b => .tup [.str "or", a.t, b.t]
def Say.dep : Say → Nat
  | .atom _ => 1
  | .fls => 1
  | .thn a b => max a.dep b.dep + 1
  | .and a b => max a.dep b.dep + 1
  | .or a b => max a.dep b.dep + 1
def Say.size : Say → Nat
  | .atom _ => 1
  | .fls => 1
  | .thn a b => a.size + b.size + 1
  | .and a b => a.size + b.size + 1
  | .or a b => a.size + b.size + 1
inductive Tm where
  | use (x : Nm) | take (x : Nm) (s : Say) (a : Tm) | app (a b : Tm) | pair (a b : Tm) | fst (a : Tm) | snd (a : Tm) | inl (a : Tm) (s : Say) | inr (s : Say) (a : Tm) | cas (w : Tm) (x : Nm) (a : Tm) (y : Nm) (b : Tm)
def Tm.t : Tm → T
  | .use x => .tup [.str "use", .str x.s]
  | .take x s a => .tup [.str "take", .str x.s, s.t, a.t]
  | .app a b => .tup [.str "apply", a.t, b.t]
  | .pair a b => .tup [.str "pair", a.t, b.t]
  | .fst a => .tup [.str "first", a.t]
  | .snd a => .tup [.str "second", a.t]
  | .inl a s => .tup [.str "left", a.t, s.t]
  | .inr s a => .tup [.str "right", s.t, a.t]
  | .cas w x a y b => .tup [.str "cases", w.t, .str x.s, a.t, .str y.s, b.t]
def Tm.dep : Tm → Nat
  | .use _ => 1
  | .take _ s a => max s.dep a.dep + 1
  | .app a b => max a.dep b.dep + 1
  | .pair a b => max a.dep b.dep + 1
  | .fst a => a.dep + 1
  | .snd a => a.dep + 1
  | .inl a s => max a.dep s.dep + 1
  | .inr s a => max s.dep a.dep + 1
  | .cas w _ a _ b => max w.dep (max a.dep b.dep) + 1
/-- how many parts -/
def Tm.size : Tm → Nat
  | .use _ => 1
  | .take _ _ a => a.size + 1
  | .app a b => a.size + b.size + 1
  | .pair a b => a.size + b.size + 1
  | .fst a => a.size + 1
  | .snd a => a.size + 1
  | .inl a _ => a.size + 1
  | .inr _ a => a.size + 1
  | .cas w _ a _ b => w.size + a.size + b.size + 1
/-- the names that are used -/
def Tm.names : Tm → List Nm
  | .use x => [x]
  | .take _ _ a => a.names
  | .app a b => a.names ++ b.names
  | .pair a b => a.names ++ b.names
  | .fst a => a.names
  | .snd a => a.names
  | .inl a _ => a.names
  | .inr _ a => a.names
  | .cas w _ a _ b => w.names ++ (a.names ++ b.names)
/-! as data that may be compared -/
def Say.d : Say → PyData
  | .atom x => .tuple [.str "atom", .str x.s]
  | .fls => .tuple [.str "false"]
  | .thn a b => .tuple [.str "then", a.d, b.d]
  | .and a b => .tuple [.str "and", a.d, b.d]
  | .or a b => .tuple [.str "or", a.d, b.d]
theorem Say.py : ∀ s : Say, T.py s.t = some s.d
  | .atom x => rfl
  | .fls => rfl
  | .thn a b => by simp only [Say.t, T.py, T.pys, Say.py a, Say.py b]; rfl
  | .and a b => by simp only [Say.t, T.py, T.pys, Say.py a, Say.py b]; rfl
  | .or a b => by simp only [Say.t, T.py, T.pys, Say.py a, Say.py b]; rfl
theorem lay_str (x : String) (h : (PyData.str (Str.ofString x)).canLay0 = true := by decide +kernel) : (PyData.str (Str.ofString x)).canLay0 = true := h
theorem Say.lay : ∀ s : Say, s.d.canLay0 = true
  | .atom x => by simp only [Say.d, PyData.canLay0, PyData.canLayAll0, Bool.and_eq_true]; exact ⟨by decide +kernel, x.ok, trivial⟩
  | .fls => by decide +kernel
  | .thn a b => by simp only [Say.d, PyData.canLay0, PyData.canLayAll0, Bool.and_eq_true, Say.lay a, Say.lay b]; exact ⟨by decide +kernel, trivial, trivial, trivial⟩
  | .and a b => by simp only [Say.d, PyData.canLay0, PyData.canLayAll0, Bool.and_eq_true, Say.lay a, Say.lay b]; exact ⟨by decide +kernel, trivial, trivial, trivial⟩
  | .or a b => by simp only [Say.d, PyData.canLay0, PyData.canLayAll0, Bool.and_eq_true, Say.lay a, Say.lay b]; exact ⟨by decide +kernel, trivial, trivial, trivial⟩
theorem Say.deep : ∀ s : Say, s.d.depth ≤ s.dep
  | .atom x => by simp [Say.d, PyData.depth, PyData.depthAll, Say.dep]
  | .fls => by simp [Say.d, PyData.depth, PyData.depthAll, Say.dep]
  | .thn a b => by have := Say.deep a; have := Say.deep b; simp only [Say.d, PyData.depth, PyData.depthAll, Say.dep]; omega
  | .and a b => by have := Say.deep a; have := Say.deep b; simp only [Say.d, PyData.depth, PyData.depthAll, Say.dep]; omega
  | .or a b => by have := Say.deep a; have := Say.deep b; simp only [Say.d, PyData.depth, PyData.depthAll, Say.dep]; omega
theorem eqv_strs (x y : Str) : PyData.eqv (.str x) (.str y) = decide (x = y) := by rw [PyData.eqv]; by_cases h : x = y <;> simp [h]
theorem neq_head {a b : Str} {xs ys : List PyData} (h : (a == b) = false) : PyData.eqv (.tuple (.str a :: xs)) (.tuple (.str b :: ys)) = false := by
  rw [PyData.eqv, PyData.eqvAll, PyData.eqv, h, Bool.false_and]
theorem Say.eqv : ∀ s u : Say, PyData.eqv s.d u.d = decide (s = u)
  | .atom x, .atom y => by
    simp only [Say.d, PyData.eqv, PyData.eqvAll, beq_self_eq_true, Bool.true_and, Bool.and_true, Say.atom.injEq]
    by_cases h : x = y
    · subst h; simp
    · have : x.s ≠ y.s := fun e => h (by cases x; cases y; simp_all)
      simp [h, this]
  | .fls, .fls => by simp [Say.d, PyData.eqv, PyData.eqvAll]
  | .thn a b, .thn c d => by simp only [Say.d, PyData.eqv, PyData.eqvAll, beq_self_eq_true, Bool.true_and, Bool.and_true, Say.thn.injEq, Say.eqv a c, Say.eqv b d]; simp
  | .and a b, .and c d => by simp only [Say.d, PyData.eqv, PyData.eqvAll, beq_self_eq_true, Bool.true_and, Bool.and_true, Say.and.injEq, Say.eqv a c, Say.eqv b d]; simp
  | .or a b, .or c d => by simp only [Say.d, PyData.eqv, PyData.eqvAll, beq_self_eq_true, Bool.true_and, Bool.and_true, Say.or.injEq, Say.eqv a c, Say.eqv b d]; simp
  | .atom x, .fls => by rw [Say.d, Say.d, neq_head (by decide +kernel)]; simp
  | .atom x, .thn c d => by rw [Say.d, Say.d, neq_head (by decide +kernel)]; simp
  | .atom x, .and c d => by rw [Say.d, Say.d, neq_head (by decide +kernel)]; simp
  | .atom x, .or c d => by rw [Say.d, Say.d, neq_head (by decide +kernel)]; simp
  | .fls, .atom y => by rw [Say.d, Say.d, neq_head (by decide +kernel)]; simp
  | .fls, .thn c d => by rw [Say.d, Say.d, neq_head (by decide +kernel)]; simp
  | .fls, .and c d => by rw [Say.d, Say.d, neq_head (by decide +kernel)]; simp
  | .fls, .or c d => by rw [Say.d, Say.d, neq_head (by decide +kernel)]; simp
  | .thn a b, .atom y => by rw [Say.d, Say.d, neq_head (by decide +kernel)]; simp
  | .thn a b, .fls => by rw [Say.d, Say.d, neq_head (by decide +kernel)]; simp
  | .thn a b, .and c d => by rw [Say.d, Say.d, neq_head (by decide +kernel)]; simp
  | .thn a b, .or c d => by rw [Say.d, Say.d, neq_head (by decide +kernel)]; simp
  | .and a b, .atom y => by rw [Say.d, Say.d, neq_head (by decide +kernel)]; simp
  | .and a b, .fls => by rw [Say.d, Say.d, neq_head (by decide +kernel)]; simp
  | .and a b, .thn c d => by rw [Say.d, Say.d, neq_head (by decide +kernel)]; simp
  | .and a b, .or c d => by rw [Say.d, Say.d, neq_head (by decide +kernel)]; simp
  | .or a b, .atom y => by rw [Say.d, Say.d, neq_head (by decide +kernel)]; simp
  | .or a b, .fls => by rw [Say.d, Say.d, neq_head (by decide +kernel)]; simp
  | .or a b, .thn c d => by rw [Say.d, Say.d, neq_head (by decide +kernel)]; simp
  | .or a b, .and c d => by rw [Say.d, Say.d, neq_head (by decide +kernel)]; simp
theorem Say.eqT {s u : Say} (h : s.dep ≤ 64) (h2 : u.dep ≤ 64) : EqT s.t u.t (decide (s = u)) := by
  have q := eqT_fit s.py u.py s.lay u.lay (Nat.le_trans s.deep h) (Nat.le_trans u.deep h2)
  rw [Say.eqv] at q
  exact q
def Tm.d : Tm → PyData
  | .use x => .tuple [.str "use", .str x.s]
  | .take x s a => .tuple [.str "take", .str x.s, s.d, a.d]
  | .app a b => .tuple [.str "apply", a.d, b.d]
  | .pair a b => .tuple [.str "pair", a.d, b.d]
  | .fst a => .tuple [.str "first", a.d]
  | .snd a => .tuple [.str "second", a.d]
  | .inl a s => .tuple [.str "left", a.d, s.d]
  | .inr s a => .tuple [.str "right", s.d, a.d]
  | .cas w x a y b => .tuple [.str "cases", w.d, .str x.s, a.d, .str y.s, b.d]
theorem Tm.py : ∀ s : Tm, T.py s.t = some s.d
  | .use x => rfl
  | .take x s a => by simp only [Tm.t, T.py, T.pys, s.py, Tm.py a]; rfl
  | .app a b => by simp only [Tm.t, T.py, T.pys, Tm.py a, Tm.py b]; rfl
  | .pair a b => by simp only [Tm.t, T.py, T.pys, Tm.py a, Tm.py b]; rfl
  | .fst a => by simp only [Tm.t, T.py, T.pys, Tm.py a]; rfl
  | .snd a => by simp only [Tm.t, T.py, T.pys, Tm.py a]; rfl
  | .inl a s => by simp only [Tm.t, T.py, T.pys, Tm.py a, s.py]; rfl
  | .inr s a => by simp only [Tm.t, T.py, T.pys, Tm.py a, s.py]; rfl
  | .cas w x a y b => by simp only [Tm.t, T.py, T.pys, Tm.py w, Tm.py a, Tm.py b]; rfl
theorem Tm.fit : ∀ s : Tm, s.d.canLay0 = true ∧ s.d.depth ≤ s.dep
  | .use x => ⟨by simp only [Tm.d, PyData.canLay0, PyData.canLayAll0, Bool.and_eq_true]; exact ⟨by decide +kernel, x.ok, trivial⟩, by simp [Tm.d, PyData.depth, PyData.depthAll, Tm.dep]⟩
  | .take x s a => ⟨by simp only [Tm.d, PyData.canLay0, PyData.canLayAll0, Bool.and_eq_true, s.lay, (Tm.fit a).1]; exact ⟨by decide +kernel, x.ok, trivial, trivial, trivial⟩, by have := s.deep; have := (Tm.fit a).2; simp only [Tm.d, PyData.depth, PyData.depthAll, Tm.dep]; omega⟩
  | .app a b => ⟨by simp only [Tm.d, PyData.canLay0, PyData.canLayAll0, Bool.and_eq_true, (Tm.fit b).1, (Tm.fit a).1]; exact ⟨by decide +kernel, trivial, trivial, trivial⟩, by have := (Tm.fit b).2; have := (Tm.fit a).2; simp only [Tm.d, PyData.depth, PyData.depthAll, Tm.dep]; omega⟩
  | .pair a b => ⟨by simp only [Tm.d, PyData.canLay0, PyData.canLayAll0, Bool.and_eq_true, (Tm.fit b).1, (Tm.fit a).1]; exact ⟨by decide +kernel, trivial, trivial, trivial⟩, by have := (Tm.fit b).2; have := (Tm.fit a).2; simp only [Tm.d, PyData.depth, PyData.depthAll, Tm.dep]; omega⟩
  | .fst a => ⟨by simp only [Tm.d, PyData.canLay0, PyData.canLayAll0, Bool.and_eq_true, (Tm.fit a).1]; exact ⟨by decide +kernel, trivial, trivial⟩, by have := (Tm.fit a).2; simp only [Tm.d, PyData.depth, PyData.depthAll, Tm.dep]; omega⟩
  | .snd a => ⟨by simp only [Tm.d, PyData.canLay0, PyData.canLayAll0, Bool.and_eq_true, (Tm.fit a).1]; exact ⟨by decide +kernel, trivial, trivial⟩, by have := (Tm.fit a).2; simp only [Tm.d, PyData.depth, PyData.depthAll, Tm.dep]; omega⟩
  | .inl a s => ⟨by simp only [Tm.d, PyData.canLay0, PyData.canLayAll0, Bool.and_eq_true, s.lay, (Tm.fit a).1]; exact ⟨by decide +kernel, trivial, trivial, trivial⟩, by have := s.deep; have := (Tm.fit a).2; simp only [Tm.d, PyData.depth, PyData.depthAll, Tm.dep]; omega⟩
  | .inr s a => ⟨by simp only [Tm.d, PyData.canLay0, PyData.canLayAll0, Bool.and_eq_true, s.lay, (Tm.fit a).1]; exact ⟨by decide +kernel, trivial, trivial, trivial⟩, by have := s.deep; have := (Tm.fit a).2; simp only [Tm.d, PyData.depth, PyData.depthAll, Tm.dep]; omega⟩
  | .cas w x a y b => ⟨by simp only [Tm.d, PyData.canLay0, PyData.canLayAll0, Bool.and_eq_true, (Tm.fit w).1, (Tm.fit b).1, (Tm.fit a).1]; exact ⟨by decide +kernel, trivial, x.ok, trivial, y.ok, trivial, trivial⟩, by have := (Tm.fit w).2; have := (Tm.fit b).2; have := (Tm.fit a).2; simp only [Tm.d, PyData.depth, PyData.depthAll, Tm.dep]; omega⟩
/-! tables of sayings -/
abbrev Tab := List (Key × Say)
def Tab.t (g : Tab) : List (Key × T) := g.map fun p => (p.1, p.2.t)
def Tab.get (g : Tab) (x : Nm) : Option Say := (g.find? fun p => decide (p.1 = .inr x.s)).map (·.2)
def Tab.ins (g : Tab) (x : Nm) (s : Say) : Tab := if g.any fun p => decide (p.1 = .inr x.s) then g.map fun p => if p.1 = .inr x.s then (p.1, s) else p else g ++ [(.inr x.s, s)]
theorem Tab.val (g : Tab) (x : Nm) : valT g.t (.inr x.s) = (g.get x).map Say.t := by
  unfold valT Tab.get Tab.t
  rw [List.find?_map]
  show Option.map _ (Option.map _ (List.find? (fun p => decide (p.1 = Sum.inr x.s)) g)) = _
  cases List.find? (fun p : Key × Say => decide (p.1 = Sum.inr x.s)) g <;> rfl
theorem Tab.put (g : Tab) (x : Nm) (s : Say) : putT g.t (.inr x.s) s.t = (g.ins x s).t := by
  unfold putT Tab.ins Tab.t
  rw [List.any_map]
  show (if (g.any fun p => decide (p.1 = Sum.inr x.s)) = true then _ else _) = _
  split
  · rw [List.map_map, List.map_map]
    apply List.map_congr_left
    intro p _
    show (if p.1 = Sum.inr x.s then _ else _) = _
    split <;> rename_i h <;> simp [h]
  · rw [List.map_append]; rfl
theorem Tab.ins_length (g : Tab) (x : Nm) (s : Say) : (g.ins x s).length ≤ g.length + 1 := by
  unfold Tab.ins
  split <;> simp
theorem Tab.get_ins (g : Tab) (x y : Nm) (s : Say) : (g.ins x s).get y = if y = x then some s else g.get y := by
  have inj : ∀ a b : Nm, (a.s = b.s) ↔ a = b := fun a b => ⟨fun h => by cases a; cases b; simp_all, fun h => by rw [h]⟩
  unfold Tab.get Tab.ins
  split
  · rename_i h
    induction g with
    | nil => simp at h
    | cons p g ih =>
      rw [List.map_cons, List.find?_cons, List.find?_cons]
      by_cases hp : p.1 = Sum.inr x.s
      · simp only [hp, if_true]
        by_cases hy : y = x
        · subst hy; simp
        · have hy2 : ¬ x.s = y.s := fun e => hy ((inj _ _).mp e).symm
          simp only [Sum.inr.injEq, hy2, decide_false, hy, if_false]
          clear ih h
          induction g with
          | nil => rfl
          | cons q g ih =>
            rw [List.map_cons, List.find?_cons, List.find?_cons]
            by_cases hq : q.1 = Sum.inr x.s
            · simp only [hq, if_true, Sum.inr.injEq, hy2, decide_false]; exact ih
            · simp only [hq, if_false]
              split
              · rfl
              · exact ih
      · simp only [hp, if_false]
        have h' : (g.any fun p => decide (p.1 = Sum.inr x.s)) = true := by
          rw [List.any_cons] at h; simpa [hp] using h
        by_cases hpy : p.1 = Sum.inr y.s
        · have hyx : ¬ y = x := fun e => hp (by rw [hpy, e])
          simp [hpy, hyx]
        · simp only [hpy, decide_false]
          exact ih h'
  · rename_i h
    rw [List.find?_append]
    by_cases hy : y = x
    · subst hy
      have : List.find? (fun p : Key × Say => decide (p.1 = Sum.inr y.s)) g = none := by
        rw [List.find?_eq_none]
        intro p hp e
        exact h (List.any_eq_true.mpr ⟨p, hp, e⟩)
      simp [this]
    · have hy2 : ¬ x.s = y.s := fun e => hy ((inj _ _).mp e).symm
      simp [hy, hy2]
def Say.put (g : Tab) : Say → Say
  | .atom x => (g.get x).getD (.atom x)
  | .fls => .fls
  | .thn a b => .thn (a.put g) (b.put g)
  | .and a b => .and (a.put g) (b.put g)
  | .or a b => .or (a.put g) (b.put g)
/-- what a term proves -/
def kind : Tm → Tab → Option Say
  | .use x, G => G.get x
  | .take x s a, G => (kind a (G.ins x s)).map (.thn s)
  | .app a b, G => match kind a G, kind b G with
    | some (.thn p q), some u => if p = u then some q else none
    | _, _ => none
  | .pair a b, G => match kind a G, kind b G with
    | some p, some q => some (.and p q)
    | _, _ => none
  | .fst a, G => match kind a G with
    | some (.and p _) => some p
    | _ => none
  | .snd a, G => match kind a G with
    | some (.and _ q) => some q
    | _ => none
  | .inl a s, G => (kind a G).map (.or · s)
  | .inr s a, G => (kind a G).map (.or s ·)
  | .cas w x a y b, G => match kind w G with
    | some (.or p q) => match kind a (G.ins x p), kind b (G.ins y q) with
      | some u, some v => if u = v then some u else none
      | _, _ => none
    | _ => none
end B33

set_option Elab.async false
set_option linter.all false
set_option maxRecDepth 100000
set_option maxHeartbeats 2000000
set_option autoImplicit false
namespace B33
open PT PySem L2 PySem.Spec PyProof.Rows
/-! ### what the defs promise -/
abbrev Pre := List T → Sto → (T → Prop) → Prop
def pThen (n : Nat) : Pre := fun ts F q => 1 ≤ n ∧ ∃ a b, ts = [a, b] ∧ q (.tup [.str "then", a, b])
def pBoth (n : Nat) : Pre := fun ts F q => 1 ≤ n ∧ ∃ a b, ts = [a, b] ∧ q (.tup [.str "and", a, b])
def pEither (n : Nat) : Pre := fun ts F q => 1 ≤ n ∧ ∃ a b, ts = [a, b] ∧ q (.tup [.str "or", a, b])
def pPut (n : Nat) : Pre := fun ts F q => ∃ (s : Say) (d : Addr) (g : Tab), ts = [s.t, .ref d] ∧ (d, .dk g.t) ∈ F ∧ s.dep ≤ n ∧ q (s.put g).t
def pEq (n : Nat) : Pre := fun ts F q => 2 ≤ n ∧ ∃ a b, ts = [a, b] ∧ q (.tup [.str "and", .tup [.str "then", a, b], .tup [.str "then", b, a]])
def pSwapped (n : Nat) : Pre := fun ts F q => 1 ≤ n ∧ ∃ a, ts = [a] ∧ q (.tup [.str "pair", .tup [.str "second", a], .tup [.str "first", a]])
def same (s : T) : T := .tup [.str "take", .str "h0", s, .tup [.str "use", .str "h0"]]
def pSame (n : Nat) : Pre := fun ts F q => 1 ≤ n ∧ ∃ a, ts = [a] ∧ q (.tup [.str "pair", same a, same a])
def Tm.parts : Tm → List Tm
  | .use _ => []
  | .take _ _ a => [a]
  | .app a b => [a, b]
  | .pair a b => [a, b]
  | .fst a => [a]
  | .snd a => [a]
  | .inl a _ => [a]
  | .inr _ a => [a]
  | .cas w _ a _ b => [w, a, b]
def pWithin (n : Nat) : Pre := fun ts F q => 1 ≤ n ∧ ∃ t : Tm, ts = [t.t] ∧ q (.tup (t.parts.map Tm.t))
def hn (i : Nat) : Str := "h" ++ Str.ofString (toString (i : Int))
def hnm (i : Nat) : Nm := if h : (PyData.str (hn i)).canLay0 = true then ⟨hn i, h⟩ else nm "h"
theorem hnm_s : ∀ i < 40, (hnm i).s = hn i := by decide +kernel
theorem hnm_inj : ∀ i < 40, ∀ j < 40, hn i = hn j → i = j := by decide +kernel
def pNew (n : Nat) : Pre := fun ts F q => 1 ≤ n ∧ ∃ (d : Addr) (kvs : List (Key × T)) (ks : List Nm), ts = [.ref d] ∧ (d, .dk kvs) ∈ F ∧ kvs.map (·.1) = ks.map (fun x => Sum.inr x.s) ∧ ks.length ≤ 38 ∧ ∀ i, i ≤ ks.length → hnm i ∉ ks → (∀ j < i, hnm j ∈ ks) → q (.str (hnm i).s)
def pNames (n : Nat) : Pre := fun ts F q => 1 ≤ n ∧ ∃ (t : Tm) (L : List Nm), ts = [t.t] ∧ t.dep ≤ 60 ∧ t.names ⊆ L ∧ L.length < 64 ∧ ∀ ys : List Nm, ys.Nodup → (∀ z, z ∈ ys ↔ z ∈ t.names) → q (.tup (ys.map fun y => .str y.s))
/-- the first two names that stand in no one -/
def Frs (K : List Nm) (i j : Nat) : Prop := hnm i ∉ K ∧ (∀ m < i, hnm m ∈ K) ∧ hnm j ∉ K ∧ hnm j ≠ hnm i ∧ (∀ m < j, hnm m ∈ K ∨ hnm m = hnm i) ∧ i ≤ 38 ∧ j ≤ 38
def pApart (n : Nat) : Pre := fun ts F q => 2 ≤ n ∧ ∃ (f l : Tm) (L : List Nm), ts = [f.t, l.t] ∧ f.dep ≤ 60 ∧ l.dep ≤ 60 ∧ f.names ++ l.names ⊆ L ∧ L.length ≤ 37 ∧ ∀ i j, Frs (f.names ++ l.names) i j → q (.tup [.str (hnm i).s, .str (hnm j).s])
def led : Say → Say → Tm → Tm → Nm → Nm → Tm
  | .thn a b, .thn c d, f, l, x, y => .take x (.thn a b) (.take y c (.app (.fst l) (.app (.use x) (.app (.snd f) (.use y)))))
  | .and a b, _, f, l, x, y => .take x (.and a b) (.pair (.app (.fst f) (.fst (.use x))) (.app (.fst l) (.snd (.use x))))
  | .or a b, .or c d, f, l, x, y => .take x (.or a b) (.cas (.use x) y (.inl (.app (.fst f) (.use y)) d) y (.inr c (.app (.fst l) (.use y))))
  | _, _, f, _, _, _ => f
/-- two sayings of one kind, with parts -/
def kin : Say → Say → Bool
  | .thn _ _, .thn _ _ => true
  | .and _ _, .and _ _ => true
  | .or _ _, .or _ _ => true
  | _, _ => false
def pLed (n : Nat) : Pre := fun ts F q => 3 ≤ n ∧ ∃ (a b : Say) (f l : Tm) (L : List Nm), ts = [a.t, b.t, f.t, l.t] ∧ kin a b = true ∧ f.dep ≤ 60 ∧ l.dep ≤ 60 ∧ f.names ++ l.names ⊆ L ∧ L.length ≤ 37 ∧ ∀ i j, Frs (f.names ++ l.names) i j → q (led a b f l (hnm i) (hnm j)).t
def swp (t : Tm) : Tm := .pair (.snd t) (.fst t)
def sm (s : Say) : Tm := .pair (.take (hnm 0) s (.use (hnm 0))) (.take (hnm 0) s (.use (hnm 0)))
/-- a table of one saying -/
def one1 (x : Nm) (s : Say) : Tab := [(.inr x.s, s)]
/-- the terms of exchanges -/
def ExR (x : Nm) (one other : Say) (e : Tm) : Say → Tm → Prop
  | .atom y, t => t = if y = x then e else sm (.atom y)
  | .fls, t => t = sm .fls
  | .thn a b, t => ∃ f l i j i2 j2, ExR x one other e a f ∧ ExR x one other e b l ∧ Frs (f.names ++ l.names) i j ∧ Frs ((swp f).names ++ (swp l).names) i2 j2 ∧
    t = .pair (led (Say.put (one1 x one) (.thn a b)) (Say.put (one1 x other) (.thn a b)) f l (hnm i) (hnm j)) (led (Say.put (one1 x other) (.thn a b)) (Say.put (one1 x one) (.thn a b)) (swp f) (swp l) (hnm i2) (hnm j2))
  | .and a b, t => ∃ f l i j i2 j2, ExR x one other e a f ∧ ExR x one other e b l ∧ Frs (f.names ++ l.names) i j ∧ Frs ((swp f).names ++ (swp l).names) i2 j2 ∧
    t = .pair (led (Say.put (one1 x one) (.and a b)) (Say.put (one1 x other) (.and a b)) f l (hnm i) (hnm j)) (led (Say.put (one1 x other) (.and a b)) (Say.put (one1 x one) (.and a b)) (swp f) (swp l) (hnm i2) (hnm j2))
  | .or a b, t => ∃ f l i j i2 j2, ExR x one other e a f ∧ ExR x one other e b l ∧ Frs (f.names ++ l.names) i j ∧ Frs ((swp f).names ++ (swp l).names) i2 j2 ∧
    t = .pair (led (Say.put (one1 x one) (.or a b)) (Say.put (one1 x other) (.or a b)) f l (hnm i) (hnm j)) (led (Say.put (one1 x other) (.or a b)) (Say.put (one1 x one) (.or a b)) (swp f) (swp l) (hnm i2) (hnm j2))
/-- the terms of exchanges at any scheme within stay in bounds: what the walk asks -/
structure ExB (x : Nm) (one other : Say) (e : Tm) (s : Say) : Prop where
  lim : ∀ t, ExR x one other e s t → t.dep ≤ 58 ∧ ∃ L : List Nm, t.names ⊆ L ∧ L.length ≤ 18
/-- .. of all parts -/
def ExBs (x : Nm) (one other : Say) (e : Tm) : Say → Prop
  | .atom y => True
  | .fls => True
  | .thn a b => ExB x one other e a ∧ ExB x one other e b ∧ ExBs x one other e a ∧ ExBs x one other e b
  | .and a b => ExB x one other e a ∧ ExB x one other e b ∧ ExBs x one other e a ∧ ExBs x one other e b
  | .or a b => ExB x one other e a ∧ ExB x one other e b ∧ ExBs x one other e a ∧ ExBs x one other e b
def pExch (n : Nat) : Pre := fun ts F q => ∃ (s : Say) (x : Nm) (one other : Say) (e : Tm), ts = [s.t, .str x.s, one.t, other.t, e.t] ∧ s.dep + 4 ≤ n ∧ s.dep ≤ 60 ∧ ExBs x one other e s ∧ ∀ t, ExR x one other e s t → q t.t
/-! the kernel -/
def Tm.says (m : Nat) : Tm → Prop
  | .use _ => True
  | .take _ s a => s.dep ≤ m ∧ a.says m
  | .app a b => a.says m ∧ b.says m
  | .pair a b => a.says m ∧ b.says m
  | .fst a => a.says m
  | .snd a => a.says m
  | .inl a s => a.says m ∧ s.dep ≤ m
  | .inr s a => s.dep ≤ m ∧ a.says m
  | .cas w _ a _ b => w.dep ≤ 1 ∧ w.says m ∧ a.says m ∧ b.says m
def Tab.nd (g : Tab) : Prop := (g.map (·.1)).Nodup
def Tab.says (m : Nat) (g : Tab) : Prop := ∀ p ∈ g, p.2.dep ≤ m
/-- what both kernels ask of a term: m the depth of the sayings that it tells -/
structure Good (m : Nat) (t : Tm) (G : Tab) : Prop where
  (ts : t.says m) (gs : G.says m) (dp : t.dep + m ≤ 63) (len : G.length + t.dep ≤ 1000)
def joined : Tm → List Say → Option Say
  | .app _ _, [.thn p q, u] => if p = u then some q else none
  | .pair _ _, [p, q] => some (.and p q)
  | .fst _, [.and p _] => some p
  | .snd _, [.and _ q] => some q
  | .inl _ s, [p] => some (.or p s)
  | .inr s _, [p] => some (.or s p)
  | _, _ => none
def pJoined (n : Nat) : Pre := fun ts F q => 2 ≤ n ∧ ∃ (t : Tm) (row : Addr) (ss : List Say) (pl : T) (s : Say), ts = [t.t, .ref row, pl] ∧ (row, .lst (ss.map Say.t)) ∈ F ∧ (∀ u ∈ ss, u.dep ≤ 64) ∧ joined t ss = some s ∧ q s.t
def cProved (n : Nat) : Con := fun ts F S k => ∃ (t : Tm) (g fo : Addr) (G : Tab) (th : T) (pl : List Key) (kvs : List (List Key × T)) (s : Say) (m : Nat), ts = [t.t, .ref g, th, .kt pl, .ref fo] ∧ S = [(fo, .dt kvs)] ∧ (g, .dk G.t) ∈ F ∧ 2 * t.dep + 3 ≤ n ∧
  Good m t G ∧ pl.length + t.dep ≤ 1000 ∧ kvs.length + t.size ≤ 90000 ∧ kind t G = some s ∧ ∀ kvs' : List (List Key × T), kvs'.length ≤ kvs.length + t.size → k s.t [(fo, .dt kvs')]
def cCases (n : Nat) : Con := fun ts F S k => ∃ (w : Tm) (x : Nm) (a : Tm) (y : Nm) (b : Tm) (g fo : Addr) (G : Tab) (th : T) (pl : List Key) (kvs : List (List Key × T)) (s : Say) (m : Nat), ts = [(Tm.cas w x a y b).t, .ref g, th, .kt pl, .ref fo] ∧ S = [(fo, .dt kvs)] ∧ (g, .dk G.t) ∈ F ∧ 2 * (Tm.cas w x a y b).dep + 2 ≤ n ∧
  Good m (Tm.cas w x a y b) G ∧ pl.length + (Tm.cas w x a y b).dep ≤ 1000 ∧ kvs.length + (Tm.cas w x a y b).size ≤ 90000 ∧ kind (Tm.cas w x a y b) G = some s ∧ ∀ kvs' : List (List Key × T), kvs'.length + 1 ≤ kvs.length + (Tm.cas w x a y b).size → k s.t [(fo, .dt kvs')]
def pKindOf (n : Nat) : Pre := fun ts F q => ∃ (t : Tm) (g : Addr) (G : Tab) (th : T) (s : Say) (m : Nat), ts = [t.t, .ref g, th] ∧ (g, .dk G.t) ∈ F ∧ 2 * t.dep + 4 ≤ n ∧ Good m t G ∧ t.size ≤ 90000 ∧ kind t G = some s ∧ q s.t
/-! the law's own -/
def tapeS (a b : Addr) (seed : Int) (ns : List Int) : Sto := [(a, .lst [.ref b, .int seed]), (b, .lst (ns.map T.int))]
structure TapeOk (seed : Int) (ns : List Int) : Prop where
  (nn : ∀ n ∈ ns, 0 ≤ n) (s0 : 0 ≤ seed) (s1 : seed < 2147483647) (len : ns.length ≤ 63)
def cTape (n : Nat) : Con := fun ts F S k => 1 ≤ n ∧ ∃ (sc : Addr) (is : List Int), ts = [.ref sc] ∧ S = [] ∧ (sc, .lst (is.map T.int)) ∈ F ∧ is.length ≤ 63 ∧ ∀ a b seed ns, TapeOk seed ns → k (.ref a) (tapeS a b seed ns)
def cDraw (n : Nat) : Con := fun ts F S k => 1 ≤ n ∧ ∃ (a b : Addr) (seed : Int) (ns : List Int) (many : Int), ts = [.ref a, .int many] ∧ S = tapeS a b seed ns ∧ TapeOk seed ns ∧ 0 < many ∧ many ≤ 1000 ∧ ∀ i seed' ns', 0 ≤ i → i < many → TapeOk seed' ns' → k (.int i) (tapeS a b seed' ns')
def cPick (n : Nat) : Con := fun ts F S k => 2 ≤ n ∧ ∃ (a b row : Addr) (seed : Int) (ns : List Int) (us : List T), ts = [.ref a, .ref row] ∧ S = tapeS a b seed ns ∧ TapeOk seed ns ∧ (row, .lst us) ∈ F ∧ us ≠ [] ∧ us.length ≤ 1000 ∧ ∀ t seed' ns', t ∈ us → TapeOk seed' ns' → k t (tapeS a b seed' ns')
def Say.atoms : Say → List Nm
  | .atom x => [x]
  | .fls => []
  | .thn a b => a.atoms ++ b.atoms
  | .and a b => a.atoms ++ b.atoms
  | .or a b => a.atoms ++ b.atoms
def cSaying (n : Nat) : Con := fun ts F S k => ∃ (a b nz : Addr) (seed : Int) (ns : List Int) (d : Nat) (xs : List Nm), ts = [.ref a, .int d, .ref nz] ∧ S = tapeS a b seed ns ∧ TapeOk seed ns ∧ (nz, .lst (xs.map fun x => .str x.s)) ∈ F ∧ xs ≠ [] ∧ xs.length ≤ 1000 ∧ d + 3 ≤ n ∧ ∀ (s : Say) seed' ns', s.dep ≤ d + 1 → s.atoms ⊆ xs → TapeOk seed' ns' → k s.t (tapeS a b seed' ns')
def Say.holds (v : Nm → Bool) : Say → Bool
  | .atom x => v x
  | .fls => false
  | .thn a b => !a.holds v || b.holds v
  | .and a b => a.holds v && b.holds v
  | .or a b => a.holds v || b.holds v
def pHolds (n : Nat) : Pre := fun ts F q => ∃ (s : Say) (d : Addr) (kvs : List (Key × T)) (v : Nm → Bool), ts = [s.t, .ref d] ∧ (d, .dk kvs) ∈ F ∧ s.dep ≤ n ∧ (∀ x ∈ s.atoms, valT kvs (.inr x.s) = some (.bl (v x))) ∧ q (.bl (s.holds v))
/-- a valuation of some names -/
def Val (xs : List Nm) (kvs : List (Key × T)) : Prop := kvs.length ≤ xs.length ∧ ∀ x ∈ xs, ∃ b, valT kvs (.inr x.s) = some (.bl b)
def cAll (n : Nat) : Con := fun ts F S k => 1 ≤ n ∧ ∃ (nz : Addr) (xs : List Nm), ts = [.ref nz] ∧ S = [] ∧ (nz, .lst (xs.map fun x => .str x.s)) ∈ F ∧ xs.length ≤ 8 ∧ ∀ (p : Addr) (ds : List Addr) (S' : Sto), ds.length ≤ 1000 → (p, .lst (ds.map T.ref)) ∈ S' → (∀ d ∈ ds, ∃ kvs, (d, .dk kvs) ∈ S' ∧ Val xs kvs) → k (.ref p) S'
def cParts (n : Nat) : Con := fun ts F S k => 1 ≤ n ∧ ∃ t : Tm, ts = [t.t] ∧ S = [] ∧ ∀ p, k (.ref p) [(p, .lst (t.parts.map Tm.t))]
def pKind (n : Nat) : Pre := fun ts F q => ∃ (t : Tm) (g : Addr) (G : Tab) (th : T) (pl : List T) (s : Say) (m : Nat), ts = [t.t, .ref g, th, .tup pl] ∧ (g, .dk G.t) ∈ F ∧ t.dep + 2 ≤ n ∧ Good m t G ∧ pl.length + t.dep ≤ 1000 ∧ G.nd ∧ kind t G = some s ∧ q (.tup [.bl true, s.t])
def pProves (n : Nat) : Pre := fun ts F q => ∃ (t : Tm) (g : Addr) (G : Tab) (th : T) (s : Say) (m : Nat), ts = [t.t, .ref g, th, s.t] ∧ (g, .dk G.t) ∈ F ∧ t.dep + 3 ≤ n ∧ Good m t G ∧ G.nd ∧ kind t G = some s ∧ q (.bl true)
def pTwists (n : Nat) : Pre := fun ts F q => ∃ t : Tm, ts = [t.t] ∧ t.dep + 1 ≤ n ∧ q (.int 0)
/-- a saying beside another one, with the term that leads both ways -/
inductive EqR : Say → Say → Tm → Prop
  | id (s : Say) : EqR s s (.pair (.take (nm "x") s (.use (nm "x"))) (.take (nm "x") s (.use (nm "x"))))
  | and (s : Say) : EqR s (.and s s) (.pair (.take (nm "x") s (.pair (.use (nm "x")) (.use (nm "x")))) (.take (nm "x") (.and s s) (.fst (.use (nm "x")))))
  | or (s : Say) : EqR s (.or s s) (.pair (.take (nm "x") s (.inl (.use (nm "x")) s)) (.take (nm "x") (.or s s) (.cas (.use (nm "x")) (nm "y") (.use (nm "y")) (nm "y") (.use (nm "y")))))
  | thn (s : Say) : EqR s (.thn (.thn .fls .fls) s) (.pair (.take (nm "x") s (.take (nm "y") (.thn .fls .fls) (.use (nm "x")))) (.take (nm "x") (.thn (.thn .fls .fls) s) (.app (.use (nm "x")) (.take (nm "y") .fls (.use (nm "y"))))))
def cEqual (n : Nat) : Con := fun ts F S k => 3 ≤ n ∧ ∃ (a b : Addr) (seed : Int) (ns : List Int) (s : Say), ts = [.ref a, s.t] ∧ S = tapeS a b seed ns ∧ TapeOk seed ns ∧ s.dep ≤ 60 ∧ ∀ (u : Say) (t : Tm) seed' ns', EqR s u t → TapeOk seed' ns' → k (.tup [u.t, t.t]) (tapeS a b seed' ns')
def cLaw (n : Nat) : Con := fun ts F S k => 140 ≤ n ∧ ∃ (sc : Addr) (is : List Int), ts = [.ref sc] ∧ S = [] ∧ (sc, .lst (is.map T.int)) ∈ F ∧ is.length ≤ 63 ∧ ∀ S', k (.bl true) S'
/-- all of them at one level -/
structure All (P : Program) (w : World) (K : PySem.W.Frag) (mg : Str → Option Value) (base : Heap) (n : Nat) : Prop where
  c_then : Cl P w K mg base n "then" (Fn (pThen n))
  c_both : Cl P w K mg base n "both" (Fn (pBoth n))
  c_either : Cl P w K mg base n "either" (Fn (pEither n))
  c_put_in : Cl P w K mg base n "put_in" (Fn (pPut n))
  c_parts_within : Cl P w K mg base n "parts_within" (Fn (pWithin n))
  c_new_name : Cl P w K mg base n "new_name" (Fn (pNew n))
  c_equal_saying : Cl P w K mg base n "equal_saying" (Fn (pEq n))
  c_swapped : Cl P w K mg base n "swapped" (Fn (pSwapped n))
  c_same_both : Cl P w K mg base n "same_both" (Fn (pSame n))
  c_exchanged : Cl P w K mg base n "exchanged" (Fn (pExch n))
  c_led_over : Cl P w K mg base n "led_over" (Fn (pLed n))
  c_names_apart : Cl P w K mg base n "names_apart" (Fn (pApart n))
  c_names_of : Cl P w K mg base n "names_of" (Fn (pNames n))
  c_kind_of : Cl P w K mg base n "kind_of" (Fn (pKindOf n))
  c_proved : Cl P w K mg base n "proved" (cProved n)
  c_joined_kind : Cl P w K mg base n "joined_kind" (Fn (pJoined n))
  c_by_cases : Cl P w K mg base n "by_cases" (cCases n)
  c_law_tape : Cl P w K mg base n "_law_tape" (cTape n)
  c_law_draw : Cl P w K mg base n "_law_draw" (cDraw n)
  c_law_pick : Cl P w K mg base n "_law_pick" (cPick n)
  c_law_saying : Cl P w K mg base n "_law_saying" (cSaying n)
  c_law_holds : Cl P w K mg base n "_law_holds" (Fn (pHolds n))
  c_law_all : Cl P w K mg base n "_law_all" (cAll n)
  c_law_put : Cl P w K mg base n "_law_put" (Fn (pPut n))
  c_law_parts : Cl P w K mg base n "_law_parts" (cParts n)
  c_law_kind : Cl P w K mg base n "_law_kind" (Fn (pKind n))
  c_law_proves : Cl P w K mg base n "_law_proves" (Fn (pProves n))
  c_law_twists : Cl P w K mg base n "_law_twists" (Fn (pTwists n))
  c_law_equal : Cl P w K mg base n "_law_equal" (cEqual n)
end B33

set_option Elab.async false
set_option linter.all false
set_option maxRecDepth 100000
set_option maxHeartbeats 2000000
set_option autoImplicit false
namespace B33
open PT PySem L2 PySem.Spec PyProof.Rows
local macro_rules | `(tactic| walk_at "pt rdb") => `(tactic| first
  | (apply Or.inl; exact List.Mem.head _)
  | (apply Or.inl; apply List.Mem.tail; exact List.Mem.head _)
  | (apply Or.inl; apply List.Mem.tail; apply List.Mem.tail; exact List.Mem.head _)
  | (apply Or.inl; apply List.Mem.tail; apply List.Mem.tail; apply List.Mem.tail; exact List.Mem.head _)
  | (apply Or.inl; apply List.Mem.tail; apply List.Mem.tail; apply List.Mem.tail; apply List.Mem.tail; exact List.Mem.head _)
  | (apply Or.inl; apply List.Mem.tail; apply List.Mem.tail; apply List.Mem.tail; apply List.Mem.tail; apply List.Mem.tail; exact List.Mem.head _)
  | (apply Or.inl; apply List.Mem.tail; apply List.Mem.tail; apply List.Mem.tail; apply List.Mem.tail; apply List.Mem.tail; apply List.Mem.tail; exact List.Mem.head _)
  | (apply Or.inl; apply List.Mem.tail; apply List.Mem.tail; apply List.Mem.tail; apply List.Mem.tail; apply List.Mem.tail; apply List.Mem.tail; apply List.Mem.tail; exact List.Mem.head _)
  | (apply Or.inl; apply List.Mem.tail; apply List.Mem.tail; apply List.Mem.tail; apply List.Mem.tail; apply List.Mem.tail; apply List.Mem.tail; apply List.Mem.tail; apply List.Mem.tail; exact List.Mem.head _)
  | (apply Or.inl; apply List.Mem.tail; apply List.Mem.tail; apply List.Mem.tail; apply List.Mem.tail; apply List.Mem.tail; apply List.Mem.tail; apply List.Mem.tail; apply List.Mem.tail; apply List.Mem.tail; exact List.Mem.head _)
  | (apply Or.inr; assumption) | (apply Or.inr; exact List.Mem.head _) | (apply Or.inr; apply List.Mem.tail; exact List.Mem.head _) | fail)
/-- what a callee may read -/
theorem fc0 {F S : Sto} {pre : Pre} {ts : List T} {q : T → Prop} (h : pre ts [] q) : ∃ Fc : Sto, (∀ p ∈ Fc, p ∈ F ∨ p ∈ S) ∧ pre ts Fc q := ⟨[], by simp, h⟩
theorem fc1 {F S : Sto} {pre : Pre} {ts : List T} {q : T → Prop} (p : Addr × MO) (hp : Rdb F S p) (h : pre ts [p] q) : ∃ Fc : Sto, (∀ p ∈ Fc, p ∈ F ∨ p ∈ S) ∧ pre ts Fc q := ⟨[p], by simpa using hp.symm, h⟩
section
variable {P : Program} {w : World} {K : PySem.W.Frag} {mg : Str → Option Value} {base : Heap} {n : Nat}
section
theorem scThen : FnScope ["one", "other"] ["one", "other"] (defScope (top 2)) := ⟨rfl, rfl, rfl, by decide +kernel, rfl, by decide +kernel, by decide +kernel⟩
local macro_rules | `(tactic| walk_at "pt 1") => `(tactic| first
  | ((with_reducible refine aw_cons (hs := ?hs) (h := ?_)); (case hs => exact rfl))
  | ((with_reducible refine aw_nil (hk := ?_)))
  | ((with_reducible refine ew_var (x := "one") (i := 0) (t := ?t) ?hi ?_ ?hN ?hv ?hd ?hc); (case hi => exact rfl); (case hN => exact rfl); (case hv => first | exact Or.inl rfl | exact Or.inr (Or.inl rfl) | exact Or.inr (Or.inr rfl)); (case hd => decide); (case hc => decide))
  | ((with_reducible refine ew_var (x := "other") (i := 1) (t := ?t) ?hi ?_ ?hN ?hv ?hd ?hc); (case hi => exact rfl); (case hN => exact rfl); (case hv => first | exact Or.inl rfl | exact Or.inr (Or.inl rfl) | exact Or.inr (Or.inr rfl)); (case hd => decide); (case hc => decide))
  | ((with_reducible refine ew_str (hk := ?_)))
  | ((with_reducible refine ew_tup (h := ?_)))
  | ((with_reducible refine tw_call (h := ?_)))
  | ((with_reducible refine tw_name (h := ?_)))
  | ((with_reducible refine sw_cons (h := ?_)))
  | ((with_reducible refine sw_nil (h := ?_)))
  | ((with_reducible refine s1_ret0 (h := ?_)))
  | ((with_reducible refine And.intro ?hx ?_); (case hx => exact Nat.le_of_ble_eq_true rfl))
  | (with_reducible refine Exists.intro _ (And.intro rfl ?_))
  | (refine tst_t (by decide +kernel) ?_)
  | (refine tst_f (by decide +kernel) ?_)
  | (refine Exists.intro _ (Exists.intro _ (And.intro rfl (And.intro (by walk_at "pt rdb") ?_))))
  | fail)
theorem ok_then (D : Df K mg "then" (top 2) ["one", "other"]) (C : All P w K mg base n) : Cl P w K mg base (n + 1) "then" (Fn (pThen (n + 1))) := by
  refine cl_of D scThen (fun ts F S k h => ?_) (fun a hr ts F S k h => ?_)
  · obtain ⟨_, _, a, b, rfl, _⟩ := h; rfl
  obtain ⟨rfl, hn, x, y, rfl, q⟩ := h
  refine sw_cons ?_
  repeat' (walk_at "pt 1")
  exact q
end
section
theorem scBoth : FnScope ["one", "other"] ["one", "other"] (defScope (top 3)) := ⟨rfl, rfl, rfl, by decide +kernel, rfl, by decide +kernel, by decide +kernel⟩
local macro_rules | `(tactic| walk_at "pt 1") => `(tactic| first
  | ((with_reducible refine aw_cons (hs := ?hs) (h := ?_)); (case hs => exact rfl))
  | ((with_reducible refine aw_nil (hk := ?_)))
  | ((with_reducible refine ew_var (x := "one") (i := 0) (t := ?t) ?hi ?_ ?hN ?hv ?hd ?hc); (case hi => exact rfl); (case hN => exact rfl); (case hv => first | exact Or.inl rfl | exact Or.inr (Or.inl rfl) | exact Or.inr (Or.inr rfl)); (case hd => decide); (case hc => decide))
  | ((with_reducible refine ew_var (x := "other") (i := 1) (t := ?t) ?hi ?_ ?hN ?hv ?hd ?hc); (case hi => exact rfl); (case hN => exact rfl); (case hv => first | exact Or.inl rfl | exact Or.inr (Or.inl rfl) | exact Or.inr (Or.inr rfl)); (case hd => decide); (case hc => decide))
  | ((with_reducible refine ew_str (hk := ?_)))
  | ((with_reducible refine ew_tup (h := ?_)))
  | ((with_reducible refine tw_call (h := ?_)))
  | ((with_reducible refine tw_name (h := ?_)))
  | ((with_reducible refine sw_cons (h := ?_)))
  | ((with_reducible refine sw_nil (h := ?_)))
  | ((with_reducible refine s1_ret0 (h := ?_)))
  | ((with_reducible refine And.intro ?hx ?_); (case hx => exact Nat.le_of_ble_eq_true rfl))
  | (with_reducible refine Exists.intro _ (And.intro rfl ?_))
  | (refine tst_t (by decide +kernel) ?_)
  | (refine tst_f (by decide +kernel) ?_)
  | (refine Exists.intro _ (Exists.intro _ (And.intro rfl (And.intro (by walk_at "pt rdb") ?_))))
  | fail)
theorem ok_both (D : Df K mg "both" (top 3) ["one", "other"]) (C : All P w K mg base n) : Cl P w K mg base (n + 1) "both" (Fn (pBoth (n + 1))) := by
  refine cl_of D scBoth (fun ts F S k h => ?_) (fun a hr ts F S k h => ?_)
  · obtain ⟨_, _, a, b, rfl, _⟩ := h; rfl
  obtain ⟨rfl, hn, x, y, rfl, q⟩ := h
  refine sw_cons ?_
  repeat' (walk_at "pt 1")
  exact q
end
section
theorem scEither : FnScope ["one", "other"] ["one", "other"] (defScope (top 4)) := ⟨rfl, rfl, rfl, by decide +kernel, rfl, by decide +kernel, by decide +kernel⟩
local macro_rules | `(tactic| walk_at "pt 1") => `(tactic| first
  | ((with_reducible refine aw_cons (hs := ?hs) (h := ?_)); (case hs => exact rfl))
  | ((with_reducible refine aw_nil (hk := ?_)))
  | ((with_reducible refine ew_var (x := "one") (i := 0) (t := ?t) ?hi ?_ ?hN ?hv ?hd ?hc); (case hi => exact rfl); (case hN => exact rfl); (case hv => first | exact Or.inl rfl | exact Or.inr (Or.inl rfl) | exact Or.inr (Or.inr rfl)); (case hd => decide); (case hc => decide))
  | ((with_reducible refine ew_var (x := "other") (i := 1) (t := ?t) ?hi ?_ ?hN ?hv ?hd ?hc); (case hi => exact rfl); (case hN => exact rfl); (case hv => first | exact Or.inl rfl | exact Or.inr (Or.inl rfl) | exact Or.inr (Or.inr rfl)); (case hd => decide); (case hc => decide))
  | ((with_reducible refine ew_str (hk := ?_)))
  | ((with_reducible refine ew_tup (h := ?_)))
  | ((with_reducible refine tw_call (h := ?_)))
  | ((with_reducible refine tw_name (h := ?_)))
  | ((with_reducible refine sw_cons (h := ?_)))
  | ((with_reducible refine sw_nil (h := ?_)))
  | ((with_reducible refine s1_ret0 (h := ?_)))
  | ((with_reducible refine And.intro ?hx ?_); (case hx => exact Nat.le_of_ble_eq_true rfl))
  | (with_reducible refine Exists.intro _ (And.intro rfl ?_))
  | (refine tst_t (by decide +kernel) ?_)
  | (refine tst_f (by decide +kernel) ?_)
  | (refine Exists.intro _ (Exists.intro _ (And.intro rfl (And.intro (by walk_at "pt rdb") ?_))))
  | fail)
theorem ok_either (D : Df K mg "either" (top 4) ["one", "other"]) (C : All P w K mg base n) : Cl P w K mg base (n + 1) "either" (Fn (pEither (n + 1))) := by
  refine cl_of D scEither (fun ts F S k h => ?_) (fun a hr ts F S k h => ?_)
  · obtain ⟨_, _, a, b, rfl, _⟩ := h; rfl
  obtain ⟨rfl, hn, x, y, rfl, q⟩ := h
  refine sw_cons ?_
  repeat' (walk_at "pt 1")
  exact q
end
section
theorem scPut : FnScope ["saying", "table"] ["saying", "table"] (defScope (top 8)) := ⟨rfl, rfl, rfl, by decide +kernel, rfl, by decide +kernel, by decide +kernel⟩
local macro_rules | `(tactic| walk_at "pt 1") => `(tactic| first
  | ((with_reducible refine aw_cons (hs := ?hs) (h := ?_)); (case hs => exact rfl))
  | ((with_reducible refine aw_nil (hk := ?_)))
  | ((with_reducible refine ew_var (x := "saying") (i := 0) (t := ?t) ?hi ?_ ?hN ?hv ?hd ?hc); (case hi => exact rfl); (case hN => exact rfl); (case hv => first | exact Or.inl rfl | exact Or.inr (Or.inl rfl) | exact Or.inr (Or.inr rfl)); (case hd => decide); (case hc => decide))
  | ((with_reducible refine ew_var (x := "table") (i := 1) (t := ?t) ?hi ?_ ?hN ?hv ?hd ?hc); (case hi => exact rfl); (case hN => exact rfl); (case hv => first | exact Or.inl rfl | exact Or.inr (Or.inl rfl) | exact Or.inr (Or.inr rfl)); (case hd => decide); (case hc => decide))
  | ((with_reducible refine ew_sub (h := ?_)))
  | ((with_reducible refine ew_str (hk := ?_)))
  | ((with_reducible refine ew_int (hk := ?_)))
  | ((with_reducible refine ew_tup (h := ?_)))
  | ((with_reducible refine tw_cmp (hm := ?hm) (h := ?_)); (case hm => exact rfl))
  | ((with_reducible refine ew_cmp (hm := ?hm) (h := ?_)); (case hm => exact rfl))
  | ((with_reducible refine ew_callF (x := "put_in") (n := ?n) (pre := ?pre) (C := ?C) (hr := ?hr) (hg := ?hg) (hdb := ?hdb) (he := ?he) (hpl := ?hpl) (h := ?_)); (case C => exact All.c_put_in (by assumption)); (case hr => assumption); (case hg => exact rfl); (case hdb => decide); (case he => exact rfl); (case hpl => exact rfl))
  | ((with_reducible refine ew_dget2 (hu := ?hu) (m := ?m) (h := ?_)); (case hu => exact hu_of (by assumption)); (case m => exact ⟨rfl, rfl, rfl, rfl⟩))
  | ((with_reducible refine tw_call (h := ?_)))
  | ((with_reducible refine tw_name (h := ?_)))
  | ((with_reducible refine sw_cons (h := ?_)))
  | ((with_reducible refine sw_nil (h := ?_)))
  | ((with_reducible refine s1_ret0 (h := ?_)))
  | ((with_reducible refine s1_if (h := ?_)))
  | ((with_reducible refine bw_eqs (h := ?h) (hk := ?_)); (case h => exact rfl))
  | ((with_reducible refine xw_tup (t := ?t) (he := ?he) (hs := ?hs) (hk := ?_)); (case he => first | exact rfl | exact atT0 | exact atT1); (case hs => exact fun _ _ => rfl))
  | ((with_reducible refine xw_lst (ts := ?ts) (t := ?t) (hp := ?hp) (he := ?he) (hs := ?hs) (hk := ?_)); (case hp => walk_at "pt rdb"); (case he => first | exact rfl | exact atT0 | exact atT1); (case hs => exact fun _ _ => rfl))
  | ((with_reducible refine And.intro ?hx ?_); (case hx => exact Nat.le_of_ble_eq_true rfl))
  | (with_reducible refine Exists.intro _ (And.intro rfl ?_))
  | (refine tst_t (by decide +kernel) ?_)
  | (refine tst_f (by decide +kernel) ?_)
  | (refine Exists.intro _ (Exists.intro _ (And.intro rfl (And.intro (by walk_at "pt rdb") ?_))))
  | fail)
theorem put_atom (g : Tab) (x : Nm) : ((valT g.t (.inr x.s)).getD (Say.atom x).t) = (Say.put g (.atom x)).t := by
  rw [Tab.val, Say.put]
  cases g.get x <;> rfl
theorem ok_put (D : Df K mg "put_in" (top 8) ["saying", "table"]) (C : All P w K mg base n) : Cl P w K mg base (n + 1) "put_in" (Fn (pPut (n + 1))) := by
  refine cl_of D scPut (fun ts F S k h => ?_) (fun a hr ts F S k h => ?_)
  · obtain ⟨_, a, b, _, rfl, _⟩ := h; rfl
  obtain ⟨rfl, s, d, g, rfl, hd, hn, q⟩ := h
  cases s with
  | atom x =>
    simp only [Say.t]
    refine sw_cons ?_
    repeat' (walk_at "pt 1")
    refine ⟨g.t, .inr x.s, rfl, .inr hd, ?_⟩
    rw [← Say.t, put_atom]
    exact q
  | fls =>
    simp only [Say.t]
    refine sw_cons ?_
    repeat' (walk_at "pt 1")
    exact q
  | thn x y =>
    have h1 : x.dep ≤ n := by simp only [Say.dep] at hn; omega
    have h2 : y.dep ≤ n := by simp only [Say.dep] at hn; omega
    simp only [Say.t]
    refine sw_cons ?_
    repeat' (walk_at "pt 1")
    refine fc1 (d, .dk g.t) (.inr hd) ⟨x, d, g, rfl, List.mem_singleton_self _, h1, ?_⟩
    repeat' (walk_at "pt 1")
    refine fc1 (d, .dk g.t) (.inr hd) ⟨y, d, g, rfl, List.mem_singleton_self _, h2, ?_⟩
    repeat' (walk_at "pt 1")
    exact q
  | and x y =>
    have h1 : x.dep ≤ n := by simp only [Say.dep] at hn; omega
    have h2 : y.dep ≤ n := by simp only [Say.dep] at hn; omega
    simp only [Say.t]
    refine sw_cons ?_
    repeat' (walk_at "pt 1")
    refine fc1 (d, .dk g.t) (.inr hd) ⟨x, d, g, rfl, List.mem_singleton_self _, h1, ?_⟩
    repeat' (walk_at "pt 1")
    refine fc1 (d, .dk g.t) (.inr hd) ⟨y, d, g, rfl, List.mem_singleton_self _, h2, ?_⟩
    repeat' (walk_at "pt 1")
    exact q
  | or x y =>
    have h1 : x.dep ≤ n := by simp only [Say.dep] at hn; omega
    have h2 : y.dep ≤ n := by simp only [Say.dep] at hn; omega
    simp only [Say.t]
    refine sw_cons ?_
    repeat' (walk_at "pt 1")
    refine fc1 (d, .dk g.t) (.inr hd) ⟨x, d, g, rfl, List.mem_singleton_self _, h1, ?_⟩
    repeat' (walk_at "pt 1")
    refine fc1 (d, .dk g.t) (.inr hd) ⟨y, d, g, rfl, List.mem_singleton_self _, h2, ?_⟩
    repeat' (walk_at "pt 1")
    exact q
end
section
theorem scEq : FnScope ["one", "other"] ["one", "other"] (defScope (top 16)) := ⟨rfl, rfl, rfl, by decide +kernel, rfl, by decide +kernel, by decide +kernel⟩
local macro_rules | `(tactic| walk_at "pt 1") => `(tactic| first
  | ((with_reducible refine aw_cons (hs := ?hs) (h := ?_)); (case hs => exact rfl))
  | ((with_reducible refine aw_nil (hk := ?_)))
  | ((with_reducible refine ew_var (x := "one") (i := 0) (t := ?t) ?hi ?_ ?hN ?hv ?hd ?hc); (case hi => exact rfl); (case hN => exact rfl); (case hv => first | exact Or.inl rfl | exact Or.inr (Or.inl rfl) | exact Or.inr (Or.inr rfl)); (case hd => decide); (case hc => decide))
  | ((with_reducible refine ew_var (x := "other") (i := 1) (t := ?t) ?hi ?_ ?hN ?hv ?hd ?hc); (case hi => exact rfl); (case hN => exact rfl); (case hv => first | exact Or.inl rfl | exact Or.inr (Or.inl rfl) | exact Or.inr (Or.inr rfl)); (case hd => decide); (case hc => decide))
  | ((with_reducible refine ew_callF (x := "both") (n := ?n) (pre := ?pre) (C := ?C) (hr := ?hr) (hg := ?hg) (hdb := ?hdb) (he := ?he) (hpl := ?hpl) (h := ?_)); (case C => exact All.c_both (by assumption)); (case hr => assumption); (case hg => exact rfl); (case hdb => decide); (case he => exact rfl); (case hpl => exact rfl))
  | ((with_reducible refine ew_callF (x := "then") (n := ?n) (pre := ?pre) (C := ?C) (hr := ?hr) (hg := ?hg) (hdb := ?hdb) (he := ?he) (hpl := ?hpl) (h := ?_)); (case C => exact All.c_then (by assumption)); (case hr => assumption); (case hg => exact rfl); (case hdb => decide); (case he => exact rfl); (case hpl => exact rfl))
  | ((with_reducible refine tw_call (h := ?_)))
  | ((with_reducible refine tw_name (h := ?_)))
  | ((with_reducible refine sw_cons (h := ?_)))
  | ((with_reducible refine sw_nil (h := ?_)))
  | ((with_reducible refine s1_ret0 (h := ?_)))
  | ((with_reducible refine And.intro ?hx ?_); (case hx => exact Nat.le_of_ble_eq_true rfl))
  | (with_reducible refine Exists.intro _ (And.intro rfl ?_))
  | (refine tst_t (by decide +kernel) ?_)
  | (refine tst_f (by decide +kernel) ?_)
  | (refine Exists.intro _ (Exists.intro _ (And.intro rfl (And.intro (by walk_at "pt rdb") ?_))))
  | fail)
theorem ok_equal_saying (D : Df K mg "equal_saying" (top 16) ["one", "other"]) (C : All P w K mg base n) : Cl P w K mg base (n + 1) "equal_saying" (Fn (pEq (n + 1))) := by
  refine cl_of D scEq (fun ts F S k h => ?_) (fun a hr ts F S k h => ?_)
  · obtain ⟨_, _, a, b, rfl, _⟩ := h; rfl
  obtain ⟨rfl, hn, x, y, rfl, q⟩ := h
  have h1 : 1 ≤ n := by omega
  refine sw_cons ?_
  repeat' (walk_at "pt 1")
  refine fc0 ⟨h1, _, _, rfl, ?_⟩
  repeat' (walk_at "pt 1")
  refine fc0 ⟨h1, _, _, rfl, ?_⟩
  repeat' (walk_at "pt 1")
  exact fc0 ⟨h1, _, _, rfl, q⟩
end
section
theorem scSwapped : FnScope ["term"] ["term"] (defScope (top 17)) := ⟨rfl, rfl, rfl, by decide +kernel, rfl, by decide +kernel, by decide +kernel⟩
local macro_rules | `(tactic| walk_at "pt 1") => `(tactic| first
  | ((with_reducible refine aw_cons (hs := ?hs) (h := ?_)); (case hs => exact rfl))
  | ((with_reducible refine aw_nil (hk := ?_)))
  | ((with_reducible refine ew_var (x := "term") (i := 0) (t := ?t) ?hi ?_ ?hN ?hv ?hd ?hc); (case hi => exact rfl); (case hN => exact rfl); (case hv => first | exact Or.inl rfl | exact Or.inr (Or.inl rfl) | exact Or.inr (Or.inr rfl)); (case hd => decide); (case hc => decide))
  | ((with_reducible refine ew_str (hk := ?_)))
  | ((with_reducible refine ew_tup (h := ?_)))
  | ((with_reducible refine tw_call (h := ?_)))
  | ((with_reducible refine tw_name (h := ?_)))
  | ((with_reducible refine sw_cons (h := ?_)))
  | ((with_reducible refine sw_nil (h := ?_)))
  | ((with_reducible refine s1_ret0 (h := ?_)))
  | ((with_reducible refine And.intro ?hx ?_); (case hx => exact Nat.le_of_ble_eq_true rfl))
  | (with_reducible refine Exists.intro _ (And.intro rfl ?_))
  | (refine tst_t (by decide +kernel) ?_)
  | (refine tst_f (by decide +kernel) ?_)
  | (refine Exists.intro _ (Exists.intro _ (And.intro rfl (And.intro (by walk_at "pt rdb") ?_))))
  | fail)
theorem ok_swapped (D : Df K mg "swapped" (top 17) ["term"]) (C : All P w K mg base n) : Cl P w K mg base (n + 1) "swapped" (Fn (pSwapped (n + 1))) := by
  refine cl_of D scSwapped (fun ts F S k h => ?_) (fun a hr ts F S k h => ?_)
  · obtain ⟨_, _, a, rfl, _⟩ := h; rfl
  obtain ⟨rfl, hn, x, rfl, q⟩ := h
  refine sw_cons ?_
  repeat' (walk_at "pt 1")
  exact q
end
section
theorem scSame : FnScope ["saying", "one"] ["saying"] (defScope (top 18)) := ⟨rfl, rfl, rfl, by decide +kernel, rfl, by decide +kernel, by decide +kernel⟩
local macro_rules | `(tactic| walk_at "pt 1") => `(tactic| first
  | ((with_reducible refine aw_cons (hs := ?hs) (h := ?_)); (case hs => exact rfl))
  | ((with_reducible refine aw_nil (hk := ?_)))
  | ((with_reducible refine ew_var (x := "saying") (i := 0) (t := ?t) ?hi ?_ ?hN ?hv ?hd ?hc); (case hi => exact rfl); (case hN => exact rfl); (case hv => first | exact Or.inl rfl | exact Or.inr (Or.inl rfl) | exact Or.inr (Or.inr rfl)); (case hd => decide); (case hc => decide))
  | ((with_reducible refine ew_var (x := "one") (i := 1) (t := ?t) ?hi ?_ ?hN ?hv ?hd ?hc); (case hi => exact rfl); (case hN => exact rfl); (case hv => first | exact Or.inl rfl | exact Or.inr (Or.inl rfl) | exact Or.inr (Or.inr rfl)); (case hd => decide); (case hc => decide))
  | ((with_reducible refine ew_str (hk := ?_)))
  | ((with_reducible refine ew_tup (h := ?_)))
  | ((with_reducible refine tw_call (h := ?_)))
  | ((with_reducible refine tw_name (h := ?_)))
  | ((with_reducible refine sw_cons (h := ?_)))
  | ((with_reducible refine sw_nil (h := ?_)))
  | ((with_reducible refine s1_ret0 (h := ?_)))
  | ((with_reducible refine s1_set (x := "one") (i := 1) ?hN ?hi ?_ ?hx ?hs ?hf); (case hN => exact (scSame).nd); (case hi => exact rfl); (case hx => first | exact Or.inl rfl | exact Or.inr rfl); (case hs => exact rfl); (case hf => first | exact Or.inr rfl | exact Or.inl rfl))
  | ((with_reducible refine And.intro ?hx ?_); (case hx => exact Nat.le_of_ble_eq_true rfl))
  | (with_reducible refine Exists.intro _ (And.intro rfl ?_))
  | (refine tst_t (by decide +kernel) ?_)
  | (refine tst_f (by decide +kernel) ?_)
  | (refine Exists.intro _ (Exists.intro _ (And.intro rfl (And.intro (by walk_at "pt rdb") ?_))))
  | fail)
theorem ok_same_both (D : Df K mg "same_both" (top 18) ["saying"]) (C : All P w K mg base n) : Cl P w K mg base (n + 1) "same_both" (Fn (pSame (n + 1))) := by
  refine cl_of D scSame (fun ts F S k h => ?_) (fun a hr ts F S k h => ?_)
  · obtain ⟨_, _, a, rfl, _⟩ := h; rfl
  obtain ⟨rfl, hn, x, rfl, q⟩ := h
  refine sw_cons ?_
  repeat' (walk_at "pt 1")
  exact q
end
section
theorem scWithin : FnScope ["term", "kind"] ["term"] (defScope (top 13)) := ⟨rfl, rfl, rfl, by decide +kernel, rfl, by decide +kernel, by decide +kernel⟩
local macro_rules | `(tactic| walk_at "pt 1") => `(tactic| first
  | ((with_reducible refine aw_cons (hs := ?hs) (h := ?_)); (case hs => exact rfl))
  | ((with_reducible refine aw_nil (hk := ?_)))
  | ((with_reducible refine ew_var (x := "term") (i := 0) (t := ?t) ?hi ?_ ?hN ?hv ?hd ?hc); (case hi => exact rfl); (case hN => exact rfl); (case hv => first | exact Or.inl rfl | exact Or.inr (Or.inl rfl) | exact Or.inr (Or.inr rfl)); (case hd => decide); (case hc => decide))
  | ((with_reducible refine ew_var (x := "kind") (i := 1) (t := ?t) ?hi ?_ ?hN ?hv ?hd ?hc); (case hi => exact rfl); (case hN => exact rfl); (case hv => first | exact Or.inl rfl | exact Or.inr (Or.inl rfl) | exact Or.inr (Or.inr rfl)); (case hd => decide); (case hc => decide))
  | ((with_reducible refine ew_slice (h := ?_)))
  | ((with_reducible refine ew_sub (h := ?_)))
  | ((with_reducible refine ew_str (hk := ?_)))
  | ((with_reducible refine ew_int (hk := ?_)))
  | ((with_reducible refine ew_tup (h := ?_)))
  | ((with_reducible refine tw_cmp (hm := ?hm) (h := ?_)); (case hm => exact rfl))
  | ((with_reducible refine ew_cmp (hm := ?hm) (h := ?_)); (case hm => exact rfl))
  | ((with_reducible refine ew_ifExp (h := ?_)))
  | ((with_reducible refine tw_call (h := ?_)))
  | ((with_reducible refine tw_name (h := ?_)))
  | ((with_reducible refine sw_cons (h := ?_)))
  | ((with_reducible refine sw_nil (h := ?_)))
  | ((with_reducible refine s1_ret0 (h := ?_)))
  | ((with_reducible refine s1_if (h := ?_)))
  | ((with_reducible refine s1_set (x := "kind") (i := 1) ?hN ?hi ?_ ?hx ?hs ?hf); (case hN => exact (scWithin).nd); (case hi => exact rfl); (case hx => first | exact Or.inl rfl | exact Or.inr rfl); (case hs => exact rfl); (case hf => first | exact Or.inr rfl | exact Or.inl rfl))
  | ((with_reducible refine bw_eqs (h := ?h) (hk := ?_)); (case h => exact rfl))
  | ((with_reducible refine bw_inT (hx := ?hx) (hf := ?hf) (hk := ?_)); (case hx => exact rfl); (case hf => exact rfl))
  | ((with_reducible refine bw_inL (xs := ?xs) (hp := ?hp) (hx := ?hx) (hf := ?hf) (hk := ?_)); (case hp => walk_at "pt rdb"); (case hx => exact rfl); (case hf => exact rfl))
  | ((with_reducible refine xw_tup (t := ?t) (he := ?he) (hs := ?hs) (hk := ?_)); (case he => first | exact rfl | exact atT0 | exact atT1); (case hs => exact fun _ _ => rfl))
  | ((with_reducible refine xw_lst (ts := ?ts) (t := ?t) (hp := ?hp) (he := ?he) (hs := ?hs) (hk := ?_)); (case hp => walk_at "pt rdb"); (case he => first | exact rfl | exact atT0 | exact atT1); (case hs => exact fun _ _ => rfl))
  | ((with_reducible refine ow_none (hk := ?_)))
  | ((with_reducible refine ow_some (h := ?_)))
  | ((with_reducible refine lw_tup (hk := ?_)))
  | ((with_reducible refine And.intro ?hx ?_); (case hx => exact Nat.le_of_ble_eq_true rfl))
  | (with_reducible refine Exists.intro _ (And.intro rfl ?_))
  | (refine tst_t (by decide +kernel) ?_)
  | (refine tst_f (by decide +kernel) ?_)
  | (refine Exists.intro _ (Exists.intro _ (And.intro rfl (And.intro (by walk_at "pt rdb") ?_))))
  | fail)
theorem ok_parts_within (D : Df K mg "parts_within" (top 13) ["term"]) (C : All P w K mg base n) : Cl P w K mg base (n + 1) "parts_within" (Fn (pWithin (n + 1))) := by
  refine cl_of D scWithin (fun ts F S k h => ?_) (fun a hr ts F S k h => ?_)
  · obtain ⟨_, _, a, rfl, _⟩ := h; rfl
  obtain ⟨rfl, hn, t, rfl, q⟩ := h
  cases t <;> simp only [Tm.t] <;> refine sw_cons ?_
  all_goals repeat' (walk_at "pt 1")
  all_goals exact q
end
end
end B33

set_option Elab.async false
set_option linter.all false
set_option maxRecDepth 100000
set_option maxHeartbeats 2000000
set_option autoImplicit false
namespace B33
open PT PySem L2 PySem.Spec PyProof.Rows
local macro_rules | `(tactic| walk_at "pt rdb") => `(tactic| first
  | (apply Or.inl; exact List.Mem.head _)
  | (apply Or.inl; apply List.Mem.tail; exact List.Mem.head _)
  | (apply Or.inl; apply List.Mem.tail; apply List.Mem.tail; exact List.Mem.head _)
  | (apply Or.inl; apply List.Mem.tail; apply List.Mem.tail; apply List.Mem.tail; exact List.Mem.head _)
  | (apply Or.inl; apply List.Mem.tail; apply List.Mem.tail; apply List.Mem.tail; apply List.Mem.tail; exact List.Mem.head _)
  | (apply Or.inl; apply List.Mem.tail; apply List.Mem.tail; apply List.Mem.tail; apply List.Mem.tail; apply List.Mem.tail; exact List.Mem.head _)
  | (apply Or.inl; apply List.Mem.tail; apply List.Mem.tail; apply List.Mem.tail; apply List.Mem.tail; apply List.Mem.tail; apply List.Mem.tail; exact List.Mem.head _)
  | (apply Or.inl; apply List.Mem.tail; apply List.Mem.tail; apply List.Mem.tail; apply List.Mem.tail; apply List.Mem.tail; apply List.Mem.tail; apply List.Mem.tail; exact List.Mem.head _)
  | (apply Or.inl; apply List.Mem.tail; apply List.Mem.tail; apply List.Mem.tail; apply List.Mem.tail; apply List.Mem.tail; apply List.Mem.tail; apply List.Mem.tail; apply List.Mem.tail; exact List.Mem.head _)
  | (apply Or.inl; apply List.Mem.tail; apply List.Mem.tail; apply List.Mem.tail; apply List.Mem.tail; apply List.Mem.tail; apply List.Mem.tail; apply List.Mem.tail; apply List.Mem.tail; apply List.Mem.tail; exact List.Mem.head _)
  | (apply Or.inr; assumption) | (apply Or.inr; exact List.Mem.head _) | (apply Or.inr; apply List.Mem.tail; exact List.Mem.head _) | fail)
section
variable {P : Program} {w : World} {K : PySem.W.Frag} {mg : Str → Option Value} {base : Heap} {n : Nat}
theorem rho2 {r : Rho} {a b : T} (h : r = [some a, some b]) : r = [some a, some b] := h
/-- names taken in order are not more than there are -/
theorem hnm_ne : ∀ i < 40, ∀ j < 40, hnm i = hnm j → i = j := fun i hi j hj e => hnm_inj i hi j hj (by rw [← hnm_s i hi, ← hnm_s j hj, e])
theorem hnm_le {ks : List Nm} {i : Nat} (hk : ks.length ≤ 38) (hi : i ≤ 39) (h : ∀ j < i, hnm j ∈ ks) : i ≤ ks.length := by
  have nd : ((List.range i).map hnm).Nodup := by
    rw [List.nodup_iff_pairwise_ne, List.pairwise_map]
    refine (List.nodup_iff_pairwise_ne.mp List.nodup_range).imp_of_mem fun {a b} ha hb hne e => hne (hnm_ne a ?_ b ?_ e)
    · have := List.mem_range.mp ha; omega
    · have := List.mem_range.mp hb; omega
  have := nd.length_le_of_subset (l₂ := ks) fun x hx => by
    obtain ⟨j, hj, rfl⟩ := List.mem_map.mp hx
    exact h j (List.mem_range.mp hj)
  simpa using this
theorem val_some {kvs : List (Key × T)} {ks : List Nm} (h : kvs.map (·.1) = ks.map fun x => Sum.inr x.s) (x : Nm) : (valT kvs (.inr x.s)).isSome = decide (x ∈ ks) := by
  have e : (valT kvs (.inr x.s)).isSome = true ↔ (Sum.inr x.s : Key) ∈ kvs.map Prod.fst := by
    unfold valT
    rw [Option.isSome_map]
    clear h
    induction kvs with
    | nil => simp
    | cons p kvs ih =>
      rw [List.find?_cons, List.map_cons]
      by_cases hp : p.1 = Sum.inr x.s
      · simp [hp]
      · simp only [hp, decide_false, List.mem_cons, Ne.symm hp, false_or]
        exact ih
  have g : (Sum.inr x.s : Key) ∈ kvs.map Prod.fst ↔ x ∈ ks := by
    rw [show kvs.map Prod.fst = ks.map (fun x => (Sum.inr x.s : Key)) from h]
    constructor
    · intro hm
      obtain ⟨y, hy, e⟩ := List.mem_map.mp hm
      have : y = x := by cases x; cases y; simp_all
      rw [← this]; exact hy
    · intro hx
      exact List.mem_map.mpr ⟨x, hx, rfl⟩
  have eg := e.trans g
  by_cases hx : x ∈ ks
  · rw [eg.mpr hx]; simp [hx]
  · have : (valT kvs (.inr x.s)).isSome = false := by
      cases hv : (valT kvs (.inr x.s)).isSome with
      | false => rfl
      | true => exact absurd (eg.mp hv) hx
    rw [this]; simp [hx]
section
theorem scNew : FnScope ["taken", "number"] ["taken"] (defScope (top 14)) := ⟨rfl, rfl, rfl, by decide +kernel, rfl, by decide +kernel, by decide +kernel⟩
local macro_rules | `(tactic| walk_at "pt 1") => `(tactic| first
  | ((with_reducible refine aw_cons (hs := ?hs) (h := ?_)); (case hs => exact rfl))
  | ((with_reducible refine aw_nil (hk := ?_)))
  | ((with_reducible refine ew_var (x := "taken") (i := 0) (t := ?t) ?hi ?_ ?hN ?hv ?hd ?hc); (case hi => exact rfl); (case hN => exact rfl); (case hv => first | exact Or.inl rfl | exact Or.inr (Or.inl rfl) | exact Or.inr (Or.inr rfl)); (case hd => decide); (case hc => decide))
  | ((with_reducible refine ew_var (x := "number") (i := 1) (t := ?t) ?hi ?_ ?hN ?hv ?hd ?hc); (case hi => exact rfl); (case hN => exact rfl); (case hv => first | exact Or.inl rfl | exact Or.inr (Or.inl rfl) | exact Or.inr (Or.inr rfl)); (case hd => decide); (case hc => decide))
  | ((with_reducible refine ew_str (hk := ?_)))
  | ((with_reducible refine ew_int (hk := ?_)))
  | ((with_reducible refine tw_cmp (hm := ?hm) (h := ?_)); (case hm => exact rfl))
  | ((with_reducible refine ew_cmp (hm := ?hm) (h := ?_)); (case hm => exact rfl))
  | ((with_reducible refine ew_bin (h := ?_)))
  | ((with_reducible refine ew_callTy (x := "str") (T' := "str") (hm := ?hm) (hv := ?hv) (hg := ?hg) (hn := ?hn) (hdb := ?hdb) (he := ?he) (hpl := ?hpl) (h := ?_)); (case hm => exact Mg.str (by assumption)); (case hv => exact rfl); (case hg => exact rfl); (case hn => decide); (case hdb => decide); (case he => exact rfl); (case hpl => exact rfl))
  | ((with_reducible refine tw_call (h := ?_)))
  | ((with_reducible refine tw_name (h := ?_)))
  | ((with_reducible refine sw_cons (h := ?_)))
  | ((with_reducible refine sw_nil (h := ?_)))
  | ((with_reducible refine s1_ret0 (h := ?_)))
  | ((with_reducible refine s1_set (x := "number") (i := 1) ?hN ?hi ?_ ?hx ?hs ?hf); (case hN => exact (scNew).nd); (case hi => exact rfl); (case hx => first | exact Or.inl rfl | exact Or.inr rfl); (case hs => exact rfl); (case hf => first | exact Or.inr rfl | exact Or.inl rfl))
  | ((with_reducible refine bw_inT (hx := ?hx) (hf := ?hf) (hk := ?_)); (case hx => exact rfl); (case hf => exact rfl))
  | ((with_reducible refine bw_inL (xs := ?xs) (hp := ?hp) (hx := ?hx) (hf := ?hf) (hk := ?_)); (case hp => walk_at "pt rdb"); (case hx => exact rfl); (case hf => exact rfl))
  | ((with_reducible refine bw_add (hk := ?_)))
  | ((with_reducible refine And.intro ?hx ?_); (case hx => exact Nat.le_of_ble_eq_true rfl))
  | (with_reducible refine Exists.intro _ (And.intro rfl ?_))
  | (refine tst_t (by decide +kernel) ?_)
  | (refine tst_f (by decide +kernel) ?_)
  | (refine Exists.intro _ (Exists.intro _ (And.intro rfl (And.intro (by walk_at "pt rdb") ?_))))
  | fail)
theorem str_small : ∀ i < 40, ((Str.ofString "h").length + (Str.ofString (toString ((i : Nat) : Int))).length ≤ 100000) ∧ ((i : Nat) : Int).natAbs.log2 < 1920 := by decide +kernel
theorem ok_new_name (M : Mg mg) (D : Df K mg "new_name" (top 14) ["taken"]) (C : All P w K mg base n) : Cl P w K mg base (n + 1) "new_name" (Fn (pNew (n + 1))) := by
  refine cl_of D scNew (fun ts F S k h => ?_) (fun a hr ts F S k h => ?_)
  · obtain ⟨_, _, a, b, _, rfl, _⟩ := h; rfl
  obtain ⟨rfl, hn, d, kvs, ks, rfl, hd, hks, hl, q⟩ := h
  refine sw_cons ?_
  repeat' (walk_at "pt 1")
  refine s1_while PassesOwn.never (fun m r S => ∃ i : Nat, r = [some (.ref d), some (.int i)] ∧ S = [] ∧ (∀ j < i, hnm j ∈ ks) ∧ i ≤ ks.length ∧ m = ks.length - i) ⟨_, 0, rfl, rfl, fun j h => absurd h (Nat.not_lt_zero j), Nat.zero_le _, rfl⟩ ?_
  rintro m r1 S1 ⟨i, rfl, rfl, hi, hil, rfl⟩
  have h40 : i < 40 := by omega
  obtain ⟨b1, b2⟩ := str_small i h40
  repeat' (walk_at "pt 1")
  refine cw_strI b2 ?_
  refine bw_cats b1 ?_
  repeat' (walk_at "pt 1")
  refine bw_inD (kk := .inr (B33.hn i)) (hu_of hr) (.inr hd) ?_
  refine ⟨_, rfl, ?_⟩
  rw [← hnm_s i h40, val_some hks]
  refine ⟨fun hb => ?_, fun hb => ?_⟩
  · have hm : hnm i ∈ ks := of_decide_eq_true hb
    refine sw_cons (s1_aug (i := 1) (j := i) scNew.nd rfl rfl ?_)
    refine ew_int ⟨1, rfl, ?_⟩
    refine sw_nil ?_
    have hs : ∀ j < i + 1, hnm j ∈ ks := fun j hj => by
      by_cases e : j = i
      · rw [e]; exact hm
      · exact hi j (by omega)
    have := hnm_le (i := i + 1) hl (by omega) hs
    exact ⟨ks.length - (i + 1), by omega, i + 1, by simp, rfl, hs, this, rfl⟩
  · have hm : hnm i ∉ ks := of_decide_eq_false hb
    have q1 := q i hil hm hi
    rw [hnm_s i h40] at q1
    repeat' (walk_at "pt 1")
    refine cw_strI b2 ?_
    refine bw_cats b1 ?_
    exact q1
end
section
theorem scLed : FnScope ["left", "right", "first", "last", "kind", "x", "y", "inner", "one", "other"] ["left", "right", "first", "last"] (defScope (top 20)) := ⟨rfl, rfl, rfl, by decide +kernel, rfl, by decide +kernel, by decide +kernel⟩
local macro_rules | `(tactic| walk_at "pt 1") => `(tactic| first
  | ((with_reducible refine aw_cons (hs := ?hs) (h := ?_)); (case hs => exact rfl))
  | ((with_reducible refine aw_nil (hk := ?_)))
  | ((with_reducible refine ew_var (x := "left") (i := 0) (t := ?t) ?hi ?_ ?hN ?hv ?hd ?hc); (case hi => exact rfl); (case hN => exact rfl); (case hv => first | exact Or.inl rfl | exact Or.inr (Or.inl rfl) | exact Or.inr (Or.inr rfl)); (case hd => decide); (case hc => decide))
  | ((with_reducible refine ew_var (x := "right") (i := 1) (t := ?t) ?hi ?_ ?hN ?hv ?hd ?hc); (case hi => exact rfl); (case hN => exact rfl); (case hv => first | exact Or.inl rfl | exact Or.inr (Or.inl rfl) | exact Or.inr (Or.inr rfl)); (case hd => decide); (case hc => decide))
  | ((with_reducible refine ew_var (x := "first") (i := 2) (t := ?t) ?hi ?_ ?hN ?hv ?hd ?hc); (case hi => exact rfl); (case hN => exact rfl); (case hv => first | exact Or.inl rfl | exact Or.inr (Or.inl rfl) | exact Or.inr (Or.inr rfl)); (case hd => decide); (case hc => decide))
  | ((with_reducible refine ew_var (x := "last") (i := 3) (t := ?t) ?hi ?_ ?hN ?hv ?hd ?hc); (case hi => exact rfl); (case hN => exact rfl); (case hv => first | exact Or.inl rfl | exact Or.inr (Or.inl rfl) | exact Or.inr (Or.inr rfl)); (case hd => decide); (case hc => decide))
  | ((with_reducible refine ew_var (x := "kind") (i := 4) (t := ?t) ?hi ?_ ?hN ?hv ?hd ?hc); (case hi => exact rfl); (case hN => exact rfl); (case hv => first | exact Or.inl rfl | exact Or.inr (Or.inl rfl) | exact Or.inr (Or.inr rfl)); (case hd => decide); (case hc => decide))
  | ((with_reducible refine ew_var (x := "x") (i := 5) (t := ?t) ?hi ?_ ?hN ?hv ?hd ?hc); (case hi => exact rfl); (case hN => exact rfl); (case hv => first | exact Or.inl rfl | exact Or.inr (Or.inl rfl) | exact Or.inr (Or.inr rfl)); (case hd => decide); (case hc => decide))
  | ((with_reducible refine ew_var (x := "y") (i := 6) (t := ?t) ?hi ?_ ?hN ?hv ?hd ?hc); (case hi => exact rfl); (case hN => exact rfl); (case hv => first | exact Or.inl rfl | exact Or.inr (Or.inl rfl) | exact Or.inr (Or.inr rfl)); (case hd => decide); (case hc => decide))
  | ((with_reducible refine ew_var (x := "inner") (i := 7) (t := ?t) ?hi ?_ ?hN ?hv ?hd ?hc); (case hi => exact rfl); (case hN => exact rfl); (case hv => first | exact Or.inl rfl | exact Or.inr (Or.inl rfl) | exact Or.inr (Or.inr rfl)); (case hd => decide); (case hc => decide))
  | ((with_reducible refine ew_var (x := "one") (i := 8) (t := ?t) ?hi ?_ ?hN ?hv ?hd ?hc); (case hi => exact rfl); (case hN => exact rfl); (case hv => first | exact Or.inl rfl | exact Or.inr (Or.inl rfl) | exact Or.inr (Or.inr rfl)); (case hd => decide); (case hc => decide))
  | ((with_reducible refine ew_var (x := "other") (i := 9) (t := ?t) ?hi ?_ ?hN ?hv ?hd ?hc); (case hi => exact rfl); (case hN => exact rfl); (case hv => first | exact Or.inl rfl | exact Or.inr (Or.inl rfl) | exact Or.inr (Or.inr rfl)); (case hd => decide); (case hc => decide))
  | ((with_reducible refine ew_sub (h := ?_)))
  | ((with_reducible refine ew_str (hk := ?_)))
  | ((with_reducible refine ew_int (hk := ?_)))
  | ((with_reducible refine ew_tup (h := ?_)))
  | ((with_reducible refine tw_cmp (hm := ?hm) (h := ?_)); (case hm => exact rfl))
  | ((with_reducible refine ew_cmp (hm := ?hm) (h := ?_)); (case hm => exact rfl))
  | ((with_reducible refine ew_callF (x := "names_apart") (n := ?n) (pre := ?pre) (C := ?C) (hr := ?hr) (hg := ?hg) (hdb := ?hdb) (he := ?he) (hpl := ?hpl) (h := ?_)); (case C => exact All.c_names_apart (by assumption)); (case hr => assumption); (case hg => exact rfl); (case hdb => decide); (case he => exact rfl); (case hpl => exact rfl))
  | ((with_reducible refine tw_call (h := ?_)))
  | ((with_reducible refine tw_name (h := ?_)))
  | ((with_reducible refine sw_cons (h := ?_)))
  | ((with_reducible refine sw_nil (h := ?_)))
  | ((with_reducible refine s1_ret0 (h := ?_)))
  | ((with_reducible refine s1_if (h := ?_)))
  | ((with_reducible refine s1_set (x := "kind") (i := 4) ?hN ?hi ?_ ?hx ?hs ?hf); (case hN => exact (scLed).nd); (case hi => exact rfl); (case hx => first | exact Or.inl rfl | exact Or.inr rfl); (case hs => exact rfl); (case hf => first | exact Or.inr rfl | exact Or.inl rfl))
  | ((with_reducible refine s1_set (x := "x") (i := 5) ?hN ?hi ?_ ?hx ?hs ?hf); (case hN => exact (scLed).nd); (case hi => exact rfl); (case hx => first | exact Or.inl rfl | exact Or.inr rfl); (case hs => exact rfl); (case hf => first | exact Or.inr rfl | exact Or.inl rfl))
  | ((with_reducible refine s1_set (x := "y") (i := 6) ?hN ?hi ?_ ?hx ?hs ?hf); (case hN => exact (scLed).nd); (case hi => exact rfl); (case hx => first | exact Or.inl rfl | exact Or.inr rfl); (case hs => exact rfl); (case hf => first | exact Or.inr rfl | exact Or.inl rfl))
  | ((with_reducible refine s1_set (x := "inner") (i := 7) ?hN ?hi ?_ ?hx ?hs ?hf); (case hN => exact (scLed).nd); (case hi => exact rfl); (case hx => first | exact Or.inl rfl | exact Or.inr rfl); (case hs => exact rfl); (case hf => first | exact Or.inr rfl | exact Or.inl rfl))
  | ((with_reducible refine s1_set (x := "one") (i := 8) ?hN ?hi ?_ ?hx ?hs ?hf); (case hN => exact (scLed).nd); (case hi => exact rfl); (case hx => first | exact Or.inl rfl | exact Or.inr rfl); (case hs => exact rfl); (case hf => first | exact Or.inr rfl | exact Or.inl rfl))
  | ((with_reducible refine s1_set (x := "other") (i := 9) ?hN ?hi ?_ ?hx ?hs ?hf); (case hN => exact (scLed).nd); (case hi => exact rfl); (case hx => first | exact Or.inl rfl | exact Or.inr rfl); (case hs => exact rfl); (case hf => first | exact Or.inr rfl | exact Or.inl rfl))
  | ((with_reducible refine bw_eqs (h := ?h) (hk := ?_)); (case h => exact rfl))
  | ((with_reducible refine xw_tup (t := ?t) (he := ?he) (hs := ?hs) (hk := ?_)); (case he => first | exact rfl | exact atT0 | exact atT1); (case hs => exact fun _ _ => rfl))
  | ((with_reducible refine xw_lst (ts := ?ts) (t := ?t) (hp := ?hp) (he := ?he) (hs := ?hs) (hk := ?_)); (case hp => walk_at "pt rdb"); (case he => first | exact rfl | exact atT0 | exact atT1); (case hs => exact fun _ _ => rfl))
  | ((with_reducible refine And.intro ?hx ?_); (case hx => exact Nat.le_of_ble_eq_true rfl))
  | (with_reducible refine Exists.intro _ (And.intro rfl ?_))
  | (refine tst_t (by decide +kernel) ?_)
  | (refine tst_f (by decide +kernel) ?_)
  | (refine Exists.intro _ (Exists.intro _ (And.intro rfl (And.intro (by walk_at "pt rdb") ?_))))
  | fail)
theorem ok_led_over (D : Df K mg "led_over" (top 20) ["left", "right", "first", "last"]) (C : All P w K mg base n) : Cl P w K mg base (n + 1) "led_over" (Fn (pLed (n + 1))) := by
  refine cl_of D scLed (fun ts F S k h => ?_) (fun a hr ts F S k h => ?_)
  · obtain ⟨_, _, a, b, _, _, _, rfl, _⟩ := h; rfl
  obtain ⟨rfl, hn, u, v, f, l, L, rfl, hk, df, dl, hL, hL2, q⟩ := h
  cases u <;> cases v <;> simp only [kin, Bool.false_eq_true] at hk <;> clear hk
  all_goals simp only [Say.t]
  all_goals refine sw_cons ?_
  all_goals repeat' (walk_at "pt 1")
  all_goals refine s1_two (i := 5) (j := 6) rfl scLed.nd rfl rfl ?_
  all_goals repeat' (walk_at "pt 1")
  all_goals refine fc0 ⟨by omega, f, l, L, rfl, df, dl, hL, hL2, fun i j hf => ⟨_, _, rfl, ?_⟩⟩
  all_goals repeat' (walk_at "pt 1")
  all_goals exact q i j hf
end
end
end B33

set_option Elab.async false
set_option linter.all false
set_option maxRecDepth 100000
set_option maxHeartbeats 2000000
set_option autoImplicit false
namespace B33
open PT PySem L2 PySem.Spec PyProof.Rows
local macro_rules | `(tactic| walk_at "pt rdb") => `(tactic| first
  | (apply Or.inl; exact List.Mem.head _)
  | (apply Or.inl; apply List.Mem.tail; exact List.Mem.head _)
  | (apply Or.inl; apply List.Mem.tail; apply List.Mem.tail; exact List.Mem.head _)
  | (apply Or.inl; apply List.Mem.tail; apply List.Mem.tail; apply List.Mem.tail; exact List.Mem.head _)
  | (apply Or.inl; apply List.Mem.tail; apply List.Mem.tail; apply List.Mem.tail; apply List.Mem.tail; exact List.Mem.head _)
  | (apply Or.inl; apply List.Mem.tail; apply List.Mem.tail; apply List.Mem.tail; apply List.Mem.tail; apply List.Mem.tail; exact List.Mem.head _)
  | (apply Or.inl; apply List.Mem.tail; apply List.Mem.tail; apply List.Mem.tail; apply List.Mem.tail; apply List.Mem.tail; apply List.Mem.tail; exact List.Mem.head _)
  | (apply Or.inl; apply List.Mem.tail; apply List.Mem.tail; apply List.Mem.tail; apply List.Mem.tail; apply List.Mem.tail; apply List.Mem.tail; apply List.Mem.tail; exact List.Mem.head _)
  | (apply Or.inl; apply List.Mem.tail; apply List.Mem.tail; apply List.Mem.tail; apply List.Mem.tail; apply List.Mem.tail; apply List.Mem.tail; apply List.Mem.tail; apply List.Mem.tail; exact List.Mem.head _)
  | (apply Or.inl; apply List.Mem.tail; apply List.Mem.tail; apply List.Mem.tail; apply List.Mem.tail; apply List.Mem.tail; apply List.Mem.tail; apply List.Mem.tail; apply List.Mem.tail; apply List.Mem.tail; exact List.Mem.head _)
  | (apply Or.inr; assumption) | (apply Or.inr; exact List.Mem.head _) | (apply Or.inr; apply List.Mem.tail; exact List.Mem.head _) | fail)
/-! a saying or a term -/
inductive Nd where
  | s (x : Say) | t (x : Tm)
def Nd.d : Nd → T
  | .s x => x.t
  | .t x => x.t
def Nd.dep : Nd → Nat
  | .s x => x.dep
  | .t x => x.dep
def Nd.names : Nd → List Nm
  | .s _ => []
  | .t x => x.names
def Nd.kids : Nd → List Nd
  | .s (.atom _) => []
  | .s Say.fls => []
  | .s (.thn a b) => [.s a, .s b]
  | .s (.and a b) => [.s a, .s b]
  | .s (.or a b) => [.s a, .s b]
  | .t (.use _) => []
  | .t (.take _ p a) => [.s p, .t a]
  | .t (.app a b) => [.t a, .t b]
  | .t (.pair a b) => [.t a, .t b]
  | .t (.fst a) => [.t a]
  | .t (.snd a) => [.t a]
  | .t (.inl a p) => [.t a, .s p]
  | .t (.inr p a) => [.s p, .t a]
  | .t (.cas w _ a _ b) => [.t w, .t a, .t b]
def Say.sz : Say → Nat
  | .atom _ => 1
  | .fls => 1
  | .thn a b => a.sz + b.sz + 1
  | .and a b => a.sz + b.sz + 1
  | .or a b => a.sz + b.sz + 1
def Tm.sz : Tm → Nat
  | .use _ => 1
  | .take _ s a => s.sz + a.sz + 1
  | .app a b => a.sz + b.sz + 1
  | .pair a b => a.sz + b.sz + 1
  | .fst a => a.sz + 1
  | .snd a => a.sz + 1
  | .inl a s => a.sz + s.sz + 1
  | .inr s a => s.sz + a.sz + 1
  | .cas w _ a _ b => w.sz + a.sz + b.sz + 1
def Nd.sz : Nd → Nat
  | .s x => x.sz
  | .t x => x.sz
/-- what stands behind the head -/
def Nd.items : Nd → List T
  | .s (.atom x) => [.str x.s]
  | .s Say.fls => []
  | .s (.thn a b) => [a.t, b.t]
  | .s (.and a b) => [a.t, b.t]
  | .s (.or a b) => [a.t, b.t]
  | .t (.use x) => [.str x.s]
  | .t (.take x p a) => [.str x.s, p.t, a.t]
  | .t (.app a b) => [a.t, b.t]
  | .t (.pair a b) => [a.t, b.t]
  | .t (.fst a) => [a.t]
  | .t (.snd a) => [a.t]
  | .t (.inl a p) => [a.t, p.t]
  | .t (.inr p a) => [p.t, a.t]
  | .t (.cas w x a y b) => [w.t, .str x.s, a.t, .str y.s, b.t]
def Nd.head : Nd → Str
  | .s (.atom x) => "atom"
  | .s Say.fls => "false"
  | .s (.thn a b) => "then"
  | .s (.and a b) => "and"
  | .s (.or a b) => "or"
  | .t (.use x) => "use"
  | .t (.take x p a) => "take"
  | .t (.app a b) => "apply"
  | .t (.pair a b) => "pair"
  | .t (.fst a) => "first"
  | .t (.snd a) => "second"
  | .t (.inl a p) => "left"
  | .t (.inr p a) => "right"
  | .t (.cas w x a y b) => "cases"
theorem Nd.form : ∀ x : Nd, x.d = .tup (.str x.head :: x.items)
  | .s x => by cases x <;> rfl
  | .t x => by cases x <;> rfl
def isTup : T → Bool
  | .tup _ => true
  | _ => false
theorem Nd.itN (x : Nd) : isTup x.d = true := by rw [x.form]; rfl
theorem itS (x : Say) : isTup x.t = true := (Nd.s x).itN
theorem itT (x : Tm) : isTup x.t = true := (Nd.t x).itN
theorem itX (x : Str) : isTup (.str x) = false := rfl
theorem Nd.filt : ∀ x : Nd, x.items.filter B33.isTup = x.kids.map Nd.d
  | .s x => by cases x <;> simp [Nd.items, Nd.kids, Nd.d, itS, itT, itX]
  | .t x => by cases x <;> simp [Nd.items, Nd.kids, Nd.d, itS, itT, itX]
/-- an item is a text, or stands for a kid -/
theorem Nd.item0 : ∀ (x : Nd), ∀ u ∈ x.items, (∃ z, u = .str z) ∨ isTup u = true
  | .s x => by cases x <;> simp [Nd.items, itS, itT]
  | .t x => by cases x <;> simp [Nd.items, itS, itT]
theorem Nd.item (x : Nd) (u : T) (h : u ∈ x.items) : (∃ z, u = .str z) ∨ ∃ y ∈ x.kids, u = y.d := by
  rcases x.item0 u h with h1 | h1
  · exact .inl h1
  · have : u ∈ x.items.filter isTup := List.mem_filter.mpr ⟨h, h1⟩
    rw [x.filt] at this
    obtain ⟨y, hy, e⟩ := List.mem_map.mp this
    exact .inr ⟨y, hy, e.symm⟩
theorem Nd.kid_dep : ∀ (x y : Nd), y ∈ x.kids → y.dep + 1 ≤ x.dep
  | .s x, y, h => by cases x <;> simp [Nd.kids] at h <;> rcases h with rfl | rfl <;> simp only [Nd.dep, Say.dep] <;> omega
  | .t x, y, h => by cases x <;> simp [Nd.kids] at h <;> (try rcases h with rfl | rfl | rfl) <;> (try rcases h with rfl | rfl) <;> (try subst h) <;> simp only [Nd.dep, Say.dep, Tm.dep] <;> omega
theorem Nd.kids_sz : ∀ x : Nd, (x.kids.map Nd.sz).sum + 1 ≤ x.sz + 0
  | .s x => by cases x <;> simp [Nd.kids, Nd.sz, Say.sz] <;> omega
  | .t x => by cases x <;> simp [Nd.kids, Nd.sz, Say.sz, Tm.sz] <;> omega
theorem Nd.kids_len : ∀ x : Nd, x.kids.length ≤ 3
  | .s x => by cases x <;> simp [Nd.kids]
  | .t x => by cases x <;> simp [Nd.kids]
theorem Nd.kids_names : ∀ (x : Nd), (∀ z, x ≠ .t (.use z)) → x.names = x.kids.flatMap Nd.names
  | .s x, _ => by cases x <;> simp [Nd.kids, Nd.names]
  | .t x, h => by
    cases x with
    | use z => exact absurd rfl (h z)
    | _ => simp [Nd.kids, Nd.names, Tm.names]
theorem Nd.fit (x : Nd) (h : x.dep ≤ 63) : Fit 63 x.d := by
  cases x with
  | s x => exact ⟨x.d, x.py, x.lay, Nat.le_trans x.deep h⟩
  | t x => exact ⟨x.d, x.py, x.fit.1, Nat.le_trans x.fit.2 h⟩
theorem Nd.ne (x : Nd) (h : x.dep ≤ 63) : EqT x.d (.tup []) false := by
  obtain ⟨d, h1, h2, h3⟩ := x.fit h
  have q := eqT_fit (tb := .tup []) (e := .tuple []) h1 rfl h2 (by decide) (by omega) (by decide)
  have e : PyData.eqv d (.tuple []) = false := by
    rw [x.form] at h1
    simp only [T.py, T.pys] at h1
    cases hp : T.pys x.items with
    | none => rw [hp] at h1; cases h1
    | some ds => rw [hp] at h1; cases h1; rfl
  rw [e] at q
  exact q
/-! ### names_of -/
/-- a stack whose height is kept low by the depths -/
def Stk (M : Nat) (ws : List Nd) : Prop := ∀ (i : Nat) (x : Nd), ws[i]? = some x → i + 3 * x.dep ≤ M
theorem Nd.dep_pos : ∀ x : Nd, 1 ≤ x.dep
  | .s x => by cases x <;> simp [Nd.dep, Say.dep]
  | .t x => by cases x <;> simp [Nd.dep, Tm.dep]
theorem Stk.len {M : Nat} {ws : List Nd} (h : Stk M ws) : ws.length ≤ M := by
  cases hw : ws.length with
  | zero => exact Nat.zero_le _
  | succ k =>
    have hk : k < ws.length := by omega
    have := h k _ (List.getElem?_eq_getElem hk)
    have := ws[k].dep_pos
    omega
theorem Stk.step {M : Nat} {ws : List Nd} {x : Nd} (h : Stk M (ws ++ [x])) : Stk M (ws ++ x.kids) := by
  intro i y e
  by_cases hi : i < ws.length
  · rw [List.getElem?_append_left hi] at e
    exact h i y (by rw [List.getElem?_append_left hi]; exact e)
  · rw [List.getElem?_append_right (by omega)] at e
    have hx := h ws.length x (by simp)
    have hy := x.kid_dep y (List.mem_of_getElem? e)
    have hl := x.kids_len
    have : i - ws.length < x.kids.length := by
      rcases Nat.lt_or_ge (i - ws.length) x.kids.length with z | z
      · exact z
      · rw [List.getElem?_eq_none z] at e; cases e
    omega
/-- what is found, and what waits -/
structure Nin (t : Tm) (ws : List Nd) (kvs : List (Key × T)) (ks : List Nm) : Prop where
  (keys : kvs.map (·.1) = ks.map fun x => Sum.inr x.s) (nd : ks.Nodup) (all : ∀ z, (z ∈ ks ∨ z ∈ ws.flatMap Nd.names) ↔ z ∈ t.names) (stk : Stk 180 ws)
theorem Nin.step {t : Tm} {ws : List Nd} {x : Nd} {kvs : List (Key × T)} {ks : List Nm} (h : Nin t (ws ++ [x]) kvs ks) (hx : ∀ z, x ≠ .t (.use z)) : Nin t (ws ++ x.kids) kvs ks := by
  refine ⟨h.keys, h.nd, fun z => ?_, h.stk.step⟩
  rw [← h.all z, List.flatMap_append, List.flatMap_append, ← x.kids_names hx, List.flatMap_singleton]
theorem putT_new {kvs : List (Key × T)} {kk : Key} {u : T} (h : (valT kvs kk).isSome = false) : putT kvs kk u = kvs ++ [(kk, u)] := by
  unfold putT
  rw [if_neg]
  intro ha
  obtain ⟨p, hp, e⟩ := List.any_eq_true.mp ha
  unfold valT at h
  rw [Option.isSome_map] at h
  have : (List.find? (fun kv => decide (kv.1 = kk)) kvs).isSome = true := by rw [List.find?_isSome]; exact ⟨p, hp, e⟩
  rw [this] at h; cases h
theorem putT_old {kvs : List (Key × T)} {kk : Key} {u : T} (h : (valT kvs kk).isSome = true) : (putT kvs kk u).map (·.1) = kvs.map (·.1) := by
  unfold putT
  split
  · rw [List.map_map]
    apply List.map_congr_left
    intro p _
    show (if p.1 = kk then _ else _ : Key × T).1 = p.1
    split <;> rfl
  · rename_i hn
    exfalso
    apply hn
    unfold valT at h
    rw [Option.isSome_map, List.find?_isSome] at h
    obtain ⟨p, hp, e⟩ := h
    exact List.any_eq_true.mpr ⟨p, hp, e⟩
theorem keys_put {kvs : List (Key × T)} {ks : List Nm} (h : kvs.map (·.1) = ks.map fun x => Sum.inr x.s) (nd : ks.Nodup) (x : Nm) (u : T) : ∃ ls : List Nm, (putT kvs (.inr x.s) u).map (·.1) = ls.map (fun x => Sum.inr x.s) ∧ ls.Nodup ∧ ∀ z, z ∈ ls ↔ z = x ∨ z ∈ ks := by
  have q := val_some h x
  by_cases hx : x ∈ ks
  · rw [decide_eq_true hx] at q
    exact ⟨ks, by rw [putT_old q]; exact h, nd, fun z => ⟨.inr, fun e => e.elim (fun e => by rw [e]; exact hx) id⟩⟩
  · rw [decide_eq_false hx] at q
    refine ⟨ks ++ [x], ?_, ?_, fun z => by simp; exact or_comm⟩
    · rw [putT_new q, List.map_append, List.map_append]
      exact congrArg (· ++ _) h
    · exact List.nodup_append.mpr ⟨nd, by simp, fun a ha b hb e => hx (by simp at hb; rw [← hb, ← e]; exact ha)⟩
theorem Nin.use {t : Tm} {ws : List Nd} {x : Nm} {kvs : List (Key × T)} {ks : List Nm} (h : Nin t (ws ++ [.t (.use x)]) kvs ks) (u : T) : ∃ ls, Nin t ws (putT kvs (.inr x.s) u) ls := by
  obtain ⟨ls, e, nd, hm⟩ := keys_put h.keys h.nd x u
  refine ⟨ls, e, nd, fun z => ?_, ?_⟩
  · rw [hm z, ← h.all z, List.flatMap_append, List.flatMap_singleton, List.mem_append]
    simp only [Nd.names, Tm.names, List.mem_singleton]
    constructor
    · rintro ((e | e) | e)
      · exact .inr (.inr e)
      · exact .inl e
      · exact .inr (.inl e)
    · rintro (e | e | e)
      · exact .inl (.inr e)
      · exact .inr e
      · exact .inl (.inl e)
  · have := h.stk.step
    simpa [Nd.kids] using this
theorem Nin.few {t : Tm} {ws : List Nd} {kvs : List (Key × T)} {ks L : List Nm} (h : Nin t ws kvs ks) (hL : t.names ⊆ L) (hl : L.length < 64) : ks.length < 64 ∧ kvs.length < 64 := by
  have h1 : ks.length ≤ L.length := h.nd.length_le_of_subset fun z hz => hL ((h.all z).mp (.inl hz))
  have h2 : kvs.length = ks.length := by have := congrArg List.length h.keys; simpa using this
  omega
theorem Nd.use_of : ∀ (x : Nd), T.sEq (.str x.head) (.str "use") = true → ∃ z, x = .t (.use z)
  | .s x, h => by
    exfalso
    cases x <;> exact absurd h (by simp only [Nd.head]; decide +kernel)
  | .t x, h => by
    cases x with
    | use z => exact ⟨z, rfl⟩
    | _ => exact absurd h (by simp only [Nd.head]; decide +kernel)
def szs (ws : List Nd) : Nat := (ws.map Nd.sz).sum
section
variable {P : Program} {w : World} {K : PySem.W.Frag} {mg : Str → Option Value} {base : Heap} {n : Nat}
theorem scNames : FnScope ["term", "found", "waiting", "now", "one"] ["term"] (defScope (top 22)) := ⟨rfl, rfl, rfl, by decide +kernel, rfl, by decide +kernel, by decide +kernel⟩
local macro_rules | `(tactic| walk_at "pt 1") => `(tactic| first
  | ((with_reducible refine aw_cons (hs := ?hs) (h := ?_)); (case hs => exact rfl))
  | ((with_reducible refine aw_nil (hk := ?_)))
  | ((with_reducible refine ew_var (x := "term") (i := 0) (t := ?t) ?hi ?_ ?hN ?hv ?hd ?hc); (case hi => exact rfl); (case hN => exact rfl); (case hv => first | exact Or.inl rfl | exact Or.inr (Or.inl rfl) | exact Or.inr (Or.inr rfl)); (case hd => decide); (case hc => decide))
  | ((with_reducible refine ew_var (x := "found") (i := 1) (t := ?t) ?hi ?_ ?hN ?hv ?hd ?hc); (case hi => exact rfl); (case hN => exact rfl); (case hv => first | exact Or.inl rfl | exact Or.inr (Or.inl rfl) | exact Or.inr (Or.inr rfl)); (case hd => decide); (case hc => decide))
  | ((with_reducible refine ew_var (x := "waiting") (i := 2) (t := ?t) ?hi ?_ ?hN ?hv ?hd ?hc); (case hi => exact rfl); (case hN => exact rfl); (case hv => first | exact Or.inl rfl | exact Or.inr (Or.inl rfl) | exact Or.inr (Or.inr rfl)); (case hd => decide); (case hc => decide))
  | ((with_reducible refine ew_var (x := "now") (i := 3) (t := ?t) ?hi ?_ ?hN ?hv ?hd ?hc); (case hi => exact rfl); (case hN => exact rfl); (case hv => first | exact Or.inl rfl | exact Or.inr (Or.inl rfl) | exact Or.inr (Or.inr rfl)); (case hd => decide); (case hc => decide))
  | ((with_reducible refine ew_var (x := "one") (i := 4) (t := ?t) ?hi ?_ ?hN ?hv ?hd ?hc); (case hi => exact rfl); (case hN => exact rfl); (case hv => first | exact Or.inl rfl | exact Or.inr (Or.inl rfl) | exact Or.inr (Or.inr rfl)); (case hd => decide); (case hc => decide))
  | ((with_reducible refine ew_slice (h := ?_)))
  | ((with_reducible refine ew_sub (h := ?_)))
  | ((with_reducible refine ew_str (hk := ?_)))
  | ((with_reducible refine ew_int (hk := ?_)))
  | ((with_reducible refine ew_bl (hk := ?_)))
  | ((with_reducible refine ew_tup (h := ?_)))
  | ((with_reducible refine tw_cmp (hm := ?hm) (h := ?_)); (case hm => exact rfl))
  | ((with_reducible refine ew_cmp (hm := ?hm) (h := ?_)); (case hm => exact rfl))
  | ((with_reducible refine ew_lst (h := ?_)))
  | ((with_reducible refine ew_callB (x := "isinstance") (id := "isinstance") (hm := ?hm) (hv := ?hv) (hg := ?hg) (hn := ?hn) (hdb := ?hdb) (he := ?he) (hpl := ?hpl) (h := ?_)); (case hm => exact Mg.isinstance (by assumption)); (case hv => exact rfl); (case hg => exact rfl); (case hn => decide); (case hdb => decide); (case he => exact rfl); (case hpl => exact rfl))
  | ((with_reducible refine ew_callB (x := "sorted") (id := "sorted") (hm := ?hm) (hv := ?hv) (hg := ?hg) (hn := ?hn) (hdb := ?hdb) (he := ?he) (hpl := ?hpl) (h := ?_)); (case hm => exact Mg.sorted (by assumption)); (case hv => exact rfl); (case hg => exact rfl); (case hn => decide); (case hdb => decide); (case he => exact rfl); (case hpl => exact rfl))
  | ((with_reducible refine ew_callTy (x := "tuple") (T' := "tuple") (hm := ?hm) (hv := ?hv) (hg := ?hg) (hn := ?hn) (hdb := ?hdb) (he := ?he) (hpl := ?hpl) (h := ?_)); (case hm => exact Mg.tuple (by assumption)); (case hv => exact rfl); (case hg => exact rfl); (case hn => decide); (case hdb => decide); (case he => exact rfl); (case hpl => exact rfl))
  | ((with_reducible refine ew_mth (name := "extend") (id := "list.extend") (rr := rExtend) (slot := ?slot) (hty := ?hty) (hm := ?hm) (hbase := ?hbase) (hfew := ?hfew) (hline := ?hline) (hs := ?hs) (hplain := ?hplain) (h := ?_)); (case slot => exact PySem.F.slot_list_extend); (case hty => exact PySem.F.type_list_extend); (case hm => exact mt_extend); (case hbase => exact rfl); (case hfew => exact rfl); (case hline => exact rfl); (case hs => exact rfl); (case hplain => exact rfl))
  | ((with_reducible refine ew_mth0 (name := "pop") (id := "list.pop") (rr := rPop) (slot := ?slot) (hty := ?hty) (hm := ?hm) (hbase := ?hbase) (hline := ?hline) (h := ?_)); (case slot => exact PySem.F.slot_list_pop); (case hty => exact PySem.F.type_list_pop); (case hm => exact mt_pop); (case hbase => exact rfl); (case hline => exact rfl))
  | ((with_reducible refine tw_bool (h := ?_)))
  | ((with_reducible refine ww_and (h := ?_)))
  | ((with_reducible refine ww_or (h := ?_)))
  | ((with_reducible refine ww_and1 (h := ?_)))
  | ((with_reducible refine ww_or1 (h := ?_)))
  | ((with_reducible refine ew_and (h := ?_)))
  | ((with_reducible refine ew_or (h := ?_)))
  | ((with_reducible refine ew_one (h := ?_)))
  | ((with_reducible refine ew_dnewK (h := ?_)))
  | ((with_reducible refine ew_disp1 (h := ?_)))
  | ((with_reducible refine ew_spread (h := ?_)))
  | ((with_reducible refine ew_bltTy (x := "str") (n := "str") (hm := ?hm) (hv := ?hv) (hg := ?hg) (hn := ?hn) (hd := ?hd) (hk := ?_)); (case hm => exact Mg.str (by assumption)); (case hv => exact rfl); (case hg => exact rfl); (case hn => decide); (case hd => decide))
  | ((with_reducible refine ew_bltTy (x := "tuple") (n := "tuple") (hm := ?hm) (hv := ?hv) (hg := ?hg) (hn := ?hn) (hd := ?hd) (hk := ?_)); (case hm => exact Mg.tuple (by assumption)); (case hv => exact rfl); (case hg => exact rfl); (case hn => decide); (case hd => decide))
  | ((with_reducible refine tw_call (h := ?_)))
  | ((with_reducible refine tw_name (h := ?_)))
  | ((with_reducible refine sw_cons (h := ?_)))
  | ((with_reducible refine sw_nil (h := ?_)))
  | ((with_reducible refine s1_ret0 (h := ?_)))
  | ((with_reducible refine s1_if (h := ?_)))
  | ((with_reducible refine s1_expr (hs := ?hs) (h := ?_)); (case hs => exact rfl))
  | ((with_reducible refine s1_set (x := "found") (i := 1) ?hN ?hi ?_ ?hx ?hs ?hf); (case hN => exact (scNames).nd); (case hi => exact rfl); (case hx => first | exact Or.inl rfl | exact Or.inr rfl); (case hs => exact rfl); (case hf => first | exact Or.inr rfl | exact Or.inl rfl))
  | ((with_reducible refine s1_set (x := "waiting") (i := 2) ?hN ?hi ?_ ?hx ?hs ?hf); (case hN => exact (scNames).nd); (case hi => exact rfl); (case hx => first | exact Or.inl rfl | exact Or.inr rfl); (case hs => exact rfl); (case hf => first | exact Or.inr rfl | exact Or.inl rfl))
  | ((with_reducible refine s1_set (x := "now") (i := 3) ?hN ?hi ?_ ?hx ?hs ?hf); (case hN => exact (scNames).nd); (case hi => exact rfl); (case hx => first | exact Or.inl rfl | exact Or.inr rfl); (case hs => exact rfl); (case hf => first | exact Or.inr rfl | exact Or.inl rfl))
  | ((with_reducible refine s1_set (x := "one") (i := 4) ?hN ?hi ?_ ?hx ?hs ?hf); (case hN => exact (scNames).nd); (case hi => exact rfl); (case hx => first | exact Or.inl rfl | exact Or.inr rfl); (case hs => exact rfl); (case hf => first | exact Or.inr rfl | exact Or.inl rfl))
  | ((with_reducible refine bw_eqs (h := ?h) (hk := ?_)); (case h => exact rfl))
  | ((with_reducible refine bw_nes (h := ?h) (hk := ?_)); (case h => exact rfl))
  | ((with_reducible refine xw_tup (t := ?t) (he := ?he) (hs := ?hs) (hk := ?_)); (case he => first | exact rfl | exact atT0 | exact atT1); (case hs => exact fun _ _ => rfl))
  | ((with_reducible refine xw_lst (ts := ?ts) (t := ?t) (hp := ?hp) (he := ?he) (hs := ?hs) (hk := ?_)); (case hp => walk_at "pt rdb"); (case he => first | exact rfl | exact atT0 | exact atT1); (case hs => exact fun _ _ => rfl))
  | ((with_reducible refine ow_none (hk := ?_)))
  | ((with_reducible refine ow_some (h := ?_)))
  | ((with_reducible refine lw_tup (hk := ?_)))
  | ((with_reducible refine And.intro ?hx ?_); (case hx => exact Nat.le_of_ble_eq_true rfl))
  | (with_reducible refine Exists.intro _ (And.intro rfl ?_))
  | (refine tst_t (by decide +kernel) ?_)
  | (refine tst_f (by decide +kernel) ?_)
  | (refine Exists.intro _ (Exists.intro _ (And.intro rfl (And.intro (by walk_at "pt rdb") ?_))))
  | fail)
theorem ok_names_of (M : Mg mg) (D : Df K mg "names_of" (top 22) ["term"]) (C : All P w K mg base n) : Cl P w K mg base (n + 1) "names_of" (Fn (pNames (n + 1))) := by
  refine cl_of D scNames (fun ts F S k h => ?_) (fun a hr ts F S k h => ?_)
  · obtain ⟨_, _, a, b, rfl, _⟩ := h; rfl
  obtain ⟨rfl, hn, t, L, rfl, hdep, hL, hl, q⟩ := h
  refine sw_cons (s1_par (i := 1) (j := 2) rfl scNames.nd rfl rfl (by decide) ?_)
  refine ew_dnewK fun pf hf => ?_
  repeat' (walk_at "pt 1")
  intro pw hpw
  refine sw_cons ?_
  refine s1_whileW [some t.t, some (.ref pf), some (.ref pw), none, none] PassesOwn.never
    (fun m S => ∃ ws kvs ks, S = [(pw, .lst (ws.map Nd.d)), (pf, .dk kvs)] ∧ Nin t ws kvs ks ∧ m = szs ws) ⟨rfl, rfl, rfl, trivial⟩ ⟨_, [.t t], [], [], rfl, ⟨rfl, .nil, fun z => by simp [Nd.names], fun i x e => ?_⟩, rfl⟩ ?_
  · cases i with
    | zero => simp at e; subst e; simp only [Nd.dep]; omega
    | succ i => simp at e
  rintro m S1 ⟨ws, kvs, ks, rfl, inv, rfl⟩
  repeat' (walk_at "pt 1")
  intro q0 hq0
  refine bw_neE hr.units (.inl (.tail _ (.head _))) (.inl (.head _)) (fun u hu => ?_) ⟨_, rfl, ?_⟩
  · obtain ⟨x, hx, rfl⟩ := List.mem_map.mp hu
    obtain ⟨i, hi, e⟩ := List.mem_iff_getElem.mp hx
    have := inv.stk i x (by rw [List.getElem?_eq_getElem hi, e])
    exact x.fit (by omega)
  refine ⟨fun hb => ?_, fun hb => ?_⟩
  · rcases List.eq_nil_or_concat ws with rfl | ⟨ws', x, rfl⟩
    · simp at hb
    refine sw_drop (List.sublist_cons_self _ _) ?_
    simp only [List.concat_eq_append, List.map_append, List.map_cons, List.map_nil] at inv ⊢
    have hdx : x.dep ≤ 60 := by
      have := inv.stk ws'.length x (by simp)
      omega
    rw [x.form]
    refine sw_cut (fun r1 S1 => r1 = [some t.t, some (.ref pf), some (.ref pw), some (.tup (.str x.head :: x.items)), none] ∧ S1 = [(pw, .lst (ws'.map Nd.d)), (pf, .dk kvs)]) ?_ ?_
    · repeat' (walk_at "pt 1")
      exact mw_pop (Sa := []) ⟨rfl, rfl⟩
    rintro _ _ ⟨rfl, rfl⟩
    refine sw_cut (fun r1 S1 => r1 = [some t.t, some (.ref pf), some (.ref pw), some (.tup (.str x.head :: x.items)), none] ∧ ∃ kvs' ks', S1 = [(pw, .lst (ws'.map Nd.d)), (pf, .dk kvs')] ∧ Nin t (ws' ++ x.kids) kvs' ks') ?_ ?_
    · repeat' (walk_at "pt 1")
      refine ⟨fun hb => ?_, fun hb => ?_⟩
      · obtain ⟨z, rfl⟩ := x.use_of hb
        obtain ⟨ls, inv2⟩ := inv.use (.bl true)
        have few := (inv.few hL hl).2
        simp only [Nd.head, Nd.items]
        refine sw_cons (s1_dput (hu_of hr) ?_)
        repeat' (walk_at "pt 1")
        exact ⟨pf, [(pw, .lst (ws'.map Nd.d))], [], kvs, .inr z.s, rfl, rfl, rfl, by omega, sw_nil ⟨rfl, _, ls, rfl, by rw [Nd.kids, List.append_nil]; exact inv2⟩⟩
      · refine sw_nil ⟨rfl, kvs, ks, rfl, inv.step fun z e => ?_⟩
        subst e
        exact absurd hb (by simp only [Nd.head]; decide +kernel)
    rintro _ _ ⟨rfl, kvs', ks', rfl, inv'⟩
    refine sw_cons ?_
    repeat' (walk_at "pt 1")
    have few' := (inv'.few hL hl).2
    have lenw : ws'.length + 3 ≤ 200 := by
      have := inv'.stk.len
      rw [List.length_append] at this
      omega
    have leni : x.items.length ≤ 5 := by
      cases x with
      | s x => cases x <;> simp [Nd.items]
      | t x => cases x <;> simp [Nd.items]
    refine ew_lc (own := [("one", 4)]) (g := gName 4) (up := up1 4) rfl scNames.nd ?_ (fun s1 H1 C1 cl1 fp1 => pg_name scNames.nd rfl (.inl rfl)) (tgt1 (by simp)) ?_
    · show BlkOk ["term", "found", "waiting", "now", "one"] (defScope (top 22)) _ _
      exact ⟨rfl, by decide +kernel, by decide +kernel, by decide +kernel, by decide +kernel⟩
    refine iw_tup ?_
    repeat' (walk_at "pt 1")
    rw [cutT1]
    refine ⟨fun n acc S1 => acc = (x.items.take n).filter isTup ∧ S1 = [(pw, .lst (ws'.map Nd.d)), (pf, .dk kvs')], ⟨rfl, rfl⟩, fun _ _ _ _ => trivial, ?_, ?_⟩
    · rintro i u acc S2 hu ⟨rfl, rfl⟩
      have hmem : u ∈ x.items := List.mem_of_getElem? hu
      have htk : x.items.take (i + 1) = x.items.take i ++ [u] := by rw [List.take_add_one, hu]; rfl
      refine ⟨Nat.lt_of_le_of_lt (List.length_filter_le _ _) (by rw [List.length_take]; omega), _, rfl, fun s1 H1 C1 cl1 fp1 => tsw_one ?_⟩
      rcases x.item u hmem with ⟨z, rfl⟩ | ⟨y, hy, rfl⟩
      · repeat' (walk_at "pt 1")
        refine cw_isi (n := "str") (b := false) rfl rfl ?_
        repeat' (walk_at "pt 1")
        exact ⟨by rw [htk, List.filter_append]; simp [itX], rfl⟩
      · have hdy := x.kid_dep y hy
        rw [y.form]
        repeat' (walk_at "pt 1")
        refine cw_isi (n := "tuple") (b := true) rfl rfl ?_
        repeat' (walk_at "pt 1")
        refine bw_ned hr.units (by rw [← y.form]; exact y.ne (by omega)) ?_
        repeat' (walk_at "pt 1")
        refine cw_isi (n := "str") (b := true) rfl rfl ?_
        repeat' (walk_at "pt 1")
        intro s2 H2 C2 cl2 fp2
        repeat' (walk_at "pt 1")
        refine ⟨?_, rfl⟩
        rw [htk, List.filter_append, ← y.form]
        simp [y.itN]
    · rintro acc S2 ⟨rfl, rfl⟩ qq hq
      rw [List.take_length, x.filt]
      repeat' (walk_at "pt 1")
      have lk := x.kids_len
      refine mw_extend (Sa := [(qq, .lst (x.kids.map Nd.d))]) (ts := ws'.map Nd.d) (us := x.kids.map Nd.d) (.head _) (by rw [List.length_map, List.length_map]; omega) ?_
      refine sw_drop (List.sublist_cons_self _ _) (sw_nil ⟨⟨rfl, rfl, rfl, trivial⟩, szs (ws' ++ x.kids), ?_, ws' ++ x.kids, kvs', ks', ?_, inv', rfl⟩)
      · have := x.kids_sz
        unfold szs
        rw [List.map_append, List.map_append, List.sum_append, List.sum_append]
        simp only [List.map_cons, List.map_nil, List.sum_cons, List.sum_nil]
        omega
      · rw [List.map_append]; rfl
  · have he : ws = [] := by
      cases ws with
      | nil => rfl
      | cons x ws => simp at hb
    subst he
    have few := inv.few hL hl
    repeat' (walk_at "pt 1")
    refine cw_sortD (ks := ks.map (·.s)) rfl (.inl (.tail _ (.tail _ (.head _)))) (by rw [inv.keys, List.map_map]; rfl) (by rw [List.length_map]; exact few.1) fun ys qz hp hs hq => ?_
    obtain ⟨zs, pz, rfl⟩ := perm_map hp ks rfl
    repeat' (walk_at "pt 1")
    refine cw_tupL (.inl (.head _)) ?_
    rw [List.map_map]
    refine q zs (pz.nodup_iff.mpr inv.nd) fun z => ?_
    rw [pz.mem_iff, ← inv.all z]
    simp
end
end B33

set_option Elab.async false
set_option linter.all false
set_option maxRecDepth 100000
set_option maxHeartbeats 2000000
set_option autoImplicit false
namespace B33
open PT PySem L2 PySem.Spec PyProof.Rows
local macro_rules | `(tactic| walk_at "pt rdb") => `(tactic| first
  | (apply Or.inl; exact List.Mem.head _)
  | (apply Or.inl; apply List.Mem.tail; exact List.Mem.head _)
  | (apply Or.inl; apply List.Mem.tail; apply List.Mem.tail; exact List.Mem.head _)
  | (apply Or.inl; apply List.Mem.tail; apply List.Mem.tail; apply List.Mem.tail; exact List.Mem.head _)
  | (apply Or.inl; apply List.Mem.tail; apply List.Mem.tail; apply List.Mem.tail; apply List.Mem.tail; exact List.Mem.head _)
  | (apply Or.inl; apply List.Mem.tail; apply List.Mem.tail; apply List.Mem.tail; apply List.Mem.tail; apply List.Mem.tail; exact List.Mem.head _)
  | (apply Or.inl; apply List.Mem.tail; apply List.Mem.tail; apply List.Mem.tail; apply List.Mem.tail; apply List.Mem.tail; apply List.Mem.tail; exact List.Mem.head _)
  | (apply Or.inl; apply List.Mem.tail; apply List.Mem.tail; apply List.Mem.tail; apply List.Mem.tail; apply List.Mem.tail; apply List.Mem.tail; apply List.Mem.tail; exact List.Mem.head _)
  | (apply Or.inl; apply List.Mem.tail; apply List.Mem.tail; apply List.Mem.tail; apply List.Mem.tail; apply List.Mem.tail; apply List.Mem.tail; apply List.Mem.tail; apply List.Mem.tail; exact List.Mem.head _)
  | (apply Or.inl; apply List.Mem.tail; apply List.Mem.tail; apply List.Mem.tail; apply List.Mem.tail; apply List.Mem.tail; apply List.Mem.tail; apply List.Mem.tail; apply List.Mem.tail; apply List.Mem.tail; exact List.Mem.head _)
  | (apply Or.inr; assumption) | (apply Or.inr; exact List.Mem.head _) | (apply Or.inr; apply List.Mem.tail; exact List.Mem.head _) | fail)
section
variable {P : Program} {w : World} {K : PySem.W.Frag} {mg : Str → Option Value} {base : Heap} {n : Nat}
/-- the keys of a dict are these names -/
def Keyed (kvs : List (Key × T)) (ks : List Nm) : Prop := kvs.map (·.1) = ks.map (fun x => Sum.inr x.s) ∧ ks.Nodup
theorem Keyed.len {kvs : List (Key × T)} {ks : List Nm} (h : Keyed kvs ks) : kvs.length = ks.length := by have := congrArg List.length h.1; simpa using this
section
theorem scApart : FnScope ["first", "last", "taken", "one", "term", "name"] ["first", "last"] (defScope (top 21)) := ⟨rfl, rfl, rfl, by decide +kernel, rfl, by decide +kernel, by decide +kernel⟩
local macro_rules | `(tactic| walk_at "pt 1") => `(tactic| first
  | ((with_reducible refine aw_cons (hs := ?hs) (h := ?_)); (case hs => exact rfl))
  | ((with_reducible refine aw_nil (hk := ?_)))
  | ((with_reducible refine ew_var (x := "first") (i := 0) (t := ?t) ?hi ?_ ?hN ?hv ?hd ?hc); (case hi => exact rfl); (case hN => exact rfl); (case hv => first | exact Or.inl rfl | exact Or.inr (Or.inl rfl) | exact Or.inr (Or.inr rfl)); (case hd => decide); (case hc => decide))
  | ((with_reducible refine ew_var (x := "last") (i := 1) (t := ?t) ?hi ?_ ?hN ?hv ?hd ?hc); (case hi => exact rfl); (case hN => exact rfl); (case hv => first | exact Or.inl rfl | exact Or.inr (Or.inl rfl) | exact Or.inr (Or.inr rfl)); (case hd => decide); (case hc => decide))
  | ((with_reducible refine ew_var (x := "taken") (i := 2) (t := ?t) ?hi ?_ ?hN ?hv ?hd ?hc); (case hi => exact rfl); (case hN => exact rfl); (case hv => first | exact Or.inl rfl | exact Or.inr (Or.inl rfl) | exact Or.inr (Or.inr rfl)); (case hd => decide); (case hc => decide))
  | ((with_reducible refine ew_var (x := "one") (i := 3) (t := ?t) ?hi ?_ ?hN ?hv ?hd ?hc); (case hi => exact rfl); (case hN => exact rfl); (case hv => first | exact Or.inl rfl | exact Or.inr (Or.inl rfl) | exact Or.inr (Or.inr rfl)); (case hd => decide); (case hc => decide))
  | ((with_reducible refine ew_var (x := "term") (i := 4) (t := ?t) ?hi ?_ ?hN ?hv ?hd ?hc); (case hi => exact rfl); (case hN => exact rfl); (case hv => first | exact Or.inl rfl | exact Or.inr (Or.inl rfl) | exact Or.inr (Or.inr rfl)); (case hd => decide); (case hc => decide))
  | ((with_reducible refine ew_var (x := "name") (i := 5) (t := ?t) ?hi ?_ ?hN ?hv ?hd ?hc); (case hi => exact rfl); (case hN => exact rfl); (case hv => first | exact Or.inl rfl | exact Or.inr (Or.inl rfl) | exact Or.inr (Or.inr rfl)); (case hd => decide); (case hc => decide))
  | ((with_reducible refine ew_sub (h := ?_)))
  | ((with_reducible refine ew_bl (hk := ?_)))
  | ((with_reducible refine ew_tup (h := ?_)))
  | ((with_reducible refine ew_callF (x := "names_of") (n := ?n) (pre := ?pre) (C := ?C) (hr := ?hr) (hg := ?hg) (hdb := ?hdb) (he := ?he) (hpl := ?hpl) (h := ?_)); (case C => exact All.c_names_of (by assumption)); (case hr => assumption); (case hg => exact rfl); (case hdb => decide); (case he => exact rfl); (case hpl => exact rfl))
  | ((with_reducible refine ew_callF (x := "new_name") (n := ?n) (pre := ?pre) (C := ?C) (hr := ?hr) (hg := ?hg) (hdb := ?hdb) (he := ?he) (hpl := ?hpl) (h := ?_)); (case C => exact All.c_new_name (by assumption)); (case hr => assumption); (case hg => exact rfl); (case hdb => decide); (case he => exact rfl); (case hpl => exact rfl))
  | ((with_reducible refine tw_call (h := ?_)))
  | ((with_reducible refine tw_name (h := ?_)))
  | ((with_reducible refine sw_cons (h := ?_)))
  | ((with_reducible refine sw_nil (h := ?_)))
  | ((with_reducible refine s1_ret0 (h := ?_)))
  | ((with_reducible refine s1_set (x := "taken") (i := 2) ?hN ?hi ?_ ?hx ?hs ?hf); (case hN => exact (scApart).nd); (case hi => exact rfl); (case hx => first | exact Or.inl rfl | exact Or.inr rfl); (case hs => exact rfl); (case hf => first | exact Or.inr rfl | exact Or.inl rfl))
  | ((with_reducible refine s1_set (x := "one") (i := 3) ?hN ?hi ?_ ?hx ?hs ?hf); (case hN => exact (scApart).nd); (case hi => exact rfl); (case hx => first | exact Or.inl rfl | exact Or.inr rfl); (case hs => exact rfl); (case hf => first | exact Or.inr rfl | exact Or.inl rfl))
  | ((with_reducible refine s1_set (x := "term") (i := 4) ?hN ?hi ?_ ?hx ?hs ?hf); (case hN => exact (scApart).nd); (case hi => exact rfl); (case hx => first | exact Or.inl rfl | exact Or.inr rfl); (case hs => exact rfl); (case hf => first | exact Or.inr rfl | exact Or.inl rfl))
  | ((with_reducible refine s1_set (x := "name") (i := 5) ?hN ?hi ?_ ?hx ?hs ?hf); (case hN => exact (scApart).nd); (case hi => exact rfl); (case hx => first | exact Or.inl rfl | exact Or.inr rfl); (case hs => exact rfl); (case hf => first | exact Or.inr rfl | exact Or.inl rfl))
  | ((with_reducible refine xw_tup (t := ?t) (he := ?he) (hs := ?hs) (hk := ?_)); (case he => first | exact rfl | exact atT0 | exact atT1); (case hs => exact fun _ _ => rfl))
  | ((with_reducible refine xw_lst (ts := ?ts) (t := ?t) (hp := ?hp) (he := ?he) (hs := ?hs) (hk := ?_)); (case hp => walk_at "pt rdb"); (case he => first | exact rfl | exact atT0 | exact atT1); (case hs => exact fun _ _ => rfl))
  | ((with_reducible refine And.intro ?hx ?_); (case hx => exact Nat.le_of_ble_eq_true rfl))
  | (with_reducible refine Exists.intro _ (And.intro rfl ?_))
  | (refine tst_t (by decide +kernel) ?_)
  | (refine tst_f (by decide +kernel) ?_)
  | (refine Exists.intro _ (Exists.intro _ (And.intro rfl (And.intro (by walk_at "pt rdb") ?_))))
  | fail)
theorem ok_names_apart (D : Df K mg "names_apart" (top 21) ["first", "last"]) (C : All P w K mg base n) : Cl P w K mg base (n + 1) "names_apart" (Fn (pApart (n + 1))) := by
  refine cl_of D scApart (fun ts F S k h => ?_) (fun a hr ts F S k h => ?_)
  · obtain ⟨_, _, a, b, _, rfl, _⟩ := h; rfl
  obtain ⟨rfl, hn, f, l, L, rfl, df, dl, hL, hl, q⟩ := h
  have h1 : 1 ≤ n := by omega
  have hK : ∀ ks : List Nm, ks.Nodup → (∀ z ∈ ks, z ∈ f.names ++ l.names) → ks.length ≤ 37 := fun ks nd hs => Nat.le_trans (nd.length_le_of_subset fun z hz => hL (hs z hz)) hl
  refine sw_cons ?_
  refine s1_setDc2 (i := 2) (own := [("term", 4), ("name", 5)]) (us := [5]) (ga := gName 4) (gb := gName 5) (ua := up1 4) (ub := up1 5) rfl scApart.nd rfl ?_ (by decide) (fun s1 H1 C1 cl1 fp1 => pg_name scApart.nd rfl (.inl rfl)) (fun s1 H1 C1 cl1 fp1 => pg_name scApart.nd rfl (.inl rfl)) (tgt1 (by simp)) (tgt1 (by simp)) ?_
  · show BlkOk ["first", "last", "taken", "one", "term", "name"] (defScope (top 21)) _ _
    exact ⟨rfl, by decide +kernel, by decide +kernel, by decide +kernel, by decide +kernel⟩
  refine iw_tup ?_
  repeat' (walk_at "pt 1")
  refine ⟨fun i acc S1 => S1 = [] ∧ ∃ ks, Keyed acc ks ∧ ∀ z, z ∈ ks ↔ z ∈ (([f, l] : List Tm).take i).flatMap Tm.names, ⟨rfl, [], ⟨rfl, .nil⟩, fun z => by simp⟩, fun _ _ _ _ => trivial, ?_, ?_⟩
  · rintro i u acc S2 hu ⟨rfl, ks, hk, hz⟩
    obtain ⟨t, ht, rfl⟩ : ∃ t : Tm, ([f, l] : List Tm)[i]? = some t ∧ u = t.t := by
      have : (([f, l] : List Tm).map Tm.t)[i]? = some u := hu
      rw [List.getElem?_map] at this
      obtain ⟨t, h1, h2⟩ := Option.map_eq_some_iff.mp this
      exact ⟨t, h1, h2.symm⟩
    have hmem : t = f ∨ t = l := by have := List.mem_of_getElem? ht; simpa using this
    have hdt : t.dep ≤ 60 := by rcases hmem with rfl | rfl <;> assumption
    have hnt : t.names ⊆ L := fun z hz => hL (List.mem_append.mpr (hmem.elim (fun e => .inl (e ▸ hz)) (fun e => .inr (e ▸ hz))))
    have hsub : ∀ z, z ∈ ks ∨ z ∈ t.names → z ∈ f.names ++ l.names := fun z e => by
      rcases e with e | e
      · obtain ⟨t', h1, h2⟩ := List.mem_flatMap.mp ((hz z).mp e)
        have h1 := List.take_subset _ _ h1
        simp only [List.mem_cons, List.not_mem_nil, or_false] at h1
        rcases h1 with rfl | rfl
        · exact List.mem_append.mpr (.inl h2)
        · exact List.mem_append.mpr (.inr h2)
      · rcases hmem with rfl | rfl <;> simp [e]
    refine ⟨_, rfl, fun xs rd S3 => ∃ ys : List Nm, xs = ys.map (fun y => T.str y.s) ∧ (∀ z, z ∈ ys ↔ z ∈ t.names) ∧ S3 = [] ∧ rd = fun _ => True, fun s1 H1 C1 cl1 fp1 => ?_, ?_⟩
    · refine iw_tup ?_
      repeat' (walk_at "pt 1")
      exact fc0 ⟨h1, t, L, rfl, hdt, hnt, by omega, fun ys nd hy => ⟨_, rfl, ys, rfl, hy, rfl, rfl⟩⟩
    · rintro _ _ _ ⟨ys, rfl, hy, rfl, rfl⟩
      refine ⟨fun j acc2 S4 => S4 = [] ∧ ∃ ls, Keyed acc2 ls ∧ ∀ z, z ∈ ls ↔ z ∈ ks ∨ z ∈ ys.take j, ⟨rfl, ks, hk, fun z => by simp⟩, fun _ _ _ _ => trivial, ?_, ?_⟩
      · rintro j u2 acc2 S4 hu2 ⟨rfl, ls, hls, hz2⟩
        rw [List.getElem?_map] at hu2
        obtain ⟨y, hy1, rfl⟩ := Option.map_eq_some_iff.mp hu2
        have hlen := hK ls hls.2 fun z hz3 => hsub z (((hz2 z).mp hz3).imp id fun e => (hy z).mp (List.take_subset _ _ e))
        refine ⟨by rw [hls.len]; omega, _, rfl, fun s1 H1 C1 cl1 fp1 => ?_⟩
        repeat' (walk_at "pt 1")
        refine ⟨.inr y.s, rfl, fun s2 H2 C2 cl2 fp2 => ?_⟩
        repeat' (walk_at "pt 1")
        obtain ⟨ms, e, nd, hm⟩ := keys_put hls.1 hls.2 y (.bl true)
        refine ⟨rfl, ms, ⟨e, nd⟩, fun z => ?_⟩
        rw [hm z, hz2 z, List.take_add_one, hy1, List.mem_append]
        simp only [Option.toList_some, List.mem_singleton]
        constructor
        · rintro (e | e | e)
          · exact .inr (.inr e)
          · exact .inl e
          · exact .inr (.inl e)
        · rintro (e | e | e)
          · exact .inr (.inl e)
          · exact .inr (.inr e)
          · exact .inl e
      · rintro acc2 S4 ⟨rfl, ls, hls, hz2⟩
        rw [List.length_map, List.take_length] at hz2
        refine ⟨rfl, ls, hls, fun z => ?_⟩
        rw [hz2 z, hz z, hy z, List.take_add_one, ht, List.flatMap_append, List.mem_append]
        simp
  · rintro acc S2 ⟨rfl, ks, hk, hz⟩ qd hq
    have hz' : ∀ z, z ∈ ks ↔ z ∈ f.names ++ l.names := fun z => by rw [hz z]; simp
    have hlen := hK ks hk.2 fun z e => (hz' z).mp e
    repeat' (walk_at "pt 1")
    refine fc1 (qd, .dk acc) (.inl (.head _)) ⟨h1, qd, acc, ks, rfl, .head _, hk.1, by omega, fun i hi hni hpi => ?_⟩
    obtain ⟨ls, e, nd, hm⟩ := keys_put hk.1 hk.2 (hnm i) (.bl true)
    have hlen2 : ls.length ≤ 38 := by
      have : ls.length ≤ (hnm i :: ks).length := nd.length_le_of_subset fun z hz => by
        rcases (hm z).mp hz with e | e
        · exact e ▸ .head _
        · exact .tail _ e
      simp only [List.length_cons] at this
      omega
    repeat' (walk_at "pt 1")
    refine s1_dput (hu_of hr) ?_
    repeat' (walk_at "pt 1")
    refine ⟨qd, [], [], acc, .inr (hnm i).s, rfl, rfl, rfl, by rw [hk.len]; omega, ?_⟩
    repeat' (walk_at "pt 1")
    refine fc1 (qd, .dk (putT acc (.inr (hnm i).s) (.bl true))) (.inl (.head _)) ⟨h1, qd, _, ls, rfl, .head _, e, by omega, fun j hj hnj hpj => ?_⟩
    repeat' (walk_at "pt 1")
    refine q i j ⟨fun z => hni ((hz' _).mpr z), fun m hm2 => (hz' _).mp (hpi m hm2), fun z => hnj ((hm _).mpr (.inr ((hz' _).mpr z))), fun z => hnj ((hm _).mpr (.inl z)), fun m hm2 => ?_, by omega, by omega⟩
    rcases (hm _).mp (hpj m hm2) with e | e
    · exact .inr e
    · exact .inl ((hz' _).mp e)
end
section
theorem scExch : FnScope ["scheme", "name", "one", "other", "term", "first", "last", "left", "right"] ["scheme", "name", "one", "other", "term"] (defScope (top 19)) := ⟨rfl, rfl, rfl, by decide +kernel, rfl, by decide +kernel, by decide +kernel⟩
local macro_rules | `(tactic| walk_at "pt 1") => `(tactic| first
  | ((with_reducible refine aw_cons (hs := ?hs) (h := ?_)); (case hs => exact rfl))
  | ((with_reducible refine aw_nil (hk := ?_)))
  | ((with_reducible refine ew_var (x := "scheme") (i := 0) (t := ?t) ?hi ?_ ?hN ?hv ?hd ?hc); (case hi => exact rfl); (case hN => exact rfl); (case hv => first | exact Or.inl rfl | exact Or.inr (Or.inl rfl) | exact Or.inr (Or.inr rfl)); (case hd => decide); (case hc => decide))
  | ((with_reducible refine ew_var (x := "name") (i := 1) (t := ?t) ?hi ?_ ?hN ?hv ?hd ?hc); (case hi => exact rfl); (case hN => exact rfl); (case hv => first | exact Or.inl rfl | exact Or.inr (Or.inl rfl) | exact Or.inr (Or.inr rfl)); (case hd => decide); (case hc => decide))
  | ((with_reducible refine ew_var (x := "one") (i := 2) (t := ?t) ?hi ?_ ?hN ?hv ?hd ?hc); (case hi => exact rfl); (case hN => exact rfl); (case hv => first | exact Or.inl rfl | exact Or.inr (Or.inl rfl) | exact Or.inr (Or.inr rfl)); (case hd => decide); (case hc => decide))
  | ((with_reducible refine ew_var (x := "other") (i := 3) (t := ?t) ?hi ?_ ?hN ?hv ?hd ?hc); (case hi => exact rfl); (case hN => exact rfl); (case hv => first | exact Or.inl rfl | exact Or.inr (Or.inl rfl) | exact Or.inr (Or.inr rfl)); (case hd => decide); (case hc => decide))
  | ((with_reducible refine ew_var (x := "term") (i := 4) (t := ?t) ?hi ?_ ?hN ?hv ?hd ?hc); (case hi => exact rfl); (case hN => exact rfl); (case hv => first | exact Or.inl rfl | exact Or.inr (Or.inl rfl) | exact Or.inr (Or.inr rfl)); (case hd => decide); (case hc => decide))
  | ((with_reducible refine ew_var (x := "first") (i := 5) (t := ?t) ?hi ?_ ?hN ?hv ?hd ?hc); (case hi => exact rfl); (case hN => exact rfl); (case hv => first | exact Or.inl rfl | exact Or.inr (Or.inl rfl) | exact Or.inr (Or.inr rfl)); (case hd => decide); (case hc => decide))
  | ((with_reducible refine ew_var (x := "last") (i := 6) (t := ?t) ?hi ?_ ?hN ?hv ?hd ?hc); (case hi => exact rfl); (case hN => exact rfl); (case hv => first | exact Or.inl rfl | exact Or.inr (Or.inl rfl) | exact Or.inr (Or.inr rfl)); (case hd => decide); (case hc => decide))
  | ((with_reducible refine ew_var (x := "left") (i := 7) (t := ?t) ?hi ?_ ?hN ?hv ?hd ?hc); (case hi => exact rfl); (case hN => exact rfl); (case hv => first | exact Or.inl rfl | exact Or.inr (Or.inl rfl) | exact Or.inr (Or.inr rfl)); (case hd => decide); (case hc => decide))
  | ((with_reducible refine ew_var (x := "right") (i := 8) (t := ?t) ?hi ?_ ?hN ?hv ?hd ?hc); (case hi => exact rfl); (case hN => exact rfl); (case hv => first | exact Or.inl rfl | exact Or.inr (Or.inl rfl) | exact Or.inr (Or.inr rfl)); (case hd => decide); (case hc => decide))
  | ((with_reducible refine ew_sub (h := ?_)))
  | ((with_reducible refine ew_str (hk := ?_)))
  | ((with_reducible refine ew_int (hk := ?_)))
  | ((with_reducible refine ew_tup (h := ?_)))
  | ((with_reducible refine tw_cmp (hm := ?hm) (h := ?_)); (case hm => exact rfl))
  | ((with_reducible refine ew_cmp (hm := ?hm) (h := ?_)); (case hm => exact rfl))
  | ((with_reducible refine ew_callF (x := "exchanged") (n := ?n) (pre := ?pre) (C := ?C) (hr := ?hr) (hg := ?hg) (hdb := ?hdb) (he := ?he) (hpl := ?hpl) (h := ?_)); (case C => exact All.c_exchanged (by assumption)); (case hr => assumption); (case hg => exact rfl); (case hdb => decide); (case he => exact rfl); (case hpl => exact rfl))
  | ((with_reducible refine ew_callF (x := "led_over") (n := ?n) (pre := ?pre) (C := ?C) (hr := ?hr) (hg := ?hg) (hdb := ?hdb) (he := ?he) (hpl := ?hpl) (h := ?_)); (case C => exact All.c_led_over (by assumption)); (case hr => assumption); (case hg => exact rfl); (case hdb => decide); (case he => exact rfl); (case hpl => exact rfl))
  | ((with_reducible refine ew_callF (x := "put_in") (n := ?n) (pre := ?pre) (C := ?C) (hr := ?hr) (hg := ?hg) (hdb := ?hdb) (he := ?he) (hpl := ?hpl) (h := ?_)); (case C => exact All.c_put_in (by assumption)); (case hr => assumption); (case hg => exact rfl); (case hdb => decide); (case he => exact rfl); (case hpl => exact rfl))
  | ((with_reducible refine ew_callF (x := "same_both") (n := ?n) (pre := ?pre) (C := ?C) (hr := ?hr) (hg := ?hg) (hdb := ?hdb) (he := ?he) (hpl := ?hpl) (h := ?_)); (case C => exact All.c_same_both (by assumption)); (case hr => assumption); (case hg => exact rfl); (case hdb => decide); (case he => exact rfl); (case hpl => exact rfl))
  | ((with_reducible refine ew_callF (x := "swapped") (n := ?n) (pre := ?pre) (C := ?C) (hr := ?hr) (hg := ?hg) (hdb := ?hdb) (he := ?he) (hpl := ?hpl) (h := ?_)); (case C => exact All.c_swapped (by assumption)); (case hr => assumption); (case hg => exact rfl); (case hdb => decide); (case he => exact rfl); (case hpl => exact rfl))
  | ((with_reducible refine ew_dnewK (h := ?_)))
  | ((with_reducible refine ew_disp1 (h := ?_)))
  | ((with_reducible refine ew_spread (h := ?_)))
  | ((with_reducible refine tw_call (h := ?_)))
  | ((with_reducible refine tw_name (h := ?_)))
  | ((with_reducible refine sw_cons (h := ?_)))
  | ((with_reducible refine sw_nil (h := ?_)))
  | ((with_reducible refine s1_ret0 (h := ?_)))
  | ((with_reducible refine s1_if (h := ?_)))
  | ((with_reducible refine s1_set (x := "first") (i := 5) ?hN ?hi ?_ ?hx ?hs ?hf); (case hN => exact (scExch).nd); (case hi => exact rfl); (case hx => first | exact Or.inl rfl | exact Or.inr rfl); (case hs => exact rfl); (case hf => first | exact Or.inr rfl | exact Or.inl rfl))
  | ((with_reducible refine s1_set (x := "last") (i := 6) ?hN ?hi ?_ ?hx ?hs ?hf); (case hN => exact (scExch).nd); (case hi => exact rfl); (case hx => first | exact Or.inl rfl | exact Or.inr rfl); (case hs => exact rfl); (case hf => first | exact Or.inr rfl | exact Or.inl rfl))
  | ((with_reducible refine s1_set (x := "left") (i := 7) ?hN ?hi ?_ ?hx ?hs ?hf); (case hN => exact (scExch).nd); (case hi => exact rfl); (case hx => first | exact Or.inl rfl | exact Or.inr rfl); (case hs => exact rfl); (case hf => first | exact Or.inr rfl | exact Or.inl rfl))
  | ((with_reducible refine s1_set (x := "right") (i := 8) ?hN ?hi ?_ ?hx ?hs ?hf); (case hN => exact (scExch).nd); (case hi => exact rfl); (case hx => first | exact Or.inl rfl | exact Or.inr rfl); (case hs => exact rfl); (case hf => first | exact Or.inr rfl | exact Or.inl rfl))
  | ((with_reducible refine bw_eqs (h := ?h) (hk := ?_)); (case h => exact rfl))
  | ((with_reducible refine bw_inT (hx := ?hx) (hf := ?hf) (hk := ?_)); (case hx => exact rfl); (case hf => exact rfl))
  | ((with_reducible refine bw_inL (xs := ?xs) (hp := ?hp) (hx := ?hx) (hf := ?hf) (hk := ?_)); (case hp => walk_at "pt rdb"); (case hx => exact rfl); (case hf => exact rfl))
  | ((with_reducible refine xw_tup (t := ?t) (he := ?he) (hs := ?hs) (hk := ?_)); (case he => first | exact rfl | exact atT0 | exact atT1); (case hs => exact fun _ _ => rfl))
  | ((with_reducible refine xw_lst (ts := ?ts) (t := ?t) (hp := ?hp) (he := ?he) (hs := ?hs) (hk := ?_)); (case hp => walk_at "pt rdb"); (case he => first | exact rfl | exact atT0 | exact atT1); (case hs => exact fun _ _ => rfl))
  | ((with_reducible refine And.intro ?hx ?_); (case hx => exact Nat.le_of_ble_eq_true rfl))
  | (with_reducible refine Exists.intro _ (And.intro rfl ?_))
  | (refine tst_t (by decide +kernel) ?_)
  | (refine tst_f (by decide +kernel) ?_)
  | (refine Exists.intro _ (Exists.intro _ (And.intro rfl (And.intro (by walk_at "pt rdb") ?_))))
  | fail)
theorem h0_s : (hnm 0).s = ("h0" : Str) := by rw [hnm_s 0 (by decide)]; decide +kernel
theorem sm_t (s : Say) : (sm s).t = .tup [.str "pair", same s.t, same s.t] := by
  simp only [sm, Tm.t, h0_s, same]
theorem ok_exchanged (D : Df K mg "exchanged" (top 19) ["scheme", "name", "one", "other", "term"]) (C : All P w K mg base n) : Cl P w K mg base (n + 1) "exchanged" (Fn (pExch (n + 1))) := by
  refine cl_of D scExch (fun ts F S k h => ?_) (fun a hr ts F S k h => ?_)
  · obtain ⟨_, _, _, _, _, _, rfl, _⟩ := h; rfl
  obtain ⟨rfl, s, x, one, other, e, rfl, hn, hd, hB, q⟩ := h
  have heq : ∀ s : Say, s.dep ≤ 60 → EqT s.t (.tup [.str "atom", .str x.s]) (decide (s = .atom x)) := fun s h => Say.eqT (u := .atom x) (by omega) (show 1 ≤ 64 by decide)
  have hs := heq s hd
  cases s with
  | atom y =>
    by_cases hy : y = x
    · subst hy
      rw [show decide (Say.atom y = .atom y) = true from decide_eq_true rfl] at hs
      simp only [Say.t] at hs ⊢
      refine sw_cons ?_
      repeat' (walk_at "pt 1")
      refine bw_eqd hr.units hs ⟨_, rfl, ?_⟩
      repeat' (walk_at "pt 1")
      exact q e (by simp [ExR])
    · rw [show decide (Say.atom y = .atom x) = false from decide_eq_false (by simp [hy])] at hs
      simp only [Say.t] at hs ⊢
      refine sw_cons ?_
      repeat' (walk_at "pt 1")
      refine bw_eqd hr.units hs ⟨_, rfl, ?_⟩
      repeat' (walk_at "pt 1")
      refine fc0 ⟨by omega, _, rfl, ?_⟩
      have q1 := q (sm (.atom y)) (by simp [ExR, hy])
      rw [sm_t] at q1
      exact q1
  | fls =>
    rw [show decide (Say.fls = .atom x) = false from decide_eq_false (by simp)] at hs
    simp only [Say.t] at hs ⊢
    refine sw_cons ?_
    repeat' (walk_at "pt 1")
    refine bw_eqd hr.units hs ⟨_, rfl, ?_⟩
    repeat' (walk_at "pt 1")
    refine fc0 ⟨by omega, _, rfl, ?_⟩
    have q1 := q (sm .fls) rfl
    rw [sm_t] at q1
    exact q1
  | thn u v =>
    rw [show decide (Say.thn u v = .atom x) = false from decide_eq_false (by simp)] at hs
    obtain ⟨hu, hv, hBu, hBv⟩ := hB
    have d1 : u.dep + 5 ≤ n + 1 ∧ v.dep + 5 ≤ n + 1 ∧ u.dep ≤ 60 ∧ v.dep ≤ 60 := by simp only [Say.dep] at hn hd; omega
    have dp : (Say.thn u v).dep ≤ n := by omega
    simp only [Say.t] at hs ⊢
    refine sw_cons ?_
    repeat' (walk_at "pt 1")
    refine bw_eqd hr.units hs ⟨_, rfl, ?_⟩
    repeat' (walk_at "pt 1")
    refine fc0 ⟨u, x, one, other, e, rfl, by omega, by omega, hBu, fun f hf => ?_⟩
    repeat' (walk_at "pt 1")
    refine fc0 ⟨v, x, one, other, e, rfl, by omega, by omega, hBv, fun l hl => ?_⟩
    repeat' (walk_at "pt 1")
    refine s1_par (i := 7) (j := 8) rfl scExch.nd rfl rfl (by decide) ?_
    repeat' (walk_at "pt 1")
    refine ⟨.inr x.s, rfl, fun e1 he1 => ?_⟩
    repeat' (walk_at "pt 1")
    refine fc1 (e1, .dk (one1 x one).t) (.inl (.head _)) ⟨.thn u v, e1, one1 x one, rfl, .head _, dp, ?_⟩
    repeat' (walk_at "pt 1")
    refine ⟨.inr x.s, rfl, fun e2 he2 => ?_⟩
    repeat' (walk_at "pt 1")
    refine fc1 (e2, .dk (one1 x other).t) (.inl (.head _)) ⟨.thn u v, e2, one1 x other, rfl, .head _, dp, ?_⟩
    repeat' (walk_at "pt 1")
    obtain ⟨df, Lf, hLf, lf⟩ := hu.lim f hf
    obtain ⟨dl, Ll, hLl, ll⟩ := hv.lim l hl
    have sub : f.names ++ l.names ⊆ Lf ++ Ll := fun z hz => List.mem_append.mpr ((List.mem_append.mp hz).imp (fun z => hLf z) fun z => hLl z)
    have sub2 : (swp f).names ++ (swp l).names ⊆ Lf ++ Ll := fun z hz => sub (by simp only [swp, Tm.names, List.mem_append] at hz ⊢; simpa using hz)
    have few : (Lf ++ Ll).length ≤ 37 := by rw [List.length_append]; omega
    have ds : (swp f).dep ≤ 60 ∧ (swp l).dep ≤ 60 := by simp only [swp, Tm.dep]; omega
    refine fc0 ⟨by omega, Say.put (one1 x one) (.thn u v), Say.put (one1 x other) (.thn u v), f, l, Lf ++ Ll, rfl, rfl, by omega, by omega, sub, few, fun i j fr => ?_⟩
    repeat' (walk_at "pt 1")
    refine fc0 ⟨by omega, _, rfl, ?_⟩
    repeat' (walk_at "pt 1")
    refine fc0 ⟨by omega, _, rfl, ?_⟩
    repeat' (walk_at "pt 1")
    refine fc0 ⟨by omega, Say.put (one1 x other) (.thn u v), Say.put (one1 x one) (.thn u v), swp f, swp l, Lf ++ Ll, rfl, rfl, ds.1, ds.2, sub2, few, fun i2 j2 fr2 => ?_⟩
    repeat' (walk_at "pt 1")
    exact q _ ⟨f, l, i, j, i2, j2, hf, hl, fr, fr2, rfl⟩
  | and u v =>
    rw [show decide (Say.and u v = .atom x) = false from decide_eq_false (by simp)] at hs
    obtain ⟨hu, hv, hBu, hBv⟩ := hB
    have d1 : u.dep + 5 ≤ n + 1 ∧ v.dep + 5 ≤ n + 1 ∧ u.dep ≤ 60 ∧ v.dep ≤ 60 := by simp only [Say.dep] at hn hd; omega
    have dp : (Say.and u v).dep ≤ n := by omega
    simp only [Say.t] at hs ⊢
    refine sw_cons ?_
    repeat' (walk_at "pt 1")
    refine bw_eqd hr.units hs ⟨_, rfl, ?_⟩
    repeat' (walk_at "pt 1")
    refine fc0 ⟨u, x, one, other, e, rfl, by omega, by omega, hBu, fun f hf => ?_⟩
    repeat' (walk_at "pt 1")
    refine fc0 ⟨v, x, one, other, e, rfl, by omega, by omega, hBv, fun l hl => ?_⟩
    repeat' (walk_at "pt 1")
    refine s1_par (i := 7) (j := 8) rfl scExch.nd rfl rfl (by decide) ?_
    repeat' (walk_at "pt 1")
    refine ⟨.inr x.s, rfl, fun e1 he1 => ?_⟩
    repeat' (walk_at "pt 1")
    refine fc1 (e1, .dk (one1 x one).t) (.inl (.head _)) ⟨.and u v, e1, one1 x one, rfl, .head _, dp, ?_⟩
    repeat' (walk_at "pt 1")
    refine ⟨.inr x.s, rfl, fun e2 he2 => ?_⟩
    repeat' (walk_at "pt 1")
    refine fc1 (e2, .dk (one1 x other).t) (.inl (.head _)) ⟨.and u v, e2, one1 x other, rfl, .head _, dp, ?_⟩
    repeat' (walk_at "pt 1")
    obtain ⟨df, Lf, hLf, lf⟩ := hu.lim f hf
    obtain ⟨dl, Ll, hLl, ll⟩ := hv.lim l hl
    have sub : f.names ++ l.names ⊆ Lf ++ Ll := fun z hz => List.mem_append.mpr ((List.mem_append.mp hz).imp (fun z => hLf z) fun z => hLl z)
    have sub2 : (swp f).names ++ (swp l).names ⊆ Lf ++ Ll := fun z hz => sub (by simp only [swp, Tm.names, List.mem_append] at hz ⊢; simpa using hz)
    have few : (Lf ++ Ll).length ≤ 37 := by rw [List.length_append]; omega
    have ds : (swp f).dep ≤ 60 ∧ (swp l).dep ≤ 60 := by simp only [swp, Tm.dep]; omega
    refine fc0 ⟨by omega, Say.put (one1 x one) (.and u v), Say.put (one1 x other) (.and u v), f, l, Lf ++ Ll, rfl, rfl, by omega, by omega, sub, few, fun i j fr => ?_⟩
    repeat' (walk_at "pt 1")
    refine fc0 ⟨by omega, _, rfl, ?_⟩
    repeat' (walk_at "pt 1")
    refine fc0 ⟨by omega, _, rfl, ?_⟩
    repeat' (walk_at "pt 1")
    refine fc0 ⟨by omega, Say.put (one1 x other) (.and u v), Say.put (one1 x one) (.and u v), swp f, swp l, Lf ++ Ll, rfl, rfl, ds.1, ds.2, sub2, few, fun i2 j2 fr2 => ?_⟩
    repeat' (walk_at "pt 1")
    exact q _ ⟨f, l, i, j, i2, j2, hf, hl, fr, fr2, rfl⟩
  | or u v =>
    rw [show decide (Say.or u v = .atom x) = false from decide_eq_false (by simp)] at hs
    obtain ⟨hu, hv, hBu, hBv⟩ := hB
    have d1 : u.dep + 5 ≤ n + 1 ∧ v.dep + 5 ≤ n + 1 ∧ u.dep ≤ 60 ∧ v.dep ≤ 60 := by simp only [Say.dep] at hn hd; omega
    have dp : (Say.or u v).dep ≤ n := by omega
    simp only [Say.t] at hs ⊢
    refine sw_cons ?_
    repeat' (walk_at "pt 1")
    refine bw_eqd hr.units hs ⟨_, rfl, ?_⟩
    repeat' (walk_at "pt 1")
    refine fc0 ⟨u, x, one, other, e, rfl, by omega, by omega, hBu, fun f hf => ?_⟩
    repeat' (walk_at "pt 1")
    refine fc0 ⟨v, x, one, other, e, rfl, by omega, by omega, hBv, fun l hl => ?_⟩
    repeat' (walk_at "pt 1")
    refine s1_par (i := 7) (j := 8) rfl scExch.nd rfl rfl (by decide) ?_
    repeat' (walk_at "pt 1")
    refine ⟨.inr x.s, rfl, fun e1 he1 => ?_⟩
    repeat' (walk_at "pt 1")
    refine fc1 (e1, .dk (one1 x one).t) (.inl (.head _)) ⟨.or u v, e1, one1 x one, rfl, .head _, dp, ?_⟩
    repeat' (walk_at "pt 1")
    refine ⟨.inr x.s, rfl, fun e2 he2 => ?_⟩
    repeat' (walk_at "pt 1")
    refine fc1 (e2, .dk (one1 x other).t) (.inl (.head _)) ⟨.or u v, e2, one1 x other, rfl, .head _, dp, ?_⟩
    repeat' (walk_at "pt 1")
    obtain ⟨df, Lf, hLf, lf⟩ := hu.lim f hf
    obtain ⟨dl, Ll, hLl, ll⟩ := hv.lim l hl
    have sub : f.names ++ l.names ⊆ Lf ++ Ll := fun z hz => List.mem_append.mpr ((List.mem_append.mp hz).imp (fun z => hLf z) fun z => hLl z)
    have sub2 : (swp f).names ++ (swp l).names ⊆ Lf ++ Ll := fun z hz => sub (by simp only [swp, Tm.names, List.mem_append] at hz ⊢; simpa using hz)
    have few : (Lf ++ Ll).length ≤ 37 := by rw [List.length_append]; omega
    have ds : (swp f).dep ≤ 60 ∧ (swp l).dep ≤ 60 := by simp only [swp, Tm.dep]; omega
    refine fc0 ⟨by omega, Say.put (one1 x one) (.or u v), Say.put (one1 x other) (.or u v), f, l, Lf ++ Ll, rfl, rfl, by omega, by omega, sub, few, fun i j fr => ?_⟩
    repeat' (walk_at "pt 1")
    refine fc0 ⟨by omega, _, rfl, ?_⟩
    repeat' (walk_at "pt 1")
    refine fc0 ⟨by omega, _, rfl, ?_⟩
    repeat' (walk_at "pt 1")
    refine fc0 ⟨by omega, Say.put (one1 x other) (.or u v), Say.put (one1 x one) (.or u v), swp f, swp l, Lf ++ Ll, rfl, rfl, ds.1, ds.2, sub2, few, fun i2 j2 fr2 => ?_⟩
    repeat' (walk_at "pt 1")
    exact q _ ⟨f, l, i, j, i2, j2, hf, hl, fr, fr2, rfl⟩
end
end
end B33

set_option Elab.async false
set_option linter.all false
set_option maxRecDepth 100000
set_option maxHeartbeats 2000000
set_option autoImplicit false
namespace B33
open PT PySem L2 PySem.Spec PyProof.Rows
local macro_rules | `(tactic| walk_at "pt rdb") => `(tactic| first
  | (apply Or.inl; exact List.Mem.head _)
  | (apply Or.inl; apply List.Mem.tail; exact List.Mem.head _)
  | (apply Or.inl; apply List.Mem.tail; apply List.Mem.tail; exact List.Mem.head _)
  | (apply Or.inl; apply List.Mem.tail; apply List.Mem.tail; apply List.Mem.tail; exact List.Mem.head _)
  | (apply Or.inl; apply List.Mem.tail; apply List.Mem.tail; apply List.Mem.tail; apply List.Mem.tail; exact List.Mem.head _)
  | (apply Or.inl; apply List.Mem.tail; apply List.Mem.tail; apply List.Mem.tail; apply List.Mem.tail; apply List.Mem.tail; exact List.Mem.head _)
  | (apply Or.inl; apply List.Mem.tail; apply List.Mem.tail; apply List.Mem.tail; apply List.Mem.tail; apply List.Mem.tail; apply List.Mem.tail; exact List.Mem.head _)
  | (apply Or.inl; apply List.Mem.tail; apply List.Mem.tail; apply List.Mem.tail; apply List.Mem.tail; apply List.Mem.tail; apply List.Mem.tail; apply List.Mem.tail; exact List.Mem.head _)
  | (apply Or.inl; apply List.Mem.tail; apply List.Mem.tail; apply List.Mem.tail; apply List.Mem.tail; apply List.Mem.tail; apply List.Mem.tail; apply List.Mem.tail; apply List.Mem.tail; exact List.Mem.head _)
  | (apply Or.inl; apply List.Mem.tail; apply List.Mem.tail; apply List.Mem.tail; apply List.Mem.tail; apply List.Mem.tail; apply List.Mem.tail; apply List.Mem.tail; apply List.Mem.tail; apply List.Mem.tail; exact List.Mem.head _)
  | (apply Or.inr; assumption) | (apply Or.inr; exact List.Mem.head _) | (apply Or.inr; apply List.Mem.tail; exact List.Mem.head _) | fail)
theorem joined_app {a b : Tm} {ss : List Say} {s : Say} (h : joined (.app a b) ss = some s) : ∃ p, ss = [.thn p s, p] := by
  unfold joined at h
  split at h <;> simp_all
theorem joined_pair {a b : Tm} {ss : List Say} {s : Say} (h : joined (.pair a b) ss = some s) : ∃ p q, ss = [p, q] ∧ s = .and p q := by
  unfold joined at h
  split at h <;> simp_all
  exact ⟨_, _, ⟨rfl, rfl⟩, h.symm⟩
theorem joined_fst {a : Tm} {ss : List Say} {s : Say} (h : joined (.fst a) ss = some s) : ∃ q, ss = [.and s q] := by
  unfold joined at h
  split at h <;> simp_all
theorem joined_snd {a : Tm} {ss : List Say} {s : Say} (h : joined (.snd a) ss = some s) : ∃ p, ss = [.and p s] := by
  unfold joined at h
  split at h <;> simp_all
theorem joined_inl {a : Tm} {u : Say} {ss : List Say} {s : Say} (h : joined (.inl a u) ss = some s) : ∃ p, ss = [p] ∧ s = .or p u := by
  unfold joined at h
  split at h <;> simp_all
theorem joined_inr {a : Tm} {u : Say} {ss : List Say} {s : Say} (h : joined (.inr u a) ss = some s) : ∃ p, ss = [p] ∧ s = .or u p := by
  unfold joined at h
  split at h <;> simp_all
theorem joined_no {t : Tm} {ss : List Say} {s : Say} (h : joined t ss = some s) : (∀ x, t ≠ .use x) ∧ (∀ x u a, t ≠ .take x u a) ∧ ∀ w x a y b, t ≠ .cas w x a y b := by
  refine ⟨fun x e => ?_, fun x u a e => ?_, fun w x a y b e => ?_⟩ <;> subst e <;> simp [joined] at h
section
variable {P : Program} {w : World} {K : PySem.W.Frag} {mg : Str → Option Value} {base : Heap} {n : Nat}
section
theorem scJoined : FnScope ["term", "told", "place", "kind"] ["term", "told", "place"] (defScope (top 26)) := ⟨rfl, rfl, rfl, by decide +kernel, rfl, by decide +kernel, by decide +kernel⟩
local macro_rules | `(tactic| walk_at "pt 1") => `(tactic| first
  | ((with_reducible refine aw_cons (hs := ?hs) (h := ?_)); (case hs => exact rfl))
  | ((with_reducible refine aw_nil (hk := ?_)))
  | ((with_reducible refine ew_var (x := "term") (i := 0) (t := ?t) ?hi ?_ ?hN ?hv ?hd ?hc); (case hi => exact rfl); (case hN => exact rfl); (case hv => first | exact Or.inl rfl | exact Or.inr (Or.inl rfl) | exact Or.inr (Or.inr rfl)); (case hd => decide); (case hc => decide))
  | ((with_reducible refine ew_var (x := "told") (i := 1) (t := ?t) ?hi ?_ ?hN ?hv ?hd ?hc); (case hi => exact rfl); (case hN => exact rfl); (case hv => first | exact Or.inl rfl | exact Or.inr (Or.inl rfl) | exact Or.inr (Or.inr rfl)); (case hd => decide); (case hc => decide))
  | ((with_reducible refine ew_var (x := "place") (i := 2) (t := ?t) ?hi ?_ ?hN ?hv ?hd ?hc); (case hi => exact rfl); (case hN => exact rfl); (case hv => first | exact Or.inl rfl | exact Or.inr (Or.inl rfl) | exact Or.inr (Or.inr rfl)); (case hd => decide); (case hc => decide))
  | ((with_reducible refine ew_var (x := "kind") (i := 3) (t := ?t) ?hi ?_ ?hN ?hv ?hd ?hc); (case hi => exact rfl); (case hN => exact rfl); (case hv => first | exact Or.inl rfl | exact Or.inr (Or.inl rfl) | exact Or.inr (Or.inr rfl)); (case hd => decide); (case hc => decide))
  | ((with_reducible refine ew_sub (h := ?_)))
  | ((with_reducible refine ew_str (hk := ?_)))
  | ((with_reducible refine ew_int (hk := ?_)))
  | ((with_reducible refine ew_tup (h := ?_)))
  | ((with_reducible refine tw_cmp (hm := ?hm) (h := ?_)); (case hm => exact rfl))
  | ((with_reducible refine ew_cmp (hm := ?hm) (h := ?_)); (case hm => exact rfl))
  | ((with_reducible refine ew_callF (x := "both") (n := ?n) (pre := ?pre) (C := ?C) (hr := ?hr) (hg := ?hg) (hdb := ?hdb) (he := ?he) (hpl := ?hpl) (h := ?_)); (case C => exact All.c_both (by assumption)); (case hr => assumption); (case hg => exact rfl); (case hdb => decide); (case he => exact rfl); (case hpl => exact rfl))
  | ((with_reducible refine ew_callF (x := "either") (n := ?n) (pre := ?pre) (C := ?C) (hr := ?hr) (hg := ?hg) (hdb := ?hdb) (he := ?he) (hpl := ?hpl) (h := ?_)); (case C => exact All.c_either (by assumption)); (case hr => assumption); (case hg => exact rfl); (case hdb => decide); (case he => exact rfl); (case hpl => exact rfl))
  | ((with_reducible refine ew_ifExp (h := ?_)))
  | ((with_reducible refine tw_call (h := ?_)))
  | ((with_reducible refine tw_name (h := ?_)))
  | ((with_reducible refine sw_cons (h := ?_)))
  | ((with_reducible refine sw_nil (h := ?_)))
  | ((with_reducible refine s1_ret0 (h := ?_)))
  | ((with_reducible refine s1_if (h := ?_)))
  | ((with_reducible refine s1_set (x := "kind") (i := 3) ?hN ?hi ?_ ?hx ?hs ?hf); (case hN => exact (scJoined).nd); (case hi => exact rfl); (case hx => first | exact Or.inl rfl | exact Or.inr rfl); (case hs => exact rfl); (case hf => first | exact Or.inr rfl | exact Or.inl rfl))
  | ((with_reducible refine bw_eqs (h := ?h) (hk := ?_)); (case h => exact rfl))
  | ((with_reducible refine bw_nes (h := ?h) (hk := ?_)); (case h => exact rfl))
  | ((with_reducible refine bw_inT (hx := ?hx) (hf := ?hf) (hk := ?_)); (case hx => exact rfl); (case hf => exact rfl))
  | ((with_reducible refine bw_inL (xs := ?xs) (hp := ?hp) (hx := ?hx) (hf := ?hf) (hk := ?_)); (case hp => walk_at "pt rdb"); (case hx => exact rfl); (case hf => exact rfl))
  | ((with_reducible refine xw_tup (t := ?t) (he := ?he) (hs := ?hs) (hk := ?_)); (case he => first | exact rfl | exact atT0 | exact atT1); (case hs => exact fun _ _ => rfl))
  | ((with_reducible refine xw_lst (ts := ?ts) (t := ?t) (hp := ?hp) (he := ?he) (hs := ?hs) (hk := ?_)); (case hp => walk_at "pt rdb"); (case he => first | exact rfl | exact atT0 | exact atT1); (case hs => exact fun _ _ => rfl))
  | ((with_reducible refine And.intro ?hx ?_); (case hx => exact Nat.le_of_ble_eq_true rfl))
  | (with_reducible refine Exists.intro _ (And.intro rfl ?_))
  | (refine tst_t (by decide +kernel) ?_)
  | (refine tst_f (by decide +kernel) ?_)
  | (refine Exists.intro _ (Exists.intro _ (And.intro rfl (And.intro (by walk_at "pt rdb") ?_))))
  | fail)
theorem ok_joined_kind (D : Df K mg "joined_kind" (top 26) ["term", "told", "place"]) (C : All P w K mg base n) : Cl P w K mg base (n + 1) "joined_kind" (Fn (pJoined (n + 1))) := by
  refine cl_of D scJoined (fun ts F S k h => ?_) (fun a hr ts F S k h => ?_)
  · obtain ⟨_, _, _, _, _, _, _, rfl, _⟩ := h; rfl
  obtain ⟨rfl, hn, t, row, ss, pl, s, rfl, hrow, hd, hj, q⟩ := h
  have no := joined_no hj
  cases t with
  | use x => exact absurd rfl (no.1 x)
  | take x u b => exact absurd rfl (no.2.1 x u b)
  | cas w x c y b => exact absurd rfl (no.2.2 w x c y b)
  | app c d =>
    obtain ⟨p, rfl⟩ := joined_app hj
    have e := Say.eqT (hd p (by simp)) (hd p (by simp))
    rw [decide_eq_true rfl] at e
    simp only [Tm.t, List.map_cons, List.map_nil, Say.t] at hrow ⊢
    refine sw_cons ?_
    repeat' (walk_at "pt 1")
    refine bw_ned hr.units e ⟨_, rfl, ?_⟩
    repeat' (walk_at "pt 1")
    exact q
  | pair c d =>
    obtain ⟨p, u, rfl, rfl⟩ := joined_pair hj
    simp only [Tm.t, List.map_cons, List.map_nil, Say.t] at hrow ⊢
    refine sw_cons ?_
    repeat' (walk_at "pt 1")
    exact fc0 ⟨by omega, _, _, rfl, q⟩
  | fst c =>
    obtain ⟨p, rfl⟩ := joined_fst hj
    simp only [Tm.t, List.map_cons, List.map_nil, Say.t] at hrow ⊢
    refine sw_cons ?_
    repeat' (walk_at "pt 1")
    exact q
  | snd c =>
    obtain ⟨p, rfl⟩ := joined_snd hj
    simp only [Tm.t, List.map_cons, List.map_nil, Say.t] at hrow ⊢
    refine sw_cons ?_
    repeat' (walk_at "pt 1")
    exact q
  | inl c u =>
    obtain ⟨p, rfl, rfl⟩ := joined_inl hj
    simp only [Tm.t, List.map_cons, List.map_nil, Say.t] at hrow ⊢
    refine sw_cons ?_
    repeat' (walk_at "pt 1")
    exact fc0 ⟨by omega, _, _, rfl, q⟩
  | inr u c =>
    obtain ⟨p, rfl, rfl⟩ := joined_inr hj
    simp only [Tm.t, List.map_cons, List.map_nil, Say.t] at hrow ⊢
    refine sw_cons ?_
    repeat' (walk_at "pt 1")
    exact fc0 ⟨by omega, _, _, rfl, q⟩
end
section
theorem scKindOf : FnScope ["term", "givens", "theorems"] ["term", "givens", "theorems"] (defScope (top 24)) := ⟨rfl, rfl, rfl, by decide +kernel, rfl, by decide +kernel, by decide +kernel⟩
local macro_rules | `(tactic| walk_at "pt 1") => `(tactic| first
  | ((with_reducible refine aw_cons (hs := ?hs) (h := ?_)); (case hs => exact rfl))
  | ((with_reducible refine aw_nil (hk := ?_)))
  | ((with_reducible refine ew_var (x := "term") (i := 0) (t := ?t) ?hi ?_ ?hN ?hv ?hd ?hc); (case hi => exact rfl); (case hN => exact rfl); (case hv => first | exact Or.inl rfl | exact Or.inr (Or.inl rfl) | exact Or.inr (Or.inr rfl)); (case hd => decide); (case hc => decide))
  | ((with_reducible refine ew_var (x := "givens") (i := 1) (t := ?t) ?hi ?_ ?hN ?hv ?hd ?hc); (case hi => exact rfl); (case hN => exact rfl); (case hv => first | exact Or.inl rfl | exact Or.inr (Or.inl rfl) | exact Or.inr (Or.inr rfl)); (case hd => decide); (case hc => decide))
  | ((with_reducible refine ew_var (x := "theorems") (i := 2) (t := ?t) ?hi ?_ ?hN ?hv ?hd ?hc); (case hi => exact rfl); (case hN => exact rfl); (case hv => first | exact Or.inl rfl | exact Or.inr (Or.inl rfl) | exact Or.inr (Or.inr rfl)); (case hd => decide); (case hc => decide))
  | ((with_reducible refine ew_call (x := "proved") (n := ?n) (con := ?con) (C := ?C) (hr := ?hr) (hg := ?hg) (hdb := ?hdb) (he := ?he) (hpl := ?hpl) (h := ?_)); (case C => exact All.c_proved (by assumption)); (case hr => assumption); (case hg => exact rfl); (case hdb => decide); (case he => exact rfl); (case hpl => exact rfl))
  | ((with_reducible refine ew_disp1 (h := ?_)))
  | ((with_reducible refine ew_spread (h := ?_)))
  | ((with_reducible refine tw_call (h := ?_)))
  | ((with_reducible refine tw_name (h := ?_)))
  | ((with_reducible refine sw_cons (h := ?_)))
  | ((with_reducible refine sw_nil (h := ?_)))
  | ((with_reducible refine s1_ret0 (h := ?_)))
  | ((with_reducible refine And.intro ?hx ?_); (case hx => exact Nat.le_of_ble_eq_true rfl))
  | (with_reducible refine Exists.intro _ (And.intro rfl ?_))
  | (refine tst_t (by decide +kernel) ?_)
  | (refine tst_f (by decide +kernel) ?_)
  | (refine Exists.intro _ (Exists.intro _ (And.intro rfl (And.intro (by walk_at "pt rdb") ?_))))
  | fail)
theorem ok_kind_of (D : Df K mg "kind_of" (top 24) ["term", "givens", "theorems"]) (C : All P w K mg base n) : Cl P w K mg base (n + 1) "kind_of" (Fn (pKindOf (n + 1))) := by
  refine cl_of D scKindOf (fun ts F S k h => ?_) (fun a hr ts F S k h => ?_)
  · obtain ⟨_, _, _, _, _, _, _, rfl, _⟩ := h; rfl
  obtain ⟨rfl, t, g, G, th, s, m, rfl, hg, hn, good, hz, hk, q⟩ := h
  refine sw_cons ?_
  repeat' (walk_at "pt 1")
  refine ew_tupK (aw_nil ⟨[], rfl, by simp, ?_⟩)
  repeat' (walk_at "pt 1")
  refine ew_dnewT fun fo hfo => ?_
  repeat' (walk_at "pt 1")
  refine ⟨[], [(fo, .dt [])], [], [(g, .dk G.t)], rfl, fun p hp => ?_, t, g, fo, G, th, [], [], s, m, rfl, rfl, .head _, by omega, good, ?_, ?_, hk, fun kvs' _ => q⟩
  · rw [List.mem_singleton.mp hp]; exact .inl hg
  · have := good.len; show 0 + t.dep ≤ 1000; omega
  · show 0 + t.size ≤ 90000; omega
end
/-! what a term's parts prove -/
theorem kind_take {x : Nm} {u : Say} {a : Tm} {G : Tab} {s : Say} (h : kind (.take x u a) G = some s) : ∃ v, kind a (G.ins x u) = some v ∧ s = .thn u v := by
  rw [kind] at h
  obtain ⟨v, h1, h2⟩ := Option.map_eq_some_iff.mp h
  exact ⟨v, h1, h2.symm⟩
theorem kind_cas {w : Tm} {x : Nm} {a : Tm} {y : Nm} {b : Tm} {G : Tab} {s : Say} (h : kind (.cas w x a y b) G = some s) : ∃ p q, kind w G = some (.or p q) ∧ kind a (G.ins x p) = some s ∧ kind b (G.ins y q) = some s := by
  rw [kind] at h
  split at h
  · rename_i p q h1
    split at h
    · rename_i u v h2 h3
      split at h
      · rename_i e
        subst e
        cases h
        exact ⟨p, q, h1, h2, h3⟩
      · cases h
    · cases h
  · cases h
/-- the other kinds: by the parts' kinds -/
def isElse : Tm → Bool
  | .use _ => false
  | .take _ _ _ => false
  | .cas _ _ _ _ _ => false
  | _ => true
theorem kind_else {t : Tm} {G : Tab} {s : Say} (ht : isElse t = true) (h : kind t G = some s) : ∃ ss : List Say, ss.length = t.parts.length ∧ (∀ (i : Nat) (p : Tm), t.parts[i]? = some p → ∃ u : Say, ss[i]? = some u ∧ kind p G = some u) ∧ joined t ss = some s := by
  cases t with
  | use x => cases ht
  | take x u a => cases ht
  | cas w x a y b => cases ht
  | app a b =>
    rw [kind] at h
    split at h
    · rename_i p q u h1 h2
      split at h
      · rename_i e
        subst e
        cases h
        exact ⟨[.thn p s, p], rfl, fun i r hr => by match i, hr with | 0, hr => cases hr; exact ⟨_, rfl, h1⟩ | 1, hr => cases hr; exact ⟨_, rfl, h2⟩ | i + 2, hr => simp [Tm.parts] at hr, by simp [joined]⟩
      · cases h
    · cases h
  | pair a b =>
    rw [kind] at h
    split at h
    · rename_i p q h1 h2
      cases h
      exact ⟨[p, q], rfl, fun i r hr => by match i, hr with | 0, hr => cases hr; exact ⟨_, rfl, h1⟩ | 1, hr => cases hr; exact ⟨_, rfl, h2⟩ | i + 2, hr => simp [Tm.parts] at hr, by simp [joined]⟩
    · cases h
  | fst a =>
    rw [kind] at h
    split at h
    · rename_i p q h1
      cases h
      exact ⟨[.and s q], rfl, fun i r hr => by match i, hr with | 0, hr => cases hr; exact ⟨_, rfl, h1⟩ | i + 1, hr => simp [Tm.parts] at hr, by simp [joined]⟩
    · cases h
  | snd a =>
    rw [kind] at h
    split at h
    · rename_i p q h1
      cases h
      exact ⟨[.and p s], rfl, fun i r hr => by match i, hr with | 0, hr => cases hr; exact ⟨_, rfl, h1⟩ | i + 1, hr => simp [Tm.parts] at hr, by simp [joined]⟩
    · cases h
  | inl a u =>
    rw [kind] at h
    obtain ⟨p, h1, h2⟩ := Option.map_eq_some_iff.mp h
    subst h2
    exact ⟨[p], rfl, fun i r hr => by match i, hr with | 0, hr => cases hr; exact ⟨_, rfl, h1⟩ | i + 1, hr => simp [Tm.parts] at hr, by simp [joined]⟩
  | inr u a =>
    rw [kind] at h
    obtain ⟨p, h1, h2⟩ := Option.map_eq_some_iff.mp h
    subst h2
    exact ⟨[p], rfl, fun i r hr => by match i, hr with | 0, hr => cases hr; exact ⟨_, rfl, h1⟩ | i + 1, hr => simp [Tm.parts] at hr, by simp [joined]⟩
/-- how deep the kinds are -/
theorem Tab.says_ins {m : Nat} {g : Tab} (h : g.says m) (x : Nm) {s : Say} (hs : s.dep ≤ m) : (g.ins x s).says m := by
  intro p hp
  unfold Tab.ins at hp
  split at hp
  · obtain ⟨q, hq, e⟩ := List.mem_map.mp hp
    split at e
    · subst e; exact hs
    · subst e; exact h _ hq
  · rcases List.mem_append.mp hp with hp | hp
    · exact h _ hp
    · simp at hp; subst hp; exact hs
theorem Tab.says_get {m : Nat} {g : Tab} (h : g.says m) {x : Nm} {s : Say} (e : g.get x = some s) : s.dep ≤ m := by
  unfold Tab.get at e
  obtain ⟨p, h1, h2⟩ := Option.map_eq_some_iff.mp e
  subst h2
  exact h _ (List.mem_of_find?_eq_some h1)
theorem Tab.says_mono {m k : Nat} {g : Tab} (h : g.says m) (l : m ≤ k) : g.says k := fun p hp => Nat.le_trans (h p hp) l
theorem Tm.dep_pos : ∀ x : Tm, 1 ≤ x.dep := fun x => by cases x <;> simp [Tm.dep]
theorem Say.dep_pos : ∀ x : Say, 1 ≤ x.dep := fun x => by cases x <;> simp [Say.dep]
theorem use_of_dep : ∀ {w : Tm}, w.dep ≤ 1 → ∃ z, w = .use z := fun {w} h => by
  cases w with
  | use z => exact ⟨z, rfl⟩
  | take x s a => exfalso; simp only [Tm.dep] at h; have := a.dep_pos; omega
  | app a b => exfalso; simp only [Tm.dep] at h; have := a.dep_pos; omega
  | pair a b => exfalso; simp only [Tm.dep] at h; have := a.dep_pos; omega
  | fst a => exfalso; simp only [Tm.dep] at h; have := a.dep_pos; omega
  | snd a => exfalso; simp only [Tm.dep] at h; have := a.dep_pos; omega
  | inl a s => exfalso; simp only [Tm.dep] at h; have := a.dep_pos; omega
  | inr s a => exfalso; simp only [Tm.dep] at h; have := a.dep_pos; omega
  | cas w x a y b => exfalso; simp only [Tm.dep] at h; have := a.dep_pos; omega
theorem kind_dep {k : Nat} : ∀ (t : Tm) {j : Nat} {G : Tab} {s : Say}, t.says k → G.says j → k ≤ j → kind t G = some s → s.dep ≤ j + t.dep
  | .use x, j, G, s, ht, hG, hk, h => by
    have := Tab.says_get hG h
    omega
  | .take x u a, j, G, s, ht, hG, hk, h => by
    obtain ⟨v, h1, rfl⟩ := kind_take h
    have := kind_dep a ht.2 (Tab.says_ins hG x (Nat.le_trans ht.1 hk)) hk h1
    have := ht.1
    simp only [Say.dep, Tm.dep]; omega
  | .app a b, j, G, s, ht, hG, hk, h => by
    obtain ⟨ss, _, hs, hj⟩ := kind_else rfl h
    obtain ⟨p, rfl⟩ := joined_app hj
    obtain ⟨u, e, h1⟩ := hs 0 a rfl
    cases e
    have := kind_dep a ht.1 hG hk h1
    simp only [Say.dep, Tm.dep] at this ⊢; omega
  | .pair a b, j, G, s, ht, hG, hk, h => by
    obtain ⟨ss, _, hs, hj⟩ := kind_else rfl h
    obtain ⟨p, q, rfl, rfl⟩ := joined_pair hj
    obtain ⟨u, e, h1⟩ := hs 0 a rfl
    obtain ⟨v, e2, h2⟩ := hs 1 b rfl
    cases e; cases e2
    have := kind_dep a ht.1 hG hk h1
    have := kind_dep b ht.2 hG hk h2
    simp only [Say.dep, Tm.dep]; omega
  | .fst a, j, G, s, ht, hG, hk, h => by
    obtain ⟨ss, _, hs, hj⟩ := kind_else rfl h
    obtain ⟨p, rfl⟩ := joined_fst hj
    obtain ⟨u, e, h1⟩ := hs 0 a rfl
    cases e
    have := kind_dep a ht hG hk h1
    simp only [Say.dep, Tm.dep] at this ⊢; omega
  | .snd a, j, G, s, ht, hG, hk, h => by
    obtain ⟨ss, _, hs, hj⟩ := kind_else rfl h
    obtain ⟨p, rfl⟩ := joined_snd hj
    obtain ⟨u, e, h1⟩ := hs 0 a rfl
    cases e
    have := kind_dep a ht hG hk h1
    simp only [Say.dep, Tm.dep] at this ⊢; omega
  | .inl a u, j, G, s, ht, hG, hk, h => by
    obtain ⟨ss, _, hs, hj⟩ := kind_else rfl h
    obtain ⟨p, rfl, rfl⟩ := joined_inl hj
    obtain ⟨v, e, h1⟩ := hs 0 a rfl
    cases e
    have := kind_dep a ht.1 hG hk h1
    have := ht.2
    simp only [Say.dep, Tm.dep] at this ⊢; omega
  | .inr u a, j, G, s, ht, hG, hk, h => by
    obtain ⟨ss, _, hs, hj⟩ := kind_else rfl h
    obtain ⟨p, rfl, rfl⟩ := joined_inr hj
    obtain ⟨v, e, h1⟩ := hs 0 a rfl
    cases e
    have := kind_dep a ht.2 hG hk h1
    have := ht.1
    simp only [Say.dep, Tm.dep] at this ⊢; omega
  | .cas w x a y b, j, G, s, ht, hG, hk, h => by
    obtain ⟨p, q, h1, h2, h3⟩ := kind_cas h
    obtain ⟨hw1, hw, ha, hb⟩ := ht
    have hp : (Say.or p q).dep ≤ j := by
      obtain ⟨z, rfl⟩ := use_of_dep hw1
      exact Tab.says_get hG h1
    have := kind_dep a ha (Tab.says_ins hG x (by simp only [Say.dep] at hp; omega)) hk h2
    simp only [Tm.dep]; omega
end
end B33

set_option Elab.async false
set_option linter.all false
set_option maxRecDepth 100000
set_option maxHeartbeats 2000000
set_option autoImplicit false
set_option pp.maxSteps 600
namespace B33
open PT PySem L2 PySem.Spec PyProof.Rows
local macro_rules | `(tactic| walk_at "pt rdb") => `(tactic| first
  | (apply Or.inl; exact List.Mem.head _)
  | (apply Or.inl; apply List.Mem.tail; exact List.Mem.head _)
  | (apply Or.inl; apply List.Mem.tail; apply List.Mem.tail; exact List.Mem.head _)
  | (apply Or.inl; apply List.Mem.tail; apply List.Mem.tail; apply List.Mem.tail; exact List.Mem.head _)
  | (apply Or.inl; apply List.Mem.tail; apply List.Mem.tail; apply List.Mem.tail; apply List.Mem.tail; exact List.Mem.head _)
  | (apply Or.inl; apply List.Mem.tail; apply List.Mem.tail; apply List.Mem.tail; apply List.Mem.tail; apply List.Mem.tail; exact List.Mem.head _)
  | (apply Or.inl; apply List.Mem.tail; apply List.Mem.tail; apply List.Mem.tail; apply List.Mem.tail; apply List.Mem.tail; apply List.Mem.tail; exact List.Mem.head _)
  | (apply Or.inl; apply List.Mem.tail; apply List.Mem.tail; apply List.Mem.tail; apply List.Mem.tail; apply List.Mem.tail; apply List.Mem.tail; apply List.Mem.tail; exact List.Mem.head _)
  | (apply Or.inl; apply List.Mem.tail; apply List.Mem.tail; apply List.Mem.tail; apply List.Mem.tail; apply List.Mem.tail; apply List.Mem.tail; apply List.Mem.tail; apply List.Mem.tail; exact List.Mem.head _)
  | (apply Or.inl; apply List.Mem.tail; apply List.Mem.tail; apply List.Mem.tail; apply List.Mem.tail; apply List.Mem.tail; apply List.Mem.tail; apply List.Mem.tail; apply List.Mem.tail; apply List.Mem.tail; exact List.Mem.head _)
  | (apply Or.inr; assumption) | (apply Or.inr; exact List.Mem.head _) | (apply Or.inr; apply List.Mem.tail; exact List.Mem.head _) | fail)
theorem putT_length {κ : Type} [DecidableEq κ] (kvs : List (κ × T)) (kk : κ) (t : T) : (putT kvs kk t).length ≤ kvs.length + 1 := by
  unfold putT
  split <;> simp
theorem Good.take {m : Nat} {x : Nm} {u : Say} {a : Tm} {G : Tab} (h : Good m (.take x u a) G) : Good m a (G.ins x u) :=
  ⟨h.ts.2, Tab.says_ins h.gs x h.ts.1, by have := h.dp; simp only [Tm.dep] at this; omega, by have := h.len; have := G.ins_length x u; simp only [Tm.dep] at *; omega⟩
theorem Good.kd {m : Nat} {t : Tm} {G : Tab} {s : Say} (h : Good m t G) (e : kind t G = some s) : s.dep ≤ 63 := by
  have := kind_dep t h.ts h.gs (Nat.le_refl m) e
  have := h.dp
  omega
theorem Tm.parts_says {m : Nat} : ∀ {t p : Tm}, t.says m → p ∈ t.parts → isElse t = true → p.says m
  | .app a b, p, h, hp, _ => by simp only [Tm.parts, List.mem_cons, List.not_mem_nil, or_false] at hp; rcases hp with rfl | rfl; exact h.1; exact h.2
  | .pair a b, p, h, hp, _ => by simp only [Tm.parts, List.mem_cons, List.not_mem_nil, or_false] at hp; rcases hp with rfl | rfl; exact h.1; exact h.2
  | .fst a, p, h, hp, _ => by simp only [Tm.parts, List.mem_cons, List.not_mem_nil, or_false] at hp; subst hp; exact h
  | .snd a, p, h, hp, _ => by simp only [Tm.parts, List.mem_cons, List.not_mem_nil, or_false] at hp; subst hp; exact h
  | .inl a u, p, h, hp, _ => by simp only [Tm.parts, List.mem_cons, List.not_mem_nil, or_false] at hp; subst hp; exact h.1
  | .inr u a, p, h, hp, _ => by simp only [Tm.parts, List.mem_cons, List.not_mem_nil, or_false] at hp; subst hp; exact h.2
theorem Tm.parts_dep : ∀ {t p : Tm}, p ∈ t.parts → p.dep + 1 ≤ t.dep := fun {t p} hp => by
  cases t <;> simp only [Tm.parts, List.mem_cons, List.not_mem_nil, or_false] at hp <;> simp only [Tm.dep] <;> (try rcases hp with rfl | rfl | rfl) <;> (try rcases hp with rfl | rfl) <;> (try subst hp) <;> omega
theorem Tm.parts_size : ∀ t : Tm, (t.parts.map Tm.size).sum + 1 = t.size := fun t => by
  cases t <;> simp [Tm.parts, Tm.size] <;> omega
theorem Tm.parts_len : ∀ t : Tm, t.parts.length ≤ 3 := fun t => by cases t <;> simp [Tm.parts]
theorem Tm.size_pos : ∀ t : Tm, 1 ≤ t.size := fun t => by cases t <;> simp [Tm.size]
theorem Good.part {m : Nat} {t p : Tm} {G : Tab} (h : Good m t G) (hp : p ∈ t.parts) (he : isElse t = true) : Good m p G :=
  ⟨Tm.parts_says h.ts hp he, h.gs, by have := h.dp; have := Tm.parts_dep hp; omega, by have := h.len; have := Tm.parts_dep hp; omega⟩
section
variable {P : Program} {w : World} {K : PySem.W.Frag} {mg : Str → Option Value} {base : Heap} {n : Nat}
section
theorem scProved : FnScope ["term", "givens", "theorems", "place", "found", "kind", "told", "parts", "row", "k"] ["term", "givens", "theorems", "place", "found"] (defScope (top 25)) := ⟨rfl, rfl, rfl, by decide +kernel, rfl, by decide +kernel, by decide +kernel⟩
local macro_rules | `(tactic| walk_at "pt 1") => `(tactic| first
  | ((with_reducible refine aw_cons (hs := ?hs) (h := ?_)); (case hs => exact rfl))
  | ((with_reducible refine aw_nil (hk := ?_)))
  | ((with_reducible refine ew_var (x := "term") (i := 0) (t := ?t) ?hi ?_ ?hN ?hv ?hd ?hc); (case hi => exact rfl); (case hN => exact rfl); (case hv => first | exact Or.inl rfl | exact Or.inr (Or.inl rfl) | exact Or.inr (Or.inr rfl)); (case hd => decide); (case hc => decide))
  | ((with_reducible refine ew_var (x := "givens") (i := 1) (t := ?t) ?hi ?_ ?hN ?hv ?hd ?hc); (case hi => exact rfl); (case hN => exact rfl); (case hv => first | exact Or.inl rfl | exact Or.inr (Or.inl rfl) | exact Or.inr (Or.inr rfl)); (case hd => decide); (case hc => decide))
  | ((with_reducible refine ew_var (x := "theorems") (i := 2) (t := ?t) ?hi ?_ ?hN ?hv ?hd ?hc); (case hi => exact rfl); (case hN => exact rfl); (case hv => first | exact Or.inl rfl | exact Or.inr (Or.inl rfl) | exact Or.inr (Or.inr rfl)); (case hd => decide); (case hc => decide))
  | ((with_reducible refine ew_var (x := "place") (i := 3) (t := ?t) ?hi ?_ ?hN ?hv ?hd ?hc); (case hi => exact rfl); (case hN => exact rfl); (case hv => first | exact Or.inl rfl | exact Or.inr (Or.inl rfl) | exact Or.inr (Or.inr rfl)); (case hd => decide); (case hc => decide))
  | ((with_reducible refine ew_var (x := "found") (i := 4) (t := ?t) ?hi ?_ ?hN ?hv ?hd ?hc); (case hi => exact rfl); (case hN => exact rfl); (case hv => first | exact Or.inl rfl | exact Or.inr (Or.inl rfl) | exact Or.inr (Or.inr rfl)); (case hd => decide); (case hc => decide))
  | ((with_reducible refine ew_var (x := "kind") (i := 5) (t := ?t) ?hi ?_ ?hN ?hv ?hd ?hc); (case hi => exact rfl); (case hN => exact rfl); (case hv => first | exact Or.inl rfl | exact Or.inr (Or.inl rfl) | exact Or.inr (Or.inr rfl)); (case hd => decide); (case hc => decide))
  | ((with_reducible refine ew_var (x := "told") (i := 6) (t := ?t) ?hi ?_ ?hN ?hv ?hd ?hc); (case hi => exact rfl); (case hN => exact rfl); (case hv => first | exact Or.inl rfl | exact Or.inr (Or.inl rfl) | exact Or.inr (Or.inr rfl)); (case hd => decide); (case hc => decide))
  | ((with_reducible refine ew_var (x := "parts") (i := 7) (t := ?t) ?hi ?_ ?hN ?hv ?hd ?hc); (case hi => exact rfl); (case hN => exact rfl); (case hv => first | exact Or.inl rfl | exact Or.inr (Or.inl rfl) | exact Or.inr (Or.inr rfl)); (case hd => decide); (case hc => decide))
  | ((with_reducible refine ew_var (x := "row") (i := 8) (t := ?t) ?hi ?_ ?hN ?hv ?hd ?hc); (case hi => exact rfl); (case hN => exact rfl); (case hv => first | exact Or.inl rfl | exact Or.inr (Or.inl rfl) | exact Or.inr (Or.inr rfl)); (case hd => decide); (case hc => decide))
  | ((with_reducible refine ew_var (x := "k") (i := 9) (t := ?t) ?hi ?_ ?hN ?hv ?hd ?hc); (case hi => exact rfl); (case hN => exact rfl); (case hv => first | exact Or.inl rfl | exact Or.inr (Or.inl rfl) | exact Or.inr (Or.inr rfl)); (case hd => decide); (case hc => decide))
  | ((with_reducible refine ew_sub (h := ?_)))
  | ((with_reducible refine ew_str (hk := ?_)))
  | ((with_reducible refine ew_int (hk := ?_)))
  | ((with_reducible refine tw_cmp (hm := ?hm) (h := ?_)); (case hm => exact rfl))
  | ((with_reducible refine ew_cmp (hm := ?hm) (h := ?_)); (case hm => exact rfl))
  | ((with_reducible refine ew_bin (h := ?_)))
  | ((with_reducible refine ew_call (x := "by_cases") (n := ?n) (con := ?con) (C := ?C) (hr := ?hr) (hg := ?hg) (hdb := ?hdb) (he := ?he) (hpl := ?hpl) (h := ?_)); (case C => exact All.c_by_cases (by assumption)); (case hr => assumption); (case hg => exact rfl); (case hdb => decide); (case he => exact rfl); (case hpl => exact rfl))
  | ((with_reducible refine ew_callF (x := "joined_kind") (n := ?n) (pre := ?pre) (C := ?C) (hr := ?hr) (hg := ?hg) (hdb := ?hdb) (he := ?he) (hpl := ?hpl) (h := ?_)); (case C => exact All.c_joined_kind (by assumption)); (case hr => assumption); (case hg => exact rfl); (case hdb => decide); (case he => exact rfl); (case hpl => exact rfl))
  | ((with_reducible refine ew_callB (x := "len") (id := "len") (hm := ?hm) (hv := ?hv) (hg := ?hg) (hn := ?hn) (hdb := ?hdb) (he := ?he) (hpl := ?hpl) (h := ?_)); (case hm => exact Mg.len (by assumption)); (case hv => exact rfl); (case hg => exact rfl); (case hn => decide); (case hdb => decide); (case he => exact rfl); (case hpl => exact rfl))
  | ((with_reducible refine ew_callF (x := "parts_within") (n := ?n) (pre := ?pre) (C := ?C) (hr := ?hr) (hg := ?hg) (hdb := ?hdb) (he := ?he) (hpl := ?hpl) (h := ?_)); (case C => exact All.c_parts_within (by assumption)); (case hr => assumption); (case hg => exact rfl); (case hdb => decide); (case he => exact rfl); (case hpl => exact rfl))
  | ((with_reducible refine ew_call (x := "proved") (n := ?n) (con := ?con) (C := ?C) (hr := ?hr) (hg := ?hg) (hdb := ?hdb) (he := ?he) (hpl := ?hpl) (h := ?_)); (case C => exact All.c_proved (by assumption)); (case hr => assumption); (case hg => exact rfl); (case hdb => decide); (case he => exact rfl); (case hpl => exact rfl))
  | ((with_reducible refine ew_callF (x := "then") (n := ?n) (pre := ?pre) (C := ?C) (hr := ?hr) (hg := ?hg) (hdb := ?hdb) (he := ?he) (hpl := ?hpl) (h := ?_)); (case C => exact All.c_then (by assumption)); (case hr => assumption); (case hg => exact rfl); (case hdb => decide); (case he => exact rfl); (case hpl => exact rfl))
  | ((with_reducible refine ew_dnewK (h := ?_)))
  | ((with_reducible refine ew_disp1 (h := ?_)))
  | ((with_reducible refine ew_spread (h := ?_)))
  | ((with_reducible refine tw_call (h := ?_)))
  | ((with_reducible refine tw_name (h := ?_)))
  | ((with_reducible refine sw_cons (h := ?_)))
  | ((with_reducible refine sw_nil (h := ?_)))
  | ((with_reducible refine s1_if (h := ?_)))
  | ((with_reducible refine s1_set (x := "kind") (i := 5) ?hN ?hi ?_ ?hx ?hs ?hf); (case hN => exact (scProved).nd); (case hi => exact rfl); (case hx => first | exact Or.inl rfl | exact Or.inr rfl); (case hs => exact rfl); (case hf => first | exact Or.inr rfl | exact Or.inl rfl))
  | ((with_reducible refine s1_set (x := "told") (i := 6) ?hN ?hi ?_ ?hx ?hs ?hf); (case hN => exact (scProved).nd); (case hi => exact rfl); (case hx => first | exact Or.inl rfl | exact Or.inr rfl); (case hs => exact rfl); (case hf => first | exact Or.inr rfl | exact Or.inl rfl))
  | ((with_reducible refine s1_set (x := "parts") (i := 7) ?hN ?hi ?_ ?hx ?hs ?hf); (case hN => exact (scProved).nd); (case hi => exact rfl); (case hx => first | exact Or.inl rfl | exact Or.inr rfl); (case hs => exact rfl); (case hf => first | exact Or.inr rfl | exact Or.inl rfl))
  | ((with_reducible refine s1_set (x := "row") (i := 8) ?hN ?hi ?_ ?hx ?hs ?hf); (case hN => exact (scProved).nd); (case hi => exact rfl); (case hx => first | exact Or.inl rfl | exact Or.inr rfl); (case hs => exact rfl); (case hf => first | exact Or.inr rfl | exact Or.inl rfl))
  | ((with_reducible refine s1_set (x := "k") (i := 9) ?hN ?hi ?_ ?hx ?hs ?hf); (case hN => exact (scProved).nd); (case hi => exact rfl); (case hx => first | exact Or.inl rfl | exact Or.inr rfl); (case hs => exact rfl); (case hf => first | exact Or.inr rfl | exact Or.inl rfl))
  | ((with_reducible refine bw_eqs (h := ?h) (hk := ?_)); (case h => exact rfl))
  | ((with_reducible refine bw_nes (h := ?h) (hk := ?_)); (case h => exact rfl))
  | ((with_reducible refine bw_add (hk := ?_)))
  | ((with_reducible refine xw_tup (t := ?t) (he := ?he) (hs := ?hs) (hk := ?_)); (case he => first | exact rfl | exact atT0 | exact atT1); (case hs => exact fun _ _ => rfl))
  | ((with_reducible refine xw_lst (ts := ?ts) (t := ?t) (hp := ?hp) (he := ?he) (hs := ?hs) (hk := ?_)); (case hp => walk_at "pt rdb"); (case he => first | exact rfl | exact atT0 | exact atT1); (case hs => exact fun _ _ => rfl))
  | ((with_reducible refine cw_lenT (hk := ?_)))
  | ((with_reducible refine And.intro ?hx ?_); (case hx => exact Nat.le_of_ble_eq_true rfl))
  | (with_reducible refine Exists.intro _ (And.intro rfl ?_))
  | (refine tst_t (by decide +kernel) ?_)
  | (refine tst_f (by decide +kernel) ?_)
  | (refine Exists.intro _ (Exists.intro _ (And.intro rfl (And.intro (by walk_at "pt rdb") ?_))))
  | fail)
theorem proved_else (M : Mg mg) (C : All P w K mg base n) (a : BA) (hr : Room n (bx P w K mg base ["term", "givens", "theorems", "place", "found", "kind", "told", "parts", "row", "k"] "proved" (top 25) a).A) (F : Sto) (k : T → Sto → Prop)
    (t : Tm) (g fo : Addr) (G : Tab) (th : T) (pl : List Key) (kvs : List (List Key × T)) (s : Say) (m : Nat) (hg : (g, .dk G.t) ∈ F) (hn : 2 * t.dep + 3 ≤ n + 1) (good : Good m t G) (hpl : pl.length + t.dep ≤ 1000) (hkv : kvs.length + t.size ≤ 90000) (hk : kind t G = some s)
    (q : ∀ kvs' : List (List Key × T), kvs'.length ≤ kvs.length + t.size → k s.t [(fo, .dt kvs')]) (he : isElse t = true) :
    sw F (bx P w K mg base ["term", "givens", "theorems", "place", "found", "kind", "told", "parts", "row", "k"] "proved" (top 25) a) (defBody (top 25)) (slots ["term", "givens", "theorems", "place", "found", "kind", "told", "parts", "row", "k"] [t.t, .ref g, th, .kt pl, .ref fo]) [(fo, .dt kvs)] { nx := fun _ S' => k .non S', rt := k } := by
  obtain ⟨ss, hsl, hss, hj⟩ := kind_else he hk
  have hpd : ∀ p ∈ t.parts, 2 * p.dep + 3 ≤ n := fun p hp => by have := Tm.parts_dep hp; omega
  cases t with
  | use x => cases he
  | take x u b => cases he
  | cas w x b y c => cases he
  | app u v =>
    have hps := Tm.parts_size (.app u v)
    have hpl2 := Tm.parts_len (.app u v)
    have hsd : ∀ u ∈ ss, u.dep ≤ 64 := fun z hz => by
      obtain ⟨i, hi, e⟩ := List.mem_iff_getElem.mp hz
      have hi2 : i < (Tm.parts (.app u v)).length := by omega
      obtain ⟨z', e1, e2⟩ := hss i _ (List.getElem?_eq_getElem hi2)
      rw [List.getElem?_eq_getElem hi] at e1
      cases e1
      rw [e] at e2
      have := (good.part (List.getElem_mem hi2) he).kd e2
      omega
    simp only [Tm.t]
    refine sw_cons ?_
    repeat' (walk_at "pt 1")
    refine fc0 ⟨by omega, (.app u v), rfl, ?_⟩
    generalize hps0 : (Tm.parts (.app u v)) = ps at *
    repeat' (walk_at "pt 1")
    refine s1_setLc (i := 8) (own := [("k", 9)]) (g := gName 9) (up := up1 9) rfl scProved.nd rfl ?_ (fun s1 H1 C1 cl1 fp1 => pg_name scProved.nd rfl (.inl rfl)) (tgt1 (by simp)) ?_
    · show BlkOk ["term", "givens", "theorems", "place", "found", "kind", "told", "parts", "row", "k"] (defScope (top 25)) _ _
      exact ⟨rfl, by decide +kernel, by decide +kernel, by decide +kernel, by decide +kernel⟩
    refine iw_range1 M.range ?_
    repeat' (walk_at "pt 1")
    refine ⟨by rw [List.length_map]; omega, ?_⟩
    refine ⟨fun i acc S1 => ∃ kvs' : List (List Key × T), acc = (ss.take i).map Say.t ∧ S1 = [(fo, .dt kvs')] ∧ kvs'.length ≤ kvs.length + ((ps.take i).map Tm.size).sum, ⟨kvs, rfl, rfl, by simp⟩, fun _ _ _ _ => trivial, ?_, ?_⟩
    · rintro i z acc S2 hz ⟨kvs', rfl, rfl, hl⟩
      have hi : i < ps.length := by
        have := (List.getElem?_eq_some_iff.mp hz).1
        simp [rng] at this
        omega
      have hz' : z = .int (0 + (i : Int)) := by
        have : (rng 0 (((ps.map Tm.t).length : Int).toNat))[i]? = some (T.int (0 + (i : Int))) := by simp [rng, hi]
        rw [hz] at this
        exact Option.some.inj this
      subst hz'
      obtain ⟨si, e1, e2⟩ := hss i ps[i] (List.getElem?_eq_getElem hi)
      have hmem : ps[i] ∈ ps := List.getElem_mem hi
      have hmem' : ps[i] ∈ Tm.parts (.app u v) := by rw [hps0]; exact hmem
      have hat : atI (ps.map Tm.t) (0 + (i : Int)) = some (ps[i]).t := by
        rw [Int.zero_add]
        exact atI_nat (by rw [List.getElem?_map, List.getElem?_eq_getElem hi]; rfl)
      have hpd' := hpd _ hmem
      have hdp := Tm.parts_dep hmem'
      have hsum : ((ps.take (i + 1)).map Tm.size).sum = ((ps.take i).map Tm.size).sum + (ps[i]).size := by
        rw [List.take_add_one, List.getElem?_eq_getElem hi, List.map_append, List.sum_append]; simp
      have hle : ((ps.take (i + 1)).map Tm.size).sum ≤ (ps.map Tm.size).sum := by
        have : ps.map Tm.size = (ps.take (i + 1)).map Tm.size ++ (ps.drop (i + 1)).map Tm.size := by rw [← List.map_append, List.take_append_drop]
        rw [this, List.sum_append]; omega
      refine ⟨by rw [List.length_map, List.length_take]; omega, _, rfl, fun s1 H1 C1 cl1 fp1 => tsw_nil (tst_t rfl fun s2 H2 C2 cl2 fp2 => ?_)⟩
      repeat' (walk_at "pt 1")
      refine xw_tup (t := (ps[i]).t) hat ?_ (fun _ _ => rfl)
      repeat' (walk_at "pt 1")
      refine ew_tupK ?_
      repeat' (walk_at "pt 1")
      refine ⟨[.inl (0 + (i : Int))], rfl, by simp, ?_⟩
      refine bw_catK (by simp; omega) ?_
      repeat' (walk_at "pt 1")
      refine ⟨[], [(fo, .dt kvs')], [], [(g, .dk G.t)], rfl, fun p hp => by rw [List.mem_singleton.mp hp]; exact .inl hg, ps[i], g, fo, G, th, pl ++ [.inl (0 + (i : Int))], kvs', si, m, rfl, rfl, .head _, hpd', good.part hmem' he, by simp; omega, by omega, e2, fun kvs'' h2 => ?_⟩
      refine ⟨kvs'', ?_, rfl, by omega⟩
      rw [List.take_add_one, e1, List.map_append]; rfl
    · rintro acc S2 ⟨kvs', rfl, rfl, hl⟩ qr hqr
      have hlr : (rng 0 (((ps.map Tm.t).length : Int).toNat)).length = ps.length := by simp [rng]
      rw [hlr] at hl
      rw [hlr, ← hsl, List.take_length]
      rw [List.take_length] at hl
      repeat' (walk_at "pt 1")
      refine fc1 (qr, .lst (ss.map Say.t)) (.inl (.head _)) ⟨by omega, (.app u v), qr, ss, .kt pl, s, rfl, .head _, hsd, hj, ?_⟩
      repeat' (walk_at "pt 1")
      refine s1_dputT (hu_of hr) ?_
      refine ew_tup ?_
      repeat' (walk_at "pt 1")
      have hpt := putT_length kvs' pl (.tup [.ref g, s.t])
      refine ⟨fo, [(qr, _)], [], kvs', pl, rfl, rfl, rfl, by omega, ?_⟩
      repeat' (walk_at "pt 1")
      refine s1_retD ?_
      repeat' (walk_at "pt 1")
      exact ⟨_, List.sublist_cons_self _ _, q _ (by omega)⟩
  | pair u v =>
    have hps := Tm.parts_size (.pair u v)
    have hpl2 := Tm.parts_len (.pair u v)
    have hsd : ∀ u ∈ ss, u.dep ≤ 64 := fun z hz => by
      obtain ⟨i, hi, e⟩ := List.mem_iff_getElem.mp hz
      have hi2 : i < (Tm.parts (.pair u v)).length := by omega
      obtain ⟨z', e1, e2⟩ := hss i _ (List.getElem?_eq_getElem hi2)
      rw [List.getElem?_eq_getElem hi] at e1
      cases e1
      rw [e] at e2
      have := (good.part (List.getElem_mem hi2) he).kd e2
      omega
    simp only [Tm.t]
    refine sw_cons ?_
    repeat' (walk_at "pt 1")
    refine fc0 ⟨by omega, (.pair u v), rfl, ?_⟩
    generalize hps0 : (Tm.parts (.pair u v)) = ps at *
    repeat' (walk_at "pt 1")
    refine s1_setLc (i := 8) (own := [("k", 9)]) (g := gName 9) (up := up1 9) rfl scProved.nd rfl ?_ (fun s1 H1 C1 cl1 fp1 => pg_name scProved.nd rfl (.inl rfl)) (tgt1 (by simp)) ?_
    · show BlkOk ["term", "givens", "theorems", "place", "found", "kind", "told", "parts", "row", "k"] (defScope (top 25)) _ _
      exact ⟨rfl, by decide +kernel, by decide +kernel, by decide +kernel, by decide +kernel⟩
    refine iw_range1 M.range ?_
    repeat' (walk_at "pt 1")
    refine ⟨by rw [List.length_map]; omega, ?_⟩
    refine ⟨fun i acc S1 => ∃ kvs' : List (List Key × T), acc = (ss.take i).map Say.t ∧ S1 = [(fo, .dt kvs')] ∧ kvs'.length ≤ kvs.length + ((ps.take i).map Tm.size).sum, ⟨kvs, rfl, rfl, by simp⟩, fun _ _ _ _ => trivial, ?_, ?_⟩
    · rintro i z acc S2 hz ⟨kvs', rfl, rfl, hl⟩
      have hi : i < ps.length := by
        have := (List.getElem?_eq_some_iff.mp hz).1
        simp [rng] at this
        omega
      have hz' : z = .int (0 + (i : Int)) := by
        have : (rng 0 (((ps.map Tm.t).length : Int).toNat))[i]? = some (T.int (0 + (i : Int))) := by simp [rng, hi]
        rw [hz] at this
        exact Option.some.inj this
      subst hz'
      obtain ⟨si, e1, e2⟩ := hss i ps[i] (List.getElem?_eq_getElem hi)
      have hmem : ps[i] ∈ ps := List.getElem_mem hi
      have hmem' : ps[i] ∈ Tm.parts (.pair u v) := by rw [hps0]; exact hmem
      have hat : atI (ps.map Tm.t) (0 + (i : Int)) = some (ps[i]).t := by
        rw [Int.zero_add]
        exact atI_nat (by rw [List.getElem?_map, List.getElem?_eq_getElem hi]; rfl)
      have hpd' := hpd _ hmem
      have hdp := Tm.parts_dep hmem'
      have hsum : ((ps.take (i + 1)).map Tm.size).sum = ((ps.take i).map Tm.size).sum + (ps[i]).size := by
        rw [List.take_add_one, List.getElem?_eq_getElem hi, List.map_append, List.sum_append]; simp
      have hle : ((ps.take (i + 1)).map Tm.size).sum ≤ (ps.map Tm.size).sum := by
        have : ps.map Tm.size = (ps.take (i + 1)).map Tm.size ++ (ps.drop (i + 1)).map Tm.size := by rw [← List.map_append, List.take_append_drop]
        rw [this, List.sum_append]; omega
      refine ⟨by rw [List.length_map, List.length_take]; omega, _, rfl, fun s1 H1 C1 cl1 fp1 => tsw_nil (tst_t rfl fun s2 H2 C2 cl2 fp2 => ?_)⟩
      repeat' (walk_at "pt 1")
      refine xw_tup (t := (ps[i]).t) hat ?_ (fun _ _ => rfl)
      repeat' (walk_at "pt 1")
      refine ew_tupK ?_
      repeat' (walk_at "pt 1")
      refine ⟨[.inl (0 + (i : Int))], rfl, by simp, ?_⟩
      refine bw_catK (by simp; omega) ?_
      repeat' (walk_at "pt 1")
      refine ⟨[], [(fo, .dt kvs')], [], [(g, .dk G.t)], rfl, fun p hp => by rw [List.mem_singleton.mp hp]; exact .inl hg, ps[i], g, fo, G, th, pl ++ [.inl (0 + (i : Int))], kvs', si, m, rfl, rfl, .head _, hpd', good.part hmem' he, by simp; omega, by omega, e2, fun kvs'' h2 => ?_⟩
      refine ⟨kvs'', ?_, rfl, by omega⟩
      rw [List.take_add_one, e1, List.map_append]; rfl
    · rintro acc S2 ⟨kvs', rfl, rfl, hl⟩ qr hqr
      have hlr : (rng 0 (((ps.map Tm.t).length : Int).toNat)).length = ps.length := by simp [rng]
      rw [hlr] at hl
      rw [hlr, ← hsl, List.take_length]
      rw [List.take_length] at hl
      repeat' (walk_at "pt 1")
      refine fc1 (qr, .lst (ss.map Say.t)) (.inl (.head _)) ⟨by omega, (.pair u v), qr, ss, .kt pl, s, rfl, .head _, hsd, hj, ?_⟩
      repeat' (walk_at "pt 1")
      refine s1_dputT (hu_of hr) ?_
      refine ew_tup ?_
      repeat' (walk_at "pt 1")
      have hpt := putT_length kvs' pl (.tup [.ref g, s.t])
      refine ⟨fo, [(qr, _)], [], kvs', pl, rfl, rfl, rfl, by omega, ?_⟩
      repeat' (walk_at "pt 1")
      refine s1_retD ?_
      repeat' (walk_at "pt 1")
      exact ⟨_, List.sublist_cons_self _ _, q _ (by omega)⟩
  | fst u =>
    have hps := Tm.parts_size (.fst u)
    have hpl2 := Tm.parts_len (.fst u)
    have hsd : ∀ u ∈ ss, u.dep ≤ 64 := fun z hz => by
      obtain ⟨i, hi, e⟩ := List.mem_iff_getElem.mp hz
      have hi2 : i < (Tm.parts (.fst u)).length := by omega
      obtain ⟨z', e1, e2⟩ := hss i _ (List.getElem?_eq_getElem hi2)
      rw [List.getElem?_eq_getElem hi] at e1
      cases e1
      rw [e] at e2
      have := (good.part (List.getElem_mem hi2) he).kd e2
      omega
    simp only [Tm.t]
    refine sw_cons ?_
    repeat' (walk_at "pt 1")
    refine fc0 ⟨by omega, (.fst u), rfl, ?_⟩
    generalize hps0 : (Tm.parts (.fst u)) = ps at *
    repeat' (walk_at "pt 1")
    refine s1_setLc (i := 8) (own := [("k", 9)]) (g := gName 9) (up := up1 9) rfl scProved.nd rfl ?_ (fun s1 H1 C1 cl1 fp1 => pg_name scProved.nd rfl (.inl rfl)) (tgt1 (by simp)) ?_
    · show BlkOk ["term", "givens", "theorems", "place", "found", "kind", "told", "parts", "row", "k"] (defScope (top 25)) _ _
      exact ⟨rfl, by decide +kernel, by decide +kernel, by decide +kernel, by decide +kernel⟩
    refine iw_range1 M.range ?_
    repeat' (walk_at "pt 1")
    refine ⟨by rw [List.length_map]; omega, ?_⟩
    refine ⟨fun i acc S1 => ∃ kvs' : List (List Key × T), acc = (ss.take i).map Say.t ∧ S1 = [(fo, .dt kvs')] ∧ kvs'.length ≤ kvs.length + ((ps.take i).map Tm.size).sum, ⟨kvs, rfl, rfl, by simp⟩, fun _ _ _ _ => trivial, ?_, ?_⟩
    · rintro i z acc S2 hz ⟨kvs', rfl, rfl, hl⟩
      have hi : i < ps.length := by
        have := (List.getElem?_eq_some_iff.mp hz).1
        simp [rng] at this
        omega
      have hz' : z = .int (0 + (i : Int)) := by
        have : (rng 0 (((ps.map Tm.t).length : Int).toNat))[i]? = some (T.int (0 + (i : Int))) := by simp [rng, hi]
        rw [hz] at this
        exact Option.some.inj this
      subst hz'
      obtain ⟨si, e1, e2⟩ := hss i ps[i] (List.getElem?_eq_getElem hi)
      have hmem : ps[i] ∈ ps := List.getElem_mem hi
      have hmem' : ps[i] ∈ Tm.parts (.fst u) := by rw [hps0]; exact hmem
      have hat : atI (ps.map Tm.t) (0 + (i : Int)) = some (ps[i]).t := by
        rw [Int.zero_add]
        exact atI_nat (by rw [List.getElem?_map, List.getElem?_eq_getElem hi]; rfl)
      have hpd' := hpd _ hmem
      have hdp := Tm.parts_dep hmem'
      have hsum : ((ps.take (i + 1)).map Tm.size).sum = ((ps.take i).map Tm.size).sum + (ps[i]).size := by
        rw [List.take_add_one, List.getElem?_eq_getElem hi, List.map_append, List.sum_append]; simp
      have hle : ((ps.take (i + 1)).map Tm.size).sum ≤ (ps.map Tm.size).sum := by
        have : ps.map Tm.size = (ps.take (i + 1)).map Tm.size ++ (ps.drop (i + 1)).map Tm.size := by rw [← List.map_append, List.take_append_drop]
        rw [this, List.sum_append]; omega
      refine ⟨by rw [List.length_map, List.length_take]; omega, _, rfl, fun s1 H1 C1 cl1 fp1 => tsw_nil (tst_t rfl fun s2 H2 C2 cl2 fp2 => ?_)⟩
      repeat' (walk_at "pt 1")
      refine xw_tup (t := (ps[i]).t) hat ?_ (fun _ _ => rfl)
      repeat' (walk_at "pt 1")
      refine ew_tupK ?_
      repeat' (walk_at "pt 1")
      refine ⟨[.inl (0 + (i : Int))], rfl, by simp, ?_⟩
      refine bw_catK (by simp; omega) ?_
      repeat' (walk_at "pt 1")
      refine ⟨[], [(fo, .dt kvs')], [], [(g, .dk G.t)], rfl, fun p hp => by rw [List.mem_singleton.mp hp]; exact .inl hg, ps[i], g, fo, G, th, pl ++ [.inl (0 + (i : Int))], kvs', si, m, rfl, rfl, .head _, hpd', good.part hmem' he, by simp; omega, by omega, e2, fun kvs'' h2 => ?_⟩
      refine ⟨kvs'', ?_, rfl, by omega⟩
      rw [List.take_add_one, e1, List.map_append]; rfl
    · rintro acc S2 ⟨kvs', rfl, rfl, hl⟩ qr hqr
      have hlr : (rng 0 (((ps.map Tm.t).length : Int).toNat)).length = ps.length := by simp [rng]
      rw [hlr] at hl
      rw [hlr, ← hsl, List.take_length]
      rw [List.take_length] at hl
      repeat' (walk_at "pt 1")
      refine fc1 (qr, .lst (ss.map Say.t)) (.inl (.head _)) ⟨by omega, (.fst u), qr, ss, .kt pl, s, rfl, .head _, hsd, hj, ?_⟩
      repeat' (walk_at "pt 1")
      refine s1_dputT (hu_of hr) ?_
      refine ew_tup ?_
      repeat' (walk_at "pt 1")
      have hpt := putT_length kvs' pl (.tup [.ref g, s.t])
      refine ⟨fo, [(qr, _)], [], kvs', pl, rfl, rfl, rfl, by omega, ?_⟩
      repeat' (walk_at "pt 1")
      refine s1_retD ?_
      repeat' (walk_at "pt 1")
      exact ⟨_, List.sublist_cons_self _ _, q _ (by omega)⟩
  | snd u =>
    have hps := Tm.parts_size (.snd u)
    have hpl2 := Tm.parts_len (.snd u)
    have hsd : ∀ u ∈ ss, u.dep ≤ 64 := fun z hz => by
      obtain ⟨i, hi, e⟩ := List.mem_iff_getElem.mp hz
      have hi2 : i < (Tm.parts (.snd u)).length := by omega
      obtain ⟨z', e1, e2⟩ := hss i _ (List.getElem?_eq_getElem hi2)
      rw [List.getElem?_eq_getElem hi] at e1
      cases e1
      rw [e] at e2
      have := (good.part (List.getElem_mem hi2) he).kd e2
      omega
    simp only [Tm.t]
    refine sw_cons ?_
    repeat' (walk_at "pt 1")
    refine fc0 ⟨by omega, (.snd u), rfl, ?_⟩
    generalize hps0 : (Tm.parts (.snd u)) = ps at *
    repeat' (walk_at "pt 1")
    refine s1_setLc (i := 8) (own := [("k", 9)]) (g := gName 9) (up := up1 9) rfl scProved.nd rfl ?_ (fun s1 H1 C1 cl1 fp1 => pg_name scProved.nd rfl (.inl rfl)) (tgt1 (by simp)) ?_
    · show BlkOk ["term", "givens", "theorems", "place", "found", "kind", "told", "parts", "row", "k"] (defScope (top 25)) _ _
      exact ⟨rfl, by decide +kernel, by decide +kernel, by decide +kernel, by decide +kernel⟩
    refine iw_range1 M.range ?_
    repeat' (walk_at "pt 1")
    refine ⟨by rw [List.length_map]; omega, ?_⟩
    refine ⟨fun i acc S1 => ∃ kvs' : List (List Key × T), acc = (ss.take i).map Say.t ∧ S1 = [(fo, .dt kvs')] ∧ kvs'.length ≤ kvs.length + ((ps.take i).map Tm.size).sum, ⟨kvs, rfl, rfl, by simp⟩, fun _ _ _ _ => trivial, ?_, ?_⟩
    · rintro i z acc S2 hz ⟨kvs', rfl, rfl, hl⟩
      have hi : i < ps.length := by
        have := (List.getElem?_eq_some_iff.mp hz).1
        simp [rng] at this
        omega
      have hz' : z = .int (0 + (i : Int)) := by
        have : (rng 0 (((ps.map Tm.t).length : Int).toNat))[i]? = some (T.int (0 + (i : Int))) := by simp [rng, hi]
        rw [hz] at this
        exact Option.some.inj this
      subst hz'
      obtain ⟨si, e1, e2⟩ := hss i ps[i] (List.getElem?_eq_getElem hi)
      have hmem : ps[i] ∈ ps := List.getElem_mem hi
      have hmem' : ps[i] ∈ Tm.parts (.snd u) := by rw [hps0]; exact hmem
      have hat : atI (ps.map Tm.t) (0 + (i : Int)) = some (ps[i]).t := by
        rw [Int.zero_add]
        exact atI_nat (by rw [List.getElem?_map, List.getElem?_eq_getElem hi]; rfl)
      have hpd' := hpd _ hmem
      have hdp := Tm.parts_dep hmem'
      have hsum : ((ps.take (i + 1)).map Tm.size).sum = ((ps.take i).map Tm.size).sum + (ps[i]).size := by
        rw [List.take_add_one, List.getElem?_eq_getElem hi, List.map_append, List.sum_append]; simp
      have hle : ((ps.take (i + 1)).map Tm.size).sum ≤ (ps.map Tm.size).sum := by
        have : ps.map Tm.size = (ps.take (i + 1)).map Tm.size ++ (ps.drop (i + 1)).map Tm.size := by rw [← List.map_append, List.take_append_drop]
        rw [this, List.sum_append]; omega
      refine ⟨by rw [List.length_map, List.length_take]; omega, _, rfl, fun s1 H1 C1 cl1 fp1 => tsw_nil (tst_t rfl fun s2 H2 C2 cl2 fp2 => ?_)⟩
      repeat' (walk_at "pt 1")
      refine xw_tup (t := (ps[i]).t) hat ?_ (fun _ _ => rfl)
      repeat' (walk_at "pt 1")
      refine ew_tupK ?_
      repeat' (walk_at "pt 1")
      refine ⟨[.inl (0 + (i : Int))], rfl, by simp, ?_⟩
      refine bw_catK (by simp; omega) ?_
      repeat' (walk_at "pt 1")
      refine ⟨[], [(fo, .dt kvs')], [], [(g, .dk G.t)], rfl, fun p hp => by rw [List.mem_singleton.mp hp]; exact .inl hg, ps[i], g, fo, G, th, pl ++ [.inl (0 + (i : Int))], kvs', si, m, rfl, rfl, .head _, hpd', good.part hmem' he, by simp; omega, by omega, e2, fun kvs'' h2 => ?_⟩
      refine ⟨kvs'', ?_, rfl, by omega⟩
      rw [List.take_add_one, e1, List.map_append]; rfl
    · rintro acc S2 ⟨kvs', rfl, rfl, hl⟩ qr hqr
      have hlr : (rng 0 (((ps.map Tm.t).length : Int).toNat)).length = ps.length := by simp [rng]
      rw [hlr] at hl
      rw [hlr, ← hsl, List.take_length]
      rw [List.take_length] at hl
      repeat' (walk_at "pt 1")
      refine fc1 (qr, .lst (ss.map Say.t)) (.inl (.head _)) ⟨by omega, (.snd u), qr, ss, .kt pl, s, rfl, .head _, hsd, hj, ?_⟩
      repeat' (walk_at "pt 1")
      refine s1_dputT (hu_of hr) ?_
      refine ew_tup ?_
      repeat' (walk_at "pt 1")
      have hpt := putT_length kvs' pl (.tup [.ref g, s.t])
      refine ⟨fo, [(qr, _)], [], kvs', pl, rfl, rfl, rfl, by omega, ?_⟩
      repeat' (walk_at "pt 1")
      refine s1_retD ?_
      repeat' (walk_at "pt 1")
      exact ⟨_, List.sublist_cons_self _ _, q _ (by omega)⟩
  | inl u v =>
    have hps := Tm.parts_size (.inl u v)
    have hpl2 := Tm.parts_len (.inl u v)
    have hsd : ∀ u ∈ ss, u.dep ≤ 64 := fun z hz => by
      obtain ⟨i, hi, e⟩ := List.mem_iff_getElem.mp hz
      have hi2 : i < (Tm.parts (.inl u v)).length := by omega
      obtain ⟨z', e1, e2⟩ := hss i _ (List.getElem?_eq_getElem hi2)
      rw [List.getElem?_eq_getElem hi] at e1
      cases e1
      rw [e] at e2
      have := (good.part (List.getElem_mem hi2) he).kd e2
      omega
    simp only [Tm.t]
    refine sw_cons ?_
    repeat' (walk_at "pt 1")
    refine fc0 ⟨by omega, (.inl u v), rfl, ?_⟩
    generalize hps0 : (Tm.parts (.inl u v)) = ps at *
    repeat' (walk_at "pt 1")
    refine s1_setLc (i := 8) (own := [("k", 9)]) (g := gName 9) (up := up1 9) rfl scProved.nd rfl ?_ (fun s1 H1 C1 cl1 fp1 => pg_name scProved.nd rfl (.inl rfl)) (tgt1 (by simp)) ?_
    · show BlkOk ["term", "givens", "theorems", "place", "found", "kind", "told", "parts", "row", "k"] (defScope (top 25)) _ _
      exact ⟨rfl, by decide +kernel, by decide +kernel, by decide +kernel, by decide +kernel⟩
    refine iw_range1 M.range ?_
    repeat' (walk_at "pt 1")
    refine ⟨by rw [List.length_map]; omega, ?_⟩
    refine ⟨fun i acc S1 => ∃ kvs' : List (List Key × T), acc = (ss.take i).map Say.t ∧ S1 = [(fo, .dt kvs')] ∧ kvs'.length ≤ kvs.length + ((ps.take i).map Tm.size).sum, ⟨kvs, rfl, rfl, by simp⟩, fun _ _ _ _ => trivial, ?_, ?_⟩
    · rintro i z acc S2 hz ⟨kvs', rfl, rfl, hl⟩
      have hi : i < ps.length := by
        have := (List.getElem?_eq_some_iff.mp hz).1
        simp [rng] at this
        omega
      have hz' : z = .int (0 + (i : Int)) := by
        have : (rng 0 (((ps.map Tm.t).length : Int).toNat))[i]? = some (T.int (0 + (i : Int))) := by simp [rng, hi]
        rw [hz] at this
        exact Option.some.inj this
      subst hz'
      obtain ⟨si, e1, e2⟩ := hss i ps[i] (List.getElem?_eq_getElem hi)
      have hmem : ps[i] ∈ ps := List.getElem_mem hi
      have hmem' : ps[i] ∈ Tm.parts (.inl u v) := by rw [hps0]; exact hmem
      have hat : atI (ps.map Tm.t) (0 + (i : Int)) = some (ps[i]).t := by
        rw [Int.zero_add]
        exact atI_nat (by rw [List.getElem?_map, List.getElem?_eq_getElem hi]; rfl)
      have hpd' := hpd _ hmem
      have hdp := Tm.parts_dep hmem'
      have hsum : ((ps.take (i + 1)).map Tm.size).sum = ((ps.take i).map Tm.size).sum + (ps[i]).size := by
        rw [List.take_add_one, List.getElem?_eq_getElem hi, List.map_append, List.sum_append]; simp
      have hle : ((ps.take (i + 1)).map Tm.size).sum ≤ (ps.map Tm.size).sum := by
        have : ps.map Tm.size = (ps.take (i + 1)).map Tm.size ++ (ps.drop (i + 1)).map Tm.size := by rw [← List.map_append, List.take_append_drop]
        rw [this, List.sum_append]; omega
      refine ⟨by rw [List.length_map, List.length_take]; omega, _, rfl, fun s1 H1 C1 cl1 fp1 => tsw_nil (tst_t rfl fun s2 H2 C2 cl2 fp2 => ?_)⟩
      repeat' (walk_at "pt 1")
      refine xw_tup (t := (ps[i]).t) hat ?_ (fun _ _ => rfl)
      repeat' (walk_at "pt 1")
      refine ew_tupK ?_
      repeat' (walk_at "pt 1")
      refine ⟨[.inl (0 + (i : Int))], rfl, by simp, ?_⟩
      refine bw_catK (by simp; omega) ?_
      repeat' (walk_at "pt 1")
      refine ⟨[], [(fo, .dt kvs')], [], [(g, .dk G.t)], rfl, fun p hp => by rw [List.mem_singleton.mp hp]; exact .inl hg, ps[i], g, fo, G, th, pl ++ [.inl (0 + (i : Int))], kvs', si, m, rfl, rfl, .head _, hpd', good.part hmem' he, by simp; omega, by omega, e2, fun kvs'' h2 => ?_⟩
      refine ⟨kvs'', ?_, rfl, by omega⟩
      rw [List.take_add_one, e1, List.map_append]; rfl
    · rintro acc S2 ⟨kvs', rfl, rfl, hl⟩ qr hqr
      have hlr : (rng 0 (((ps.map Tm.t).length : Int).toNat)).length = ps.length := by simp [rng]
      rw [hlr] at hl
      rw [hlr, ← hsl, List.take_length]
      rw [List.take_length] at hl
      repeat' (walk_at "pt 1")
      refine fc1 (qr, .lst (ss.map Say.t)) (.inl (.head _)) ⟨by omega, (.inl u v), qr, ss, .kt pl, s, rfl, .head _, hsd, hj, ?_⟩
      repeat' (walk_at "pt 1")
      refine s1_dputT (hu_of hr) ?_
      refine ew_tup ?_
      repeat' (walk_at "pt 1")
      have hpt := putT_length kvs' pl (.tup [.ref g, s.t])
      refine ⟨fo, [(qr, _)], [], kvs', pl, rfl, rfl, rfl, by omega, ?_⟩
      repeat' (walk_at "pt 1")
      refine s1_retD ?_
      repeat' (walk_at "pt 1")
      exact ⟨_, List.sublist_cons_self _ _, q _ (by omega)⟩
  | inr u v =>
    have hps := Tm.parts_size (.inr u v)
    have hpl2 := Tm.parts_len (.inr u v)
    have hsd : ∀ u ∈ ss, u.dep ≤ 64 := fun z hz => by
      obtain ⟨i, hi, e⟩ := List.mem_iff_getElem.mp hz
      have hi2 : i < (Tm.parts (.inr u v)).length := by omega
      obtain ⟨z', e1, e2⟩ := hss i _ (List.getElem?_eq_getElem hi2)
      rw [List.getElem?_eq_getElem hi] at e1
      cases e1
      rw [e] at e2
      have := (good.part (List.getElem_mem hi2) he).kd e2
      omega
    simp only [Tm.t]
    refine sw_cons ?_
    repeat' (walk_at "pt 1")
    refine fc0 ⟨by omega, (.inr u v), rfl, ?_⟩
    generalize hps0 : (Tm.parts (.inr u v)) = ps at *
    repeat' (walk_at "pt 1")
    refine s1_setLc (i := 8) (own := [("k", 9)]) (g := gName 9) (up := up1 9) rfl scProved.nd rfl ?_ (fun s1 H1 C1 cl1 fp1 => pg_name scProved.nd rfl (.inl rfl)) (tgt1 (by simp)) ?_
    · show BlkOk ["term", "givens", "theorems", "place", "found", "kind", "told", "parts", "row", "k"] (defScope (top 25)) _ _
      exact ⟨rfl, by decide +kernel, by decide +kernel, by decide +kernel, by decide +kernel⟩
    refine iw_range1 M.range ?_
    repeat' (walk_at "pt 1")
    refine ⟨by rw [List.length_map]; omega, ?_⟩
    refine ⟨fun i acc S1 => ∃ kvs' : List (List Key × T), acc = (ss.take i).map Say.t ∧ S1 = [(fo, .dt kvs')] ∧ kvs'.length ≤ kvs.length + ((ps.take i).map Tm.size).sum, ⟨kvs, rfl, rfl, by simp⟩, fun _ _ _ _ => trivial, ?_, ?_⟩
    · rintro i z acc S2 hz ⟨kvs', rfl, rfl, hl⟩
      have hi : i < ps.length := by
        have := (List.getElem?_eq_some_iff.mp hz).1
        simp [rng] at this
        omega
      have hz' : z = .int (0 + (i : Int)) := by
        have : (rng 0 (((ps.map Tm.t).length : Int).toNat))[i]? = some (T.int (0 + (i : Int))) := by simp [rng, hi]
        rw [hz] at this
        exact Option.some.inj this
      subst hz'
      obtain ⟨si, e1, e2⟩ := hss i ps[i] (List.getElem?_eq_getElem hi)
      have hmem : ps[i] ∈ ps := List.getElem_mem hi
      have hmem' : ps[i] ∈ Tm.parts (.inr u v) := by rw [hps0]; exact hmem
      have hat : atI (ps.map Tm.t) (0 + (i : Int)) = some (ps[i]).t := by
        rw [Int.zero_add]
        exact atI_nat (by rw [List.getElem?_map, List.getElem?_eq_getElem hi]; rfl)
      have hpd' := hpd _ hmem
      have hdp := Tm.parts_dep hmem'
      have hsum : ((ps.take (i + 1)).map Tm.size).sum = ((ps.take i).map Tm.size).sum + (ps[i]).size := by
        rw [List.take_add_one, List.getElem?_eq_getElem hi, List.map_append, List.sum_append]; simp
      have hle : ((ps.take (i + 1)).map Tm.size).sum ≤ (ps.map Tm.size).sum := by
        have : ps.map Tm.size = (ps.take (i + 1)).map Tm.size ++ (ps.drop (i + 1)).map Tm.size := by rw [← List.map_append, List.take_append_drop]
        rw [this, List.sum_append]; omega
      refine ⟨by rw [List.length_map, List.length_take]; omega, _, rfl, fun s1 H1 C1 cl1 fp1 => tsw_nil (tst_t rfl fun s2 H2 C2 cl2 fp2 => ?_)⟩
      repeat' (walk_at "pt 1")
      refine xw_tup (t := (ps[i]).t) hat ?_ (fun _ _ => rfl)
      repeat' (walk_at "pt 1")
      refine ew_tupK ?_
      repeat' (walk_at "pt 1")
      refine ⟨[.inl (0 + (i : Int))], rfl, by simp, ?_⟩
      refine bw_catK (by simp; omega) ?_
      repeat' (walk_at "pt 1")
      refine ⟨[], [(fo, .dt kvs')], [], [(g, .dk G.t)], rfl, fun p hp => by rw [List.mem_singleton.mp hp]; exact .inl hg, ps[i], g, fo, G, th, pl ++ [.inl (0 + (i : Int))], kvs', si, m, rfl, rfl, .head _, hpd', good.part hmem' he, by simp; omega, by omega, e2, fun kvs'' h2 => ?_⟩
      refine ⟨kvs'', ?_, rfl, by omega⟩
      rw [List.take_add_one, e1, List.map_append]; rfl
    · rintro acc S2 ⟨kvs', rfl, rfl, hl⟩ qr hqr
      have hlr : (rng 0 (((ps.map Tm.t).length : Int).toNat)).length = ps.length := by simp [rng]
      rw [hlr] at hl
      rw [hlr, ← hsl, List.take_length]
      rw [List.take_length] at hl
      repeat' (walk_at "pt 1")
      refine fc1 (qr, .lst (ss.map Say.t)) (.inl (.head _)) ⟨by omega, (.inr u v), qr, ss, .kt pl, s, rfl, .head _, hsd, hj, ?_⟩
      repeat' (walk_at "pt 1")
      refine s1_dputT (hu_of hr) ?_
      refine ew_tup ?_
      repeat' (walk_at "pt 1")
      have hpt := putT_length kvs' pl (.tup [.ref g, s.t])
      refine ⟨fo, [(qr, _)], [], kvs', pl, rfl, rfl, rfl, by omega, ?_⟩
      repeat' (walk_at "pt 1")
      refine s1_retD ?_
      repeat' (walk_at "pt 1")
      exact ⟨_, List.sublist_cons_self _ _, q _ (by omega)⟩
end
end
end B33

set_option Elab.async false
set_option linter.all false
set_option maxRecDepth 100000
set_option maxHeartbeats 2000000
set_option autoImplicit false
set_option pp.maxSteps 600
namespace B33
open PT PySem L2 PySem.Spec PyProof.Rows
local macro_rules | `(tactic| walk_at "pt rdb") => `(tactic| first
  | (apply Or.inl; exact List.Mem.head _)
  | (apply Or.inl; apply List.Mem.tail; exact List.Mem.head _)
  | (apply Or.inl; apply List.Mem.tail; apply List.Mem.tail; exact List.Mem.head _)
  | (apply Or.inl; apply List.Mem.tail; apply List.Mem.tail; apply List.Mem.tail; exact List.Mem.head _)
  | (apply Or.inl; apply List.Mem.tail; apply List.Mem.tail; apply List.Mem.tail; apply List.Mem.tail; exact List.Mem.head _)
  | (apply Or.inl; apply List.Mem.tail; apply List.Mem.tail; apply List.Mem.tail; apply List.Mem.tail; apply List.Mem.tail; exact List.Mem.head _)
  | (apply Or.inl; apply List.Mem.tail; apply List.Mem.tail; apply List.Mem.tail; apply List.Mem.tail; apply List.Mem.tail; apply List.Mem.tail; exact List.Mem.head _)
  | (apply Or.inl; apply List.Mem.tail; apply List.Mem.tail; apply List.Mem.tail; apply List.Mem.tail; apply List.Mem.tail; apply List.Mem.tail; apply List.Mem.tail; exact List.Mem.head _)
  | (apply Or.inl; apply List.Mem.tail; apply List.Mem.tail; apply List.Mem.tail; apply List.Mem.tail; apply List.Mem.tail; apply List.Mem.tail; apply List.Mem.tail; apply List.Mem.tail; exact List.Mem.head _)
  | (apply Or.inl; apply List.Mem.tail; apply List.Mem.tail; apply List.Mem.tail; apply List.Mem.tail; apply List.Mem.tail; apply List.Mem.tail; apply List.Mem.tail; apply List.Mem.tail; apply List.Mem.tail; exact List.Mem.head _)
  | (apply Or.inr; assumption) | (apply Or.inr; exact List.Mem.head _) | (apply Or.inr; apply List.Mem.tail; exact List.Mem.head _) | fail)
theorem Good.cas {m : Nat} {w : Tm} {x : Nm} {a : Tm} {y : Nm} {b : Tm} {G : Tab} {p q : Say} (h : Good m (.cas w x a y b) G) (hw : kind w G = some (.or p q)) : Good m w G ∧ Good m a (G.ins x p) ∧ Good m b (G.ins y q) := by
  obtain ⟨h1, h2, h3, h4⟩ := h.ts
  obtain ⟨z, rfl⟩ := use_of_dep h1
  have hpq : (Say.or p q).dep ≤ m := Tab.says_get h.gs hw
  simp only [Say.dep] at hpq
  have hd := h.dp
  have hl := h.len
  have i1 := G.ins_length x p
  have i2 := G.ins_length y q
  simp only [Tm.dep] at hd hl
  exact ⟨⟨h2, h.gs, by simp only [Tm.dep]; omega, by simp only [Tm.dep]; omega⟩, ⟨h3, Tab.says_ins h.gs x (by omega), by omega, by omega⟩, ⟨h4, Tab.says_ins h.gs y (by omega), by omega, by omega⟩⟩
section
variable {P : Program} {w : World} {K : PySem.W.Frag} {mg : Str → Option Value} {base : Heap} {n : Nat}
section
local macro_rules | `(tactic| walk_at "pt 1") => `(tactic| first
  | ((with_reducible refine aw_cons (hs := ?hs) (h := ?_)); (case hs => exact rfl))
  | ((with_reducible refine aw_nil (hk := ?_)))
  | ((with_reducible refine ew_var (x := "term") (i := 0) (t := ?t) ?hi ?_ ?hN ?hv ?hd ?hc); (case hi => exact rfl); (case hN => exact rfl); (case hv => first | exact Or.inl rfl | exact Or.inr (Or.inl rfl) | exact Or.inr (Or.inr rfl)); (case hd => decide); (case hc => decide))
  | ((with_reducible refine ew_var (x := "givens") (i := 1) (t := ?t) ?hi ?_ ?hN ?hv ?hd ?hc); (case hi => exact rfl); (case hN => exact rfl); (case hv => first | exact Or.inl rfl | exact Or.inr (Or.inl rfl) | exact Or.inr (Or.inr rfl)); (case hd => decide); (case hc => decide))
  | ((with_reducible refine ew_var (x := "theorems") (i := 2) (t := ?t) ?hi ?_ ?hN ?hv ?hd ?hc); (case hi => exact rfl); (case hN => exact rfl); (case hv => first | exact Or.inl rfl | exact Or.inr (Or.inl rfl) | exact Or.inr (Or.inr rfl)); (case hd => decide); (case hc => decide))
  | ((with_reducible refine ew_var (x := "place") (i := 3) (t := ?t) ?hi ?_ ?hN ?hv ?hd ?hc); (case hi => exact rfl); (case hN => exact rfl); (case hv => first | exact Or.inl rfl | exact Or.inr (Or.inl rfl) | exact Or.inr (Or.inr rfl)); (case hd => decide); (case hc => decide))
  | ((with_reducible refine ew_var (x := "found") (i := 4) (t := ?t) ?hi ?_ ?hN ?hv ?hd ?hc); (case hi => exact rfl); (case hN => exact rfl); (case hv => first | exact Or.inl rfl | exact Or.inr (Or.inl rfl) | exact Or.inr (Or.inr rfl)); (case hd => decide); (case hc => decide))
  | ((with_reducible refine ew_var (x := "kind") (i := 5) (t := ?t) ?hi ?_ ?hN ?hv ?hd ?hc); (case hi => exact rfl); (case hN => exact rfl); (case hv => first | exact Or.inl rfl | exact Or.inr (Or.inl rfl) | exact Or.inr (Or.inr rfl)); (case hd => decide); (case hc => decide))
  | ((with_reducible refine ew_var (x := "told") (i := 6) (t := ?t) ?hi ?_ ?hN ?hv ?hd ?hc); (case hi => exact rfl); (case hN => exact rfl); (case hv => first | exact Or.inl rfl | exact Or.inr (Or.inl rfl) | exact Or.inr (Or.inr rfl)); (case hd => decide); (case hc => decide))
  | ((with_reducible refine ew_var (x := "parts") (i := 7) (t := ?t) ?hi ?_ ?hN ?hv ?hd ?hc); (case hi => exact rfl); (case hN => exact rfl); (case hv => first | exact Or.inl rfl | exact Or.inr (Or.inl rfl) | exact Or.inr (Or.inr rfl)); (case hd => decide); (case hc => decide))
  | ((with_reducible refine ew_var (x := "row") (i := 8) (t := ?t) ?hi ?_ ?hN ?hv ?hd ?hc); (case hi => exact rfl); (case hN => exact rfl); (case hv => first | exact Or.inl rfl | exact Or.inr (Or.inl rfl) | exact Or.inr (Or.inr rfl)); (case hd => decide); (case hc => decide))
  | ((with_reducible refine ew_var (x := "k") (i := 9) (t := ?t) ?hi ?_ ?hN ?hv ?hd ?hc); (case hi => exact rfl); (case hN => exact rfl); (case hv => first | exact Or.inl rfl | exact Or.inr (Or.inl rfl) | exact Or.inr (Or.inr rfl)); (case hd => decide); (case hc => decide))
  | ((with_reducible refine ew_sub (h := ?_)))
  | ((with_reducible refine ew_str (hk := ?_)))
  | ((with_reducible refine ew_int (hk := ?_)))
  | ((with_reducible refine tw_cmp (hm := ?hm) (h := ?_)); (case hm => exact rfl))
  | ((with_reducible refine ew_cmp (hm := ?hm) (h := ?_)); (case hm => exact rfl))
  | ((with_reducible refine ew_bin (h := ?_)))
  | ((with_reducible refine ew_call (x := "by_cases") (n := ?n) (con := ?con) (C := ?C) (hr := ?hr) (hg := ?hg) (hdb := ?hdb) (he := ?he) (hpl := ?hpl) (h := ?_)); (case C => exact All.c_by_cases (by assumption)); (case hr => assumption); (case hg => exact rfl); (case hdb => decide); (case he => exact rfl); (case hpl => exact rfl))
  | ((with_reducible refine ew_callF (x := "joined_kind") (n := ?n) (pre := ?pre) (C := ?C) (hr := ?hr) (hg := ?hg) (hdb := ?hdb) (he := ?he) (hpl := ?hpl) (h := ?_)); (case C => exact All.c_joined_kind (by assumption)); (case hr => assumption); (case hg => exact rfl); (case hdb => decide); (case he => exact rfl); (case hpl => exact rfl))
  | ((with_reducible refine ew_callB (x := "len") (id := "len") (hm := ?hm) (hv := ?hv) (hg := ?hg) (hn := ?hn) (hdb := ?hdb) (he := ?he) (hpl := ?hpl) (h := ?_)); (case hm => exact Mg.len (by assumption)); (case hv => exact rfl); (case hg => exact rfl); (case hn => decide); (case hdb => decide); (case he => exact rfl); (case hpl => exact rfl))
  | ((with_reducible refine ew_callF (x := "parts_within") (n := ?n) (pre := ?pre) (C := ?C) (hr := ?hr) (hg := ?hg) (hdb := ?hdb) (he := ?he) (hpl := ?hpl) (h := ?_)); (case C => exact All.c_parts_within (by assumption)); (case hr => assumption); (case hg => exact rfl); (case hdb => decide); (case he => exact rfl); (case hpl => exact rfl))
  | ((with_reducible refine ew_call (x := "proved") (n := ?n) (con := ?con) (C := ?C) (hr := ?hr) (hg := ?hg) (hdb := ?hdb) (he := ?he) (hpl := ?hpl) (h := ?_)); (case C => exact All.c_proved (by assumption)); (case hr => assumption); (case hg => exact rfl); (case hdb => decide); (case he => exact rfl); (case hpl => exact rfl))
  | ((with_reducible refine ew_callF (x := "then") (n := ?n) (pre := ?pre) (C := ?C) (hr := ?hr) (hg := ?hg) (hdb := ?hdb) (he := ?he) (hpl := ?hpl) (h := ?_)); (case C => exact All.c_then (by assumption)); (case hr => assumption); (case hg => exact rfl); (case hdb => decide); (case he => exact rfl); (case hpl => exact rfl))
  | ((with_reducible refine ew_dnewK (h := ?_)))
  | ((with_reducible refine ew_disp1 (h := ?_)))
  | ((with_reducible refine ew_spread (h := ?_)))
  | ((with_reducible refine tw_call (h := ?_)))
  | ((with_reducible refine tw_name (h := ?_)))
  | ((with_reducible refine sw_cons (h := ?_)))
  | ((with_reducible refine sw_nil (h := ?_)))
  | ((with_reducible refine s1_if (h := ?_)))
  | ((with_reducible refine s1_set (x := "kind") (i := 5) ?hN ?hi ?_ ?hx ?hs ?hf); (case hN => exact (scProved).nd); (case hi => exact rfl); (case hx => first | exact Or.inl rfl | exact Or.inr rfl); (case hs => exact rfl); (case hf => first | exact Or.inr rfl | exact Or.inl rfl))
  | ((with_reducible refine s1_set (x := "told") (i := 6) ?hN ?hi ?_ ?hx ?hs ?hf); (case hN => exact (scProved).nd); (case hi => exact rfl); (case hx => first | exact Or.inl rfl | exact Or.inr rfl); (case hs => exact rfl); (case hf => first | exact Or.inr rfl | exact Or.inl rfl))
  | ((with_reducible refine s1_set (x := "parts") (i := 7) ?hN ?hi ?_ ?hx ?hs ?hf); (case hN => exact (scProved).nd); (case hi => exact rfl); (case hx => first | exact Or.inl rfl | exact Or.inr rfl); (case hs => exact rfl); (case hf => first | exact Or.inr rfl | exact Or.inl rfl))
  | ((with_reducible refine s1_set (x := "row") (i := 8) ?hN ?hi ?_ ?hx ?hs ?hf); (case hN => exact (scProved).nd); (case hi => exact rfl); (case hx => first | exact Or.inl rfl | exact Or.inr rfl); (case hs => exact rfl); (case hf => first | exact Or.inr rfl | exact Or.inl rfl))
  | ((with_reducible refine s1_set (x := "k") (i := 9) ?hN ?hi ?_ ?hx ?hs ?hf); (case hN => exact (scProved).nd); (case hi => exact rfl); (case hx => first | exact Or.inl rfl | exact Or.inr rfl); (case hs => exact rfl); (case hf => first | exact Or.inr rfl | exact Or.inl rfl))
  | ((with_reducible refine bw_eqs (h := ?h) (hk := ?_)); (case h => exact rfl))
  | ((with_reducible refine bw_nes (h := ?h) (hk := ?_)); (case h => exact rfl))
  | ((with_reducible refine bw_add (hk := ?_)))
  | ((with_reducible refine xw_tup (t := ?t) (he := ?he) (hs := ?hs) (hk := ?_)); (case he => first | exact rfl | exact atT0 | exact atT1); (case hs => exact fun _ _ => rfl))
  | ((with_reducible refine xw_lst (ts := ?ts) (t := ?t) (hp := ?hp) (he := ?he) (hs := ?hs) (hk := ?_)); (case hp => walk_at "pt rdb"); (case he => first | exact rfl | exact atT0 | exact atT1); (case hs => exact fun _ _ => rfl))
  | ((with_reducible refine cw_lenT (hk := ?_)))
  | ((with_reducible refine And.intro ?hx ?_); (case hx => exact Nat.le_of_ble_eq_true rfl))
  | (with_reducible refine Exists.intro _ (And.intro rfl ?_))
  | (refine tst_t (by decide +kernel) ?_)
  | (refine tst_f (by decide +kernel) ?_)
  | (refine Exists.intro _ (Exists.intro _ (And.intro rfl (And.intro (by walk_at "pt rdb") ?_))))
  | fail)
theorem ok_proved (M : Mg mg) (D : Df K mg "proved" (top 25) ["term", "givens", "theorems", "place", "found"]) (C : All P w K mg base n) : Cl P w K mg base (n + 1) "proved" (cProved (n + 1)) := by
  refine cl_of D scProved (fun ts F S k h => ?_) (fun a hr ts F S k h => ?_)
  · obtain ⟨_, _, _, _, _, _, _, _, _, rfl, _⟩ := h; rfl
  obtain ⟨t, g, fo, G, th, pl, kvs, s, m, rfl, rfl, hg, hn, good, hpl, hkv, hk, q⟩ := h
  have q : ∀ kvs' : List (List Key × T), kvs'.length ≤ kvs.length + t.size → k s.t [(fo, .dt kvs')] := q
  by_cases he : isElse t = true
  · exact proved_else M C a hr F k t g fo G th pl kvs s m hg hn good hpl hkv hk q he
  · have hsz := t.size_pos
    cases t with
    | use x =>
      have hv : valT G.t (.inr x.s) = some s.t := by rw [Tab.val, show G.get x = some s from hk]; rfl
      simp only [Tm.t]
      refine sw_cons ?_
      repeat' (walk_at "pt 1")
      refine bw_notinD (kk := .inr x.s) (hu_of hr) (.inr hg) ?_
      rw [hv]
      refine ⟨_, rfl, tst_f rfl ?_⟩
      repeat' (walk_at "pt 1")
      refine xw_dk (kk := .inr x.s) (hu_of hr) (.inr hg) hv ?_
      repeat' (walk_at "pt 1")
      refine s1_dputT (hu_of hr) ?_
      refine ew_tup ?_
      repeat' (walk_at "pt 1")
      have hpt := putT_length kvs pl (.tup [.ref g, s.t])
      refine ⟨fo, [], [], kvs, pl, rfl, rfl, rfl, by omega, ?_⟩
      repeat' (walk_at "pt 1")
      refine s1_retD ?_
      repeat' (walk_at "pt 1")
      exact ⟨_, List.Sublist.refl _, q _ (by omega)⟩
    | take x u b =>
      obtain ⟨v, hv, rfl⟩ := kind_take hk
      have hd : (Tm.take x u b).dep = max u.dep b.dep + 1 := rfl
      have hz : (Tm.take x u b).size = b.size + 1 := rfl
      have hl := good.len
      have hGl : G.t.length = G.length := by simp [Tab.t]
      simp only [Tm.t]
      refine sw_cons ?_
      repeat' (walk_at "pt 1")
      refine ⟨by omega, ?_⟩
      repeat' (walk_at "pt 1")
      refine ⟨.inr x.s, rfl, fun g2 hg2 => ?_⟩
      rw [Tab.put]
      repeat' (walk_at "pt 1")
      refine ew_tupK ?_
      repeat' (walk_at "pt 1")
      refine ⟨[.inl 0], rfl, by simp, ?_⟩
      refine bw_catK (by simp; omega) ?_
      repeat' (walk_at "pt 1")
      refine ⟨[(g2, .dk (G.ins x u).t)], [(fo, .dt kvs)], [], [(g2, .dk (G.ins x u).t)], rfl, fun p hp => .inr (.inl hp), b, g2, fo, G.ins x u, th, pl ++ [.inl 0], kvs, v, m, rfl, rfl, .head _, by omega, good.take, by simp; omega, by omega, hv, fun kvs' h2 => ?_⟩
      repeat' (walk_at "pt 1")
      refine fc0 ⟨by omega, _, _, rfl, ?_⟩
      repeat' (walk_at "pt 1")
      refine s1_dputT (hu_of hr) ?_
      refine ew_tup ?_
      repeat' (walk_at "pt 1")
      have hpt := putT_length kvs' pl (.tup [.ref g, .tup [.str "then", u.t, v.t]])
      refine ⟨fo, [(g2, _)], [], kvs', pl, rfl, rfl, rfl, by omega, ?_⟩
      repeat' (walk_at "pt 1")
      refine s1_retD ?_
      repeat' (walk_at "pt 1")
      exact ⟨_, List.sublist_cons_self _ _, q _ (by omega)⟩
    | cas w x b y c =>
      simp only [Tm.t]
      refine sw_cons ?_
      repeat' (walk_at "pt 1")
      refine ⟨[], [(fo, .dt kvs)], [], [(g, .dk G.t)], rfl, fun p hp => by rw [List.mem_singleton.mp hp]; exact .inl hg, w, x, b, y, c, g, fo, G, th, pl, kvs, s, m, rfl, rfl, .head _, by omega, good, hpl, hkv, hk, fun kvs' h2 => ?_⟩
      repeat' (walk_at "pt 1")
      refine s1_dputT (hu_of hr) ?_
      refine ew_tup ?_
      repeat' (walk_at "pt 1")
      have hpt := putT_length kvs' pl (.tup [.ref g, s.t])
      refine ⟨fo, [], [], kvs', pl, rfl, rfl, rfl, by omega, ?_⟩
      repeat' (walk_at "pt 1")
      refine s1_retD ?_
      repeat' (walk_at "pt 1")
      exact ⟨_, List.Sublist.refl _, q _ (by omega)⟩
    | _ => exact absurd rfl he
end
section
theorem scCases : FnScope ["term", "givens", "theorems", "place", "found", "whole", "one", "other"] ["term", "givens", "theorems", "place", "found"] (defScope (top 27)) := ⟨rfl, rfl, rfl, by decide +kernel, rfl, by decide +kernel, by decide +kernel⟩
local macro_rules | `(tactic| walk_at "pt 1") => `(tactic| first
  | ((with_reducible refine aw_cons (hs := ?hs) (h := ?_)); (case hs => exact rfl))
  | ((with_reducible refine aw_nil (hk := ?_)))
  | ((with_reducible refine ew_var (x := "term") (i := 0) (t := ?t) ?hi ?_ ?hN ?hv ?hd ?hc); (case hi => exact rfl); (case hN => exact rfl); (case hv => first | exact Or.inl rfl | exact Or.inr (Or.inl rfl) | exact Or.inr (Or.inr rfl)); (case hd => decide); (case hc => decide))
  | ((with_reducible refine ew_var (x := "givens") (i := 1) (t := ?t) ?hi ?_ ?hN ?hv ?hd ?hc); (case hi => exact rfl); (case hN => exact rfl); (case hv => first | exact Or.inl rfl | exact Or.inr (Or.inl rfl) | exact Or.inr (Or.inr rfl)); (case hd => decide); (case hc => decide))
  | ((with_reducible refine ew_var (x := "theorems") (i := 2) (t := ?t) ?hi ?_ ?hN ?hv ?hd ?hc); (case hi => exact rfl); (case hN => exact rfl); (case hv => first | exact Or.inl rfl | exact Or.inr (Or.inl rfl) | exact Or.inr (Or.inr rfl)); (case hd => decide); (case hc => decide))
  | ((with_reducible refine ew_var (x := "place") (i := 3) (t := ?t) ?hi ?_ ?hN ?hv ?hd ?hc); (case hi => exact rfl); (case hN => exact rfl); (case hv => first | exact Or.inl rfl | exact Or.inr (Or.inl rfl) | exact Or.inr (Or.inr rfl)); (case hd => decide); (case hc => decide))
  | ((with_reducible refine ew_var (x := "found") (i := 4) (t := ?t) ?hi ?_ ?hN ?hv ?hd ?hc); (case hi => exact rfl); (case hN => exact rfl); (case hv => first | exact Or.inl rfl | exact Or.inr (Or.inl rfl) | exact Or.inr (Or.inr rfl)); (case hd => decide); (case hc => decide))
  | ((with_reducible refine ew_var (x := "whole") (i := 5) (t := ?t) ?hi ?_ ?hN ?hv ?hd ?hc); (case hi => exact rfl); (case hN => exact rfl); (case hv => first | exact Or.inl rfl | exact Or.inr (Or.inl rfl) | exact Or.inr (Or.inr rfl)); (case hd => decide); (case hc => decide))
  | ((with_reducible refine ew_var (x := "one") (i := 6) (t := ?t) ?hi ?_ ?hN ?hv ?hd ?hc); (case hi => exact rfl); (case hN => exact rfl); (case hv => first | exact Or.inl rfl | exact Or.inr (Or.inl rfl) | exact Or.inr (Or.inr rfl)); (case hd => decide); (case hc => decide))
  | ((with_reducible refine ew_var (x := "other") (i := 7) (t := ?t) ?hi ?_ ?hN ?hv ?hd ?hc); (case hi => exact rfl); (case hN => exact rfl); (case hv => first | exact Or.inl rfl | exact Or.inr (Or.inl rfl) | exact Or.inr (Or.inr rfl)); (case hd => decide); (case hc => decide))
  | ((with_reducible refine ew_sub (h := ?_)))
  | ((with_reducible refine ew_str (hk := ?_)))
  | ((with_reducible refine ew_int (hk := ?_)))
  | ((with_reducible refine tw_cmp (hm := ?hm) (h := ?_)); (case hm => exact rfl))
  | ((with_reducible refine ew_cmp (hm := ?hm) (h := ?_)); (case hm => exact rfl))
  | ((with_reducible refine ew_bin (h := ?_)))
  | ((with_reducible refine ew_call (x := "proved") (n := ?n) (con := ?con) (C := ?C) (hr := ?hr) (hg := ?hg) (hdb := ?hdb) (he := ?he) (hpl := ?hpl) (h := ?_)); (case C => exact All.c_proved (by assumption)); (case hr => assumption); (case hg => exact rfl); (case hdb => decide); (case he => exact rfl); (case hpl => exact rfl))
  | ((with_reducible refine ew_dnewK (h := ?_)))
  | ((with_reducible refine ew_disp1 (h := ?_)))
  | ((with_reducible refine ew_spread (h := ?_)))
  | ((with_reducible refine tw_call (h := ?_)))
  | ((with_reducible refine tw_name (h := ?_)))
  | ((with_reducible refine sw_cons (h := ?_)))
  | ((with_reducible refine sw_nil (h := ?_)))
  | ((with_reducible refine s1_if (h := ?_)))
  | ((with_reducible refine s1_set (x := "whole") (i := 5) ?hN ?hi ?_ ?hx ?hs ?hf); (case hN => exact (scCases).nd); (case hi => exact rfl); (case hx => first | exact Or.inl rfl | exact Or.inr rfl); (case hs => exact rfl); (case hf => first | exact Or.inr rfl | exact Or.inl rfl))
  | ((with_reducible refine s1_set (x := "one") (i := 6) ?hN ?hi ?_ ?hx ?hs ?hf); (case hN => exact (scCases).nd); (case hi => exact rfl); (case hx => first | exact Or.inl rfl | exact Or.inr rfl); (case hs => exact rfl); (case hf => first | exact Or.inr rfl | exact Or.inl rfl))
  | ((with_reducible refine s1_set (x := "other") (i := 7) ?hN ?hi ?_ ?hx ?hs ?hf); (case hN => exact (scCases).nd); (case hi => exact rfl); (case hx => first | exact Or.inl rfl | exact Or.inr rfl); (case hs => exact rfl); (case hf => first | exact Or.inr rfl | exact Or.inl rfl))
  | ((with_reducible refine bw_nes (h := ?h) (hk := ?_)); (case h => exact rfl))
  | ((with_reducible refine bw_add (hk := ?_)))
  | ((with_reducible refine xw_tup (t := ?t) (he := ?he) (hs := ?hs) (hk := ?_)); (case he => first | exact rfl | exact atT0 | exact atT1); (case hs => exact fun _ _ => rfl))
  | ((with_reducible refine xw_lst (ts := ?ts) (t := ?t) (hp := ?hp) (he := ?he) (hs := ?hs) (hk := ?_)); (case hp => walk_at "pt rdb"); (case he => first | exact rfl | exact atT0 | exact atT1); (case hs => exact fun _ _ => rfl))
  | ((with_reducible refine And.intro ?hx ?_); (case hx => exact Nat.le_of_ble_eq_true rfl))
  | (with_reducible refine Exists.intro _ (And.intro rfl ?_))
  | (refine tst_t (by decide +kernel) ?_)
  | (refine tst_f (by decide +kernel) ?_)
  | (refine Exists.intro _ (Exists.intro _ (And.intro rfl (And.intro (by walk_at "pt rdb") ?_))))
  | fail)
theorem ok_by_cases (D : Df K mg "by_cases" (top 27) ["term", "givens", "theorems", "place", "found"]) (C : All P w K mg base n) : Cl P w K mg base (n + 1) "by_cases" (cCases (n + 1)) := by
  refine cl_of D scCases (fun ts F S k h => ?_) (fun a hr ts F S k h => ?_)
  · obtain ⟨_, _, _, _, _, _, _, _, _, _, _, _, _, rfl, _⟩ := h; rfl
  obtain ⟨v, x, b, y, c, g, fo, G, th, pl, kvs, s, m, rfl, rfl, hg, hn, good, hpl, hkv, hk, q⟩ := h
  have q : ∀ kvs' : List (List Key × T), kvs'.length + 1 ≤ kvs.length + (Tm.cas v x b y c).size → k s.t [(fo, .dt kvs')] := q
  obtain ⟨p, u, h1, h2, h3⟩ := kind_cas hk
  have hd : (Tm.cas v x b y c).dep = max v.dep (max b.dep c.dep) + 1 := rfl
  have hz : (Tm.cas v x b y c).size = v.size + b.size + c.size + 1 := rfl
  obtain ⟨gv, gb, gc⟩ : Good m v G ∧ Good m b (G.ins x p) ∧ Good m c (G.ins y u) := good.cas h1
  have hl := good.len
  have hGl : G.t.length = G.length := by simp [Tab.t]
  have hs63 := Nat.le_trans (good.kd hk) (by decide : 63 ≤ 64)
  have e := Say.eqT hs63 hs63
  rw [decide_eq_true rfl] at e
  simp only [Tm.t]
  refine sw_cons ?_
  repeat' (walk_at "pt 1")
  refine ew_tupK ?_
  repeat' (walk_at "pt 1")
  refine ⟨[.inl 0], rfl, by simp, ?_⟩
  refine bw_catK (by simp; omega) ?_
  repeat' (walk_at "pt 1")
  refine ⟨[], [(fo, .dt kvs)], [], [(g, .dk G.t)], rfl, fun p hp => by rw [List.mem_singleton.mp hp]; exact .inl hg, v, g, fo, G, th, pl ++ [.inl 0], kvs, .or p u, m, rfl, rfl, .head _, by omega, gv, by simp; omega, by omega, h1, fun kv1 l1 => ?_⟩
  simp only [Say.t]
  repeat' (walk_at "pt 1")
  refine ⟨by omega, ?_⟩
  repeat' (walk_at "pt 1")
  refine ⟨.inr x.s, rfl, fun g2 hg2 => ?_⟩
  rw [Tab.put]
  repeat' (walk_at "pt 1")
  refine ew_tupK ?_
  repeat' (walk_at "pt 1")
  refine ⟨[.inl 1], rfl, by simp, ?_⟩
  refine bw_catK (by simp; omega) ?_
  repeat' (walk_at "pt 1")
  refine ⟨[(g2, .dk (G.ins x p).t)], [(fo, .dt kv1)], [], [(g2, .dk (G.ins x p).t)], rfl, fun p hp => .inr (.inl hp), b, g2, fo, G.ins x p, th, pl ++ [.inl 1], kv1, s, m, rfl, rfl, .head _, by omega, gb, by simp; omega, by omega, h2, fun kv2 l2 => ?_⟩
  repeat' (walk_at "pt 1")
  refine ⟨by omega, ?_⟩
  repeat' (walk_at "pt 1")
  refine ⟨.inr y.s, rfl, fun g3 hg3 => ?_⟩
  rw [Tab.put]
  repeat' (walk_at "pt 1")
  refine ew_tupK ?_
  repeat' (walk_at "pt 1")
  refine ⟨[.inl 2], rfl, by simp, ?_⟩
  refine bw_catK (by simp; omega) ?_
  repeat' (walk_at "pt 1")
  refine ⟨[(g3, .dk (G.ins y u).t), (g2, .dk (G.ins x p).t)], [(fo, .dt kv2)], [], [(g3, .dk (G.ins y u).t)], rfl, fun p hp => .inr (.inl (by rw [List.mem_singleton.mp hp]; exact .head _)), c, g3, fo, G.ins y u, th, pl ++ [.inl 2], kv2, s, m, rfl, rfl, .head _, by omega, gc, by simp; omega, by omega, h3, fun kv3 l3 => ?_⟩
  repeat' (walk_at "pt 1")
  refine bw_ned hr.units e ⟨_, rfl, ?_⟩
  repeat' (walk_at "pt 1")
  refine s1_retD ?_
  repeat' (walk_at "pt 1")
  exact ⟨_, (List.sublist_cons_self _ _).trans (List.sublist_cons_self _ _), q _ (by omega)⟩
end
end
end B33

set_option Elab.async false
set_option linter.all false
set_option maxRecDepth 100000
set_option maxHeartbeats 2000000
set_option autoImplicit false
set_option pp.maxSteps 600
namespace B33
open PT PySem L2 PySem.Spec PyProof.Rows
local macro_rules | `(tactic| walk_at "pt rdb") => `(tactic| first
  | (apply Or.inl; exact List.Mem.head _)
  | (apply Or.inl; apply List.Mem.tail; exact List.Mem.head _)
  | (apply Or.inl; apply List.Mem.tail; apply List.Mem.tail; exact List.Mem.head _)
  | (apply Or.inl; apply List.Mem.tail; apply List.Mem.tail; apply List.Mem.tail; exact List.Mem.head _)
  | (apply Or.inl; apply List.Mem.tail; apply List.Mem.tail; apply List.Mem.tail; apply List.Mem.tail; exact List.Mem.head _)
  | (apply Or.inl; apply List.Mem.tail; apply List.Mem.tail; apply List.Mem.tail; apply List.Mem.tail; apply List.Mem.tail; exact List.Mem.head _)
  | (apply Or.inl; apply List.Mem.tail; apply List.Mem.tail; apply List.Mem.tail; apply List.Mem.tail; apply List.Mem.tail; apply List.Mem.tail; exact List.Mem.head _)
  | (apply Or.inl; apply List.Mem.tail; apply List.Mem.tail; apply List.Mem.tail; apply List.Mem.tail; apply List.Mem.tail; apply List.Mem.tail; apply List.Mem.tail; exact List.Mem.head _)
  | (apply Or.inl; apply List.Mem.tail; apply List.Mem.tail; apply List.Mem.tail; apply List.Mem.tail; apply List.Mem.tail; apply List.Mem.tail; apply List.Mem.tail; apply List.Mem.tail; exact List.Mem.head _)
  | (apply Or.inl; apply List.Mem.tail; apply List.Mem.tail; apply List.Mem.tail; apply List.Mem.tail; apply List.Mem.tail; apply List.Mem.tail; apply List.Mem.tail; apply List.Mem.tail; apply List.Mem.tail; exact List.Mem.head _)
  | (apply Or.inr; assumption) | (apply Or.inr; exact List.Mem.head _) | (apply Or.inr; apply List.Mem.tail; exact List.Mem.head _) | fail)
theorem fresh_i {S : Sto} {A : Addr → Prop} (h : ∀ p, p ∉ feet S → A p) : ∀ p, p ∉ feet S → A p := h
section
variable {P : Program} {w : World} {K : PySem.W.Frag} {mg : Str → Option Value} {base : Heap} {n : Nat}
section
theorem scLPut : FnScope ["saying", "table"] ["saying", "table"] (defScope (top 42)) := ⟨rfl, rfl, rfl, by decide +kernel, rfl, by decide +kernel, by decide +kernel⟩
local macro_rules | `(tactic| walk_at "pt 1") => `(tactic| first
  | ((with_reducible refine aw_cons (hs := ?hs) (h := ?_)); (case hs => exact rfl))
  | ((with_reducible refine aw_nil (hk := ?_)))
  | ((with_reducible refine ew_var (x := "saying") (i := 0) (t := ?t) ?hi ?_ ?hN ?hv ?hd ?hc); (case hi => exact rfl); (case hN => exact rfl); (case hv => first | exact Or.inl rfl | exact Or.inr (Or.inl rfl) | exact Or.inr (Or.inr rfl)); (case hd => decide); (case hc => decide))
  | ((with_reducible refine ew_var (x := "table") (i := 1) (t := ?t) ?hi ?_ ?hN ?hv ?hd ?hc); (case hi => exact rfl); (case hN => exact rfl); (case hv => first | exact Or.inl rfl | exact Or.inr (Or.inl rfl) | exact Or.inr (Or.inr rfl)); (case hd => decide); (case hc => decide))
  | ((with_reducible refine ew_sub (h := ?_)))
  | ((with_reducible refine ew_str (hk := ?_)))
  | ((with_reducible refine ew_int (hk := ?_)))
  | ((with_reducible refine ew_tup (h := ?_)))
  | ((with_reducible refine tw_cmp (hm := ?hm) (h := ?_)); (case hm => exact rfl))
  | ((with_reducible refine ew_cmp (hm := ?hm) (h := ?_)); (case hm => exact rfl))
  | ((with_reducible refine ew_callF (x := "_law_put") (n := ?n) (pre := ?pre) (C := ?C) (hr := ?hr) (hg := ?hg) (hdb := ?hdb) (he := ?he) (hpl := ?hpl) (h := ?_)); (case C => exact All.c_law_put (by assumption)); (case hr => assumption); (case hg => exact rfl); (case hdb => decide); (case he => exact rfl); (case hpl => exact rfl))
  | ((with_reducible refine ew_dget2 (hu := ?hu) (m := ?m) (h := ?_)); (case hu => exact hu_of (by assumption)); (case m => exact ⟨rfl, rfl, rfl, rfl⟩))
  | ((with_reducible refine tw_call (h := ?_)))
  | ((with_reducible refine tw_name (h := ?_)))
  | ((with_reducible refine sw_cons (h := ?_)))
  | ((with_reducible refine sw_nil (h := ?_)))
  | ((with_reducible refine s1_ret0 (h := ?_)))
  | ((with_reducible refine s1_if (h := ?_)))
  | ((with_reducible refine bw_eqs (h := ?h) (hk := ?_)); (case h => exact rfl))
  | ((with_reducible refine xw_tup (t := ?t) (he := ?he) (hs := ?hs) (hk := ?_)); (case he => first | exact rfl | exact atT0 | exact atT1); (case hs => exact fun _ _ => rfl))
  | ((with_reducible refine xw_lst (ts := ?ts) (t := ?t) (hp := ?hp) (he := ?he) (hs := ?hs) (hk := ?_)); (case hp => walk_at "pt rdb"); (case he => first | exact rfl | exact atT0 | exact atT1); (case hs => exact fun _ _ => rfl))
  | ((with_reducible refine And.intro ?hx ?_); (case hx => exact Nat.le_of_ble_eq_true rfl))
  | (with_reducible refine Exists.intro _ (And.intro rfl ?_))
  | (refine tst_t (by decide +kernel) ?_)
  | (refine tst_f (by decide +kernel) ?_)
  | (refine Exists.intro _ (Exists.intro _ (And.intro rfl (And.intro (by walk_at "pt rdb") ?_))))
  | fail)
theorem ok_law_put (D : Df K mg "_law_put" (top 42) ["saying", "table"]) (C : All P w K mg base n) : Cl P w K mg base (n + 1) "_law_put" (Fn (pPut (n + 1))) := by
  refine cl_of D scLPut (fun ts F S k h => ?_) (fun a hr ts F S k h => ?_)
  · obtain ⟨_, a, b, _, rfl, _⟩ := h; rfl
  obtain ⟨rfl, s, d, g, rfl, hd, hn, q⟩ := h
  cases s with
  | atom x =>
    simp only [Say.t]
    refine sw_cons ?_
    repeat' (walk_at "pt 1")
    refine ⟨g.t, .inr x.s, rfl, .inr hd, ?_⟩
    rw [← Say.t, put_atom]
    exact q
  | fls =>
    simp only [Say.t]
    refine sw_cons ?_
    repeat' (walk_at "pt 1")
    exact q
  | thn x y =>
    have h1 : x.dep ≤ n := by simp only [Say.dep] at hn; omega
    have h2 : y.dep ≤ n := by simp only [Say.dep] at hn; omega
    simp only [Say.t]
    refine sw_cons ?_
    repeat' (walk_at "pt 1")
    refine fc1 (d, .dk g.t) (.inr hd) ⟨x, d, g, rfl, List.mem_singleton_self _, h1, ?_⟩
    repeat' (walk_at "pt 1")
    refine fc1 (d, .dk g.t) (.inr hd) ⟨y, d, g, rfl, List.mem_singleton_self _, h2, ?_⟩
    repeat' (walk_at "pt 1")
    exact q
  | and x y =>
    have h1 : x.dep ≤ n := by simp only [Say.dep] at hn; omega
    have h2 : y.dep ≤ n := by simp only [Say.dep] at hn; omega
    simp only [Say.t]
    refine sw_cons ?_
    repeat' (walk_at "pt 1")
    refine fc1 (d, .dk g.t) (.inr hd) ⟨x, d, g, rfl, List.mem_singleton_self _, h1, ?_⟩
    repeat' (walk_at "pt 1")
    refine fc1 (d, .dk g.t) (.inr hd) ⟨y, d, g, rfl, List.mem_singleton_self _, h2, ?_⟩
    repeat' (walk_at "pt 1")
    exact q
  | or x y =>
    have h1 : x.dep ≤ n := by simp only [Say.dep] at hn; omega
    have h2 : y.dep ≤ n := by simp only [Say.dep] at hn; omega
    simp only [Say.t]
    refine sw_cons ?_
    repeat' (walk_at "pt 1")
    refine fc1 (d, .dk g.t) (.inr hd) ⟨x, d, g, rfl, List.mem_singleton_self _, h1, ?_⟩
    repeat' (walk_at "pt 1")
    refine fc1 (d, .dk g.t) (.inr hd) ⟨y, d, g, rfl, List.mem_singleton_self _, h2, ?_⟩
    repeat' (walk_at "pt 1")
    exact q
end
section
theorem scHolds : FnScope ["saying", "truths", "one", "other"] ["saying", "truths"] (defScope (top 35)) := ⟨rfl, rfl, rfl, by decide +kernel, rfl, by decide +kernel, by decide +kernel⟩
local macro_rules | `(tactic| walk_at "pt 1") => `(tactic| first
  | ((with_reducible refine aw_cons (hs := ?hs) (h := ?_)); (case hs => exact rfl))
  | ((with_reducible refine aw_nil (hk := ?_)))
  | ((with_reducible refine ew_var (x := "saying") (i := 0) (t := ?t) ?hi ?_ ?hN ?hv ?hd ?hc); (case hi => exact rfl); (case hN => exact rfl); (case hv => first | exact Or.inl rfl | exact Or.inr (Or.inl rfl) | exact Or.inr (Or.inr rfl)); (case hd => decide); (case hc => decide))
  | ((with_reducible refine ew_var (x := "truths") (i := 1) (t := ?t) ?hi ?_ ?hN ?hv ?hd ?hc); (case hi => exact rfl); (case hN => exact rfl); (case hv => first | exact Or.inl rfl | exact Or.inr (Or.inl rfl) | exact Or.inr (Or.inr rfl)); (case hd => decide); (case hc => decide))
  | ((with_reducible refine ew_var (x := "one") (i := 2) (t := ?t) ?hi ?_ ?hN ?hv ?hd ?hc); (case hi => exact rfl); (case hN => exact rfl); (case hv => first | exact Or.inl rfl | exact Or.inr (Or.inl rfl) | exact Or.inr (Or.inr rfl)); (case hd => decide); (case hc => decide))
  | ((with_reducible refine ew_var (x := "other") (i := 3) (t := ?t) ?hi ?_ ?hN ?hv ?hd ?hc); (case hi => exact rfl); (case hN => exact rfl); (case hv => first | exact Or.inl rfl | exact Or.inr (Or.inl rfl) | exact Or.inr (Or.inr rfl)); (case hd => decide); (case hc => decide))
  | ((with_reducible refine ew_sub (h := ?_)))
  | ((with_reducible refine ew_str (hk := ?_)))
  | ((with_reducible refine ew_int (hk := ?_)))
  | ((with_reducible refine ew_bl (hk := ?_)))
  | ((with_reducible refine ew_tup (h := ?_)))
  | ((with_reducible refine tw_cmp (hm := ?hm) (h := ?_)); (case hm => exact rfl))
  | ((with_reducible refine ew_cmp (hm := ?hm) (h := ?_)); (case hm => exact rfl))
  | ((with_reducible refine ew_callF (x := "_law_holds") (n := ?n) (pre := ?pre) (C := ?C) (hr := ?hr) (hg := ?hg) (hdb := ?hdb) (he := ?he) (hpl := ?hpl) (h := ?_)); (case C => exact All.c_law_holds (by assumption)); (case hr => assumption); (case hg => exact rfl); (case hdb => decide); (case he => exact rfl); (case hpl => exact rfl))
  | ((with_reducible refine ew_ifExp (h := ?_)))
  | ((with_reducible refine tw_not (h := ?_)))
  | ((with_reducible refine ew_not (h := ?_)))
  | ((with_reducible refine tw_bool (h := ?_)))
  | ((with_reducible refine ww_and (h := ?_)))
  | ((with_reducible refine ww_or (h := ?_)))
  | ((with_reducible refine ww_and1 (h := ?_)))
  | ((with_reducible refine ww_or1 (h := ?_)))
  | ((with_reducible refine ew_and (h := ?_)))
  | ((with_reducible refine ew_or (h := ?_)))
  | ((with_reducible refine ew_one (h := ?_)))
  | ((with_reducible refine tw_call (h := ?_)))
  | ((with_reducible refine tw_name (h := ?_)))
  | ((with_reducible refine sw_cons (h := ?_)))
  | ((with_reducible refine sw_nil (h := ?_)))
  | ((with_reducible refine s1_ret0 (h := ?_)))
  | ((with_reducible refine s1_if (h := ?_)))
  | ((with_reducible refine s1_set (x := "one") (i := 2) ?hN ?hi ?_ ?hx ?hs ?hf); (case hN => exact (scHolds).nd); (case hi => exact rfl); (case hx => first | exact Or.inl rfl | exact Or.inr rfl); (case hs => exact rfl); (case hf => first | exact Or.inr rfl | exact Or.inl rfl))
  | ((with_reducible refine s1_set (x := "other") (i := 3) ?hN ?hi ?_ ?hx ?hs ?hf); (case hN => exact (scHolds).nd); (case hi => exact rfl); (case hx => first | exact Or.inl rfl | exact Or.inr rfl); (case hs => exact rfl); (case hf => first | exact Or.inr rfl | exact Or.inl rfl))
  | ((with_reducible refine bw_eqs (h := ?h) (hk := ?_)); (case h => exact rfl))
  | ((with_reducible refine xw_tup (t := ?t) (he := ?he) (hs := ?hs) (hk := ?_)); (case he => first | exact rfl | exact atT0 | exact atT1); (case hs => exact fun _ _ => rfl))
  | ((with_reducible refine xw_lst (ts := ?ts) (t := ?t) (hp := ?hp) (he := ?he) (hs := ?hs) (hk := ?_)); (case hp => walk_at "pt rdb"); (case he => first | exact rfl | exact atT0 | exact atT1); (case hs => exact fun _ _ => rfl))
  | ((with_reducible refine And.intro ?hx ?_); (case hx => exact Nat.le_of_ble_eq_true rfl))
  | (with_reducible refine Exists.intro _ (And.intro rfl ?_))
  | (refine tst_t (by decide +kernel) ?_)
  | (refine tst_f (by decide +kernel) ?_)
  | (refine Exists.intro _ (Exists.intro _ (And.intro rfl (And.intro (by walk_at "pt rdb") ?_))))
  | fail)
theorem ok_law_holds (D : Df K mg "_law_holds" (top 35) ["saying", "truths"]) (C : All P w K mg base n) : Cl P w K mg base (n + 1) "_law_holds" (Fn (pHolds (n + 1))) := by
  refine cl_of D scHolds (fun ts F S k h => ?_) (fun a hr ts F S k h => ?_)
  · obtain ⟨_, a, b, _, _, rfl, _⟩ := h; rfl
  obtain ⟨rfl, s, d, kvs, v, rfl, hd, hn, hv, q⟩ := h
  cases s with
  | atom x =>
    simp only [Say.t]
    refine sw_cons ?_
    repeat' (walk_at "pt 1")
    refine xw_dk (kk := .inr x.s) (hu_of hr) (.inr hd) (hv x (.head _)) ?_
    exact q
  | fls =>
    simp only [Say.t]
    refine sw_cons ?_
    repeat' (walk_at "pt 1")
    exact q
  | thn x y =>
    have h1 : x.dep ≤ n := by simp only [Say.dep] at hn; omega
    have h2 : y.dep ≤ n := by simp only [Say.dep] at hn; omega
    have q : k (.bl (!x.holds v || y.holds v)) [] := q
    simp only [Say.t]
    refine sw_cons ?_
    repeat' (walk_at "pt 1")
    refine s1_par (i := 2) (j := 3) rfl scHolds.nd rfl rfl (by decide) ?_
    repeat' (walk_at "pt 1")
    refine fc1 (d, .dk kvs) (.inr hd) ⟨x, d, kvs, v, rfl, .head _, h1, fun z hz => hv z (List.mem_append.mpr (.inl hz)), ?_⟩
    repeat' (walk_at "pt 1")
    refine fc1 (d, .dk kvs) (.inr hd) ⟨y, d, kvs, v, rfl, .head _, h2, fun z hz => hv z (List.mem_append.mpr (.inr hz)), ?_⟩
    generalize x.holds v = bx1 at *
    generalize y.holds v = by1 at *
    cases bx1 <;> repeat' (walk_at "pt 1")
    all_goals exact q
  | and x y =>
    have h1 : x.dep ≤ n := by simp only [Say.dep] at hn; omega
    have h2 : y.dep ≤ n := by simp only [Say.dep] at hn; omega
    have q : k (.bl (x.holds v && y.holds v)) [] := q
    simp only [Say.t]
    refine sw_cons ?_
    repeat' (walk_at "pt 1")
    refine s1_par (i := 2) (j := 3) rfl scHolds.nd rfl rfl (by decide) ?_
    repeat' (walk_at "pt 1")
    refine fc1 (d, .dk kvs) (.inr hd) ⟨x, d, kvs, v, rfl, .head _, h1, fun z hz => hv z (List.mem_append.mpr (.inl hz)), ?_⟩
    repeat' (walk_at "pt 1")
    refine fc1 (d, .dk kvs) (.inr hd) ⟨y, d, kvs, v, rfl, .head _, h2, fun z hz => hv z (List.mem_append.mpr (.inr hz)), ?_⟩
    generalize x.holds v = bx1 at *
    generalize y.holds v = by1 at *
    cases bx1 <;> repeat' (walk_at "pt 1")
    all_goals exact q
  | or x y =>
    have h1 : x.dep ≤ n := by simp only [Say.dep] at hn; omega
    have h2 : y.dep ≤ n := by simp only [Say.dep] at hn; omega
    have q : k (.bl (x.holds v || y.holds v)) [] := q
    simp only [Say.t]
    refine sw_cons ?_
    repeat' (walk_at "pt 1")
    refine s1_par (i := 2) (j := 3) rfl scHolds.nd rfl rfl (by decide) ?_
    repeat' (walk_at "pt 1")
    refine fc1 (d, .dk kvs) (.inr hd) ⟨x, d, kvs, v, rfl, .head _, h1, fun z hz => hv z (List.mem_append.mpr (.inl hz)), ?_⟩
    repeat' (walk_at "pt 1")
    refine fc1 (d, .dk kvs) (.inr hd) ⟨y, d, kvs, v, rfl, .head _, h2, fun z hz => hv z (List.mem_append.mpr (.inr hz)), ?_⟩
    generalize x.holds v = bx1 at *
    generalize y.holds v = by1 at *
    cases bx1 <;> repeat' (walk_at "pt 1")
    all_goals exact q
end
section
theorem scLParts : FnScope ["term", "kind"] ["term"] (defScope (top 45)) := ⟨rfl, rfl, rfl, by decide +kernel, rfl, by decide +kernel, by decide +kernel⟩
local macro_rules | `(tactic| walk_at "pt 1") => `(tactic| first
  | ((with_reducible refine aw_cons (hs := ?hs) (h := ?_)); (case hs => exact rfl))
  | ((with_reducible refine aw_nil (hk := ?_)))
  | ((with_reducible refine ew_var (x := "term") (i := 0) (t := ?t) ?hi ?_ ?hN ?hv ?hd ?hc); (case hi => exact rfl); (case hN => exact rfl); (case hv => first | exact Or.inl rfl | exact Or.inr (Or.inl rfl) | exact Or.inr (Or.inr rfl)); (case hd => decide); (case hc => decide))
  | ((with_reducible refine ew_var (x := "kind") (i := 1) (t := ?t) ?hi ?_ ?hN ?hv ?hd ?hc); (case hi => exact rfl); (case hN => exact rfl); (case hv => first | exact Or.inl rfl | exact Or.inr (Or.inl rfl) | exact Or.inr (Or.inr rfl)); (case hd => decide); (case hc => decide))
  | ((with_reducible refine ew_sub (h := ?_)))
  | ((with_reducible refine ew_str (hk := ?_)))
  | ((with_reducible refine ew_int (hk := ?_)))
  | ((with_reducible refine tw_cmp (hm := ?hm) (h := ?_)); (case hm => exact rfl))
  | ((with_reducible refine ew_cmp (hm := ?hm) (h := ?_)); (case hm => exact rfl))
  | ((with_reducible refine ew_lst (h := ?_)))
  | ((with_reducible refine ew_ifExp (h := ?_)))
  | ((with_reducible refine tw_call (h := ?_)))
  | ((with_reducible refine tw_name (h := ?_)))
  | ((with_reducible refine sw_cons (h := ?_)))
  | ((with_reducible refine sw_nil (h := ?_)))
  | ((with_reducible refine s1_if (h := ?_)))
  | ((with_reducible refine s1_set (x := "kind") (i := 1) ?hN ?hi ?_ ?hx ?hs ?hf); (case hN => exact (scLParts).nd); (case hi => exact rfl); (case hx => first | exact Or.inl rfl | exact Or.inr rfl); (case hs => exact rfl); (case hf => first | exact Or.inr rfl | exact Or.inl rfl))
  | ((with_reducible refine bw_eqs (h := ?h) (hk := ?_)); (case h => exact rfl))
  | ((with_reducible refine bw_inT (hx := ?hx) (hf := ?hf) (hk := ?_)); (case hx => exact rfl); (case hf => exact rfl))
  | ((with_reducible refine bw_inL (xs := ?xs) (hp := ?hp) (hx := ?hx) (hf := ?hf) (hk := ?_)); (case hp => walk_at "pt rdb"); (case hx => exact rfl); (case hf => exact rfl))
  | ((with_reducible refine xw_tup (t := ?t) (he := ?he) (hs := ?hs) (hk := ?_)); (case he => first | exact rfl | exact atT0 | exact atT1); (case hs => exact fun _ _ => rfl))
  | ((with_reducible refine xw_lst (ts := ?ts) (t := ?t) (hp := ?hp) (he := ?he) (hs := ?hs) (hk := ?_)); (case hp => walk_at "pt rdb"); (case he => first | exact rfl | exact atT0 | exact atT1); (case hs => exact fun _ _ => rfl))
  | (with_reducible refine fresh_i fun _ _ => ?_)
  | ((with_reducible refine And.intro ?hx ?_); (case hx => exact Nat.le_of_ble_eq_true rfl))
  | (with_reducible refine Exists.intro _ (And.intro rfl ?_))
  | (refine tst_t (by decide +kernel) ?_)
  | (refine tst_f (by decide +kernel) ?_)
  | (refine Exists.intro _ (Exists.intro _ (And.intro rfl (And.intro (by walk_at "pt rdb") ?_))))
  | fail)
theorem ok_law_parts (D : Df K mg "_law_parts" (top 45) ["term"]) (C : All P w K mg base n) : Cl P w K mg base (n + 1) "_law_parts" (cParts (n + 1)) := by
  refine cl_of D scLParts (fun ts F S k h => ?_) (fun a hr ts F S k h => ?_)
  · obtain ⟨_, _, rfl, _⟩ := h; rfl
  obtain ⟨hn, t, rfl, rfl, q⟩ := h
  have fin : ∀ (p : Addr) (S1 : Sto), ∃ S2 : Sto, S2.Sublist ((p, .lst (t.parts.map Tm.t)) :: S1) ∧ k (.ref p) S2 := fun p S1 => ⟨_, (List.nil_sublist S1).cons_cons _, q p⟩
  cases t <;> simp only [Tm.t] <;> refine sw_cons ?_
  all_goals repeat' (walk_at "pt 1")
  all_goals refine s1_retD ?_
  all_goals repeat' (walk_at "pt 1")
  all_goals exact fin _ _
end
end
end B33

set_option Elab.async false
set_option linter.all false
set_option maxRecDepth 100000
set_option maxHeartbeats 2000000
set_option autoImplicit false
set_option pp.maxSteps 600
namespace B33
open PT PySem L2 PySem.Spec PyProof.Rows
local macro_rules | `(tactic| walk_at "pt rdb") => `(tactic| first
  | (apply Or.inl; exact List.Mem.head _)
  | (apply Or.inl; apply List.Mem.tail; exact List.Mem.head _)
  | (apply Or.inl; apply List.Mem.tail; apply List.Mem.tail; exact List.Mem.head _)
  | (apply Or.inl; apply List.Mem.tail; apply List.Mem.tail; apply List.Mem.tail; exact List.Mem.head _)
  | (apply Or.inl; apply List.Mem.tail; apply List.Mem.tail; apply List.Mem.tail; apply List.Mem.tail; exact List.Mem.head _)
  | (apply Or.inl; apply List.Mem.tail; apply List.Mem.tail; apply List.Mem.tail; apply List.Mem.tail; apply List.Mem.tail; exact List.Mem.head _)
  | (apply Or.inl; apply List.Mem.tail; apply List.Mem.tail; apply List.Mem.tail; apply List.Mem.tail; apply List.Mem.tail; apply List.Mem.tail; exact List.Mem.head _)
  | (apply Or.inl; apply List.Mem.tail; apply List.Mem.tail; apply List.Mem.tail; apply List.Mem.tail; apply List.Mem.tail; apply List.Mem.tail; apply List.Mem.tail; exact List.Mem.head _)
  | (apply Or.inl; apply List.Mem.tail; apply List.Mem.tail; apply List.Mem.tail; apply List.Mem.tail; apply List.Mem.tail; apply List.Mem.tail; apply List.Mem.tail; apply List.Mem.tail; exact List.Mem.head _)
  | (apply Or.inl; apply List.Mem.tail; apply List.Mem.tail; apply List.Mem.tail; apply List.Mem.tail; apply List.Mem.tail; apply List.Mem.tail; apply List.Mem.tail; apply List.Mem.tail; apply List.Mem.tail; exact List.Mem.head _)
  | (apply Or.inr; assumption) | (apply Or.inr; exact List.Mem.head _) | (apply Or.inr; apply List.Mem.tail; exact List.Mem.head _) | fail)
/-! a table's copy with one more -/
theorem putT_end {kvs : List (Key × T)} {kk : Key} {t : T} (h : kk ∉ kvs.map (·.1)) : putT kvs kk t = kvs ++ [(kk, t)] := by
  unfold putT
  rw [if_neg]
  intro ha
  obtain ⟨p, hp, e⟩ := List.any_eq_true.mp ha
  exact h (List.mem_map.mpr ⟨p, hp, of_decide_eq_true e⟩)
theorem mergeT_nd : ∀ (more acc : List (Key × T)), ((acc ++ more).map (·.1)).Nodup → mergeT acc more = acc ++ more
  | [], acc, _ => by rw [List.append_nil]; rfl
  | p :: more, acc, h => by
    have hn : p.1 ∉ acc.map (·.1) := fun hm => by
      rw [List.map_append, List.nodup_append] at h
      exact h.2.2 p.1 hm p.1 (by simp) rfl
    show mergeT (putT acc p.1 p.2) more = _
    rw [putT_end hn, mergeT_nd more (acc ++ [(p.1, p.2)]) (by simpa using h)]
    simp
theorem Tab.nd_t {g : Tab} (h : g.nd) : (g.t.map (·.1)).Nodup := by
  unfold Tab.t
  rw [List.map_map]
  exact h
theorem mergeT_ins {G : Tab} (h : G.nd) (x : Nm) (u : Say) : mergeT [] (G.t ++ [(.inr x.s, u.t)]) = (G.ins x u).t := by
  have e : mergeT [] (G.t ++ [(.inr x.s, u.t)]) = putT (mergeT [] G.t) (.inr x.s) u.t := by
    unfold mergeT
    rw [List.foldl_append]; rfl
  rw [e, mergeT_nd G.t [] (by rw [List.nil_append]; exact Tab.nd_t h), List.nil_append, Tab.put]
theorem Tab.nd_ins {G : Tab} (h : G.nd) (x : Nm) (u : Say) : (G.ins x u).nd := by
  unfold Tab.nd Tab.ins
  split
  · have : (G.map fun p => if p.1 = Sum.inr x.s then (p.1, u) else p).map (·.1) = G.map (·.1) := by
      rw [List.map_map]
      apply List.map_congr_left
      intro p _
      show (if p.1 = Sum.inr x.s then (p.1, u) else p).1 = p.1
      split <;> rfl
    rw [this]; exact h
  · rename_i hn
    rw [List.map_append, List.nodup_append]
    refine ⟨h, by simp, fun a ha b hb e => hn ?_⟩
    simp at hb
    subst hb
    subst e
    obtain ⟨p, hp, e⟩ := List.mem_map.mp ha
    exact List.any_eq_true.mpr ⟨p, hp, decide_eq_true e⟩
theorem pair_app {G : Tab} {x : Nm} {u : Say} : G.t.map pairT ++ [.tup [.str x.s, u.t]] = (G.t ++ [((Sum.inr x.s : Key), u.t)]).map pairT := by rw [List.map_append]; rfl
def lkFor : Stmt := (defBody (top 47)).getD 6 (.Pass ⟨0, 0, 0, 0⟩)
section
variable {P : Program} {w : World} {K : PySem.W.Frag} {mg : Str → Option Value} {base : Heap} {n : Nat}
section
theorem scLK : FnScope ["term", "givens", "theorems", "place", "kind", "given", "good", "told", "whole", "k", "here", "one", "part"] ["term", "givens", "theorems", "place"] (defScope (top 47)) := ⟨rfl, rfl, rfl, by decide +kernel, rfl, by decide +kernel, by decide +kernel⟩
local macro_rules | `(tactic| walk_at "pt 1") => `(tactic| first
  | ((with_reducible refine aw_cons (hs := ?hs) (h := ?_)); (case hs => exact rfl))
  | ((with_reducible refine aw_nil (hk := ?_)))
  | ((with_reducible refine ew_listItems (hc := ?hc) (hm := ?hm) (hg := ?hg) (hbase := ?hbase) (hline := ?hline) (hs := ?hs) (h := ?_)); (case hc => exact rfl); (case hm => exact Mg.list (by assumption)); (case hg => exact rfl); (case hbase => exact rfl); (case hline => exact rfl); (case hs => exact rfl))
  | ((with_reducible refine ew_var (x := "term") (i := 0) (t := ?t) ?hi ?_ ?hN ?hv ?hd ?hc); (case hi => exact rfl); (case hN => exact rfl); (case hv => first | exact Or.inl rfl | exact Or.inr (Or.inl rfl) | exact Or.inr (Or.inr rfl)); (case hd => decide); (case hc => decide))
  | ((with_reducible refine ew_var (x := "givens") (i := 1) (t := ?t) ?hi ?_ ?hN ?hv ?hd ?hc); (case hi => exact rfl); (case hN => exact rfl); (case hv => first | exact Or.inl rfl | exact Or.inr (Or.inl rfl) | exact Or.inr (Or.inr rfl)); (case hd => decide); (case hc => decide))
  | ((with_reducible refine ew_var (x := "theorems") (i := 2) (t := ?t) ?hi ?_ ?hN ?hv ?hd ?hc); (case hi => exact rfl); (case hN => exact rfl); (case hv => first | exact Or.inl rfl | exact Or.inr (Or.inl rfl) | exact Or.inr (Or.inr rfl)); (case hd => decide); (case hc => decide))
  | ((with_reducible refine ew_var (x := "place") (i := 3) (t := ?t) ?hi ?_ ?hN ?hv ?hd ?hc); (case hi => exact rfl); (case hN => exact rfl); (case hv => first | exact Or.inl rfl | exact Or.inr (Or.inl rfl) | exact Or.inr (Or.inr rfl)); (case hd => decide); (case hc => decide))
  | ((with_reducible refine ew_var (x := "kind") (i := 4) (t := ?t) ?hi ?_ ?hN ?hv ?hd ?hc); (case hi => exact rfl); (case hN => exact rfl); (case hv => first | exact Or.inl rfl | exact Or.inr (Or.inl rfl) | exact Or.inr (Or.inr rfl)); (case hd => decide); (case hc => decide))
  | ((with_reducible refine ew_var (x := "given") (i := 5) (t := ?t) ?hi ?_ ?hN ?hv ?hd ?hc); (case hi => exact rfl); (case hN => exact rfl); (case hv => first | exact Or.inl rfl | exact Or.inr (Or.inl rfl) | exact Or.inr (Or.inr rfl)); (case hd => decide); (case hc => decide))
  | ((with_reducible refine ew_var (x := "good") (i := 6) (t := ?t) ?hi ?_ ?hN ?hv ?hd ?hc); (case hi => exact rfl); (case hN => exact rfl); (case hv => first | exact Or.inl rfl | exact Or.inr (Or.inl rfl) | exact Or.inr (Or.inr rfl)); (case hd => decide); (case hc => decide))
  | ((with_reducible refine ew_var (x := "told") (i := 7) (t := ?t) ?hi ?_ ?hN ?hv ?hd ?hc); (case hi => exact rfl); (case hN => exact rfl); (case hv => first | exact Or.inl rfl | exact Or.inr (Or.inl rfl) | exact Or.inr (Or.inr rfl)); (case hd => decide); (case hc => decide))
  | ((with_reducible refine ew_var (x := "whole") (i := 8) (t := ?t) ?hi ?_ ?hN ?hv ?hd ?hc); (case hi => exact rfl); (case hN => exact rfl); (case hv => first | exact Or.inl rfl | exact Or.inr (Or.inl rfl) | exact Or.inr (Or.inr rfl)); (case hd => decide); (case hc => decide))
  | ((with_reducible refine ew_var (x := "k") (i := 9) (t := ?t) ?hi ?_ ?hN ?hv ?hd ?hc); (case hi => exact rfl); (case hN => exact rfl); (case hv => first | exact Or.inl rfl | exact Or.inr (Or.inl rfl) | exact Or.inr (Or.inr rfl)); (case hd => decide); (case hc => decide))
  | ((with_reducible refine ew_var (x := "here") (i := 10) (t := ?t) ?hi ?_ ?hN ?hv ?hd ?hc); (case hi => exact rfl); (case hN => exact rfl); (case hv => first | exact Or.inl rfl | exact Or.inr (Or.inl rfl) | exact Or.inr (Or.inr rfl)); (case hd => decide); (case hc => decide))
  | ((with_reducible refine ew_var (x := "one") (i := 11) (t := ?t) ?hi ?_ ?hN ?hv ?hd ?hc); (case hi => exact rfl); (case hN => exact rfl); (case hv => first | exact Or.inl rfl | exact Or.inr (Or.inl rfl) | exact Or.inr (Or.inr rfl)); (case hd => decide); (case hc => decide))
  | ((with_reducible refine ew_var (x := "part") (i := 12) (t := ?t) ?hi ?_ ?hN ?hv ?hd ?hc); (case hi => exact rfl); (case hN => exact rfl); (case hv => first | exact Or.inl rfl | exact Or.inr (Or.inl rfl) | exact Or.inr (Or.inr rfl)); (case hd => decide); (case hc => decide))
  | ((with_reducible refine ew_sub (h := ?_)))
  | ((with_reducible refine ew_str (hk := ?_)))
  | ((with_reducible refine ew_int (hk := ?_)))
  | ((with_reducible refine ew_bl (hk := ?_)))
  | ((with_reducible refine ew_tup (h := ?_)))
  | ((with_reducible refine tw_cmp (hm := ?hm) (h := ?_)); (case hm => exact rfl))
  | ((with_reducible refine ew_cmp (hm := ?hm) (h := ?_)); (case hm => exact rfl))
  | ((with_reducible refine ew_bin (h := ?_)))
  | ((with_reducible refine ew_lst (h := ?_)))
  | ((with_reducible refine ew_callF (x := "_law_kind") (n := ?n) (pre := ?pre) (C := ?C) (hr := ?hr) (hg := ?hg) (hdb := ?hdb) (he := ?he) (hpl := ?hpl) (h := ?_)); (case C => exact All.c_law_kind (by assumption)); (case hr => assumption); (case hg => exact rfl); (case hdb => decide); (case he => exact rfl); (case hpl => exact rfl))
  | ((with_reducible refine ew_call (x := "_law_parts") (n := ?n) (con := ?con) (C := ?C) (hr := ?hr) (hg := ?hg) (hdb := ?hdb) (he := ?he) (hpl := ?hpl) (h := ?_)); (case C => exact All.c_law_parts (by assumption)); (case hr => assumption); (case hg => exact rfl); (case hdb => decide); (case he => exact rfl); (case hpl => exact rfl))
  | ((with_reducible refine ew_callF (x := "_law_put") (n := ?n) (pre := ?pre) (C := ?C) (hr := ?hr) (hg := ?hg) (hdb := ?hdb) (he := ?he) (hpl := ?hpl) (h := ?_)); (case C => exact All.c_law_put (by assumption)); (case hr => assumption); (case hg => exact rfl); (case hdb => decide); (case he => exact rfl); (case hpl => exact rfl))
  | ((with_reducible refine ew_callTy (x := "dict") (T' := "dict") (hm := ?hm) (hv := ?hv) (hg := ?hg) (hn := ?hn) (hdb := ?hdb) (he := ?he) (hpl := ?hpl) (h := ?_)); (case hm => exact Mg.dict (by assumption)); (case hv => exact rfl); (case hg => exact rfl); (case hn => decide); (case hdb => decide); (case he => exact rfl); (case hpl => exact rfl))
  | ((with_reducible refine ew_callTy (x := "list") (T' := "list") (hm := ?hm) (hv := ?hv) (hg := ?hg) (hn := ?hn) (hdb := ?hdb) (he := ?he) (hpl := ?hpl) (h := ?_)); (case hm => exact Mg.list (by assumption)); (case hv => exact rfl); (case hg => exact rfl); (case hn => decide); (case hdb => decide); (case he => exact rfl); (case hpl => exact rfl))
  | ((with_reducible refine ew_mth (name := "append") (id := "list.append") (rr := rAppend) (slot := ?slot) (hty := ?hty) (hm := ?hm) (hbase := ?hbase) (hfew := ?hfew) (hline := ?hline) (hs := ?hs) (hplain := ?hplain) (h := ?_)); (case slot => exact PySem.F.slot_list_append); (case hty => exact PySem.F.type_list_append); (case hm => exact mt_append); (case hbase => exact rfl); (case hfew => exact rfl); (case hline => exact rfl); (case hs => exact rfl); (case hplain => exact rfl))
  | ((with_reducible refine ew_ifExp (h := ?_)))
  | ((with_reducible refine tw_not (h := ?_)))
  | ((with_reducible refine ew_not (h := ?_)))
  | ((with_reducible refine tw_bool (h := ?_)))
  | ((with_reducible refine ww_and (h := ?_)))
  | ((with_reducible refine ww_or (h := ?_)))
  | ((with_reducible refine ww_and1 (h := ?_)))
  | ((with_reducible refine ww_or1 (h := ?_)))
  | ((with_reducible refine ew_and (h := ?_)))
  | ((with_reducible refine ew_or (h := ?_)))
  | ((with_reducible refine ew_one (h := ?_)))
  | ((with_reducible refine tw_call (h := ?_)))
  | ((with_reducible refine tw_name (h := ?_)))
  | ((with_reducible refine sw_cons (h := ?_)))
  | ((with_reducible refine sw_nil (h := ?_)))
  | ((with_reducible refine s1_ret0 (h := ?_)))
  | ((with_reducible refine s1_if (h := ?_)))
  | ((with_reducible refine s1_expr (hs := ?hs) (h := ?_)); (case hs => exact rfl))
  | ((with_reducible refine s1_set (x := "kind") (i := 4) ?hN ?hi ?_ ?hx ?hs ?hf); (case hN => exact (scLK).nd); (case hi => exact rfl); (case hx => first | exact Or.inl rfl | exact Or.inr rfl); (case hs => exact rfl); (case hf => first | exact Or.inr rfl | exact Or.inl rfl))
  | ((with_reducible refine s1_set (x := "given") (i := 5) ?hN ?hi ?_ ?hx ?hs ?hf); (case hN => exact (scLK).nd); (case hi => exact rfl); (case hx => first | exact Or.inl rfl | exact Or.inr rfl); (case hs => exact rfl); (case hf => first | exact Or.inr rfl | exact Or.inl rfl))
  | ((with_reducible refine s1_set (x := "good") (i := 6) ?hN ?hi ?_ ?hx ?hs ?hf); (case hN => exact (scLK).nd); (case hi => exact rfl); (case hx => first | exact Or.inl rfl | exact Or.inr rfl); (case hs => exact rfl); (case hf => first | exact Or.inr rfl | exact Or.inl rfl))
  | ((with_reducible refine s1_set (x := "told") (i := 7) ?hN ?hi ?_ ?hx ?hs ?hf); (case hN => exact (scLK).nd); (case hi => exact rfl); (case hx => first | exact Or.inl rfl | exact Or.inr rfl); (case hs => exact rfl); (case hf => first | exact Or.inr rfl | exact Or.inl rfl))
  | ((with_reducible refine s1_set (x := "whole") (i := 8) ?hN ?hi ?_ ?hx ?hs ?hf); (case hN => exact (scLK).nd); (case hi => exact rfl); (case hx => first | exact Or.inl rfl | exact Or.inr rfl); (case hs => exact rfl); (case hf => first | exact Or.inr rfl | exact Or.inl rfl))
  | ((with_reducible refine s1_set (x := "k") (i := 9) ?hN ?hi ?_ ?hx ?hs ?hf); (case hN => exact (scLK).nd); (case hi => exact rfl); (case hx => first | exact Or.inl rfl | exact Or.inr rfl); (case hs => exact rfl); (case hf => first | exact Or.inr rfl | exact Or.inl rfl))
  | ((with_reducible refine s1_set (x := "here") (i := 10) ?hN ?hi ?_ ?hx ?hs ?hf); (case hN => exact (scLK).nd); (case hi => exact rfl); (case hx => first | exact Or.inl rfl | exact Or.inr rfl); (case hs => exact rfl); (case hf => first | exact Or.inr rfl | exact Or.inl rfl))
  | ((with_reducible refine s1_set (x := "one") (i := 11) ?hN ?hi ?_ ?hx ?hs ?hf); (case hN => exact (scLK).nd); (case hi => exact rfl); (case hx => first | exact Or.inl rfl | exact Or.inr rfl); (case hs => exact rfl); (case hf => first | exact Or.inr rfl | exact Or.inl rfl))
  | ((with_reducible refine s1_set (x := "part") (i := 12) ?hN ?hi ?_ ?hx ?hs ?hf); (case hN => exact (scLK).nd); (case hi => exact rfl); (case hx => first | exact Or.inl rfl | exact Or.inr rfl); (case hs => exact rfl); (case hf => first | exact Or.inr rfl | exact Or.inl rfl))
  | ((with_reducible refine bw_eqs (h := ?h) (hk := ?_)); (case h => exact rfl))
  | ((with_reducible refine bw_nes (h := ?h) (hk := ?_)); (case h => exact rfl))
  | ((with_reducible refine bw_inT (hx := ?hx) (hf := ?hf) (hk := ?_)); (case hx => exact rfl); (case hf => exact rfl))
  | ((with_reducible refine bw_inL (xs := ?xs) (hp := ?hp) (hx := ?hx) (hf := ?hf) (hk := ?_)); (case hp => walk_at "pt rdb"); (case hx => exact rfl); (case hf => exact rfl))
  | ((with_reducible refine bw_mul (h := ?h) (hk := ?_)); (case h => decide))
  | ((with_reducible refine bw_add (hk := ?_)))
  | ((with_reducible refine xw_tup (t := ?t) (he := ?he) (hs := ?hs) (hk := ?_)); (case he => first | exact rfl | exact atT0 | exact atT1); (case hs => exact fun _ _ => rfl))
  | ((with_reducible refine xw_lst (ts := ?ts) (t := ?t) (hp := ?hp) (he := ?he) (hs := ?hs) (hk := ?_)); (case hp => walk_at "pt rdb"); (case he => first | exact rfl | exact atT0 | exact atT1); (case hs => exact fun _ _ => rfl))
  | (with_reducible refine fresh_i fun _ _ => ?_)
  | ((with_reducible refine And.intro ?hx ?_); (case hx => exact Nat.le_of_ble_eq_true rfl))
  | (with_reducible refine Exists.intro _ (And.intro rfl ?_))
  | (refine tst_t (by decide +kernel) ?_)
  | (refine tst_f (by decide +kernel) ?_)
  | (refine Exists.intro _ (Exists.intro _ (And.intro rfl (And.intro (by walk_at "pt rdb") ?_))))
  | fail)
theorem lk_for (M : Mg mg) (C : All P w K mg base n) (a : BA) (hr : Room n (bx P w K mg base ["term", "givens", "theorems", "place", "kind", "given", "good", "told", "whole", "k", "here", "one", "part"] "_law_kind" (top 47) a).A) (F : Sto) (k : KE)
    (t : Tm) (g : Addr) (G : Tab) (th kd : T) (pl : List T) (m : Nat) (ss : List Say) (hg : (g, .dk G.t) ∈ F) (hn : t.dep + 2 ≤ n + 1) (good : Good m t G) (hpl : pl.length + t.dep ≤ 1000) (nd : G.nd) (he : isElse t = true)
    (hsl : ss.length = t.parts.length) (hss : ∀ (i : Nat) (p : Tm), t.parts[i]? = some p → ∃ u : Say, ss[i]? = some u ∧ kind p G = some u) (td : Addr) (r : Rho) (S0 : Sto)
    (hr0 : r = [some t.t, some (.ref g), some th, some (.tup pl), some kd, none, none, some (.ref td), none, none, none, none, none])
    (hk : ∀ p : Addr, k.nx r ((p, .lst (t.parts.map Tm.t)) :: (td, .lst (ss.map Say.t)) :: S0)) :
    s1w F (bx P w K mg base ["term", "givens", "theorems", "place", "kind", "given", "good", "told", "whole", "k", "here", "one", "part"] "_law_kind" (top 47) a) lkFor r ((td, .lst []) :: S0) k := by
  subst hr0
  refine s1_forW (g := _) (up := up2 9 12) (vs := [9, 12]) [some t.t, some (.ref g), some th, some (.tup pl), some kd, none, none, some (.ref td), none, none, none, none, none] PassesOwn.never rfl (pg_tup rfl (pgs_cons (pg_name (i := 9) scLK.nd rfl (.inl rfl)) (pgs_cons (pg_name (i := 12) scLK.nd rfl (.inl rfl)) pgs_nil))) (tgt2 (by simp) (by simp)) (lessT.refl _) ?_ up2_less
  refine iw_enum M.enumerate ?_
  repeat' (walk_at "pt 1")
  refine ⟨[], [], (td, .lst []) :: S0, [], rfl, by simp, by omega, t, rfl, rfl, fun p => ?_⟩
  refine ⟨p, t.parts.map Tm.t, rfl, .inl (.head _), fun i S1 => S1 = (p, .lst (t.parts.map Tm.t)) :: (td, .lst ((ss.take i).map Say.t)) :: S0, rfl, fun i S1 e => by subst e; exact .inl (.head _), ?_, ?_⟩
  · rintro i u S2 hu rfl
    obtain ⟨pt, hpt, rfl⟩ : ∃ pt : Tm, t.parts[i]? = some pt ∧ u = .tup [.int (i : Nat), pt.t] := by
      rw [List.getElem?_mapIdx, List.getElem?_map, Option.map_map] at hu
      obtain ⟨pt, h1, h2⟩ := Option.map_eq_some_iff.mp hu
      exact ⟨pt, h1, h2.symm⟩
    have hmem := List.mem_of_getElem? hpt
    have hdp := Tm.parts_dep hmem
    obtain ⟨si, e1, e2⟩ := hss i pt hpt
    have hil : i < 3 := by
      have := (List.getElem?_eq_some_iff.mp hpt).1
      have := t.parts_len
      omega
    refine ⟨_, rfl, ?_⟩
    refine sw_cons ?_
    refine s1_two (i := 6) (j := 11) rfl scLK.nd rfl rfl ?_
    repeat' (walk_at "pt 1")
    refine bw_catT (by simp; omega) ?_
    repeat' (walk_at "pt 1")
    refine fc1 (g, .dk G.t) (.inr hg) ⟨pt, g, G, th, _, si, m, rfl, .head _, by omega, good.part hmem he, by simp; omega, nd, e2, _, _, rfl, ?_⟩
    repeat' (walk_at "pt 1")
    refine mw_append (Sa := [(p, .lst (t.parts.map Tm.t))]) (ts := (ss.take i).map Say.t) (by simp only [List.length_map, List.length_take]; omega) ?_
    repeat' (walk_at "pt 1")
    refine ⟨⟨rfl, rfl, rfl, rfl, rfl, rfl, trivial⟩, ?_⟩
    have e3 : (ss.take (i + 1)).map Say.t = (ss.take i).map Say.t ++ [si.t] := by rw [List.take_add_one, e1, List.map_append]; rfl
    show _ = (p, MO.lst (t.parts.map Tm.t)) :: (td, MO.lst ((ss.take (i + 1)).map Say.t)) :: S0
    rw [e3]; rfl
  · rintro S2 rfl
    rw [List.length_mapIdx, List.length_map, ← hsl, List.take_length]
    exact hk p
theorem ok_law_kind (M : Mg mg) (D : Df K mg "_law_kind" (top 47) ["term", "givens", "theorems", "place"]) (C : All P w K mg base n) : Cl P w K mg base (n + 1) "_law_kind" (Fn (pKind (n + 1))) := by
  refine cl_of D scLK (fun ts F S k h => ?_) (fun a hr ts F S k h => ?_)
  · obtain ⟨_, _, _, _, _, _, _, _, rfl, _⟩ := h; rfl
  obtain ⟨rfl, t, g, G, th, pl, s, m, rfl, hg, hn, good, hpl, nd, hk, q⟩ := h
  cases t with
  | app u v =>
    obtain ⟨ss, hsl, hss, hj⟩ := kind_else rfl hk
    obtain ⟨z, rfl⟩ := joined_app hj
    obtain ⟨z2, hz1, hz2⟩ := hss 1 v rfl
    cases hz1
    have hz3 := Nat.le_trans ((good.part (p := v) (by simp [Tm.parts]) rfl).kd hz2) (by decide : 63 ≤ 64)
    have e := Say.eqT hz3 hz3
    rw [decide_eq_true rfl] at e
    simp only [Tm.t]
    refine sw_cons ?_
    repeat' (walk_at "pt 1")
    rename_i td htd
    refine lk_for M C a hr F _ (.app u v) g G th (.str "apply") pl m _ hg hn good hpl nd rfl hsl hss td _ _ rfl fun p => ?_
    simp only [Tm.t, List.map_cons, List.map_nil, Say.t]
    repeat' (walk_at "pt 1")
    refine bw_eqd hr.units e ⟨_, rfl, ?_⟩
    repeat' (walk_at "pt 1")
    exact q
  | pair u v =>
    obtain ⟨ss, hsl, hss, hj⟩ := kind_else rfl hk
    obtain ⟨z1, z2, rfl, rfl⟩ := joined_pair hj
    simp only [Tm.t]
    refine sw_cons ?_
    repeat' (walk_at "pt 1")
    rename_i td htd
    refine lk_for M C a hr F _ (.pair u v) g G th (.str "pair") pl m _ hg hn good hpl nd rfl hsl hss td _ _ rfl fun p => ?_
    simp only [Tm.t, List.map_cons, List.map_nil, Say.t]
    repeat' (walk_at "pt 1")
    exact q
  | fst u =>
    obtain ⟨ss, hsl, hss, hj⟩ := kind_else rfl hk
    obtain ⟨z, rfl⟩ := joined_fst hj
    simp only [Tm.t]
    refine sw_cons ?_
    repeat' (walk_at "pt 1")
    rename_i td htd
    refine lk_for M C a hr F _ (.fst u) g G th (.str "first") pl m _ hg hn good hpl nd rfl hsl hss td _ _ rfl fun p => ?_
    simp only [Tm.t, List.map_cons, List.map_nil, Say.t]
    repeat' (walk_at "pt 1")
    exact q
  | snd u =>
    obtain ⟨ss, hsl, hss, hj⟩ := kind_else rfl hk
    obtain ⟨z, rfl⟩ := joined_snd hj
    simp only [Tm.t]
    refine sw_cons ?_
    repeat' (walk_at "pt 1")
    rename_i td htd
    refine lk_for M C a hr F _ (.snd u) g G th (.str "second") pl m _ hg hn good hpl nd rfl hsl hss td _ _ rfl fun p => ?_
    simp only [Tm.t, List.map_cons, List.map_nil, Say.t]
    repeat' (walk_at "pt 1")
    exact q
  | inl u v =>
    obtain ⟨ss, hsl, hss, hj⟩ := kind_else rfl hk
    obtain ⟨z, rfl, rfl⟩ := joined_inl hj
    simp only [Tm.t]
    refine sw_cons ?_
    repeat' (walk_at "pt 1")
    rename_i td htd
    refine lk_for M C a hr F _ (.inl u v) g G th (.str "left") pl m _ hg hn good hpl nd rfl hsl hss td _ _ rfl fun p => ?_
    simp only [Tm.t, List.map_cons, List.map_nil, Say.t]
    repeat' (walk_at "pt 1")
    exact q
  | inr v u =>
    obtain ⟨ss, hsl, hss, hj⟩ := kind_else rfl hk
    obtain ⟨z, rfl, rfl⟩ := joined_inr hj
    simp only [Tm.t]
    refine sw_cons ?_
    repeat' (walk_at "pt 1")
    rename_i td htd
    refine lk_for M C a hr F _ (.inr v u) g G th (.str "right") pl m _ hg hn good hpl nd rfl hsl hss td _ _ rfl fun p => ?_
    simp only [Tm.t, List.map_cons, List.map_nil, Say.t]
    repeat' (walk_at "pt 1")
    exact q
  | use x =>
    have hv : valT G.t (.inr x.s) = some s.t := by rw [Tab.val, show G.get x = some s from hk]; rfl
    simp only [Tm.t]
    refine sw_cons ?_
    repeat' (walk_at "pt 1")
    refine bw_inD (kk := .inr x.s) (hu_of hr) (.inr hg) ?_
    rw [hv]
    refine ⟨_, rfl, tst_t rfl ?_⟩
    repeat' (walk_at "pt 1")
    refine xw_dk (kk := .inr x.s) (hu_of hr) (.inr hg) hv ?_
    repeat' (walk_at "pt 1")
    exact q
  | take x u b =>
    obtain ⟨v, hv, rfl⟩ := kind_take hk
    have hd : (Tm.take x u b).dep = max u.dep b.dep + 1 := rfl
    have hl := good.len
    have hGl : (G.t.map pairT).length = G.length := by simp [Tab.t]
    simp only [Tm.t]
    refine sw_cons ?_
    repeat' (walk_at "pt 1")
    refine s1_two (i := 6) (j := 7) rfl scLK.nd rfl rfl ?_
    repeat' (walk_at "pt 1")
    refine bw_catL (.tail _ (.head _)) (.head _) (by simp only [hGl, List.length_cons, List.length_nil]; omega) fun z hz => ?_
    rw [pair_app]
    repeat' (walk_at "pt 1")
    refine cw_dictP rfl (.inl (.head _)) fun g2 hg2 => ?_
    rw [mergeT_ins nd]
    repeat' (walk_at "pt 1")
    refine bw_catT (by simp; omega) ?_
    repeat' (walk_at "pt 1")
    refine fc1 (g2, .dk (G.ins x u).t) (.inl (.head _)) ⟨b, g2, G.ins x u, th, _, v, m, rfl, .head _, by omega, good.take, by simp; omega, Tab.nd_ins nd x u, hv, _, _, rfl, ?_⟩
    repeat' (walk_at "pt 1")
    exact q
  | cas v x b y c =>
    obtain ⟨p, u, h1, h2, h3⟩ := kind_cas hk
    have hd : (Tm.cas v x b y c).dep = max v.dep (max b.dep c.dep) + 1 := rfl
    obtain ⟨gv, gb, gc⟩ := good.cas h1
    have hl := good.len
    have hGl : (G.t.map pairT).length = G.length := by simp [Tab.t]
    have hs63 := Nat.le_trans (good.kd hk) (by decide : 63 ≤ 64)
    have e := Say.eqT hs63 hs63
    rw [decide_eq_true rfl] at e
    simp only [Tm.t]
    refine sw_cons ?_
    repeat' (walk_at "pt 1")
    refine s1_two (i := 6) (j := 8) rfl scLK.nd rfl rfl ?_
    repeat' (walk_at "pt 1")
    refine bw_catT (by simp; omega) ?_
    repeat' (walk_at "pt 1")
    refine fc1 (g, .dk G.t) (.inr hg) ⟨v, g, G, th, _, .or p u, m, rfl, .head _, by omega, gv, by simp; omega, nd, h1, _, _, rfl, ?_⟩
    simp only [Say.t]
    repeat' (walk_at "pt 1")
    rename_i td htd
    refine s1_forW (g := _) (up := up1 9) (vs := [9]) [some (Tm.cas v x b y c).t, some (.ref g), some th, some (.tup pl), some (.str "cases"), none, none, some (.ref td), some (Say.or p u).t, none, none, none, none] PassesOwn.never rfl (pg_name (i := 9) scLK.nd rfl (.inl rfl)) (tgt1 (by simp)) ⟨rfl, rfl, rfl, rfl, rfl, rfl, rfl, trivial⟩ ?_ up1_less
    simp only [Tm.t, Say.t]
    refine iw_lst ?_
    repeat' (walk_at "pt 1")
    rename_i l12 hl12
    refine ⟨fun i S1 => ∃ SG : Sto, S1 = (l12, .lst [.int 1, .int 2]) :: (td, .lst (List.replicate i s.t)) :: SG, ⟨_, rfl⟩, fun i S1 ⟨SG, e⟩ => by subst e; exact .inl (.head _), ?_, ?_⟩
    · rintro i z S2 hz ⟨SG, rfl⟩
      match i, hz with
      | 0, hz =>
      cases hz
      refine ⟨_, rfl, ?_⟩
      refine sw_cons ?_
      repeat' (walk_at "pt 1")
      refine bw_catL (.tail _ (.head _)) (.head _) (by simp only [hGl, List.length_cons, List.length_nil]; omega) fun z hz => ?_
      rw [pair_app]
      repeat' (walk_at "pt 1")
      refine cw_dictP rfl (.inl (.head _)) fun g2 hg2 => ?_
      rw [mergeT_ins nd]
      repeat' (walk_at "pt 1")
      refine s1_two (i := 6) (j := 11) rfl scLK.nd rfl rfl ?_
      repeat' (walk_at "pt 1")
      refine bw_catT (by simp; omega) ?_
      repeat' (walk_at "pt 1")
      refine fc1 (g2, .dk (G.ins x p).t) (.inl (.head _)) ⟨b, g2, G.ins x p, th, _, s, m, rfl, .head _, by omega, gb, by simp; omega, Tab.nd_ins nd _ _, h2, _, _, rfl, ?_⟩
      repeat' (walk_at "pt 1")
      refine mw_append (Sa := [(g2, _), (z, _), (_, _), (_, _), (l12, _)]) (ts := []) (by simp) ?_
      refine sw_drop (S2 := (l12, .lst [.int 1, .int 2]) :: (td, .lst [s.t]) :: SG) (by repeat (first | exact List.Sublist.refl _ | apply List.Sublist.cons)) (sw_nil ⟨⟨rfl, rfl, rfl, rfl, rfl, rfl, rfl, trivial⟩, SG, rfl⟩)
      | 1, hz =>
      cases hz
      refine ⟨_, rfl, ?_⟩
      refine sw_cons ?_
      repeat' (walk_at "pt 1")
      refine bw_catL (.tail _ (.head _)) (.head _) (by simp only [hGl, List.length_cons, List.length_nil]; omega) fun z hz => ?_
      rw [pair_app]
      repeat' (walk_at "pt 1")
      refine cw_dictP rfl (.inl (.head _)) fun g2 hg2 => ?_
      rw [mergeT_ins nd]
      repeat' (walk_at "pt 1")
      refine s1_two (i := 6) (j := 11) rfl scLK.nd rfl rfl ?_
      repeat' (walk_at "pt 1")
      refine bw_catT (by simp; omega) ?_
      repeat' (walk_at "pt 1")
      refine fc1 (g2, .dk (G.ins y u).t) (.inl (.head _)) ⟨c, g2, G.ins y u, th, _, s, m, rfl, .head _, by omega, gc, by simp; omega, Tab.nd_ins nd _ _, h3, _, _, rfl, ?_⟩
      repeat' (walk_at "pt 1")
      refine mw_append (Sa := [(g2, _), (z, _), (_, _), (_, _), (l12, _)]) (ts := [s.t]) (by simp) ?_
      refine sw_drop (S2 := (l12, .lst [.int 1, .int 2]) :: (td, .lst [s.t, s.t]) :: SG) (by repeat (first | exact List.Sublist.refl _ | apply List.Sublist.cons)) (sw_nil ⟨⟨rfl, rfl, rfl, rfl, rfl, rfl, rfl, trivial⟩, SG, rfl⟩)
      | i + 2, hz => simp at hz
    · rintro S2 ⟨SG, rfl⟩
      show sw _ _ _ _ ((l12, .lst [.int 1, .int 2]) :: (td, .lst [s.t, s.t]) :: SG) _
      repeat' (walk_at "pt 1")
      refine bw_eqd hr.units e ⟨_, rfl, ?_⟩
      repeat' (walk_at "pt 1")
      exact q
end
end
end B33

set_option Elab.async false
set_option linter.all false
set_option maxRecDepth 100000
set_option maxHeartbeats 2000000
set_option autoImplicit false
set_option pp.maxSteps 600
namespace B33
open PT PySem L2 PySem.Spec PyProof.Rows
local macro_rules | `(tactic| walk_at "pt rdb") => `(tactic| first
  | (apply Or.inl; exact List.Mem.head _)
  | (apply Or.inl; apply List.Mem.tail; exact List.Mem.head _)
  | (apply Or.inl; apply List.Mem.tail; apply List.Mem.tail; exact List.Mem.head _)
  | (apply Or.inl; apply List.Mem.tail; apply List.Mem.tail; apply List.Mem.tail; exact List.Mem.head _)
  | (apply Or.inl; apply List.Mem.tail; apply List.Mem.tail; apply List.Mem.tail; apply List.Mem.tail; exact List.Mem.head _)
  | (apply Or.inl; apply List.Mem.tail; apply List.Mem.tail; apply List.Mem.tail; apply List.Mem.tail; apply List.Mem.tail; exact List.Mem.head _)
  | (apply Or.inl; apply List.Mem.tail; apply List.Mem.tail; apply List.Mem.tail; apply List.Mem.tail; apply List.Mem.tail; apply List.Mem.tail; exact List.Mem.head _)
  | (apply Or.inl; apply List.Mem.tail; apply List.Mem.tail; apply List.Mem.tail; apply List.Mem.tail; apply List.Mem.tail; apply List.Mem.tail; apply List.Mem.tail; exact List.Mem.head _)
  | (apply Or.inl; apply List.Mem.tail; apply List.Mem.tail; apply List.Mem.tail; apply List.Mem.tail; apply List.Mem.tail; apply List.Mem.tail; apply List.Mem.tail; apply List.Mem.tail; exact List.Mem.head _)
  | (apply Or.inl; apply List.Mem.tail; apply List.Mem.tail; apply List.Mem.tail; apply List.Mem.tail; apply List.Mem.tail; apply List.Mem.tail; apply List.Mem.tail; apply List.Mem.tail; apply List.Mem.tail; exact List.Mem.head _)
  | (apply Or.inr; assumption) | (apply Or.inr; exact List.Mem.head _) | (apply Or.inr; apply List.Mem.tail; exact List.Mem.head _) | fail)
section
variable {P : Program} {w : World} {K : PySem.W.Frag} {mg : Str → Option Value} {base : Heap} {n : Nat}
section
theorem scProves : FnScope ["term", "givens", "theorems", "saying"] ["term", "givens", "theorems", "saying"] (defScope (top 48)) := ⟨rfl, rfl, rfl, by decide +kernel, rfl, by decide +kernel, by decide +kernel⟩
local macro_rules | `(tactic| walk_at "pt 1") => `(tactic| first
  | ((with_reducible refine aw_cons (hs := ?hs) (h := ?_)); (case hs => exact rfl))
  | ((with_reducible refine aw_nil (hk := ?_)))
  | ((with_reducible refine ew_var (x := "term") (i := 0) (t := ?t) ?hi ?_ ?hN ?hv ?hd ?hc); (case hi => exact rfl); (case hN => exact rfl); (case hv => first | exact Or.inl rfl | exact Or.inr (Or.inl rfl) | exact Or.inr (Or.inr rfl)); (case hd => decide); (case hc => decide))
  | ((with_reducible refine ew_var (x := "givens") (i := 1) (t := ?t) ?hi ?_ ?hN ?hv ?hd ?hc); (case hi => exact rfl); (case hN => exact rfl); (case hv => first | exact Or.inl rfl | exact Or.inr (Or.inl rfl) | exact Or.inr (Or.inr rfl)); (case hd => decide); (case hc => decide))
  | ((with_reducible refine ew_var (x := "theorems") (i := 2) (t := ?t) ?hi ?_ ?hN ?hv ?hd ?hc); (case hi => exact rfl); (case hN => exact rfl); (case hv => first | exact Or.inl rfl | exact Or.inr (Or.inl rfl) | exact Or.inr (Or.inr rfl)); (case hd => decide); (case hc => decide))
  | ((with_reducible refine ew_var (x := "saying") (i := 3) (t := ?t) ?hi ?_ ?hN ?hv ?hd ?hc); (case hi => exact rfl); (case hN => exact rfl); (case hv => first | exact Or.inl rfl | exact Or.inr (Or.inl rfl) | exact Or.inr (Or.inr rfl)); (case hd => decide); (case hc => decide))
  | ((with_reducible refine ew_bl (hk := ?_)))
  | ((with_reducible refine ew_tup (h := ?_)))
  | ((with_reducible refine tw_cmp (hm := ?hm) (h := ?_)); (case hm => exact rfl))
  | ((with_reducible refine ew_cmp (hm := ?hm) (h := ?_)); (case hm => exact rfl))
  | ((with_reducible refine ew_callF (x := "_law_kind") (n := ?n) (pre := ?pre) (C := ?C) (hr := ?hr) (hg := ?hg) (hdb := ?hdb) (he := ?he) (hpl := ?hpl) (h := ?_)); (case C => exact All.c_law_kind (by assumption)); (case hr => assumption); (case hg => exact rfl); (case hdb => decide); (case he => exact rfl); (case hpl => exact rfl))
  | ((with_reducible refine tw_call (h := ?_)))
  | ((with_reducible refine tw_name (h := ?_)))
  | ((with_reducible refine sw_cons (h := ?_)))
  | ((with_reducible refine sw_nil (h := ?_)))
  | ((with_reducible refine s1_ret0 (h := ?_)))
  | ((with_reducible refine bw_eqs (h := ?h) (hk := ?_)); (case h => exact rfl))
  | ((with_reducible refine And.intro ?hx ?_); (case hx => exact Nat.le_of_ble_eq_true rfl))
  | (with_reducible refine Exists.intro _ (And.intro rfl ?_))
  | (refine tst_t (by decide +kernel) ?_)
  | (refine tst_f (by decide +kernel) ?_)
  | (refine Exists.intro _ (Exists.intro _ (And.intro rfl (And.intro (by walk_at "pt rdb") ?_))))
  | fail)
theorem ok_law_proves (D : Df K mg "_law_proves" (top 48) ["term", "givens", "theorems", "saying"]) (C : All P w K mg base n) : Cl P w K mg base (n + 1) "_law_proves" (Fn (pProves (n + 1))) := by
  refine cl_of D scProves (fun ts F S k h => ?_) (fun a hr ts F S k h => ?_)
  · obtain ⟨_, _, _, _, _, _, _, rfl, _⟩ := h; rfl
  obtain ⟨rfl, t, g, G, th, s, m, rfl, hg, hn, good, nd, hk, q⟩ := h
  have h63 := good.kd hk
  have e : EqT (.tup [.bl true, s.t]) (.tup [.bl true, s.t]) true := by
    have h1 : T.py (.tup [.bl true, s.t]) = some (.tuple [.bool true, s.d]) := by simp only [T.py, T.pys, s.py]; rfl
    have q := eqT_fit h1 h1 (by simp [PyData.canLay0, PyData.canLayAll0, s.lay]) (by simp [PyData.canLay0, PyData.canLayAll0, s.lay]) (by have := s.deep; simp [PyData.depth, PyData.depthAll]; omega) (by have := s.deep; simp [PyData.depth, PyData.depthAll]; omega)
    have e1 : PyData.eqv (.tuple [.bool true, s.d]) (.tuple [.bool true, s.d]) = true := by simp [PyData.eqv, PyData.eqvAll, Say.eqv]
    rw [e1] at q
    exact q
  refine sw_cons ?_
  repeat' (walk_at "pt 1")
  refine fc1 (g, .dk G.t) (.inr hg) ⟨t, g, G, th, [], s, m, rfl, .head _, by omega, good, by have := good.len; simp; omega, nd, hk, ?_⟩
  repeat' (walk_at "pt 1")
  refine bw_eqd hr.units e ?_
  exact q
end
section
theorem scTwists : FnScope ["term", "part"] ["term"] (defScope (top 49)) := ⟨rfl, rfl, rfl, by decide +kernel, rfl, by decide +kernel, by decide +kernel⟩
local macro_rules | `(tactic| walk_at "pt 1") => `(tactic| first
  | ((with_reducible refine aw_cons (hs := ?hs) (h := ?_)); (case hs => exact rfl))
  | ((with_reducible refine aw_nil (hk := ?_)))
  | ((with_reducible refine ew_var (x := "term") (i := 0) (t := ?t) ?hi ?_ ?hN ?hv ?hd ?hc); (case hi => exact rfl); (case hN => exact rfl); (case hv => first | exact Or.inl rfl | exact Or.inr (Or.inl rfl) | exact Or.inr (Or.inr rfl)); (case hd => decide); (case hc => decide))
  | ((with_reducible refine ew_var (x := "part") (i := 1) (t := ?t) ?hi ?_ ?hN ?hv ?hd ?hc); (case hi => exact rfl); (case hN => exact rfl); (case hv => first | exact Or.inl rfl | exact Or.inr (Or.inl rfl) | exact Or.inr (Or.inr rfl)); (case hd => decide); (case hc => decide))
  | ((with_reducible refine ew_sub (h := ?_)))
  | ((with_reducible refine ew_str (hk := ?_)))
  | ((with_reducible refine ew_int (hk := ?_)))
  | ((with_reducible refine tw_cmp (hm := ?hm) (h := ?_)); (case hm => exact rfl))
  | ((with_reducible refine ew_cmp (hm := ?hm) (h := ?_)); (case hm => exact rfl))
  | ((with_reducible refine ew_bin (h := ?_)))
  | ((with_reducible refine ew_call (x := "_law_parts") (n := ?n) (con := ?con) (C := ?C) (hr := ?hr) (hg := ?hg) (hdb := ?hdb) (he := ?he) (hpl := ?hpl) (h := ?_)); (case C => exact All.c_law_parts (by assumption)); (case hr => assumption); (case hg => exact rfl); (case hdb => decide); (case he => exact rfl); (case hpl => exact rfl))
  | ((with_reducible refine ew_callF (x := "_law_twists") (n := ?n) (pre := ?pre) (C := ?C) (hr := ?hr) (hg := ?hg) (hdb := ?hdb) (he := ?he) (hpl := ?hpl) (h := ?_)); (case C => exact All.c_law_twists (by assumption)); (case hr => assumption); (case hg => exact rfl); (case hdb => decide); (case he => exact rfl); (case hpl => exact rfl))
  | ((with_reducible refine ew_callB (x := "sum") (id := "sum") (hm := ?hm) (hv := ?hv) (hg := ?hg) (hn := ?hn) (hdb := ?hdb) (he := ?he) (hpl := ?hpl) (h := ?_)); (case hm => exact Mg.sum (by assumption)); (case hv => exact rfl); (case hg => exact rfl); (case hn => decide); (case hdb => decide); (case he => exact rfl); (case hpl => exact rfl))
  | ((with_reducible refine ew_ifExp (h := ?_)))
  | ((with_reducible refine tw_call (h := ?_)))
  | ((with_reducible refine tw_name (h := ?_)))
  | ((with_reducible refine sw_cons (h := ?_)))
  | ((with_reducible refine sw_nil (h := ?_)))
  | ((with_reducible refine s1_ret0 (h := ?_)))
  | ((with_reducible refine s1_set (x := "part") (i := 1) ?hN ?hi ?_ ?hx ?hs ?hf); (case hN => exact (scTwists).nd); (case hi => exact rfl); (case hx => first | exact Or.inl rfl | exact Or.inr rfl); (case hs => exact rfl); (case hf => first | exact Or.inr rfl | exact Or.inl rfl))
  | ((with_reducible refine bw_eqs (h := ?h) (hk := ?_)); (case h => exact rfl))
  | ((with_reducible refine bw_add (hk := ?_)))
  | ((with_reducible refine xw_tup (t := ?t) (he := ?he) (hs := ?hs) (hk := ?_)); (case he => first | exact rfl | exact atT0 | exact atT1); (case hs => exact fun _ _ => rfl))
  | ((with_reducible refine xw_lst (ts := ?ts) (t := ?t) (hp := ?hp) (he := ?he) (hs := ?hs) (hk := ?_)); (case hp => walk_at "pt rdb"); (case he => first | exact rfl | exact atT0 | exact atT1); (case hs => exact fun _ _ => rfl))
  | ((with_reducible refine And.intro ?hx ?_); (case hx => exact Nat.le_of_ble_eq_true rfl))
  | (with_reducible refine Exists.intro _ (And.intro rfl ?_))
  | (refine tst_t (by decide +kernel) ?_)
  | (refine tst_f (by decide +kernel) ?_)
  | (refine Exists.intro _ (Exists.intro _ (And.intro rfl (And.intro (by walk_at "pt rdb") ?_))))
  | fail)
theorem ok_law_twists (D : Df K mg "_law_twists" (top 49) ["term"]) (C : All P w K mg base n) (M : Mg mg) : Cl P w K mg base (n + 1) "_law_twists" (Fn (pTwists (n + 1))) := by
  refine cl_of D scTwists (fun ts F S k h => ?_) (fun a hr ts F S k h => ?_)
  · obtain ⟨_, _, rfl, _⟩ := h; rfl
  obtain ⟨rfl, t, rfl, hn, q⟩ := h
  have hf : ∃ c xs, t.t = .tup (.str c :: xs) ∧ T.sEq (.str c) (.str "twist") = false := by
    cases t <;> exact ⟨_, _, rfl, by decide +kernel⟩
  obtain ⟨c, xs, hc, hcn⟩ := hf
  refine sw_cons ?_
  repeat' (walk_at "pt 1")
  rw [hc]
  repeat' (walk_at "pt 1")
  refine tst_f hcn ?_
  repeat' (walk_at "pt 1")
  refine ew_lc (own := [("part", 1)]) (g := gName 1) (up := up1 1) rfl scTwists.nd ?_ (fun s1 H1 C1 cl1 fp1 => pg_name scTwists.nd rfl (.inl rfl)) (tgt1 (by simp)) ?_
  · show BlkOk ["term", "part"] (defScope (top 49)) _ _
    exact ⟨rfl, by decide +kernel, by decide +kernel, by decide +kernel, by decide +kernel⟩
  refine iw_lst ?_
  repeat' (walk_at "pt 1")
  have hn1 : 1 ≤ n := by have := t.dep_pos; omega
  refine ⟨[], [], [], [], rfl, by simp, hn1, t, by rw [hc], rfl, fun p => ?_⟩
  refine ⟨p, t.parts.map Tm.t, rfl, .inl (.head _), fun i acc S1 => i ≤ 3 ∧ acc = (List.replicate i (0 : Int)).map T.int ∧ S1 = [(p, .lst (t.parts.map Tm.t))], ⟨by omega, rfl, rfl⟩, fun i acc S1 ⟨_, _, e⟩ => by subst e; exact .inl (.head _), ?_, ?_⟩
  · rintro i u acc S2 hu ⟨_, rfl, rfl⟩
    rw [List.getElem?_map] at hu
    obtain ⟨pt, hpt, rfl⟩ := Option.map_eq_some_iff.mp hu
    have hdp := Tm.parts_dep (List.mem_of_getElem? hpt)
    have hi : i < 3 := by
      have := (List.getElem?_eq_some_iff.mp hpt).1
      have := t.parts_len
      omega
    refine ⟨by simp; omega, _, rfl, fun s1 H1 C1 cl1 fp1 => tsw_nil (tst_t rfl fun s2 H2 C2 cl2 fp2 => ?_)⟩
    repeat' (walk_at "pt 1")
    refine fc0 ⟨pt, rfl, by omega, ?_⟩
    refine ⟨by omega, ?_, rfl⟩
    rw [List.replicate_succ', List.map_append]; rfl
  · rintro acc S2 ⟨_, rfl, rfl⟩ qq hq
    repeat' (walk_at "pt 1")
    refine cw_sum rfl (.inl (.head _)) ?_
    have e0 : (List.replicate (t.parts.map Tm.t).length (0 : Int)).sum = 0 := by simp
    rw [e0]
    repeat' (walk_at "pt 1")
    exact q
end
/-! ### the tape -/
section
theorem scTape : FnScope ["script", "seed", "cell"] ["script"] (defScope (top 30)) := ⟨rfl, rfl, rfl, by decide +kernel, rfl, by decide +kernel, by decide +kernel⟩
local macro_rules | `(tactic| walk_at "pt 1") => `(tactic| first
  | ((with_reducible refine aw_cons (hs := ?hs) (h := ?_)); (case hs => exact rfl))
  | ((with_reducible refine aw_nil (hk := ?_)))
  | ((with_reducible refine ew_var (x := "script") (i := 0) (t := ?t) ?hi ?_ ?hN ?hv ?hd ?hc); (case hi => exact rfl); (case hN => exact rfl); (case hv => first | exact Or.inl rfl | exact Or.inr (Or.inl rfl) | exact Or.inr (Or.inr rfl)); (case hd => decide); (case hc => decide))
  | ((with_reducible refine ew_var (x := "seed") (i := 1) (t := ?t) ?hi ?_ ?hN ?hv ?hd ?hc); (case hi => exact rfl); (case hN => exact rfl); (case hv => first | exact Or.inl rfl | exact Or.inr (Or.inl rfl) | exact Or.inr (Or.inr rfl)); (case hd => decide); (case hc => decide))
  | ((with_reducible refine ew_var (x := "cell") (i := 2) (t := ?t) ?hi ?_ ?hN ?hv ?hd ?hc); (case hi => exact rfl); (case hN => exact rfl); (case hv => first | exact Or.inl rfl | exact Or.inr (Or.inl rfl) | exact Or.inr (Or.inr rfl)); (case hd => decide); (case hc => decide))
  | ((with_reducible refine ew_int (hk := ?_)))
  | ((with_reducible refine ew_bin (h := ?_)))
  | ((with_reducible refine ew_lst (h := ?_)))
  | ((with_reducible refine ew_callB (x := "abs") (id := "abs") (hm := ?hm) (hv := ?hv) (hg := ?hg) (hn := ?hn) (hdb := ?hdb) (he := ?he) (hpl := ?hpl) (h := ?_)); (case hm => exact Mg.abs (by assumption)); (case hv => exact rfl); (case hg => exact rfl); (case hn => decide); (case hdb => decide); (case he => exact rfl); (case hpl => exact rfl))
  | ((with_reducible refine ew_callTy (x := "int") (T' := "int") (hm := ?hm) (hv := ?hv) (hg := ?hg) (hn := ?hn) (hdb := ?hdb) (he := ?he) (hpl := ?hpl) (h := ?_)); (case hm => exact Mg.int (by assumption)); (case hv => exact rfl); (case hg => exact rfl); (case hn => decide); (case hdb => decide); (case he => exact rfl); (case hpl => exact rfl))
  | ((with_reducible refine tw_call (h := ?_)))
  | ((with_reducible refine tw_name (h := ?_)))
  | ((with_reducible refine sw_cons (h := ?_)))
  | ((with_reducible refine sw_nil (h := ?_)))
  | ((with_reducible refine s1_set (x := "seed") (i := 1) ?hN ?hi ?_ ?hx ?hs ?hf); (case hN => exact (scTape).nd); (case hi => exact rfl); (case hx => first | exact Or.inl rfl | exact Or.inr rfl); (case hs => exact rfl); (case hf => first | exact Or.inr rfl | exact Or.inl rfl))
  | ((with_reducible refine s1_set (x := "cell") (i := 2) ?hN ?hi ?_ ?hx ?hs ?hf); (case hN => exact (scTape).nd); (case hi => exact rfl); (case hx => first | exact Or.inl rfl | exact Or.inr rfl); (case hs => exact rfl); (case hf => first | exact Or.inr rfl | exact Or.inl rfl))
  | ((with_reducible refine bw_mul (h := ?h) (hk := ?_)); (case h => decide))
  | ((with_reducible refine bw_add (hk := ?_)))
  | ((with_reducible refine And.intro ?hx ?_); (case hx => exact Nat.le_of_ble_eq_true rfl))
  | (with_reducible refine Exists.intro _ (And.intro rfl ?_))
  | (refine tst_t (by decide +kernel) ?_)
  | (refine tst_f (by decide +kernel) ?_)
  | (refine Exists.intro _ (Exists.intro _ (And.intro rfl (And.intro (by walk_at "pt rdb") ?_))))
  | fail)
theorem ok_law_tape (M : Mg mg) (D : Df K mg "_law_tape" (top 30) ["script"]) (C : All P w K mg base n) : Cl P w K mg base (n + 1) "_law_tape" (cTape (n + 1)) := by
  refine cl_of D scTape (fun ts F S k h => ?_) (fun a hr ts F S k h => ?_)
  · obtain ⟨_, _, _, rfl, _⟩ := h; rfl
  obtain ⟨hn, sc, is, rfl, rfl, hs, hl, q⟩ := h
  refine sw_cons ?_
  repeat' (walk_at "pt 1")
  refine s1_for (g := _) (up := up1 2) (vs := [2]) PassesOwn.never rfl (pg_name (i := 2) scTape.nd rfl (.inl rfl)) (tgt1 (by simp)) ?_
  refine iw_lst ?_
  repeat' (walk_at "pt 1")
  refine ⟨fun i r1 S1 => S1 = [] ∧ ∃ sd o, r1 = [some (.ref sc), some (.int sd), o] ∧ 0 ≤ sd ∧ sd < 1000003, ⟨rfl, 7, none, rfl, by decide, by decide⟩, fun i r1 S1 _ => .inr hs, ?_, ?_⟩
  · rintro i u r1 S2 hu ⟨rfl, sd, o, rfl, h0, h1⟩
    rw [List.getElem?_map] at hu
    obtain ⟨z, hz, rfl⟩ := Option.map_eq_some_iff.mp hu
    refine ⟨_, rfl, ?_⟩
    refine sw_cons ?_
    repeat' (walk_at "pt 1")
    refine bw_mul (.inl ⟨by omega, by omega⟩) ?_
    repeat' (walk_at "pt 1")
    refine cw_int ?_
    repeat' (walk_at "pt 1")
    refine bw_mod (by decide) ?_
    repeat' (walk_at "pt 1")
    exact ⟨rfl, _, _, rfl, Int.fmod_nonneg_of_pos _ (by decide), Int.fmod_lt_of_pos _ (by decide)⟩
  · rintro r1 S2 ⟨rfl, sd, o, rfl, h0, h1⟩
    repeat' (walk_at "pt 1")
    refine s1_retD ?_
    repeat' (walk_at "pt 1")
    refine ew_lc (own := [("cell", 2)]) (g := gName 2) (up := up1 2) rfl scTape.nd ?_ (fun s1 H1 C1 cl1 fp1 => pg_name scTape.nd rfl (.inl rfl)) (tgt1 (by simp)) ?_
    · show BlkOk ["script", "seed", "cell"] (defScope (top 30)) _ _
      exact ⟨rfl, by decide +kernel, by decide +kernel, by decide +kernel, by decide +kernel⟩
    refine iw_lst ?_
    repeat' (walk_at "pt 1")
    refine ⟨fun i acc S1 => acc = ((is.take i).map fun z => if z < 0 then -z else z).map T.int ∧ S1 = [], ⟨rfl, rfl⟩, fun i acc S1 _ => .inr hs, ?_, ?_⟩
    · rintro i u acc S2 hu ⟨rfl, rfl⟩
      rw [List.getElem?_map] at hu
      obtain ⟨z, hz, rfl⟩ := Option.map_eq_some_iff.mp hu
      refine ⟨by simp only [List.length_map, List.length_take]; omega, _, rfl, fun s1 H1 C1 cl1 fp1 => tsw_nil (tst_t rfl fun s2 H2 C2 cl2 fp2 => ?_)⟩
      repeat' (walk_at "pt 1")
      refine cw_int ?_
      repeat' (walk_at "pt 1")
      refine cw_abs ?_
      refine ⟨?_, rfl⟩
      rw [List.take_add_one, hz, List.map_append, List.map_append]; rfl
    · rintro acc S2 ⟨rfl, rfl⟩ b hb
      rw [List.length_map, List.take_length]
      repeat' (walk_at "pt 1")
      intro c hc
      refine ⟨_, List.Sublist.refl _, q c b (sd + 1) (is.map fun z => if z < 0 then -z else z) ⟨fun z hz => ?_, by omega, by omega, by rw [List.length_map]; exact hl⟩⟩
      obtain ⟨y, _, rfl⟩ := List.mem_map.mp hz
      split <;> omega
end
section
theorem scDraw : FnScope ["tape", "many", "cells", "number"] ["tape", "many"] (defScope (top 31)) := ⟨rfl, rfl, rfl, by decide +kernel, rfl, by decide +kernel, by decide +kernel⟩
local macro_rules | `(tactic| walk_at "pt 1") => `(tactic| first
  | ((with_reducible refine aw_cons (hs := ?hs) (h := ?_)); (case hs => exact rfl))
  | ((with_reducible refine aw_nil (hk := ?_)))
  | ((with_reducible refine ew_var (x := "tape") (i := 0) (t := ?t) ?hi ?_ ?hN ?hv ?hd ?hc); (case hi => exact rfl); (case hN => exact rfl); (case hv => first | exact Or.inl rfl | exact Or.inr (Or.inl rfl) | exact Or.inr (Or.inr rfl)); (case hd => decide); (case hc => decide))
  | ((with_reducible refine ew_var (x := "many") (i := 1) (t := ?t) ?hi ?_ ?hN ?hv ?hd ?hc); (case hi => exact rfl); (case hN => exact rfl); (case hv => first | exact Or.inl rfl | exact Or.inr (Or.inl rfl) | exact Or.inr (Or.inr rfl)); (case hd => decide); (case hc => decide))
  | ((with_reducible refine ew_var (x := "cells") (i := 2) (t := ?t) ?hi ?_ ?hN ?hv ?hd ?hc); (case hi => exact rfl); (case hN => exact rfl); (case hv => first | exact Or.inl rfl | exact Or.inr (Or.inl rfl) | exact Or.inr (Or.inr rfl)); (case hd => decide); (case hc => decide))
  | ((with_reducible refine ew_var (x := "number") (i := 3) (t := ?t) ?hi ?_ ?hN ?hv ?hd ?hc); (case hi => exact rfl); (case hN => exact rfl); (case hv => first | exact Or.inl rfl | exact Or.inr (Or.inl rfl) | exact Or.inr (Or.inr rfl)); (case hd => decide); (case hc => decide))
  | ((with_reducible refine ew_sub (h := ?_)))
  | ((with_reducible refine ew_int (hk := ?_)))
  | ((with_reducible refine tw_cmp (hm := ?hm) (h := ?_)); (case hm => exact rfl))
  | ((with_reducible refine ew_cmp (hm := ?hm) (h := ?_)); (case hm => exact rfl))
  | ((with_reducible refine ew_bin (h := ?_)))
  | ((with_reducible refine ew_callTy (x := "int") (T' := "int") (hm := ?hm) (hv := ?hv) (hg := ?hg) (hn := ?hn) (hdb := ?hdb) (he := ?he) (hpl := ?hpl) (h := ?_)); (case hm => exact Mg.int (by assumption)); (case hv => exact rfl); (case hg => exact rfl); (case hn => decide); (case hdb => decide); (case he => exact rfl); (case hpl => exact rfl))
  | ((with_reducible refine ew_callB (x := "len") (id := "len") (hm := ?hm) (hv := ?hv) (hg := ?hg) (hn := ?hn) (hdb := ?hdb) (he := ?he) (hpl := ?hpl) (h := ?_)); (case hm => exact Mg.len (by assumption)); (case hv => exact rfl); (case hg => exact rfl); (case hn => decide); (case hdb => decide); (case he => exact rfl); (case hpl => exact rfl))
  | ((with_reducible refine ew_mth (name := "pop") (id := "list.pop") (rr := rPopAt) (slot := ?slot) (hty := ?hty) (hm := ?hm) (hbase := ?hbase) (hfew := ?hfew) (hline := ?hline) (hs := ?hs) (hplain := ?hplain) (h := ?_)); (case slot => exact PySem.F.slot_list_pop); (case hty => exact PySem.F.type_list_pop); (case hm => exact mt_popAt); (case hbase => exact rfl); (case hfew => exact rfl); (case hline => exact rfl); (case hs => exact rfl); (case hplain => exact rfl))
  | ((with_reducible refine tw_bool (h := ?_)))
  | ((with_reducible refine ww_and (h := ?_)))
  | ((with_reducible refine ww_or (h := ?_)))
  | ((with_reducible refine ww_and1 (h := ?_)))
  | ((with_reducible refine ww_or1 (h := ?_)))
  | ((with_reducible refine ew_and (h := ?_)))
  | ((with_reducible refine ew_or (h := ?_)))
  | ((with_reducible refine ew_one (h := ?_)))
  | ((with_reducible refine tw_call (h := ?_)))
  | ((with_reducible refine tw_name (h := ?_)))
  | ((with_reducible refine sw_cons (h := ?_)))
  | ((with_reducible refine sw_nil (h := ?_)))
  | ((with_reducible refine s1_if (h := ?_)))
  | ((with_reducible refine s1_expr (hs := ?hs) (h := ?_)); (case hs => exact rfl))
  | ((with_reducible refine s1_set (x := "cells") (i := 2) ?hN ?hi ?_ ?hx ?hs ?hf); (case hN => exact (scDraw).nd); (case hi => exact rfl); (case hx => first | exact Or.inl rfl | exact Or.inr rfl); (case hs => exact rfl); (case hf => first | exact Or.inr rfl | exact Or.inl rfl))
  | ((with_reducible refine s1_set (x := "number") (i := 3) ?hN ?hi ?_ ?hx ?hs ?hf); (case hN => exact (scDraw).nd); (case hi => exact rfl); (case hx => first | exact Or.inl rfl | exact Or.inr rfl); (case hs => exact rfl); (case hf => first | exact Or.inr rfl | exact Or.inl rfl))
  | ((with_reducible refine bw_eqs (h := ?h) (hk := ?_)); (case h => exact rfl))
  | ((with_reducible refine bw_mul (h := ?h) (hk := ?_)); (case h => decide))
  | ((with_reducible refine bw_add (hk := ?_)))
  | ((with_reducible refine bw_gt (hk := ?_)))
  | ((with_reducible refine xw_tup (t := ?t) (he := ?he) (hs := ?hs) (hk := ?_)); (case he => first | exact rfl | exact atT0 | exact atT1); (case hs => exact fun _ _ => rfl))
  | ((with_reducible refine xw_lst (ts := ?ts) (t := ?t) (hp := ?hp) (he := ?he) (hs := ?hs) (hk := ?_)); (case hp => walk_at "pt rdb"); (case he => first | exact rfl | exact atT0 | exact atT1); (case hs => exact fun _ _ => rfl))
  | ((with_reducible refine cw_lenT (hk := ?_)))
  | ((with_reducible refine And.intro ?hx ?_); (case hx => exact Nat.le_of_ble_eq_true rfl))
  | (with_reducible refine Exists.intro _ (And.intro rfl ?_))
  | (refine tst_t (by decide +kernel) ?_)
  | (refine tst_f (by decide +kernel) ?_)
  | (refine Exists.intro _ (Exists.intro _ (And.intro rfl (And.intro (by walk_at "pt rdb") ?_))))
  | fail)
theorem ok_law_draw (M : Mg mg) (D : Df K mg "_law_draw" (top 31) ["tape", "many"]) (C : All P w K mg base n) : Cl P w K mg base (n + 1) "_law_draw" (cDraw (n + 1)) := by
  refine cl_of D scDraw (fun ts F S k h => ?_) (fun a hr ts F S k h => ?_)
  · obtain ⟨_, _, _, _, _, _, rfl, _⟩ := h; rfl
  obtain ⟨hn, ta, tb, seed, ns, many, rfl, rfl, tk, hm0, hm1, q⟩ := h
  simp only [tapeS]
  refine sw_cut (fun r1 S1 => r1 = [some (.ref ta), some (.int many), some (.ref tb), none] ∧ S1 = [(ta, .lst [.ref tb, .int seed]), (tb, .lst (ns.map T.int))]) ?_ ?_
  · repeat' (walk_at "pt 1")
    exact ⟨rfl, rfl⟩
  rintro _ _ ⟨rfl, rfl⟩
  refine sw_cut (fun r1 S1 => r1 = [some (.ref ta), some (.int many), some (.ref tb), none] ∧ ∃ ms : List Int, TapeOk seed ms ∧ S1 = [(ta, .lst [.ref tb, .int seed]), (tb, .lst (ms.map T.int))]) ?_ ?_
  · refine s1_whileW [some (.ref ta), some (.int many), some (.ref tb), none] PassesOwn.never (fun m S => ∃ ms : List Int, TapeOk seed ms ∧ S = [(ta, .lst [.ref tb, .int seed]), (tb, .lst (ms.map T.int))] ∧ m = ms.length) (lessT.refl _) ⟨_, ns, tk, rfl, rfl⟩ ?_
    rintro m S1 ⟨ms, tm, rfl, rfl⟩
    cases ms with
    | nil =>
      repeat' (walk_at "pt 1")
      refine cw_lenL (.inl (.tail _ (.head _))) ?_
      repeat' (walk_at "pt 1")
      exact ⟨rfl, [], tm, rfl⟩
    | cons z zs =>
      have hz := tm.nn z (by simp)
      repeat' (walk_at "pt 1")
      refine cw_lenL (.inl (.tail _ (.head _))) ?_
      repeat' (walk_at "pt 1")
      refine tst_t (decide_eq_true (by first | (simp; done) | (simp; omega))) ?_
      simp only [List.map_cons]
      repeat' (walk_at "pt 1")
      refine ⟨fun hb => ?_, fun hb => ?_⟩
      · repeat' (walk_at "pt 1")
        refine mw_popAt (Sa := [(ta, _)]) (n := 0) (by decide) (by first | (simp [seqIndex?]; done) | (simp [seqIndex?]; omega)) rfl ?_
        repeat' (walk_at "pt 1")
        exact ⟨lessT.refl _, zs.length, by simp, zs, ⟨fun y hy => tm.nn y (by simp [hy]), tm.s0, tm.s1, by have := tm.len; simp at this; omega⟩, rfl, rfl⟩
      · exact ⟨trivial, z :: zs, tm, rfl⟩
  rintro _ _ ⟨rfl, ms, tm, rfl⟩
  cases ms with
  | nil =>
    refine sw_cons ?_
    repeat' (walk_at "pt 1")
    refine cw_lenL (.inl (.tail _ (.head _))) ?_
    repeat' (walk_at "pt 1")
    refine s1_setL ?_
    repeat' (walk_at "pt 1")
    refine bw_mul (.inr (by decide)) ?_
    repeat' (walk_at "pt 1")
    refine cw_int ?_
    repeat' (walk_at "pt 1")
    refine bw_mod (by decide) ?_
    repeat' (walk_at "pt 1")
    refine ⟨ta, [], [(tb, .lst [])], _, 1, 1, rfl, rfl, rfl, rfl, ?_⟩
    have s0 : 0 ≤ (seed * 48271 + 12345).fmod 2147483647 := Int.fmod_nonneg_of_pos _ (by decide)
    have s1 : (seed * 48271 + 12345).fmod 2147483647 < 2147483647 := Int.fmod_lt_of_pos _ (by decide)
    generalize (seed * 48271 + 12345).fmod 2147483647 = sd at *
    show sw _ _ _ _ [(ta, .lst [.ref tb, .int sd]), (tb, .lst [])] _
    repeat' (walk_at "pt 1")
    refine s1_retD ?_
    repeat' (walk_at "pt 1")
    refine bw_fdiv (by decide) ?_
    repeat' (walk_at "pt 1")
    refine cw_int ?_
    repeat' (walk_at "pt 1")
    refine bw_mod (by omega) ?_
    exact ⟨_, List.Sublist.refl _, q _ sd [] (Int.fmod_nonneg_of_pos _ hm0) (Int.fmod_lt_of_pos _ hm0) ⟨fun y hy => (by cases hy), s0, s1, by simp⟩⟩
  | cons z zs =>
    have hz := tm.nn z (by simp)
    refine sw_cons ?_
    repeat' (walk_at "pt 1")
    refine cw_lenL (.inl (.tail _ (.head _))) ?_
    repeat' (walk_at "pt 1")
    refine tst_t (decide_eq_true (by first | (simp; done) | (simp; omega))) ?_
    simp only [List.map_cons]
    refine sw_cons ?_
    repeat' (walk_at "pt 1")
    refine s1_setL ?_
    repeat' (walk_at "pt 1")
    refine bw_fdiv ⟨by omega, by omega⟩ ?_
    repeat' (walk_at "pt 1")
    refine ⟨tb, [(ta, _)], [], _, 0, 0, rfl, rfl, rfl, by simp [ixN], ?_⟩
    show sw _ _ _ _ [(ta, .lst [.ref tb, .int seed]), (tb, .lst (T.int (z.fdiv many) :: zs.map T.int))] _
    repeat' (walk_at "pt 1")
    refine s1_retD ?_
    repeat' (walk_at "pt 1")
    refine cw_int ?_
    repeat' (walk_at "pt 1")
    refine bw_mod (by omega) ?_
    refine ⟨_, List.Sublist.refl _, q _ seed (z.fdiv many :: zs) (Int.fmod_nonneg_of_pos _ hm0) (Int.fmod_lt_of_pos _ hm0) ⟨fun y hy => ?_, tm.s0, tm.s1, by have := tm.len; simpa using this⟩⟩
    rcases List.mem_cons.mp hy with rfl | hy
    · exact Int.fdiv_nonneg hz (by omega)
    · exact tm.nn y (by simp [hy])
end
end
end B33

set_option Elab.async false
set_option linter.all false
set_option maxRecDepth 100000
set_option maxHeartbeats 2000000
set_option autoImplicit false
set_option pp.maxSteps 600
namespace B33
open PT PySem L2 PySem.Spec PyProof.Rows
local macro_rules | `(tactic| walk_at "pt rdb") => `(tactic| first
  | (apply Or.inl; exact List.Mem.head _)
  | (apply Or.inl; apply List.Mem.tail; exact List.Mem.head _)
  | (apply Or.inl; apply List.Mem.tail; apply List.Mem.tail; exact List.Mem.head _)
  | (apply Or.inl; apply List.Mem.tail; apply List.Mem.tail; apply List.Mem.tail; exact List.Mem.head _)
  | (apply Or.inl; apply List.Mem.tail; apply List.Mem.tail; apply List.Mem.tail; apply List.Mem.tail; exact List.Mem.head _)
  | (apply Or.inl; apply List.Mem.tail; apply List.Mem.tail; apply List.Mem.tail; apply List.Mem.tail; apply List.Mem.tail; exact List.Mem.head _)
  | (apply Or.inl; apply List.Mem.tail; apply List.Mem.tail; apply List.Mem.tail; apply List.Mem.tail; apply List.Mem.tail; apply List.Mem.tail; exact List.Mem.head _)
  | (apply Or.inl; apply List.Mem.tail; apply List.Mem.tail; apply List.Mem.tail; apply List.Mem.tail; apply List.Mem.tail; apply List.Mem.tail; apply List.Mem.tail; exact List.Mem.head _)
  | (apply Or.inl; apply List.Mem.tail; apply List.Mem.tail; apply List.Mem.tail; apply List.Mem.tail; apply List.Mem.tail; apply List.Mem.tail; apply List.Mem.tail; apply List.Mem.tail; exact List.Mem.head _)
  | (apply Or.inl; apply List.Mem.tail; apply List.Mem.tail; apply List.Mem.tail; apply List.Mem.tail; apply List.Mem.tail; apply List.Mem.tail; apply List.Mem.tail; apply List.Mem.tail; apply List.Mem.tail; exact List.Mem.head _)
  | (apply Or.inr; assumption) | (apply Or.inr; exact List.Mem.head _) | (apply Or.inr; apply List.Mem.tail; exact List.Mem.head _) | fail)
section
variable {P : Program} {w : World} {K : PySem.W.Frag} {mg : Str → Option Value} {base : Heap} {n : Nat}
section
theorem scPick : FnScope ["tape", "row"] ["tape", "row"] (defScope (top 32)) := ⟨rfl, rfl, rfl, by decide +kernel, rfl, by decide +kernel, by decide +kernel⟩
local macro_rules | `(tactic| walk_at "pt 1") => `(tactic| first
  | ((with_reducible refine aw_cons (hs := ?hs) (h := ?_)); (case hs => exact rfl))
  | ((with_reducible refine aw_nil (hk := ?_)))
  | ((with_reducible refine ew_var (x := "tape") (i := 0) (t := ?t) ?hi ?_ ?hN ?hv ?hd ?hc); (case hi => exact rfl); (case hN => exact rfl); (case hv => first | exact Or.inl rfl | exact Or.inr (Or.inl rfl) | exact Or.inr (Or.inr rfl)); (case hd => decide); (case hc => decide))
  | ((with_reducible refine ew_var (x := "row") (i := 1) (t := ?t) ?hi ?_ ?hN ?hv ?hd ?hc); (case hi => exact rfl); (case hN => exact rfl); (case hv => first | exact Or.inl rfl | exact Or.inr (Or.inl rfl) | exact Or.inr (Or.inr rfl)); (case hd => decide); (case hc => decide))
  | ((with_reducible refine ew_sub (h := ?_)))
  | ((with_reducible refine ew_call (x := "_law_draw") (n := ?n) (con := ?con) (C := ?C) (hr := ?hr) (hg := ?hg) (hdb := ?hdb) (he := ?he) (hpl := ?hpl) (h := ?_)); (case C => exact All.c_law_draw (by assumption)); (case hr => assumption); (case hg => exact rfl); (case hdb => decide); (case he => exact rfl); (case hpl => exact rfl))
  | ((with_reducible refine ew_callB (x := "len") (id := "len") (hm := ?hm) (hv := ?hv) (hg := ?hg) (hn := ?hn) (hdb := ?hdb) (he := ?he) (hpl := ?hpl) (h := ?_)); (case hm => exact Mg.len (by assumption)); (case hv => exact rfl); (case hg => exact rfl); (case hn => decide); (case hdb => decide); (case he => exact rfl); (case hpl => exact rfl))
  | ((with_reducible refine tw_call (h := ?_)))
  | ((with_reducible refine tw_name (h := ?_)))
  | ((with_reducible refine sw_cons (h := ?_)))
  | ((with_reducible refine sw_nil (h := ?_)))
  | ((with_reducible refine xw_tup (t := ?t) (he := ?he) (hs := ?hs) (hk := ?_)); (case he => first | exact rfl | exact atT0 | exact atT1); (case hs => exact fun _ _ => rfl))
  | ((with_reducible refine xw_lst (ts := ?ts) (t := ?t) (hp := ?hp) (he := ?he) (hs := ?hs) (hk := ?_)); (case hp => walk_at "pt rdb"); (case he => first | exact rfl | exact atT0 | exact atT1); (case hs => exact fun _ _ => rfl))
  | ((with_reducible refine cw_lenT (hk := ?_)))
  | ((with_reducible refine And.intro ?hx ?_); (case hx => exact Nat.le_of_ble_eq_true rfl))
  | (with_reducible refine Exists.intro _ (And.intro rfl ?_))
  | (refine tst_t (by decide +kernel) ?_)
  | (refine tst_f (by decide +kernel) ?_)
  | (refine Exists.intro _ (Exists.intro _ (And.intro rfl (And.intro (by walk_at "pt rdb") ?_))))
  | fail)
theorem ok_law_pick (M : Mg mg) (D : Df K mg "_law_pick" (top 32) ["tape", "row"]) (C : All P w K mg base n) : Cl P w K mg base (n + 1) "_law_pick" (cPick (n + 1)) := by
  refine cl_of D scPick (fun ts F S k h => ?_) (fun a hr ts F S k h => ?_)
  · obtain ⟨_, _, _, _, _, _, _, rfl, _⟩ := h; rfl
  obtain ⟨hn, ta, tb, row, seed, ns, us, rfl, rfl, tk, hrow, hne, hl, q⟩ := h
  have hpos : 0 < us.length := List.length_pos_iff.mpr hne
  refine sw_cons ?_
  repeat' (walk_at "pt 1")
  refine s1_retD ?_
  repeat' (walk_at "pt 1")
  refine cw_lenL (.inr hrow) ?_
  repeat' (walk_at "pt 1")
  refine ⟨[], tapeS ta tb seed ns, [], [], by simp, by simp, by omega, ta, tb, seed, ns, us.length, rfl, rfl, tk, by omega, by omega, fun i seed' ns' h0 h1 tk' => ?_⟩
  have hi : i.toNat < us.length := by omega
  have ei : i = ((i.toNat : Nat) : Int) := by omega
  have hat : atI us i = some us[i.toNat] := by
    have h := atI_nat (xs := us) (j := i.toNat) (List.getElem?_eq_getElem hi)
    rw [← ei] at h
    exact h
  refine xw_lst (.inr hrow) hat ⟨tapeS ta tb seed' ns', by simp, q _ seed' ns' (List.getElem_mem hi) tk'⟩
end
section
theorem scSaying : FnScope ["tape", "depth", "names", "kind", "word"] ["tape", "depth", "names"] (defScope (top 34)) := ⟨rfl, rfl, rfl, by decide +kernel, rfl, by decide +kernel, by decide +kernel⟩
local macro_rules | `(tactic| walk_at "pt 1") => `(tactic| first
  | ((with_reducible refine aw_cons (hs := ?hs) (h := ?_)); (case hs => exact rfl))
  | ((with_reducible refine aw_nil (hk := ?_)))
  | ((with_reducible refine ew_var (x := "tape") (i := 0) (t := ?t) ?hi ?_ ?hN ?hv ?hd ?hc); (case hi => exact rfl); (case hN => exact rfl); (case hv => first | exact Or.inl rfl | exact Or.inr (Or.inl rfl) | exact Or.inr (Or.inr rfl)); (case hd => decide); (case hc => decide))
  | ((with_reducible refine ew_var (x := "depth") (i := 1) (t := ?t) ?hi ?_ ?hN ?hv ?hd ?hc); (case hi => exact rfl); (case hN => exact rfl); (case hv => first | exact Or.inl rfl | exact Or.inr (Or.inl rfl) | exact Or.inr (Or.inr rfl)); (case hd => decide); (case hc => decide))
  | ((with_reducible refine ew_var (x := "names") (i := 2) (t := ?t) ?hi ?_ ?hN ?hv ?hd ?hc); (case hi => exact rfl); (case hN => exact rfl); (case hv => first | exact Or.inl rfl | exact Or.inr (Or.inl rfl) | exact Or.inr (Or.inr rfl)); (case hd => decide); (case hc => decide))
  | ((with_reducible refine ew_var (x := "kind") (i := 3) (t := ?t) ?hi ?_ ?hN ?hv ?hd ?hc); (case hi => exact rfl); (case hN => exact rfl); (case hv => first | exact Or.inl rfl | exact Or.inr (Or.inl rfl) | exact Or.inr (Or.inr rfl)); (case hd => decide); (case hc => decide))
  | ((with_reducible refine ew_var (x := "word") (i := 4) (t := ?t) ?hi ?_ ?hN ?hv ?hd ?hc); (case hi => exact rfl); (case hN => exact rfl); (case hv => first | exact Or.inl rfl | exact Or.inr (Or.inl rfl) | exact Or.inr (Or.inr rfl)); (case hd => decide); (case hc => decide))
  | ((with_reducible refine ew_sub (h := ?_)))
  | ((with_reducible refine ew_str (hk := ?_)))
  | ((with_reducible refine ew_int (hk := ?_)))
  | ((with_reducible refine ew_tup (h := ?_)))
  | ((with_reducible refine tw_cmp (hm := ?hm) (h := ?_)); (case hm => exact rfl))
  | ((with_reducible refine ew_cmp (hm := ?hm) (h := ?_)); (case hm => exact rfl))
  | ((with_reducible refine ew_bin (h := ?_)))
  | ((with_reducible refine ew_lst (h := ?_)))
  | ((with_reducible refine ew_call (x := "_law_draw") (n := ?n) (con := ?con) (C := ?C) (hr := ?hr) (hg := ?hg) (hdb := ?hdb) (he := ?he) (hpl := ?hpl) (h := ?_)); (case C => exact All.c_law_draw (by assumption)); (case hr => assumption); (case hg => exact rfl); (case hdb => decide); (case he => exact rfl); (case hpl => exact rfl))
  | ((with_reducible refine ew_call (x := "_law_pick") (n := ?n) (con := ?con) (C := ?C) (hr := ?hr) (hg := ?hg) (hdb := ?hdb) (he := ?he) (hpl := ?hpl) (h := ?_)); (case C => exact All.c_law_pick (by assumption)); (case hr => assumption); (case hg => exact rfl); (case hdb => decide); (case he => exact rfl); (case hpl => exact rfl))
  | ((with_reducible refine ew_call (x := "_law_saying") (n := ?n) (con := ?con) (C := ?C) (hr := ?hr) (hg := ?hg) (hdb := ?hdb) (he := ?he) (hpl := ?hpl) (h := ?_)); (case C => exact All.c_law_saying (by assumption)); (case hr => assumption); (case hg => exact rfl); (case hdb => decide); (case he => exact rfl); (case hpl => exact rfl))
  | ((with_reducible refine ew_ifExp (h := ?_)))
  | ((with_reducible refine tw_bool (h := ?_)))
  | ((with_reducible refine ww_and (h := ?_)))
  | ((with_reducible refine ww_or (h := ?_)))
  | ((with_reducible refine ww_and1 (h := ?_)))
  | ((with_reducible refine ww_or1 (h := ?_)))
  | ((with_reducible refine ew_and (h := ?_)))
  | ((with_reducible refine ew_or (h := ?_)))
  | ((with_reducible refine ew_one (h := ?_)))
  | ((with_reducible refine tw_call (h := ?_)))
  | ((with_reducible refine tw_name (h := ?_)))
  | ((with_reducible refine sw_cons (h := ?_)))
  | ((with_reducible refine sw_nil (h := ?_)))
  | ((with_reducible refine s1_if (h := ?_)))
  | ((with_reducible refine s1_set (x := "kind") (i := 3) ?hN ?hi ?_ ?hx ?hs ?hf); (case hN => exact (scSaying).nd); (case hi => exact rfl); (case hx => first | exact Or.inl rfl | exact Or.inr rfl); (case hs => exact rfl); (case hf => first | exact Or.inr rfl | exact Or.inl rfl))
  | ((with_reducible refine s1_set (x := "word") (i := 4) ?hN ?hi ?_ ?hx ?hs ?hf); (case hN => exact (scSaying).nd); (case hi => exact rfl); (case hx => first | exact Or.inl rfl | exact Or.inr rfl); (case hs => exact rfl); (case hf => first | exact Or.inr rfl | exact Or.inl rfl))
  | ((with_reducible refine bw_eqs (h := ?h) (hk := ?_)); (case h => exact rfl))
  | ((with_reducible refine bw_sub (hk := ?_)))
  | ((with_reducible refine bw_lt (hk := ?_)))
  | ((with_reducible refine bw_gt (hk := ?_)))
  | ((with_reducible refine xw_tup (t := ?t) (he := ?he) (hs := ?hs) (hk := ?_)); (case he => first | exact rfl | exact atT0 | exact atT1); (case hs => exact fun _ _ => rfl))
  | ((with_reducible refine xw_lst (ts := ?ts) (t := ?t) (hp := ?hp) (he := ?he) (hs := ?hs) (hk := ?_)); (case hp => walk_at "pt rdb"); (case he => first | exact rfl | exact atT0 | exact atT1); (case hs => exact fun _ _ => rfl))
  | (with_reducible refine fresh_i fun _ _ => ?_)
  | ((with_reducible refine And.intro ?hx ?_); (case hx => exact Nat.le_of_ble_eq_true rfl))
  | (with_reducible refine Exists.intro _ (And.intro rfl ?_))
  | (refine tst_t (by decide +kernel) ?_)
  | (refine tst_f (by decide +kernel) ?_)
  | (refine Exists.intro _ (Exists.intro _ (And.intro rfl (And.intro (by walk_at "pt rdb") ?_))))
  | fail)
theorem saying_rest (C : All P w K mg base n) (a : BA) (hr : Room n (bx P w K mg base ["tape", "depth", "names", "kind", "word"] "_law_saying" (top 34) a).A) (F : Sto) (k : T → Sto → Prop) (ta tb nz : Addr) (seed : Int) (ns : List Int) (d : Nat) (xs : List Nm) (kd : Int)
    (tk : TapeOk seed ns) (hnz : (nz, .lst (xs.map fun x => .str x.s)) ∈ F) (hne : xs ≠ []) (hxl : xs.length ≤ 1000) (hn : d + 3 ≤ n + 1) (h0 : 0 ≤ kd) (h1 : d = 0 → kd < 2)
    (q : ∀ (s : Say) seed' ns', s.dep ≤ d + 1 → s.atoms ⊆ xs → TapeOk seed' ns' → k s.t (tapeS ta tb seed' ns')) :
    sw F (bx P w K mg base ["tape", "depth", "names", "kind", "word"] "_law_saying" (top 34) a) ((defBody (top 34)).drop 1) [some (.ref ta), some (.int d), some (.ref nz), some (.int kd), none] (tapeS ta tb seed ns) { nx := fun _ S' => k .non S', rt := k } := by
  refine sw_cut (fun r1 S1 => r1 = [some (.ref ta), some (.int d), some (.ref nz), some (.int kd), none] ∧ ∃ sd ms, TapeOk sd ms ∧ S1 = tapeS ta tb sd ms) ?_ ?_
  · repeat' (walk_at "pt 1")
    refine ⟨fun hb => ?_, fun hb => ?_⟩
    · repeat' (walk_at "pt 1")
      refine ⟨[], tapeS ta tb seed ns, [], [], by simp, by simp, by omega, ta, tb, seed, ns, 4, rfl, rfl, tk, by decide, by decide, fun i seed' ns' i0 i1 tk' => ?_⟩
      simp only [List.nil_append, List.append_nil]
      repeat' (walk_at "pt 1")
      refine ⟨fun hb2 => ?_, fun hb2 => ?_⟩
      · repeat' (walk_at "pt 1")
        refine s1_retD ?_
        repeat' (walk_at "pt 1")
        exact ⟨_, List.Sublist.refl _, q .fls seed' ns' (by simp [Say.dep]) (by simp [Say.atoms]) tk'⟩
      · repeat' (walk_at "pt 1")
        exact ⟨rfl, seed', ns', tk', rfl⟩
    · repeat' (walk_at "pt 1")
      exact ⟨rfl, seed, ns, tk, rfl⟩
  rintro _ _ ⟨rfl, sd, ms, tm, rfl⟩
  refine sw_cons ?_
  repeat' (walk_at "pt 1")
  refine ⟨fun hb => ?_, fun hb => ?_⟩
  · repeat' (walk_at "pt 1")
    refine s1_retD ?_
    repeat' (walk_at "pt 1")
    refine ⟨[], tapeS ta tb sd ms, [], [(nz, .lst (xs.map fun x => .str x.s))], by simp, fun p hp => by rw [List.mem_singleton.mp hp]; exact .inl hnz, by omega, ta, tb, nz, sd, ms, xs.map fun x => .str x.s, rfl, rfl, tm, .head _, by simpa using hne, by simpa using hxl, fun t sd' ms' ht tk' => ?_⟩
    obtain ⟨x, hx, rfl⟩ := List.mem_map.mp ht
    simp only [List.nil_append, List.append_nil]
    repeat' (walk_at "pt 1")
    exact ⟨_, List.Sublist.refl _, q (.atom x) sd' ms' (by simp [Say.dep]) (by simp [Say.atoms, hx]) tk'⟩
  · have hk2 : ¬ kd < 2 := of_decide_eq_false hb
    obtain ⟨d', rfl⟩ : ∃ d', d = d' + 1 := ⟨d - 1, by by_cases e : d = 0; exact absurd (h1 e) hk2; omega⟩
    have ed : ((d' + 1 : Nat) : Int) - 1 = (d' : Int) := by omega
    repeat' (walk_at "pt 1")
    refine ⟨fun hb2 => ?_, fun hb2 => ?_⟩
    · repeat' (walk_at "pt 1")
      refine s1_retD ?_
      repeat' (walk_at "pt 1")
      rw [ed]
      repeat' (walk_at "pt 1")
      refine ⟨[], tapeS ta tb sd ms, [], [(nz, .lst (xs.map fun x => .str x.s))], by simp, fun p hp => by rw [List.mem_singleton.mp hp]; exact .inl hnz, ta, tb, nz, sd, ms, d', xs, by simp, rfl, tm, .head _, hne, hxl, by omega, fun u sd1 ms1 hd1 ha1 tk1 => ?_⟩
      simp only [List.nil_append, List.append_nil]
      repeat' (walk_at "pt 1")
      exact ⟨_, List.Sublist.refl _, q (.thn u .fls) sd1 ms1 (by have := u.dep_pos; simp only [Say.dep]; omega) (by simpa [Say.atoms] using ha1) tk1⟩
    · repeat' (walk_at "pt 1")
      rename_i l hl
      refine ⟨[(l, .lst [.str "then", .str "and", .str "or"])], tapeS ta tb sd ms, [], [], by simp, by simp, by omega, ta, tb, sd, ms, 3, rfl, rfl, tm, by decide, by decide, fun i sd0 ms0 i0 i1 tk0 => ?_⟩
      simp only [List.cons_append, List.nil_append, List.append_nil]
      have hi : i = 0 ∨ i = 1 ∨ i = 2 := by omega
      rcases hi with rfl | rfl | rfl
      · refine xw_lst (.inl (.head _)) rfl ?_
        repeat' (walk_at "pt 1")
        refine s1_retD ?_
        repeat' (walk_at "pt 1")
        rw [ed]
        repeat' (walk_at "pt 1")
        refine ⟨[(l, .lst [.str "then", .str "and", .str "or"])], tapeS ta tb sd0 ms0, [], [(nz, .lst (xs.map fun x => .str x.s))], by simp, fun p hp => by rw [List.mem_singleton.mp hp]; exact .inl hnz, ta, tb, nz, sd0, ms0, d', xs, rfl, rfl, tk0, .head _, hne, hxl, by omega, fun u sd1 ms1 hd1 ha1 tk1 => ?_⟩
        simp only [List.cons_append, List.nil_append, List.append_nil]
        repeat' (walk_at "pt 1")
        rw [ed]
        repeat' (walk_at "pt 1")
        refine ⟨[(l, .lst [.str "then", .str "and", .str "or"])], tapeS ta tb sd1 ms1, [], [(nz, .lst (xs.map fun x => .str x.s))], by simp, fun p hp => by rw [List.mem_singleton.mp hp]; exact .inl hnz, ta, tb, nz, sd1, ms1, d', xs, rfl, rfl, tk1, .head _, hne, hxl, by omega, fun v sd2 ms2 hd2 ha2 tk2 => ?_⟩
        simp only [List.cons_append, List.nil_append, List.append_nil]
        repeat' (walk_at "pt 1")
        exact ⟨_, List.sublist_cons_self _ _, q (.thn u v) sd2 ms2 (by simp only [Say.dep]; omega) (by simp only [Say.atoms]; exact List.append_subset.mpr ⟨ha1, ha2⟩) tk2⟩
      · refine xw_lst (.inl (.head _)) rfl ?_
        repeat' (walk_at "pt 1")
        refine s1_retD ?_
        repeat' (walk_at "pt 1")
        rw [ed]
        repeat' (walk_at "pt 1")
        refine ⟨[(l, .lst [.str "then", .str "and", .str "or"])], tapeS ta tb sd0 ms0, [], [(nz, .lst (xs.map fun x => .str x.s))], by simp, fun p hp => by rw [List.mem_singleton.mp hp]; exact .inl hnz, ta, tb, nz, sd0, ms0, d', xs, rfl, rfl, tk0, .head _, hne, hxl, by omega, fun u sd1 ms1 hd1 ha1 tk1 => ?_⟩
        simp only [List.cons_append, List.nil_append, List.append_nil]
        repeat' (walk_at "pt 1")
        rw [ed]
        repeat' (walk_at "pt 1")
        refine ⟨[(l, .lst [.str "then", .str "and", .str "or"])], tapeS ta tb sd1 ms1, [], [(nz, .lst (xs.map fun x => .str x.s))], by simp, fun p hp => by rw [List.mem_singleton.mp hp]; exact .inl hnz, ta, tb, nz, sd1, ms1, d', xs, rfl, rfl, tk1, .head _, hne, hxl, by omega, fun v sd2 ms2 hd2 ha2 tk2 => ?_⟩
        simp only [List.cons_append, List.nil_append, List.append_nil]
        repeat' (walk_at "pt 1")
        exact ⟨_, List.sublist_cons_self _ _, q (.and u v) sd2 ms2 (by simp only [Say.dep]; omega) (by simp only [Say.atoms]; exact List.append_subset.mpr ⟨ha1, ha2⟩) tk2⟩
      · refine xw_lst (.inl (.head _)) rfl ?_
        repeat' (walk_at "pt 1")
        refine s1_retD ?_
        repeat' (walk_at "pt 1")
        rw [ed]
        repeat' (walk_at "pt 1")
        refine ⟨[(l, .lst [.str "then", .str "and", .str "or"])], tapeS ta tb sd0 ms0, [], [(nz, .lst (xs.map fun x => .str x.s))], by simp, fun p hp => by rw [List.mem_singleton.mp hp]; exact .inl hnz, ta, tb, nz, sd0, ms0, d', xs, rfl, rfl, tk0, .head _, hne, hxl, by omega, fun u sd1 ms1 hd1 ha1 tk1 => ?_⟩
        simp only [List.cons_append, List.nil_append, List.append_nil]
        repeat' (walk_at "pt 1")
        rw [ed]
        repeat' (walk_at "pt 1")
        refine ⟨[(l, .lst [.str "then", .str "and", .str "or"])], tapeS ta tb sd1 ms1, [], [(nz, .lst (xs.map fun x => .str x.s))], by simp, fun p hp => by rw [List.mem_singleton.mp hp]; exact .inl hnz, ta, tb, nz, sd1, ms1, d', xs, rfl, rfl, tk1, .head _, hne, hxl, by omega, fun v sd2 ms2 hd2 ha2 tk2 => ?_⟩
        simp only [List.cons_append, List.nil_append, List.append_nil]
        repeat' (walk_at "pt 1")
        exact ⟨_, List.sublist_cons_self _ _, q (.or u v) sd2 ms2 (by simp only [Say.dep]; omega) (by simp only [Say.atoms]; exact List.append_subset.mpr ⟨ha1, ha2⟩) tk2⟩
theorem ok_law_saying (D : Df K mg "_law_saying" (top 34) ["tape", "depth", "names"]) (C : All P w K mg base n) : Cl P w K mg base (n + 1) "_law_saying" (cSaying (n + 1)) := by
  refine cl_of D scSaying (fun ts F S k h => ?_) (fun a hr ts F S k h => ?_)
  · obtain ⟨_, _, _, _, _, _, _, rfl, _⟩ := h; rfl
  obtain ⟨ta, tb, nz, seed, ns, d, xs, rfl, rfl, tk, hnz, hne, hxl, hn, q⟩ := h
  refine sw_cut (sts := (defBody (top 34)).drop 1) (fun r1 S1 => ∃ kd sd ms, r1 = [some (.ref ta), some (.int d), some (.ref nz), some (.int kd), none] ∧ 0 ≤ kd ∧ (d = 0 → kd < 2) ∧ TapeOk sd ms ∧ S1 = tapeS ta tb sd ms) ?_ ?_
  · repeat' (walk_at "pt 1")
    refine ⟨fun hb => ?_, fun hb => ?_⟩
    · have hd : (d : Int) > 0 := of_decide_eq_true hb
      repeat' (walk_at "pt 1")
      refine ⟨[], tapeS ta tb seed ns, [], [], by simp, by simp, by omega, ta, tb, seed, ns, 8, rfl, rfl, tk, by decide, by decide, fun i seed' ns' i0 i1 tk' => ?_⟩
      simp only [List.nil_append, List.append_nil]
      repeat' (walk_at "pt 1")
      exact ⟨i, seed', ns', rfl, i0, by omega, tk', rfl⟩
    · repeat' (walk_at "pt 1")
      refine ⟨[], tapeS ta tb seed ns, [], [], by simp, by simp, by omega, ta, tb, seed, ns, 2, rfl, rfl, tk, by decide, by decide, fun i seed' ns' i0 i1 tk' => ?_⟩
      simp only [List.nil_append, List.append_nil]
      repeat' (walk_at "pt 1")
      exact ⟨i, seed', ns', rfl, i0, fun _ => i1, tk', rfl⟩
  rintro _ _ ⟨kd, sd, ms, rfl, h0, h1, tm, rfl⟩
  exact saying_rest C a hr F k ta tb nz sd ms d xs kd tm hnz hne hxl hn h0 h1 q
end
section
theorem scEqual : FnScope ["tape", "one", "x", "y", "other", "back", "true"] ["tape", "one"] (defScope (top 50)) := ⟨rfl, rfl, rfl, by decide +kernel, rfl, by decide +kernel, by decide +kernel⟩
local macro_rules | `(tactic| walk_at "pt 1") => `(tactic| first
  | ((with_reducible refine aw_cons (hs := ?hs) (h := ?_)); (case hs => exact rfl))
  | ((with_reducible refine aw_nil (hk := ?_)))
  | ((with_reducible refine ew_var (x := "tape") (i := 0) (t := ?t) ?hi ?_ ?hN ?hv ?hd ?hc); (case hi => exact rfl); (case hN => exact rfl); (case hv => first | exact Or.inl rfl | exact Or.inr (Or.inl rfl) | exact Or.inr (Or.inr rfl)); (case hd => decide); (case hc => decide))
  | ((with_reducible refine ew_var (x := "one") (i := 1) (t := ?t) ?hi ?_ ?hN ?hv ?hd ?hc); (case hi => exact rfl); (case hN => exact rfl); (case hv => first | exact Or.inl rfl | exact Or.inr (Or.inl rfl) | exact Or.inr (Or.inr rfl)); (case hd => decide); (case hc => decide))
  | ((with_reducible refine ew_var (x := "x") (i := 2) (t := ?t) ?hi ?_ ?hN ?hv ?hd ?hc); (case hi => exact rfl); (case hN => exact rfl); (case hv => first | exact Or.inl rfl | exact Or.inr (Or.inl rfl) | exact Or.inr (Or.inr rfl)); (case hd => decide); (case hc => decide))
  | ((with_reducible refine ew_var (x := "y") (i := 3) (t := ?t) ?hi ?_ ?hN ?hv ?hd ?hc); (case hi => exact rfl); (case hN => exact rfl); (case hv => first | exact Or.inl rfl | exact Or.inr (Or.inl rfl) | exact Or.inr (Or.inr rfl)); (case hd => decide); (case hc => decide))
  | ((with_reducible refine ew_var (x := "other") (i := 4) (t := ?t) ?hi ?_ ?hN ?hv ?hd ?hc); (case hi => exact rfl); (case hN => exact rfl); (case hv => first | exact Or.inl rfl | exact Or.inr (Or.inl rfl) | exact Or.inr (Or.inr rfl)); (case hd => decide); (case hc => decide))
  | ((with_reducible refine ew_var (x := "back") (i := 5) (t := ?t) ?hi ?_ ?hN ?hv ?hd ?hc); (case hi => exact rfl); (case hN => exact rfl); (case hv => first | exact Or.inl rfl | exact Or.inr (Or.inl rfl) | exact Or.inr (Or.inr rfl)); (case hd => decide); (case hc => decide))
  | ((with_reducible refine ew_var (x := "true") (i := 6) (t := ?t) ?hi ?_ ?hN ?hv ?hd ?hc); (case hi => exact rfl); (case hN => exact rfl); (case hv => first | exact Or.inl rfl | exact Or.inr (Or.inl rfl) | exact Or.inr (Or.inr rfl)); (case hd => decide); (case hc => decide))
  | ((with_reducible refine ew_sub (h := ?_)))
  | ((with_reducible refine ew_str (hk := ?_)))
  | ((with_reducible refine ew_int (hk := ?_)))
  | ((with_reducible refine ew_tup (h := ?_)))
  | ((with_reducible refine tw_cmp (hm := ?hm) (h := ?_)); (case hm => exact rfl))
  | ((with_reducible refine ew_cmp (hm := ?hm) (h := ?_)); (case hm => exact rfl))
  | ((with_reducible refine ew_lst (h := ?_)))
  | ((with_reducible refine ew_call (x := "_law_pick") (n := ?n) (con := ?con) (C := ?C) (hr := ?hr) (hg := ?hg) (hdb := ?hdb) (he := ?he) (hpl := ?hpl) (h := ?_)); (case C => exact All.c_law_pick (by assumption)); (case hr => assumption); (case hg => exact rfl); (case hdb => decide); (case he => exact rfl); (case hpl => exact rfl))
  | ((with_reducible refine tw_call (h := ?_)))
  | ((with_reducible refine tw_name (h := ?_)))
  | ((with_reducible refine sw_cons (h := ?_)))
  | ((with_reducible refine sw_nil (h := ?_)))
  | ((with_reducible refine s1_if (h := ?_)))
  | ((with_reducible refine s1_set (x := "x") (i := 2) ?hN ?hi ?_ ?hx ?hs ?hf); (case hN => exact (scEqual).nd); (case hi => exact rfl); (case hx => first | exact Or.inl rfl | exact Or.inr rfl); (case hs => exact rfl); (case hf => first | exact Or.inr rfl | exact Or.inl rfl))
  | ((with_reducible refine s1_set (x := "y") (i := 3) ?hN ?hi ?_ ?hx ?hs ?hf); (case hN => exact (scEqual).nd); (case hi => exact rfl); (case hx => first | exact Or.inl rfl | exact Or.inr rfl); (case hs => exact rfl); (case hf => first | exact Or.inr rfl | exact Or.inl rfl))
  | ((with_reducible refine s1_set (x := "other") (i := 4) ?hN ?hi ?_ ?hx ?hs ?hf); (case hN => exact (scEqual).nd); (case hi => exact rfl); (case hx => first | exact Or.inl rfl | exact Or.inr rfl); (case hs => exact rfl); (case hf => first | exact Or.inr rfl | exact Or.inl rfl))
  | ((with_reducible refine s1_set (x := "back") (i := 5) ?hN ?hi ?_ ?hx ?hs ?hf); (case hN => exact (scEqual).nd); (case hi => exact rfl); (case hx => first | exact Or.inl rfl | exact Or.inr rfl); (case hs => exact rfl); (case hf => first | exact Or.inr rfl | exact Or.inl rfl))
  | ((with_reducible refine s1_set (x := "true") (i := 6) ?hN ?hi ?_ ?hx ?hs ?hf); (case hN => exact (scEqual).nd); (case hi => exact rfl); (case hx => first | exact Or.inl rfl | exact Or.inr rfl); (case hs => exact rfl); (case hf => first | exact Or.inr rfl | exact Or.inl rfl))
  | ((with_reducible refine bw_eqs (h := ?h) (hk := ?_)); (case h => exact rfl))
  | ((with_reducible refine xw_tup (t := ?t) (he := ?he) (hs := ?hs) (hk := ?_)); (case he => first | exact rfl | exact atT0 | exact atT1); (case hs => exact fun _ _ => rfl))
  | ((with_reducible refine xw_lst (ts := ?ts) (t := ?t) (hp := ?hp) (he := ?he) (hs := ?hs) (hk := ?_)); (case hp => walk_at "pt rdb"); (case he => first | exact rfl | exact atT0 | exact atT1); (case hs => exact fun _ _ => rfl))
  | (with_reducible refine fresh_i fun _ _ => ?_)
  | ((with_reducible refine And.intro ?hx ?_); (case hx => exact Nat.le_of_ble_eq_true rfl))
  | (with_reducible refine Exists.intro _ (And.intro rfl ?_))
  | (refine tst_t (by decide +kernel) ?_)
  | (refine tst_f (by decide +kernel) ?_)
  | (refine Exists.intro _ (Exists.intro _ (And.intro rfl (And.intro (by walk_at "pt rdb") ?_))))
  | fail)
theorem ok_law_equal (D : Df K mg "_law_equal" (top 50) ["tape", "one"]) (C : All P w K mg base n) : Cl P w K mg base (n + 1) "_law_equal" (cEqual (n + 1)) := by
  refine cl_of D scEqual (fun ts F S k h => ?_) (fun a hr ts F S k h => ?_)
  · obtain ⟨_, _, _, _, _, _, rfl, _⟩ := h; rfl
  obtain ⟨hn, ta, tb, seed, ns, s, rfl, rfl, tk, hd, q⟩ := h
  have hx : (nm "x").s = ("x" : Str) := rfl
  have hy : (nm "y").s = ("y" : Str) := rfl
  have ne1 : Say.and s s ≠ s := fun e => by have := congrArg Say.dep e; simp only [Say.dep] at this; omega
  have ne2 : Say.or s s ≠ s := fun e => by have := congrArg Say.dep e; simp only [Say.dep] at this; omega
  have ne3 : Say.thn (.thn .fls .fls) s ≠ s := fun e => by have := congrArg Say.dep e; simp only [Say.dep] at this; omega
  refine sw_cons ?_
  repeat' (walk_at "pt 1")
  refine s1_two (i := 2) (j := 3) rfl scEqual.nd rfl rfl ?_
  repeat' (walk_at "pt 1")
  refine ⟨_, _, rfl, ?_⟩
  repeat' (walk_at "pt 1")
  rename_i l hl
  refine ⟨[(l, .lst [(Say.and s s).t, (Say.or s s).t, (Say.thn (.thn .fls .fls) s).t, s.t])], tapeS ta tb seed ns, [], [(l, .lst [(Say.and s s).t, (Say.or s s).t, (Say.thn (.thn .fls .fls) s).t, s.t])], by simp [Say.t], fun p hp => .inr (.inl hp), by omega, ta, tb, l, seed, ns, _, rfl, rfl, tk, .head _, by simp, by simp, fun t sd1 ms1 ht tk1 => ?_⟩
  simp only [List.mem_cons, List.not_mem_nil, or_false] at ht
  rcases ht with rfl | rfl | rfl | rfl
  · have e := Say.eqT (s := (.and s s)) (u := s) (by simp only [Say.dep]; omega) (by omega)
    rw [decide_eq_false ne1] at e
    simp only [List.cons_append, List.nil_append, List.append_nil]
    repeat' (walk_at "pt 1")
    refine bw_eqd hr.units e ⟨_, rfl, ?_⟩
    repeat' (walk_at "pt 1")
    simp only [Say.t]
    repeat' (walk_at "pt 1")
    all_goals refine s1_retD ?_
    all_goals repeat' (walk_at "pt 1")
    exact ⟨_, List.sublist_cons_self _ _, q (.and s s) _ sd1 ms1 (.and s) tk1⟩
  · have e := Say.eqT (s := (.or s s)) (u := s) (by simp only [Say.dep]; omega) (by omega)
    rw [decide_eq_false ne2] at e
    simp only [List.cons_append, List.nil_append, List.append_nil]
    repeat' (walk_at "pt 1")
    refine bw_eqd hr.units e ⟨_, rfl, ?_⟩
    repeat' (walk_at "pt 1")
    simp only [Say.t]
    repeat' (walk_at "pt 1")
    all_goals refine s1_retD ?_
    all_goals repeat' (walk_at "pt 1")
    exact ⟨_, List.sublist_cons_self _ _, q (.or s s) _ sd1 ms1 (.or s) tk1⟩
  · have e := Say.eqT (s := (.thn (.thn .fls .fls) s)) (u := s) (by simp only [Say.dep]; omega) (by omega)
    rw [decide_eq_false ne3] at e
    simp only [List.cons_append, List.nil_append, List.append_nil]
    repeat' (walk_at "pt 1")
    refine bw_eqd hr.units e ⟨_, rfl, ?_⟩
    repeat' (walk_at "pt 1")
    simp only [Say.t]
    repeat' (walk_at "pt 1")
    all_goals refine s1_retD ?_
    all_goals repeat' (walk_at "pt 1")
    exact ⟨_, List.sublist_cons_self _ _, q (.thn (.thn .fls .fls) s) _ sd1 ms1 (.thn s) tk1⟩
  · have e := Say.eqT (s := s) (u := s) (by omega) (by omega)
    rw [decide_eq_true rfl] at e
    simp only [List.cons_append, List.nil_append, List.append_nil]
    repeat' (walk_at "pt 1")
    refine bw_eqd hr.units e ⟨_, rfl, ?_⟩
    repeat' (walk_at "pt 1")
    all_goals refine s1_retD ?_
    all_goals repeat' (walk_at "pt 1")
    exact ⟨_, List.sublist_cons_self _ _, q s _ sd1 ms1 (.id s) tk1⟩
end
end
end B33

set_option Elab.async false
set_option linter.all false
set_option maxRecDepth 100000
set_option maxHeartbeats 2000000
set_option autoImplicit false
set_option pp.maxSteps 600
namespace B33
open PT PySem L2 PySem.Spec PyProof.Rows
local macro_rules | `(tactic| walk_at "pt rdb") => `(tactic| first
  | (apply Or.inl; exact List.Mem.head _)
  | (apply Or.inl; apply List.Mem.tail; exact List.Mem.head _)
  | (apply Or.inl; apply List.Mem.tail; apply List.Mem.tail; exact List.Mem.head _)
  | (apply Or.inl; apply List.Mem.tail; apply List.Mem.tail; apply List.Mem.tail; exact List.Mem.head _)
  | (apply Or.inl; apply List.Mem.tail; apply List.Mem.tail; apply List.Mem.tail; apply List.Mem.tail; exact List.Mem.head _)
  | (apply Or.inl; apply List.Mem.tail; apply List.Mem.tail; apply List.Mem.tail; apply List.Mem.tail; apply List.Mem.tail; exact List.Mem.head _)
  | (apply Or.inl; apply List.Mem.tail; apply List.Mem.tail; apply List.Mem.tail; apply List.Mem.tail; apply List.Mem.tail; apply List.Mem.tail; exact List.Mem.head _)
  | (apply Or.inl; apply List.Mem.tail; apply List.Mem.tail; apply List.Mem.tail; apply List.Mem.tail; apply List.Mem.tail; apply List.Mem.tail; apply List.Mem.tail; exact List.Mem.head _)
  | (apply Or.inl; apply List.Mem.tail; apply List.Mem.tail; apply List.Mem.tail; apply List.Mem.tail; apply List.Mem.tail; apply List.Mem.tail; apply List.Mem.tail; apply List.Mem.tail; exact List.Mem.head _)
  | (apply Or.inl; apply List.Mem.tail; apply List.Mem.tail; apply List.Mem.tail; apply List.Mem.tail; apply List.Mem.tail; apply List.Mem.tail; apply List.Mem.tail; apply List.Mem.tail; apply List.Mem.tail; exact List.Mem.head _)
  | (apply Or.inr; assumption) | (apply Or.inr; exact List.Mem.head _) | (apply Or.inr; apply List.Mem.tail; exact List.Mem.head _) | fail)
theorem valT_put {kvs : List (Key × T)} {kk k2 : Key} {t : T} : valT (putT kvs kk t) k2 = if k2 = kk then some t else valT kvs k2 := by
  unfold putT
  split
  · rename_i h
    unfold valT
    induction kvs with
    | nil => exact absurd h (by simp)
    | cons p kvs ih =>
      rw [List.map_cons, List.find?_cons, List.find?_cons]
      by_cases hp : p.1 = kk
      · simp only [hp, if_true]
        by_cases hk : k2 = kk
        · simp [hk]
        · have hk3 : ¬ kk = k2 := Ne.symm hk
          simp only [hk3, decide_false, hk, if_false]
          clear ih h
          induction kvs with
          | nil => rfl
          | cons q kvs ih =>
            rw [List.map_cons, List.find?_cons, List.find?_cons]
            by_cases hq : q.1 = kk
            · simp only [hq, if_true, hk3, decide_false]; exact ih
            · simp only [hq, if_false]
              by_cases hq2 : q.1 = k2
              · simp [hq2]
              · simp only [hq2, decide_false]; exact ih
      · simp only [hp, if_false]
        have h' : (kvs.any fun kv => decide (kv.1 = kk)) = true := by rw [List.any_cons] at h; simpa [hp] using h
        by_cases hpk : p.1 = k2
        · have : ¬ k2 = kk := fun e => hp (by rw [hpk, e])
          simp [hpk, this]
        · simp only [hpk, decide_false]; exact ih h'
  · rename_i h
    unfold valT
    rw [List.find?_append]
    by_cases hk : k2 = kk
    · subst hk
      have : List.find? (fun kv : Key × T => decide (kv.1 = k2)) kvs = none := by
        rw [List.find?_eq_none]
        intro p hp e
        exact h (List.any_eq_true.mpr ⟨p, hp, e⟩)
      simp [this]
    · have : ¬ kk = k2 := Ne.symm hk
      simp [hk, this]
theorem putT_nd {kvs : List (Key × T)} {kk : Key} {t : T} (h : (kvs.map (·.1)).Nodup) : ((putT kvs kk t).map (·.1)).Nodup := by
  unfold putT
  split
  · have : (kvs.map fun kv => if kv.1 = kk then (kv.1, t) else kv).map (·.1) = kvs.map (·.1) := by
      rw [List.map_map]
      apply List.map_congr_left
      intro p _
      show (if p.1 = kk then (p.1, t) else p).1 = p.1
      split <;> rfl
    rw [this]; exact h
  · rename_i hn
    rw [List.map_append, List.nodup_append]
    refine ⟨h, by simp, fun a ha b hb e => hn ?_⟩
    simp at hb
    subst hb
    subst e
    obtain ⟨p, hp, e⟩ := List.mem_map.mp ha
    exact List.any_eq_true.mpr ⟨p, hp, decide_eq_true e⟩
theorem mergeT_put {kvs : List (Key × T)} (h : (kvs.map (·.1)).Nodup) (kk : Key) (t : T) : mergeT [] (kvs ++ [(kk, t)]) = putT kvs kk t := by
  have e : mergeT [] (kvs ++ [(kk, t)]) = putT (mergeT [] kvs) kk t := by
    unfold mergeT
    rw [List.foldl_append]; rfl
  rw [e, mergeT_nd kvs [] (by rw [List.nil_append]; exact h), List.nil_append]
/-- a row that tells the first names -/
def RowOk (xs : List Nm) (kvs : List (Key × T)) : Prop := kvs.length ≤ xs.length ∧ (kvs.map (·.1)).Nodup ∧ ∀ x ∈ xs, ∃ b, valT kvs (.inr x.s) = some (.bl b)
theorem RowOk.more {xs : List Nm} {kvs : List (Key × T)} (h : RowOk xs kvs) (y : Nm) (b : Bool) : RowOk (xs ++ [y]) (putT kvs (.inr y.s) (.bl b)) := by
  refine ⟨?_, putT_nd h.2.1, fun x hx => ?_⟩
  · have := putT_length kvs (.inr y.s) (.bl b)
    rw [List.length_append]
    have := h.1
    simp only [List.length_cons, List.length_nil]; omega
  · rw [valT_put]
    by_cases hxy : (Sum.inr x.s : Key) = .inr y.s
    · rw [if_pos hxy]; exact ⟨b, rfl⟩
    · rw [if_neg hxy]
      rcases List.mem_append.mp hx with hx | hx
      · exact h.2.2 x hx
      · simp at hx; subst hx; exact absurd rfl hxy
/-- all rows stand in the store -/
def RowsIn (S : Sto) (xs : List Nm) (ds : List Addr) : Prop := ∀ d ∈ ds, ∃ kvs, (d, .dk kvs) ∈ S ∧ RowOk xs kvs
theorem pair_app2 {kvs : List (Key × T)} {x : Nm} {b : Bool} : kvs.map pairT ++ [T.tup [.str x.s, .bl b]] = (kvs ++ [((Sum.inr x.s : Key), T.bl b)]).map pairT := by rw [List.map_append]; rfl
section
variable {P : Program} {w : World} {K : PySem.W.Frag} {mg : Str → Option Value} {base : Heap} {n : Nat}
section
theorem scAll : FnScope ["names", "found", "name", "longer", "row"] ["names"] (defScope (top 37)) := ⟨rfl, rfl, rfl, by decide +kernel, rfl, by decide +kernel, by decide +kernel⟩
local macro_rules | `(tactic| walk_at "pt 1") => `(tactic| first
  | ((with_reducible refine aw_cons (hs := ?hs) (h := ?_)); (case hs => exact rfl))
  | ((with_reducible refine aw_nil (hk := ?_)))
  | ((with_reducible refine ew_listItems (hc := ?hc) (hm := ?hm) (hg := ?hg) (hbase := ?hbase) (hline := ?hline) (hs := ?hs) (h := ?_)); (case hc => exact rfl); (case hm => exact Mg.list (by assumption)); (case hg => exact rfl); (case hbase => exact rfl); (case hline => exact rfl); (case hs => exact rfl))
  | ((with_reducible refine ew_var (x := "names") (i := 0) (t := ?t) ?hi ?_ ?hN ?hv ?hd ?hc); (case hi => exact rfl); (case hN => exact rfl); (case hv => first | exact Or.inl rfl | exact Or.inr (Or.inl rfl) | exact Or.inr (Or.inr rfl)); (case hd => decide); (case hc => decide))
  | ((with_reducible refine ew_var (x := "found") (i := 1) (t := ?t) ?hi ?_ ?hN ?hv ?hd ?hc); (case hi => exact rfl); (case hN => exact rfl); (case hv => first | exact Or.inl rfl | exact Or.inr (Or.inl rfl) | exact Or.inr (Or.inr rfl)); (case hd => decide); (case hc => decide))
  | ((with_reducible refine ew_var (x := "name") (i := 2) (t := ?t) ?hi ?_ ?hN ?hv ?hd ?hc); (case hi => exact rfl); (case hN => exact rfl); (case hv => first | exact Or.inl rfl | exact Or.inr (Or.inl rfl) | exact Or.inr (Or.inr rfl)); (case hd => decide); (case hc => decide))
  | ((with_reducible refine ew_var (x := "longer") (i := 3) (t := ?t) ?hi ?_ ?hN ?hv ?hd ?hc); (case hi => exact rfl); (case hN => exact rfl); (case hv => first | exact Or.inl rfl | exact Or.inr (Or.inl rfl) | exact Or.inr (Or.inr rfl)); (case hd => decide); (case hc => decide))
  | ((with_reducible refine ew_var (x := "row") (i := 4) (t := ?t) ?hi ?_ ?hN ?hv ?hd ?hc); (case hi => exact rfl); (case hN => exact rfl); (case hv => first | exact Or.inl rfl | exact Or.inr (Or.inl rfl) | exact Or.inr (Or.inr rfl)); (case hd => decide); (case hc => decide))
  | ((with_reducible refine ew_bl (hk := ?_)))
  | ((with_reducible refine ew_tup (h := ?_)))
  | ((with_reducible refine ew_bin (h := ?_)))
  | ((with_reducible refine ew_lst (h := ?_)))
  | ((with_reducible refine ew_callTy (x := "dict") (T' := "dict") (hm := ?hm) (hv := ?hv) (hg := ?hg) (hn := ?hn) (hdb := ?hdb) (he := ?he) (hpl := ?hpl) (h := ?_)); (case hm => exact Mg.dict (by assumption)); (case hv => exact rfl); (case hg => exact rfl); (case hn => decide); (case hdb => decide); (case he => exact rfl); (case hpl => exact rfl))
  | ((with_reducible refine ew_callTy (x := "list") (T' := "list") (hm := ?hm) (hv := ?hv) (hg := ?hg) (hn := ?hn) (hdb := ?hdb) (he := ?he) (hpl := ?hpl) (h := ?_)); (case hm => exact Mg.list (by assumption)); (case hv => exact rfl); (case hg => exact rfl); (case hn => decide); (case hdb => decide); (case he => exact rfl); (case hpl => exact rfl))
  | ((with_reducible refine ew_dnewK (h := ?_)))
  | ((with_reducible refine ew_disp1 (h := ?_)))
  | ((with_reducible refine ew_spread (h := ?_)))
  | ((with_reducible refine tw_call (h := ?_)))
  | ((with_reducible refine tw_name (h := ?_)))
  | ((with_reducible refine sw_cons (h := ?_)))
  | ((with_reducible refine sw_nil (h := ?_)))
  | ((with_reducible refine s1_set (x := "found") (i := 1) ?hN ?hi ?_ ?hx ?hs ?hf); (case hN => exact (scAll).nd); (case hi => exact rfl); (case hx => first | exact Or.inl rfl | exact Or.inr rfl); (case hs => exact rfl); (case hf => first | exact Or.inr rfl | exact Or.inl rfl))
  | ((with_reducible refine s1_set (x := "name") (i := 2) ?hN ?hi ?_ ?hx ?hs ?hf); (case hN => exact (scAll).nd); (case hi => exact rfl); (case hx => first | exact Or.inl rfl | exact Or.inr rfl); (case hs => exact rfl); (case hf => first | exact Or.inr rfl | exact Or.inl rfl))
  | ((with_reducible refine s1_set (x := "longer") (i := 3) ?hN ?hi ?_ ?hx ?hs ?hf); (case hN => exact (scAll).nd); (case hi => exact rfl); (case hx => first | exact Or.inl rfl | exact Or.inr rfl); (case hs => exact rfl); (case hf => first | exact Or.inr rfl | exact Or.inl rfl))
  | ((with_reducible refine s1_set (x := "row") (i := 4) ?hN ?hi ?_ ?hx ?hs ?hf); (case hN => exact (scAll).nd); (case hi => exact rfl); (case hx => first | exact Or.inl rfl | exact Or.inr rfl); (case hs => exact rfl); (case hf => first | exact Or.inr rfl | exact Or.inl rfl))
  | ((with_reducible refine bw_add (hk := ?_)))
  | ((with_reducible refine And.intro ?hx ?_); (case hx => exact Nat.le_of_ble_eq_true rfl))
  | (with_reducible refine Exists.intro _ (And.intro rfl ?_))
  | (refine tst_t (by decide +kernel) ?_)
  | (refine tst_f (by decide +kernel) ?_)
  | (refine Exists.intro _ (Exists.intro _ (And.intro rfl (And.intro (by walk_at "pt rdb") ?_))))
  | fail)
theorem ok_law_all (M : Mg mg) (D : Df K mg "_law_all" (top 37) ["names"]) (C : All P w K mg base n) : Cl P w K mg base (n + 1) "_law_all" (cAll (n + 1)) := by
  refine cl_of D scAll (fun ts F S k h => ?_) (fun a hr ts F S k h => ?_)
  · obtain ⟨_, _, _, rfl, _⟩ := h; rfl
  obtain ⟨hn, nz, xs, rfl, rfl, hnz, hxl, q⟩ := h
  refine sw_cons ?_
  repeat' (walk_at "pt 1")
  intro d0 hd0
  repeat' (walk_at "pt 1")
  intro f0 hf0
  repeat' (walk_at "pt 1")
  refine s1_for (g := _) (up := up1 2) (vs := [2]) PassesOwn.never rfl (pg_name (i := 2) scAll.nd rfl (.inl rfl)) (tgt1 (by simp)) ?_
  refine iw_lst ?_
  repeat' (walk_at "pt 1")
  refine ⟨fun i r1 S1 => ∃ pf ds o1 o2 o3, r1 = [some (.ref nz), some (.ref pf), o1, o2, o3] ∧ (pf, .lst (ds.map T.ref)) ∈ S1 ∧ RowsIn S1 (xs.take i) ds ∧ ds.length ≤ 2 ^ i, ⟨f0, [d0], none, none, none, rfl, .head _, fun d hd => ?_, by simp⟩, fun i r1 S1 _ => .inr hnz, ?_, ?_⟩
  · simp at hd; subst hd
    exact ⟨[], .tail _ (.head _), by simp [RowOk]⟩
  · rintro i u r1 S2 hu ⟨pf, ds, o1, o2, o3, rfl, hpf, hds, hdl⟩
    rw [List.getElem?_map] at hu
    obtain ⟨x, hx, rfl⟩ := Option.map_eq_some_iff.mp hu
    have hi : i < xs.length := (List.getElem?_eq_some_iff.mp hx).1
    have htk : xs.take (i + 1) = xs.take i ++ [x] := by rw [List.take_add_one, hx]; rfl
    have h2i : 2 ^ i ≤ 128 := Nat.le_trans (Nat.pow_le_pow_right (by decide) (by omega : i ≤ 7)) (by decide)
    refine ⟨_, rfl, ?_⟩
    refine sw_cons ?_
    repeat' (walk_at "pt 1")
    intro l0 hl0
    repeat' (walk_at "pt 1")
    refine s1_for (g := _) (up := up1 4) (vs := [4]) PassesOwn.never rfl (pg_name (i := 4) scAll.nd rfl (.inl rfl)) (tgt1 (by simp)) ?_
    refine iw_lst ?_
    repeat' (walk_at "pt 1")
    refine ⟨pf, ds.map T.ref, rfl, .inl (.tail _ hpf), fun j r3 S3 => ∃ pl ls o4, r3 = [some (.ref nz), some (.ref pf), some (.str x.s), some (.ref pl), o4] ∧ (pf, .lst (ds.map T.ref)) ∈ S3 ∧ RowsIn S3 (xs.take i) ds ∧ (pl, .lst (ls.map T.ref)) ∈ S3 ∧ RowsIn S3 (xs.take (i + 1)) ls ∧ ls.length = 2 * j, ⟨l0, [], _, rfl, .tail _ hpf, fun d hd => ?_, .head _, fun d hd => (by cases hd), rfl⟩, fun j r3 S3 ⟨_, _, _, _, e, _⟩ => .inl e, ?_, ?_⟩
    · obtain ⟨kvs, e1, e2⟩ := hds d hd
      exact ⟨kvs, .tail _ e1, e2⟩
    · rintro j u r3 S3 hu ⟨pl, ls, o4, rfl, hpf3, hds3, hpl, hls, hll⟩
      rw [List.getElem?_map] at hu
      obtain ⟨d, hd, rfl⟩ := Option.map_eq_some_iff.mp hu
      obtain ⟨kvs, e1, e2⟩ := hds3 d (List.mem_of_getElem? hd)
      have hjl : j < ds.length := (List.getElem?_eq_some_iff.mp hd).1
      have hkl : kvs.length ≤ 8 := Nat.le_trans e2.1 (by rw [List.length_take]; omega)
      refine ⟨_, rfl, ?_⟩
      refine sw_cons ?_
      repeat' (walk_at "pt 1")
      refine ⟨d, kvs, rfl, .inl e1, fun q1 hq1 => ?_⟩
      repeat' (walk_at "pt 1")
      intro p1 hp1
      refine bw_catL (.tail _ (.head _)) (.head _) (by simp; omega) fun z1 hz1 => ?_
      rw [pair_app2]
      repeat' (walk_at "pt 1")
      refine cw_dictP rfl (.inl (.head _)) fun g1 hg1 => ?_
      rw [mergeT_put e2.2.1]
      repeat' (walk_at "pt 1")
      refine ⟨d, kvs, rfl, .inl (.tail _ (.tail _ (.tail _ (.tail _ e1)))), fun q2 hq2 => ?_⟩
      repeat' (walk_at "pt 1")
      intro p2 hp2
      refine bw_catL (.tail _ (.head _)) (.head _) (by simp; omega) fun z2 hz2 => ?_
      rw [pair_app2]
      repeat' (walk_at "pt 1")
      refine cw_dictP rfl (.inl (.head _)) fun g2 hg2 => ?_
      rw [mergeT_put e2.2.1]
      repeat' (walk_at "pt 1")
      intro p5 hp5
      refine bw_catL (ts := ls.map T.ref) (us := [.ref g1, .ref g2]) (.tail _ (.tail _ (.tail _ (.tail _ (.tail _ (.tail _ (.tail _ (.tail _ (.tail _ hpl))))))))) (.head _) (by simp; omega) fun z5 hz5 => ?_
      repeat' (walk_at "pt 1")
      have up : ∀ {p : Addr × MO}, p ∈ S3 → p ∈ (z5, MO.lst (ls.map T.ref ++ [T.ref g1, T.ref g2])) :: (p5, MO.lst [T.ref g1, T.ref g2]) :: (g2, MO.dk (putT kvs (.inr x.s) (.bl true))) :: (z2, MO.lst ((kvs ++ [((Sum.inr x.s : Key), T.bl true)]).map pairT)) :: (p2, MO.lst [T.tup [.str x.s, .bl true]]) :: (q2, MO.lst (kvs.map pairT)) :: (g1, MO.dk (putT kvs (.inr x.s) (.bl false))) :: (z1, MO.lst ((kvs ++ [((Sum.inr x.s : Key), T.bl false)]).map pairT)) :: (p1, MO.lst [T.tup [.str x.s, .bl false]]) :: (q1, MO.lst (kvs.map pairT)) :: S3 := fun {p} hp => by
        repeat (first | exact hp | apply List.Mem.tail)
      refine ⟨z5, ls ++ [g1, g2], _, rfl, up hpf3, fun d hd => ?_, by rw [show (ls ++ [g1, g2]).map T.ref = ls.map T.ref ++ [T.ref g1, T.ref g2] from List.map_append]; exact .head _, fun d hd => ?_, by simp [hll]; omega⟩
      · obtain ⟨kv, a1, a2⟩ := hds3 d hd
        exact ⟨kv, up a1, a2⟩
      · rcases List.mem_append.mp hd with hd | hd
        · obtain ⟨kv, a1, a2⟩ := hls d hd
          exact ⟨kv, up a1, a2⟩
        · rw [htk]
          simp only [List.mem_cons, List.not_mem_nil, or_false] at hd
          rcases hd with rfl | rfl
          · exact ⟨_, .tail _ (.tail _ (.tail _ (.tail _ (.tail _ (.tail _ (.head _)))))), e2.more x false⟩
          · exact ⟨_, .tail _ (.tail _ (.head _)), e2.more x true⟩
    · rintro r3 S3 ⟨pl, ls, o4, rfl, hpf3, hds3, hpl, hls, hll⟩
      rw [List.length_map] at hll
      repeat' (walk_at "pt 1")
      exact ⟨pl, ls, _, _, _, rfl, hpl, hls, by rw [hll, Nat.pow_succ]; omega⟩
  · rintro r1 S2 ⟨pf, ds, o1, o2, o3, rfl, hpf, hds, hdl⟩
    rw [List.length_map, List.take_length] at *
    repeat' (walk_at "pt 1")
    refine s1_retD ?_
    repeat' (walk_at "pt 1")
    refine ⟨S2, List.Sublist.refl _, q pf ds S2 (Nat.le_trans hdl (Nat.le_trans (Nat.pow_le_pow_right (by decide) hxl) (by decide))) hpf fun d hd => ?_⟩
    obtain ⟨kvs, a1, a2⟩ := hds d hd
    exact ⟨kvs, a1, a2.1, a2.2.2⟩
end
end
end B33

set_option Elab.async false
set_option linter.all false
set_option maxRecDepth 100000
set_option maxHeartbeats 2000000
set_option autoImplicit false
namespace B33
open PT PySem L2 PySem.Spec PyProof.Rows
/-! ### what the terms of exchanges prove -/
/-- a kind hangs on the names that are used alone -/
theorem kind_congr : ∀ (t : Tm) {G G' : Tab}, (∀ x ∈ t.names, G.get x = G'.get x) → kind t G = kind t G'
  | .use x, G, G', h => h x (by simp [Tm.names])
  | .take x s a, G, G', h => by
    rw [kind, kind, kind_congr a (G' := G'.ins x s)]
    intro y hy
    rw [Tab.get_ins, Tab.get_ins, h y hy]
  | .app a b, G, G', h => by rw [kind, kind, kind_congr a (G' := G') fun x hx => h x (by simp [Tm.names, hx]), kind_congr b (G' := G') fun x hx => h x (by simp [Tm.names, hx])]
  | .pair a b, G, G', h => by rw [kind, kind, kind_congr a (G' := G') fun x hx => h x (by simp [Tm.names, hx]), kind_congr b (G' := G') fun x hx => h x (by simp [Tm.names, hx])]
  | .fst a, G, G', h => by rw [kind, kind, kind_congr a (G' := G') h]
  | .snd a, G, G', h => by rw [kind, kind, kind_congr a (G' := G') h]
  | .inl a s, G, G', h => by rw [kind, kind, kind_congr a (G' := G') h]
  | .inr s a, G, G', h => by rw [kind, kind, kind_congr a (G' := G') h]
  | .cas w x a y b, G, G', h => by
    rw [kind, kind, kind_congr w (G' := G') fun z hz => h z (by simp [Tm.names, hz])]
    have ha : ∀ p, kind a (G.ins x p) = kind a (G'.ins x p) := fun p => kind_congr a fun z hz => by rw [Tab.get_ins, Tab.get_ins, h z (by simp [Tm.names, hz])]
    have hb : ∀ p, kind b (G.ins y p) = kind b (G'.ins y p) := fun p => kind_congr b fun z hz => by rw [Tab.get_ins, Tab.get_ins, h z (by simp [Tm.names, hz])]
    cases kind w G' with
    | none => rfl
    | some s => cases s <;> simp only [ha, hb]
theorem kind_ins {t : Tm} {G : Tab} {x : Nm} {s : Say} (h : x ∉ t.names) : kind t (G.ins x s) = kind t G := kind_congr t fun y hy => by
  rw [Tab.get_ins, if_neg (fun e : y = x => h (by rw [← e]; exact hy))]
/-- both follow from one another -/
def eqs (a b : Say) : Say := .and (.thn a b) (.thn b a)
theorem swp_kind {f : Tm} {G : Tab} {a c : Say} (h : kind f G = some (eqs a c)) : kind (swp f) G = some (eqs c a) := by
  simp only [swp, kind, h, eqs]
theorem led_thn {a b c d : Say} {f l : Tm} {x y : Nm} {G : Tab} (hf : kind f G = some (eqs a c)) (hl : kind l G = some (eqs b d)) (xf : x ∉ f.names) (xl : x ∉ l.names) (yf : y ∉ f.names) (yl : y ∉ l.names) (xy : y ≠ x) : kind (led (.thn a b) (.thn c d) f l x y) G = some (.thn (.thn a b) (.thn c d)) := by
  have h1 : kind f ((G.ins x (.thn a b)).ins y c) = some (eqs a c) := by rw [kind_ins yf, kind_ins xf, hf]
  have h2 : kind l ((G.ins x (.thn a b)).ins y c) = some (eqs b d) := by rw [kind_ins yl, kind_ins xl, hl]
  have h3 : ((G.ins x (.thn a b)).ins y c).get y = some c := by rw [Tab.get_ins, if_pos rfl]
  have h4 : ((G.ins x (.thn a b)).ins y c).get x = some (.thn a b) := by rw [Tab.get_ins, if_neg (Ne.symm xy), Tab.get_ins, if_pos rfl]
  simp only [led, kind, h1, h2, h3, h4, eqs, if_true, Option.map_some]
theorem led_and {a b : Say} {c d : Say} {f l : Tm} {x y : Nm} {G : Tab} (hf : kind f G = some (eqs a c)) (hl : kind l G = some (eqs b d)) (xf : x ∉ f.names) (xl : x ∉ l.names) : kind (led (.and a b) (.and c d) f l x y) G = some (.thn (.and a b) (.and c d)) := by
  have h1 : kind f (G.ins x (.and a b)) = some (eqs a c) := by rw [kind_ins xf, hf]
  have h2 : kind l (G.ins x (.and a b)) = some (eqs b d) := by rw [kind_ins xl, hl]
  have h3 : (G.ins x (.and a b)).get x = some (.and a b) := by rw [Tab.get_ins, if_pos rfl]
  simp only [led, kind, h1, h2, h3, eqs, if_true, Option.map_some]
theorem led_or {a b c d : Say} {f l : Tm} {x y : Nm} {G : Tab} (hf : kind f G = some (eqs a c)) (hl : kind l G = some (eqs b d)) (xf : x ∉ f.names) (xl : x ∉ l.names) (yf : y ∉ f.names) (yl : y ∉ l.names) : kind (led (.or a b) (.or c d) f l x y) G = some (.thn (.or a b) (.or c d)) := by
  have h1 : ∀ p, kind f ((G.ins x (.or a b)).ins y p) = some (eqs a c) := fun p => by rw [kind_ins yf, kind_ins xf, hf]
  have h2 : ∀ p, kind l ((G.ins x (.or a b)).ins y p) = some (eqs b d) := fun p => by rw [kind_ins yl, kind_ins xl, hl]
  have h3 : ∀ p, ((G.ins x (.or a b)).ins y p).get y = some p := fun p => by rw [Tab.get_ins, if_pos rfl]
  have h4 : (G.ins x (.or a b)).get x = some (.or a b) := by rw [Tab.get_ins, if_pos rfl]
  simp only [led, kind, h1, h2, h3, h4, eqs, if_true, Option.map_some]
theorem sm_kind (s : Say) (G : Tab) : kind (sm s) G = some (eqs s s) := by
  simp only [sm, kind, Tab.get_ins, if_true, Option.map_some, eqs]
theorem put_one {x : Nm} {s : Say} : Say.put (one1 x s) (.atom x) = s := by
  simp [Say.put, one1, Tab.get]
theorem put_other {x y : Nm} {s : Say} (h : y ≠ x) : Say.put (one1 x s) (.atom y) = .atom y := by
  have h2 : ¬ x.s = y.s := fun e => h (by cases x; cases y; simp_all)
  simp [Say.put, one1, Tab.get, h2]
theorem Frs.out {f l : Tm} {i j : Nat} (h : Frs (f.names ++ l.names) i j) : hnm i ∉ f.names ∧ hnm i ∉ l.names ∧ hnm j ∉ f.names ∧ hnm j ∉ l.names ∧ hnm j ≠ hnm i :=
  ⟨fun z => h.1 (List.mem_append.mpr (.inl z)), fun z => h.1 (List.mem_append.mpr (.inr z)), fun z => h.2.2.1 (List.mem_append.mpr (.inl z)), fun z => h.2.2.1 (List.mem_append.mpr (.inr z)), h.2.2.2.1⟩
/-- SOUNDNESS: an exchange's term proves that the two are equal -/
theorem exch_sound {x : Nm} {one other : Say} {e : Tm} : ∀ (s : Say) (t : Tm) {G : Tab}, ExR x one other e s t → kind e G = some (eqs one other) → kind t G = some (eqs (s.put (one1 x one)) (s.put (one1 x other)))
  | .atom y, t, G, h, he => by
    simp only [ExR] at h
    by_cases hy : y = x
    · subst hy
      rw [if_pos rfl] at h
      subst h
      rw [put_one, put_one, he]
    · rw [if_neg hy] at h
      subst h
      rw [put_other hy, put_other hy]
      exact sm_kind _ _
  | .fls, t, G, h, he => by
    simp only [ExR] at h
    subst h
    exact sm_kind _ _
  | .thn a b, t, G, h, he => by
    obtain ⟨f, l, i, j, i2, j2, hf, hl, fr, fr2, rfl⟩ := h
    have kf := exch_sound a f hf he
    have kl := exch_sound b l hl he
    obtain ⟨o1, o2, o3, o4, o5⟩ := fr.out
    obtain ⟨p1, p2, p3, p4, p5⟩ := fr2.out
    simp only [kind, Say.put, led_thn kf kl o1 o2 o3 o4 o5, led_thn (swp_kind kf) (swp_kind kl) p1 p2 p3 p4 p5, eqs]
  | .and a b, t, G, h, he => by
    obtain ⟨f, l, i, j, i2, j2, hf, hl, fr, fr2, rfl⟩ := h
    have kf := exch_sound a f hf he
    have kl := exch_sound b l hl he
    obtain ⟨o1, o2, o3, o4, o5⟩ := fr.out
    obtain ⟨p1, p2, p3, p4, p5⟩ := fr2.out
    simp only [kind, Say.put, led_and kf kl o1 o2, led_and (swp_kind kf) (swp_kind kl) p1 p2, eqs]
  | .or a b, t, G, h, he => by
    obtain ⟨f, l, i, j, i2, j2, hf, hl, fr, fr2, rfl⟩ := h
    have kf := exch_sound a f hf he
    have kl := exch_sound b l hl he
    obtain ⟨o1, o2, o3, o4, o5⟩ := fr.out
    obtain ⟨p1, p2, p3, p4, p5⟩ := fr2.out
    simp only [kind, Say.put, led_or kf kl o1 o2 o3 o4, led_or (swp_kind kf) (swp_kind kl) p1 p2 p3 p4, eqs]
/-! ### bounds -/
theorem put_dep {x : Nm} {u : Say} {D : Nat} (hD : u.dep ≤ D) (h1 : 1 ≤ D) : ∀ s : Say, (s.put (one1 x u)).dep ≤ s.dep + D
  | .atom y => by
    by_cases hy : y = x
    · subst hy; rw [put_one]; simp only [Say.dep]; omega
    · rw [put_other hy]; simp only [Say.dep]; omega
  | .fls => by simp only [Say.put, Say.dep]; omega
  | .thn a b => by have := put_dep (x := x) hD h1 a; have := put_dep (x := x) hD h1 b; simp only [Say.put, Say.dep]; omega
  | .and a b => by have := put_dep (x := x) hD h1 a; have := put_dep (x := x) hD h1 b; simp only [Say.put, Say.dep]; omega
  | .or a b => by have := put_dep (x := x) hD h1 a; have := put_dep (x := x) hD h1 b; simp only [Say.put, Say.dep]; omega
theorem led_dep {a b c d : Say} {f l : Tm} {x y : Nm} {M : Nat} (hf : f.dep ≤ M) (hl : l.dep ≤ M) (ha : a.dep + 1 ≤ M) (hb : b.dep + 1 ≤ M) (hc : c.dep + 1 ≤ M) (hd : d.dep + 1 ≤ M) :
    (led (.thn a b) (.thn c d) f l x y).dep ≤ M + 6 ∧ (led (.and a b) (.and c d) f l x y).dep ≤ M + 6 ∧ (led (.or a b) (.or c d) f l x y).dep ≤ M + 6 := by
  simp only [led, Tm.dep, Say.dep]; omega
theorem led_size {a b c d : Say} {f l : Tm} {x y : Nm} :
    (led (.thn a b) (.thn c d) f l x y).size ≤ f.size + l.size + 11 ∧ (led (.and a b) (.and c d) f l x y).size ≤ f.size + l.size + 11 ∧ (led (.or a b) (.or c d) f l x y).size ≤ f.size + l.size + 11 := by
  simp only [led, Tm.size]; omega
theorem led_says {a b c d : Say} {f l : Tm} {x y : Nm} {m : Nat} (hf : f.says m) (hl : l.says m) (ha : (Say.thn a b).dep ≤ m) (hc : c.dep ≤ m) (hd : d.dep ≤ m) :
    (led (.thn a b) (.thn c d) f l x y).says m ∧ (led (.and a b) (.and c d) f l x y).says m ∧ (led (.or a b) (.or c d) f l x y).says m := by
  refine ⟨?_, ?_, ?_⟩ <;> simp only [led, Tm.says, Tm.dep] <;> simp only [Say.dep] at ha ⊢ <;> simp_all
theorem led_names {a b c d : Say} {f l : Tm} {x y : Nm} {L : List Nm} (hf : f.names ⊆ L) (hl : l.names ⊆ L) (hx : x ∈ L) (hy : y ∈ L) :
    (led (.thn a b) (.thn c d) f l x y).names ⊆ L ∧ (led (.and a b) (.and c d) f l x y).names ⊆ L ∧ (led (.or a b) (.or c d) f l x y).names ⊆ L := by
  refine ⟨?_, ?_, ?_⟩ <;> intro z hz <;> simp only [led, Tm.names, List.mem_append, List.mem_singleton, List.mem_cons, List.not_mem_nil, or_false] at hz
  · rcases hz with h | h | h | h
    · exact hl h
    · exact h ▸ hx
    · exact hf h
    · exact h ▸ hy
  · rcases hz with (h | h) | h | h
    · exact hf h
    · exact h ▸ hx
    · exact hl h
    · exact h ▸ hx
  · rcases hz with h | (h | h) | h | h
    · exact h ▸ hx
    · exact hf h
    · exact h ▸ hy
    · exact hl h
    · exact h ▸ hy
/-- all bounds at once; d the levels, E the depth at the ends, B its names -/
structure Bnd (E : Nat) (m Z : Nat) (B : List Nm) (d : Nat) (t : Tm) : Prop where
  (dep : t.dep ≤ E + 9 * d) (says : t.says m) (size : t.size + 6 ≤ 6 ^ d * Z) (names : t.names ⊆ B ++ (List.range (2 * d + 1)).map hnm)
theorem names_up {B : List Nm} {d e : Nat} (h : d ≤ e) : B ++ (List.range (2 * d + 1)).map hnm ⊆ B ++ (List.range (2 * e + 1)).map hnm := by
  intro z hz
  rcases List.mem_append.mp hz with h1 | h1
  · exact List.mem_append.mpr (.inl h1)
  · obtain ⟨i, hi, rfl⟩ := List.mem_map.mp h1
    exact List.mem_append.mpr (.inr (List.mem_map.mpr ⟨i, List.mem_range.mpr (by have := List.mem_range.mp hi; omega), rfl⟩))
theorem hnm_ne2 : ∀ i < 40, ∀ j < 40, hnm i = hnm j → i = j := fun i hi j hj e => hnm_inj i hi j hj (by rw [← hnm_s i hi, ← hnm_s j hj, e])
/-- the new names are low -/
theorem frs_low {K B : List Nm} {d i j : Nat} (hK : K ⊆ B ++ (List.range (2 * d + 1)).map hnm) (hB : ∀ m, 1 ≤ m → m < 40 → hnm m ∉ B) (hd : d ≤ 10) (h : Frs K i j) : i ≤ 2 * d + 1 ∧ j ≤ 2 * d + 2 := by
  obtain ⟨_, h2, _, _, h5, h6, h7⟩ := h
  have low : ∀ m, m < 40 → hnm m ∈ K → m ≤ 2 * d := fun m hm hk => by
    rcases List.mem_append.mp (hK hk) with z | z
    · by_cases h0 : 1 ≤ m
      · exact absurd z (hB m h0 hm)
      · omega
    · obtain ⟨r, hr, e⟩ := List.mem_map.mp z
      have hr := List.mem_range.mp hr
      have := hnm_ne2 r (by omega) m hm e
      omega
  have hi : i ≤ 2 * d + 1 := by
    by_cases h0 : i = 0
    · omega
    · have := low (i - 1) (by omega) (h2 (i - 1) (by omega)); omega
  refine ⟨hi, ?_⟩
  by_cases h0 : j = 0
  · omega
  · rcases h5 (j - 1) (by omega) with z | z
    · have := low (j - 1) (by omega) z; omega
    · have := hnm_ne2 (j - 1) (by omega) i (by omega) z; omega
end B33

set_option Elab.async false
set_option linter.all false
set_option maxRecDepth 100000
set_option maxHeartbeats 2000000
set_option autoImplicit false
namespace B33
open PT PySem L2 PySem.Spec PyProof.Rows
theorem Say.dep1 : ∀ x : Say, 1 ≤ x.dep := fun x => by cases x <;> simp [Say.dep]
/-- what is asked of the ends -/
structure Ends0 (E m Z D : Nat) (B : List Nm) (one other : Say) (e : Tm) : Prop where
  (dep : e.dep ≤ E) (says : e.says m) (size : e.size + 6 ≤ Z) (names : e.names ⊆ B) (bh : ∀ k, 1 ≤ k → k < 40 → hnm k ∉ B) (d1 : one.dep ≤ D) (d2 : other.dep ≤ D) (d0 : 1 ≤ D) (de : D + 2 ≤ E) (z : 11 ≤ Z)
theorem sm_bnd {E m Z : Nat} {B : List Nm} {s : Say} {d : Nat} (hs : s.dep ≤ m) (hd : s.dep ≤ 1) (hE : 3 ≤ E) (hZ : 11 ≤ Z) : Bnd E m Z B d (sm s) := by
  refine ⟨?_, ⟨⟨hs, trivial⟩, hs, trivial⟩, ?_, fun z hz => ?_⟩
  · simp only [sm, Tm.dep]; omega
  · have : 1 ≤ 6 ^ d := Nat.one_le_pow _ _ (by decide)
    have h2 : 1 * Z ≤ 6 ^ d * Z := Nat.mul_le_mul_right Z this
    simp only [sm, Tm.size]; omega
  · simp only [sm, Tm.names, List.mem_append, List.mem_singleton, or_self, List.cons_append, List.nil_append, List.mem_cons, List.not_mem_nil, or_false] at hz
    subst hz
    exact List.mem_append.mpr (.inr (List.mem_map.mpr ⟨0, List.mem_range.mpr (by omega), rfl⟩))
theorem pair_bnd {E m Z D : Nat} {B : List Nm} {d : Nat} {f l : Tm} {p q : Tm} {i j i2 j2 : Nat} (hd : d + 1 ≤ 9) (hbh : ∀ k, 1 ≤ k → k < 40 → hnm k ∉ B) (bf : Bnd E m Z B d f) (bl : Bnd E m Z B d l) (fr : Frs (f.names ++ l.names) i j) (fr2 : Frs ((swp f).names ++ (swp l).names) i2 j2)
    (pd : ∀ M, f.dep ≤ M → l.dep ≤ M → E + 9 * d ≤ M → p.dep ≤ M + 6) (qd : ∀ M, (swp f).dep ≤ M → (swp l).dep ≤ M → E + 9 * d ≤ M → q.dep ≤ M + 6) (pz : p.size ≤ f.size + l.size + 11) (qz : q.size ≤ (swp f).size + (swp l).size + 11)
    (ps : f.says m → l.says m → p.says m) (qs : (swp f).says m → (swp l).says m → q.says m)
    (pn : ∀ L, f.names ⊆ L → l.names ⊆ L → hnm i ∈ L → hnm j ∈ L → p.names ⊆ L) (qn : ∀ L, (swp f).names ⊆ L → (swp l).names ⊆ L → hnm i2 ∈ L → hnm j2 ∈ L → q.names ⊆ L) : Bnd E m Z B (d + 1) (.pair p q) := by
  have sf : (swp f).dep = f.dep + 2 := by simp [swp, Tm.dep]
  have sl : (swp l).dep = l.dep + 2 := by simp [swp, Tm.dep]
  have zf : (swp f).size = 2 * f.size + 3 := by simp [swp, Tm.size]; omega
  have zl : (swp l).size = 2 * l.size + 3 := by simp [swp, Tm.size]; omega
  have nf : (swp f).names ⊆ f.names := fun z hz => by simpa [swp, Tm.names] using hz
  have nl : (swp l).names ⊆ l.names := fun z hz => by simpa [swp, Tm.names] using hz
  have h1 := pd (E + 9 * d) bf.dep bl.dep (Nat.le_refl _)
  have h2 := qd (E + 9 * d + 2) (by rw [sf]; have := bf.dep; omega) (by rw [sl]; have := bl.dep; omega) (by omega)
  have K1 : f.names ++ l.names ⊆ B ++ (List.range (2 * d + 1)).map hnm := List.append_subset.mpr ⟨bf.names, bl.names⟩
  have K2 : (swp f).names ++ (swp l).names ⊆ B ++ (List.range (2 * d + 1)).map hnm := List.append_subset.mpr ⟨fun z hz => bf.names (nf hz), fun z hz => bl.names (nl hz)⟩
  obtain ⟨i1, j1⟩ := frs_low K1 hbh (by omega) fr
  obtain ⟨i3, j3⟩ := frs_low K2 hbh (by omega) fr2
  have low : ∀ k, k ≤ 2 * d + 2 → hnm k ∈ B ++ (List.range (2 * (d + 1) + 1)).map hnm := fun k hk => List.mem_append.mpr (.inr (List.mem_map.mpr ⟨k, List.mem_range.mpr (by omega), rfl⟩))
  have up := names_up (B := B) (d := d) (e := d + 1) (by omega)
  refine ⟨by simp only [Tm.dep]; omega, ⟨ps bf.says bl.says, qs ⟨bf.says, bf.says⟩ ⟨bl.says, bl.says⟩⟩, ?_, List.append_subset.mpr ⟨?_, ?_⟩⟩
  · have a := bf.size
    have b := bl.size
    have e6 : 6 ^ (d + 1) * Z = 6 * (6 ^ d * Z) := by rw [Nat.pow_succ]; simp [Nat.mul_comm, Nat.mul_left_comm, Nat.mul_assoc]
    rw [e6]
    generalize 6 ^ d * Z = W at *
    simp only [Tm.size]; omega
  · exact pn _ (fun z hz => up (bf.names hz)) (fun z hz => up (bl.names hz)) (low i (by omega)) (low j (by omega))
  · exact qn _ (fun z hz => up (bf.names (nf hz))) (fun z hz => up (bl.names (nl hz))) (low i2 (by omega)) (low j2 (by omega))
theorem exch_bnd {E m Z D : Nat} {B : List Nm} {x : Nm} {one other : Say} {e : Tm} (h0 : Ends0 E m Z D B one other e) : ∀ (s : Say) (d : Nat) (t : Tm), s.dep ≤ d + 1 → d ≤ 9 → s.dep + D ≤ m → ExR x one other e s t → Bnd E m Z B d t
  | .atom y, d, t, hd, h9, hm, h => by
    have hE : 3 ≤ E := by have := h0.de; have := h0.d0; omega
    simp only [ExR] at h
    split at h
    · subst h
      have : 1 ≤ 6 ^ d := Nat.one_le_pow _ _ (by decide)
      have h2 : 1 * Z ≤ 6 ^ d * Z := Nat.mul_le_mul_right Z this
      exact ⟨by have := h0.dep; omega, h0.says, by have := h0.size; omega, fun z hz => List.mem_append.mpr (.inl (h0.names hz))⟩
    · subst h
      exact sm_bnd (by simp only [Say.dep] at hm ⊢; omega) (by simp [Say.dep]) hE h0.z
  | .fls, d, t, hd, h9, hm, h => by
    have hE : 3 ≤ E := by have := h0.de; have := h0.d0; omega
    simp only [ExR] at h
    subst h
    exact sm_bnd (by simp only [Say.dep] at hm ⊢; omega) (by simp [Say.dep]) hE h0.z
  | .thn a b, 0, t, hd, h9, hm, h => by have := a.dep1; simp only [Say.dep] at hd; omega
  | .and a b, 0, t, hd, h9, hm, h => by have := a.dep1; simp only [Say.dep] at hd; omega
  | .or a b, 0, t, hd, h9, hm, h => by have := a.dep1; simp only [Say.dep] at hd; omega
  | .thn a b, d + 1, t, hd, h9, hm, h => by
    obtain ⟨f, l, i, j, i2, j2, hf, hl, fr, fr2, rfl⟩ := h
    simp only [Say.dep] at hd hm
    have bf := exch_bnd h0 a d f (by omega) (by omega) (by omega) hf
    have bl := exch_bnd h0 b d l (by omega) (by omega) (by omega) hl
    have a1 := put_dep (x := x) h0.d1 h0.d0 a
    have a2 := put_dep (x := x) h0.d2 h0.d0 a
    have b1 := put_dep (x := x) h0.d1 h0.d0 b
    have b2 := put_dep (x := x) h0.d2 h0.d0 b
    have de := h0.de
    simp only [Say.put]
    exact pair_bnd (D := D) h9 h0.bh bf bl fr fr2 (fun M h1 h2 h3 => (led_dep h1 h2 (by omega) (by omega) (by omega) (by omega)).1) (fun M h1 h2 h3 => (led_dep h1 h2 (by omega) (by omega) (by omega) (by omega)).1) led_size.1 led_size.1
      (fun h1 h2 => (led_says h1 h2 (by simp only [Say.dep]; omega) (by omega) (by omega)).1) (fun h1 h2 => (led_says h1 h2 (by simp only [Say.dep]; omega) (by omega) (by omega)).1) (fun L h1 h2 h3 h4 => (led_names h1 h2 h3 h4).1) (fun L h1 h2 h3 h4 => (led_names h1 h2 h3 h4).1)
  | .and a b, d + 1, t, hd, h9, hm, h => by
    obtain ⟨f, l, i, j, i2, j2, hf, hl, fr, fr2, rfl⟩ := h
    simp only [Say.dep] at hd hm
    have bf := exch_bnd h0 a d f (by omega) (by omega) (by omega) hf
    have bl := exch_bnd h0 b d l (by omega) (by omega) (by omega) hl
    have a1 := put_dep (x := x) h0.d1 h0.d0 a
    have a2 := put_dep (x := x) h0.d2 h0.d0 a
    have b1 := put_dep (x := x) h0.d1 h0.d0 b
    have b2 := put_dep (x := x) h0.d2 h0.d0 b
    have de := h0.de
    simp only [Say.put]
    exact pair_bnd (D := D) h9 h0.bh bf bl fr fr2 (fun M h1 h2 h3 => (led_dep h1 h2 (by omega) (by omega) (by omega) (by omega)).2.1) (fun M h1 h2 h3 => (led_dep h1 h2 (by omega) (by omega) (by omega) (by omega)).2.1) led_size.2.1 led_size.2.1
      (fun h1 h2 => (led_says h1 h2 (by simp only [Say.dep]; omega) (by omega) (by omega)).2.1) (fun h1 h2 => (led_says h1 h2 (by simp only [Say.dep]; omega) (by omega) (by omega)).2.1) (fun L h1 h2 h3 h4 => (led_names h1 h2 h3 h4).2.1) (fun L h1 h2 h3 h4 => (led_names h1 h2 h3 h4).2.1)
  | .or a b, d + 1, t, hd, h9, hm, h => by
    obtain ⟨f, l, i, j, i2, j2, hf, hl, fr, fr2, rfl⟩ := h
    simp only [Say.dep] at hd hm
    have bf := exch_bnd h0 a d f (by omega) (by omega) (by omega) hf
    have bl := exch_bnd h0 b d l (by omega) (by omega) (by omega) hl
    have a1 := put_dep (x := x) h0.d1 h0.d0 a
    have a2 := put_dep (x := x) h0.d2 h0.d0 a
    have b1 := put_dep (x := x) h0.d1 h0.d0 b
    have b2 := put_dep (x := x) h0.d2 h0.d0 b
    have de := h0.de
    simp only [Say.put]
    exact pair_bnd (D := D) h9 h0.bh bf bl fr fr2 (fun M h1 h2 h3 => (led_dep h1 h2 (by omega) (by omega) (by omega) (by omega)).2.2) (fun M h1 h2 h3 => (led_dep h1 h2 (by omega) (by omega) (by omega) (by omega)).2.2) led_size.2.2 led_size.2.2
      (fun h1 h2 => (led_says h1 h2 (by simp only [Say.dep]; omega) (by omega) (by omega)).2.2) (fun h1 h2 => (led_says h1 h2 (by simp only [Say.dep]; omega) (by omega) (by omega)).2.2) (fun L h1 h2 h3 h4 => (led_names h1 h2 h3 h4).2.2) (fun L h1 h2 h3 h4 => (led_names h1 h2 h3 h4).2.2)
/-! valuations -/
theorem holds_put {x : Nm} {u : Say} {v : Nm → Bool} : ∀ s : Say, (s.put (one1 x u)).holds v = s.holds fun y => if y = x then u.holds v else v y
  | .atom y => by
    by_cases hy : y = x
    · subst hy; rw [put_one]; simp [Say.holds]
    · rw [put_other hy]; simp [Say.holds, hy]
  | .fls => rfl
  | .thn a b => by simp only [Say.put, Say.holds, holds_put a, holds_put b]
  | .and a b => by simp only [Say.put, Say.holds, holds_put a, holds_put b]
  | .or a b => by simp only [Say.put, Say.holds, holds_put a, holds_put b]
theorem holds_same {x : Nm} {one other : Say} {v : Nm → Bool} (h : one.holds v = other.holds v) (s : Say) : (s.put (one1 x one)).holds v = (s.put (one1 x other)).holds v := by
  rw [holds_put, holds_put, h]
theorem atoms_put {x : Nm} {u : Say} : ∀ s : Say, (s.put (one1 x u)).atoms ⊆ s.atoms ++ u.atoms
  | .atom y => by
    by_cases hy : y = x
    · subst hy; rw [put_one]; exact List.subset_append_right _ _
    · rw [put_other hy]; exact List.subset_append_left _ _
  | .fls => fun z hz => by cases hz
  | .thn a b => by
    have h1 := atoms_put (x := x) (u := u) a
    have h2 := atoms_put (x := x) (u := u) b
    intro z hz
    simp only [Say.put, Say.atoms, List.mem_append] at hz ⊢
    rcases hz with hz | hz
    · have := h1 hz; simp only [List.mem_append] at this; rcases this with h | h <;> simp [h]
    · have := h2 hz; simp only [List.mem_append] at this; rcases this with h | h <;> simp [h]
  | .and a b => by
    have h1 := atoms_put (x := x) (u := u) a
    have h2 := atoms_put (x := x) (u := u) b
    intro z hz
    simp only [Say.put, Say.atoms, List.mem_append] at hz ⊢
    rcases hz with hz | hz
    · have := h1 hz; simp only [List.mem_append] at this; rcases this with h | h <;> simp [h]
    · have := h2 hz; simp only [List.mem_append] at this; rcases this with h | h <;> simp [h]
  | .or a b => by
    have h1 := atoms_put (x := x) (u := u) a
    have h2 := atoms_put (x := x) (u := u) b
    intro z hz
    simp only [Say.put, Say.atoms, List.mem_append] at hz ⊢
    rcases hz with hz | hz
    · have := h1 hz; simp only [List.mem_append] at this; rcases this with h | h <;> simp [h]
    · have := h2 hz; simp only [List.mem_append] at this; rcases this with h | h <;> simp [h]
end B33

set_option Elab.async false
set_option linter.all false
set_option maxRecDepth 100000
set_option maxHeartbeats 2000000
set_option autoImplicit false
namespace B33
open PT PySem L2 PySem.Spec PyProof.Rows
/-! ### the law's drawn pairs -/
theorem nm_xy : nm "x" ≠ nm "y" := by decide +kernel
theorem nm_yx : nm "y" ≠ nm "x" := by decide +kernel
theorem eqR_kind {s u : Say} {t : Tm} (h : EqR s u t) (G : Tab) : kind t G = some (eqs s u) := by
  cases h <;> simp [kind, Tab.get_ins, eqs, nm_xy, nm_yx]
structure EqB (s u : Say) (t : Tm) : Prop where
  (ud : u.dep ≤ max s.dep 2 + 1) (td : t.dep ≤ max s.dep 2 + 4) (says : t.says (max s.dep 2 + 1)) (size : t.size ≤ 10) (names : t.names ⊆ [nm "x", nm "y"]) (atoms : u.atoms ⊆ s.atoms)
theorem eqR_bnd {s u : Say} {t : Tm} (h : EqR s u t) : EqB s u t := by
  cases h
  · exact ⟨by omega, by simp only [Tm.dep]; omega, by simp only [Tm.says, Tm.dep, Say.dep]; repeat' (first | exact trivial | omega | refine And.intro ?_ ?_), by simp [Tm.size], by simp [Tm.names], fun _ h => h⟩
  · exact ⟨by simp only [Say.dep]; omega, by simp only [Tm.dep, Say.dep]; omega, by simp only [Tm.says, Tm.dep, Say.dep]; repeat' (first | exact trivial | omega | refine And.intro ?_ ?_), by simp [Tm.size], by simp [Tm.names], by simp [Say.atoms]⟩
  · exact ⟨by simp only [Say.dep]; omega, by simp only [Tm.dep, Say.dep]; omega, by simp only [Tm.says, Tm.dep, Say.dep]; repeat' (first | exact trivial | omega | refine And.intro ?_ ?_), by simp [Tm.size], by simp [Tm.names], by simp [Say.atoms]⟩
  · exact ⟨by simp only [Say.dep]; omega, by simp only [Tm.dep, Say.dep]; omega, by simp only [Tm.says, Tm.dep, Say.dep]; repeat' (first | exact trivial | omega | refine And.intro ?_ ?_), by simp [Tm.size], by simp [Tm.names], by simp [Say.atoms]⟩
/-- names of the law beside h1, h2, .. -/
theorem far_from : ∀ k, 1 ≤ k → k < 40 → hnm k ∉ [nm "x", nm "y", nm "e", nm "k", nm "h0", nm "z"] := by
  have : ∀ k < 40, 1 ≤ k → hnm k ∉ [nm "x", nm "y", nm "e", nm "k", nm "h0", nm "z"] := by decide +kernel
  exact fun k h1 h2 => this k h2 h1
theorem z_far : ∀ k < 40, hnm k ≠ nm "z" := by decide +kernel
/-- the law's ends -/
abbrev LB : List Nm := [nm "x", nm "y", nm "e", nm "k", nm "h0"]
theorem ends_of {one other : Say} {e : Tm} (h1 : one.dep ≤ 4) (h2 : other.dep ≤ 4) (hd : e.dep ≤ 12) (hs : e.says 12) (hz : e.size ≤ 10) (hn : e.names ⊆ LB) : Ends0 12 12 20 4 LB one other e :=
  ⟨hd, hs, by omega, hn, fun k a b c => far_from k a b (by simp only [LB, List.mem_cons, List.not_mem_nil, or_false] at c ⊢; rcases c with c | c | c | c | c <;> simp [c]), h1, h2, by decide, by decide, by decide⟩
/-- what the walk asks ahead of a call -/
theorem exbs_of {x : Nm} {one other : Say} {e : Tm} (h0 : Ends0 12 12 20 4 LB one other e) : ∀ s : Say, s.dep ≤ 5 → ExBs x one other e s
  | .atom y, _ => trivial
  | .fls, _ => trivial
  | .thn a b, hs => by
    simp only [Say.dep] at hs
    exact ⟨⟨fun t h => by have bd := exch_bnd h0 a 3 t (by omega) (by decide) (by omega) h; exact ⟨by have := bd.dep; omega, _, bd.names, by simp [LB]⟩⟩, ⟨fun t h => by have bd := exch_bnd h0 b 3 t (by omega) (by decide) (by omega) h; exact ⟨by have := bd.dep; omega, _, bd.names, by simp [LB]⟩⟩, exbs_of h0 a (by omega), exbs_of h0 b (by omega)⟩
  | .and a b, hs => by
    simp only [Say.dep] at hs
    exact ⟨⟨fun t h => by have bd := exch_bnd h0 a 3 t (by omega) (by decide) (by omega) h; exact ⟨by have := bd.dep; omega, _, bd.names, by simp [LB]⟩⟩, ⟨fun t h => by have bd := exch_bnd h0 b 3 t (by omega) (by decide) (by omega) h; exact ⟨by have := bd.dep; omega, _, bd.names, by simp [LB]⟩⟩, exbs_of h0 a (by omega), exbs_of h0 b (by omega)⟩
  | .or a b, hs => by
    simp only [Say.dep] at hs
    exact ⟨⟨fun t h => by have bd := exch_bnd h0 a 3 t (by omega) (by decide) (by omega) h; exact ⟨by have := bd.dep; omega, _, bd.names, by simp [LB]⟩⟩, ⟨fun t h => by have bd := exch_bnd h0 b 3 t (by omega) (by decide) (by omega) h; exact ⟨by have := bd.dep; omega, _, bd.names, by simp [LB]⟩⟩, exbs_of h0 a (by omega), exbs_of h0 b (by omega)⟩
/-- what is known of an exchange's term in the law -/
structure ExOk (x : Nm) (one other s : Say) (t : Tm) (G : Tab) : Prop where
  (good : Good 12 t G) (kind : kind t G = some (eqs (s.put (one1 x one)) (s.put (one1 x other)))) (dep : t.dep ≤ 48) (size : t.size ≤ 30000) (z : nm "z" ∉ t.names)
theorem exok {x : Nm} {one other : Say} {e : Tm} {G : Tab} (h0 : Ends0 12 12 20 4 LB one other e) (hk : kind e G = some (eqs one other)) (hG : G.says 12) (hl : G.length ≤ 10) {s : Say} (hs : s.dep ≤ 5) {t : Tm} (h : ExR x one other e s t) : ExOk x one other s t G := by
  have bd := exch_bnd h0 s 4 t (by omega) (by decide) (by omega) h
  have hd := bd.dep
  refine ⟨⟨bd.says, hG, by omega, by omega⟩, exch_sound s t h hk, by omega, by have := bd.size; simp at this; omega, fun hz => ?_⟩
  rcases List.mem_append.mp (bd.names hz) with c | c
  · exact absurd c (by decide +kernel)
  · obtain ⟨i, hi, e⟩ := List.mem_map.mp c
    exact z_far i (by have := List.mem_range.mp hi; omega) e
/-- smaller schemes give shallower terms -/
theorem exok4 {x : Nm} {one other : Say} {e : Tm} (h0 : Ends0 12 12 20 4 LB one other e) {s : Say} (hs : s.dep ≤ 4) {t : Tm} (h : ExR x one other e s t) : t.dep ≤ 39 := by
  have := (exch_bnd h0 s 3 t (by omega) (by decide) (by omega) h).dep
  omega
theorem joint_kind {x : Nm} {a b c s : Say} {t1 t2 : Tm} (k1 : kind t1 [] = some (eqs (s.put (one1 x a)) (s.put (one1 x b)))) (k2 : kind t2 [] = some (eqs (s.put (one1 x b)) (s.put (one1 x c)))) (z1 : nm "z" ∉ t1.names) (z2 : nm "z" ∉ t2.names) :
    kind (.take (nm "z") (s.put (one1 x a)) (.app (.fst t2) (.app (.fst t1) (.use (nm "z"))))) [] = some (.thn (s.put (one1 x a)) (s.put (one1 x c))) := by
  have h1 : ∀ u, kind t1 (Tab.ins [] (nm "z") u) = some (eqs (s.put (one1 x a)) (s.put (one1 x b))) := fun u => by rw [kind_ins z1, k1]
  have h2 : ∀ u, kind t2 (Tab.ins [] (nm "z") u) = some (eqs (s.put (one1 x b)) (s.put (one1 x c))) := fun u => by rw [kind_ins z2, k2]
  simp only [kind, h1, h2, Tab.get_ins, if_true, eqs, Option.map_some]
/-- an atom that does not come up is not put in -/
theorem put_idle {x : Nm} {u : Say} : ∀ s : Say, x ∉ s.atoms → s.put (one1 x u) = s
  | .atom y, h => put_other (fun e => h (by simp [Say.atoms, e]))
  | .fls, _ => rfl
  | .thn a b, h => by simp only [Say.atoms, List.mem_append, not_or] at h; simp only [Say.put, put_idle a h.1, put_idle b h.2]
  | .and a b, h => by simp only [Say.atoms, List.mem_append, not_or] at h; simp only [Say.put, put_idle a h.1, put_idle b h.2]
  | .or a b, h => by simp only [Say.atoms, List.mem_append, not_or] at h; simp only [Say.put, put_idle a h.1, put_idle b h.2]
end B33

set_option Elab.async false
set_option linter.all false
set_option maxRecDepth 100000
set_option maxHeartbeats 4000000
set_option autoImplicit false
set_option pp.maxSteps 600
namespace B33
open PT PySem L2 PySem.Spec PyProof.Rows
local macro_rules | `(tactic| walk_at "pt rdb") => `(tactic| first
  | (apply Or.inl; exact List.Mem.head _)
  | (apply Or.inl; apply List.Mem.tail; exact List.Mem.head _)
  | (apply Or.inl; apply List.Mem.tail; apply List.Mem.tail; exact List.Mem.head _)
  | (apply Or.inl; apply List.Mem.tail; apply List.Mem.tail; apply List.Mem.tail; exact List.Mem.head _)
  | (apply Or.inl; apply List.Mem.tail; apply List.Mem.tail; apply List.Mem.tail; apply List.Mem.tail; exact List.Mem.head _)
  | (apply Or.inl; apply List.Mem.tail; apply List.Mem.tail; apply List.Mem.tail; apply List.Mem.tail; apply List.Mem.tail; exact List.Mem.head _)
  | (apply Or.inl; apply List.Mem.tail; apply List.Mem.tail; apply List.Mem.tail; apply List.Mem.tail; apply List.Mem.tail; apply List.Mem.tail; exact List.Mem.head _)
  | (apply Or.inl; apply List.Mem.tail; apply List.Mem.tail; apply List.Mem.tail; apply List.Mem.tail; apply List.Mem.tail; apply List.Mem.tail; apply List.Mem.tail; exact List.Mem.head _)
  | (apply Or.inl; apply List.Mem.tail; apply List.Mem.tail; apply List.Mem.tail; apply List.Mem.tail; apply List.Mem.tail; apply List.Mem.tail; apply List.Mem.tail; apply List.Mem.tail; exact List.Mem.head _)
  | (apply Or.inl; apply List.Mem.tail; apply List.Mem.tail; apply List.Mem.tail; apply List.Mem.tail; apply List.Mem.tail; apply List.Mem.tail; apply List.Mem.tail; apply List.Mem.tail; apply List.Mem.tail; exact List.Mem.head _)
  | (apply Or.inr; assumption) | (apply Or.inr; exact List.Mem.head _) | (apply Or.inr; apply List.Mem.tail; exact List.Mem.head _) | fail)
theorem Tm.says_mono {k m : Nat} (h : k ≤ m) : ∀ {t : Tm}, t.says k → t.says m
  | .use _, _ => trivial
  | .take _ s a, q => ⟨Nat.le_trans q.1 h, Tm.says_mono h q.2⟩
  | .app a b, q => ⟨Tm.says_mono h q.1, Tm.says_mono h q.2⟩
  | .pair a b, q => ⟨Tm.says_mono h q.1, Tm.says_mono h q.2⟩
  | .fst a, q => Tm.says_mono (t := a) h q
  | .snd a, q => Tm.says_mono (t := a) h q
  | .inl a s, q => ⟨Tm.says_mono h q.1, Nat.le_trans q.2 h⟩
  | .inr s a, q => ⟨Nat.le_trans q.1 h, Tm.says_mono h q.2⟩
  | .cas w _ a _ b, q => ⟨q.1, Tm.says_mono h q.2.1, Tm.says_mono h q.2.2.1, Tm.says_mono h q.2.2.2⟩
theorem good_nil {t : Tm} (h : t.says 12) (hd : t.dep ≤ 51) : Good 12 t [] := ⟨h, fun p hp => (by cases hp), by omega, by simp; omega⟩
theorem nd_nil : Tab.nd [] := List.nodup_nil
theorem eqT_self {s : Say} (h : s.dep ≤ 60) : EqT s.t s.t true := by
  have e := Say.eqT (s := s) (u := s) (by omega) (by omega)
  rwa [decide_eq_true rfl] at e
theorem ends_eqR {s u : Say} {t : Tm} (h : EqR s u t) (hs : s.dep ≤ 3) : Ends0 12 12 20 4 LB s u t := by
  have b1 := eqR_bnd h
  have hu := b1.ud
  have htd := b1.td
  exact ends_of (by omega) (by omega) (by omega) (Tm.says_mono (by omega) b1.says) b1.size (fun z hz => by have := b1.names hz; simp only [List.mem_cons, List.not_mem_nil, or_false, LB] at this ⊢; rcases this with h | h <;> simp [h])
theorem lessT.setN : ∀ {a : Rho} {i : Nat} (t : Option T), a[i]? = some none → lessT a (a.set i t)
  | [], _, _, e => by simp at e
  | none :: a, 0, t, _ => lessT.refl a
  | some _ :: a, 0, t, e => by simp at e
  | none :: a, i + 1, t, e => lessT.setN (a := a) (i := i) t (by simpa using e)
  | some u :: a, i + 1, t, e => ⟨rfl, lessT.setN (a := a) (i := i) t (by simpa using e)⟩
abbrev LN : List Str := ["script", "tape", "names", "scheme", "one", "other", "term", "due", "left", "right", "told", "given", "free", "open_term", "truths", "third", "more", "last", "way", "joint", "wide", "twice", "idle"]
theorem scLaw : FnScope LN ["script"] (defScope (top 51)) := ⟨rfl, rfl, rfl, by decide +kernel, rfl, by decide +kernel, by decide +kernel⟩
abbrev ABP : List Nm := [nm "a", nm "b", nm "p"]
abbrev AB : List Nm := [nm "a", nm "b"]
abbrev nP : Nm := nm "p"
/-- what is drawn -/
structure Drawn (scheme one other : Say) (e : Tm) : Prop where
  (sd : scheme.dep ≤ 4) (sa : scheme.atoms ⊆ ABP) (od : one.dep ≤ 2) (oa : one.atoms ⊆ AB) (eq : EqR one other e)
theorem Drawn.ends {scheme one other : Say} {e : Tm} (d : Drawn scheme one other e) : Ends0 12 12 20 4 LB one other e := ends_eqR d.eq (by have := d.od; omega)
theorem Drawn.ud {scheme one other : Say} {e : Tm} (d : Drawn scheme one other e) : other.dep ≤ 3 := by have := (eqR_bnd d.eq).ud; have := d.od; omega
def opn (one : Say) : Tm := .pair (.take (nm "k") one (.app (.fst (.use (nm "h0"))) (.use (nm "k")))) (.snd (.use (nm "h0")))
theorem nm_kh : nm "k" ≠ nm "h0" := by decide +kernel
theorem nm_hk : nm "h0" ≠ nm "k" := by decide +kernel
theorem opn_kind (one other : Say) : kind (opn one) [(.inr (nm "h0").s, eqs one other)] = some (eqs one other) := by
  have e1 : Tab.get [(.inr (nm "h0").s, eqs one other)] (nm "h0") = some (eqs one other) := by simp [Tab.get]
  simp [opn, kind, Tab.get_ins, eqs, nm_kh, nm_hk] at e1 ⊢
  simp [e1]
/-- the told term -/
structure Told (scheme one other : Say) (told : Tm) : Prop where
  (dep : told.dep ≤ 39) (says : told.says 12) (kind : kind told [] = some (eqs (scheme.put (one1 nP one)) (scheme.put (one1 nP other)))) (size : told.size ≤ 30000) (z : nm "z" ∉ told.names)
theorem told_of {scheme one other : Say} {e told : Tm} (E : Ends0 12 12 20 4 LB one other e) (k1 : kind e [] = some (eqs one other)) (hs : scheme.dep ≤ 4) (h : ExR nP one other e scheme told) : Told scheme one other told := by
  have x := exok (G := []) E k1 (fun p hp => (by cases hp)) (by simp) (by omega) h
  exact ⟨exok4 E hs h, x.good.ts, x.kind, x.size, x.z⟩
end B33

set_option Elab.async false
set_option linter.all false
set_option maxRecDepth 100000
set_option maxHeartbeats 4000000
set_option autoImplicit false
set_option pp.maxSteps 600
namespace B33
open PT PySem L2 PySem.Spec PyProof.Rows
local macro_rules | `(tactic| walk_at "pt rdb") => `(tactic| first
  | (apply Or.inl; exact List.Mem.head _)
  | (apply Or.inl; apply List.Mem.tail; exact List.Mem.head _)
  | (apply Or.inl; apply List.Mem.tail; apply List.Mem.tail; exact List.Mem.head _)
  | (apply Or.inl; apply List.Mem.tail; apply List.Mem.tail; apply List.Mem.tail; exact List.Mem.head _)
  | (apply Or.inl; apply List.Mem.tail; apply List.Mem.tail; apply List.Mem.tail; apply List.Mem.tail; exact List.Mem.head _)
  | (apply Or.inl; apply List.Mem.tail; apply List.Mem.tail; apply List.Mem.tail; apply List.Mem.tail; apply List.Mem.tail; exact List.Mem.head _)
  | (apply Or.inl; apply List.Mem.tail; apply List.Mem.tail; apply List.Mem.tail; apply List.Mem.tail; apply List.Mem.tail; apply List.Mem.tail; exact List.Mem.head _)
  | (apply Or.inl; apply List.Mem.tail; apply List.Mem.tail; apply List.Mem.tail; apply List.Mem.tail; apply List.Mem.tail; apply List.Mem.tail; apply List.Mem.tail; exact List.Mem.head _)
  | (apply Or.inl; apply List.Mem.tail; apply List.Mem.tail; apply List.Mem.tail; apply List.Mem.tail; apply List.Mem.tail; apply List.Mem.tail; apply List.Mem.tail; apply List.Mem.tail; exact List.Mem.head _)
  | (apply Or.inl; apply List.Mem.tail; apply List.Mem.tail; apply List.Mem.tail; apply List.Mem.tail; apply List.Mem.tail; apply List.Mem.tail; apply List.Mem.tail; apply List.Mem.tail; apply List.Mem.tail; exact List.Mem.head _)
  | (apply Or.inr; assumption) | (apply Or.inr; exact List.Mem.head _) | (apply Or.inr; apply List.Mem.tail; exact List.Mem.head _) | fail)
section
variable {P : Program} {w : World} {K : PySem.W.Frag} {mg : Str → Option Value} {base : Heap} {n : Nat}
set_option maxHeartbeats 8000000
local macro_rules | `(tactic| walk_at "pt 1") => `(tactic| first
  | ((with_reducible refine aw_cons (hs := ?hs) (h := ?_)); (case hs => exact rfl))
  | ((with_reducible refine aw_nil (hk := ?_)))
  | ((with_reducible refine ew_var (x := "script") (i := 0) (t := ?t) ?hi ?_ ?hN ?hv ?hd ?hc); (case hi => exact rfl); (case hN => exact rfl); (case hv => first | exact Or.inl rfl | exact Or.inr (Or.inl rfl) | exact Or.inr (Or.inr rfl)); (case hd => decide); (case hc => decide))
  | ((with_reducible refine ew_var (x := "tape") (i := 1) (t := ?t) ?hi ?_ ?hN ?hv ?hd ?hc); (case hi => exact rfl); (case hN => exact rfl); (case hv => first | exact Or.inl rfl | exact Or.inr (Or.inl rfl) | exact Or.inr (Or.inr rfl)); (case hd => decide); (case hc => decide))
  | ((with_reducible refine ew_var (x := "names") (i := 2) (t := ?t) ?hi ?_ ?hN ?hv ?hd ?hc); (case hi => exact rfl); (case hN => exact rfl); (case hv => first | exact Or.inl rfl | exact Or.inr (Or.inl rfl) | exact Or.inr (Or.inr rfl)); (case hd => decide); (case hc => decide))
  | ((with_reducible refine ew_var (x := "scheme") (i := 3) (t := ?t) ?hi ?_ ?hN ?hv ?hd ?hc); (case hi => exact rfl); (case hN => exact rfl); (case hv => first | exact Or.inl rfl | exact Or.inr (Or.inl rfl) | exact Or.inr (Or.inr rfl)); (case hd => decide); (case hc => decide))
  | ((with_reducible refine ew_var (x := "one") (i := 4) (t := ?t) ?hi ?_ ?hN ?hv ?hd ?hc); (case hi => exact rfl); (case hN => exact rfl); (case hv => first | exact Or.inl rfl | exact Or.inr (Or.inl rfl) | exact Or.inr (Or.inr rfl)); (case hd => decide); (case hc => decide))
  | ((with_reducible refine ew_var (x := "other") (i := 5) (t := ?t) ?hi ?_ ?hN ?hv ?hd ?hc); (case hi => exact rfl); (case hN => exact rfl); (case hv => first | exact Or.inl rfl | exact Or.inr (Or.inl rfl) | exact Or.inr (Or.inr rfl)); (case hd => decide); (case hc => decide))
  | ((with_reducible refine ew_var (x := "term") (i := 6) (t := ?t) ?hi ?_ ?hN ?hv ?hd ?hc); (case hi => exact rfl); (case hN => exact rfl); (case hv => first | exact Or.inl rfl | exact Or.inr (Or.inl rfl) | exact Or.inr (Or.inr rfl)); (case hd => decide); (case hc => decide))
  | ((with_reducible refine ew_var (x := "due") (i := 7) (t := ?t) ?hi ?_ ?hN ?hv ?hd ?hc); (case hi => exact rfl); (case hN => exact rfl); (case hv => first | exact Or.inl rfl | exact Or.inr (Or.inl rfl) | exact Or.inr (Or.inr rfl)); (case hd => decide); (case hc => decide))
  | ((with_reducible refine ew_var (x := "left") (i := 8) (t := ?t) ?hi ?_ ?hN ?hv ?hd ?hc); (case hi => exact rfl); (case hN => exact rfl); (case hv => first | exact Or.inl rfl | exact Or.inr (Or.inl rfl) | exact Or.inr (Or.inr rfl)); (case hd => decide); (case hc => decide))
  | ((with_reducible refine ew_var (x := "right") (i := 9) (t := ?t) ?hi ?_ ?hN ?hv ?hd ?hc); (case hi => exact rfl); (case hN => exact rfl); (case hv => first | exact Or.inl rfl | exact Or.inr (Or.inl rfl) | exact Or.inr (Or.inr rfl)); (case hd => decide); (case hc => decide))
  | ((with_reducible refine ew_var (x := "told") (i := 10) (t := ?t) ?hi ?_ ?hN ?hv ?hd ?hc); (case hi => exact rfl); (case hN => exact rfl); (case hv => first | exact Or.inl rfl | exact Or.inr (Or.inl rfl) | exact Or.inr (Or.inr rfl)); (case hd => decide); (case hc => decide))
  | ((with_reducible refine ew_var (x := "given") (i := 11) (t := ?t) ?hi ?_ ?hN ?hv ?hd ?hc); (case hi => exact rfl); (case hN => exact rfl); (case hv => first | exact Or.inl rfl | exact Or.inr (Or.inl rfl) | exact Or.inr (Or.inr rfl)); (case hd => decide); (case hc => decide))
  | ((with_reducible refine ew_var (x := "free") (i := 12) (t := ?t) ?hi ?_ ?hN ?hv ?hd ?hc); (case hi => exact rfl); (case hN => exact rfl); (case hv => first | exact Or.inl rfl | exact Or.inr (Or.inl rfl) | exact Or.inr (Or.inr rfl)); (case hd => decide); (case hc => decide))
  | ((with_reducible refine ew_var (x := "open_term") (i := 13) (t := ?t) ?hi ?_ ?hN ?hv ?hd ?hc); (case hi => exact rfl); (case hN => exact rfl); (case hv => first | exact Or.inl rfl | exact Or.inr (Or.inl rfl) | exact Or.inr (Or.inr rfl)); (case hd => decide); (case hc => decide))
  | ((with_reducible refine ew_var (x := "truths") (i := 14) (t := ?t) ?hi ?_ ?hN ?hv ?hd ?hc); (case hi => exact rfl); (case hN => exact rfl); (case hv => first | exact Or.inl rfl | exact Or.inr (Or.inl rfl) | exact Or.inr (Or.inr rfl)); (case hd => decide); (case hc => decide))
  | ((with_reducible refine ew_var (x := "third") (i := 15) (t := ?t) ?hi ?_ ?hN ?hv ?hd ?hc); (case hi => exact rfl); (case hN => exact rfl); (case hv => first | exact Or.inl rfl | exact Or.inr (Or.inl rfl) | exact Or.inr (Or.inr rfl)); (case hd => decide); (case hc => decide))
  | ((with_reducible refine ew_var (x := "more") (i := 16) (t := ?t) ?hi ?_ ?hN ?hv ?hd ?hc); (case hi => exact rfl); (case hN => exact rfl); (case hv => first | exact Or.inl rfl | exact Or.inr (Or.inl rfl) | exact Or.inr (Or.inr rfl)); (case hd => decide); (case hc => decide))
  | ((with_reducible refine ew_var (x := "last") (i := 17) (t := ?t) ?hi ?_ ?hN ?hv ?hd ?hc); (case hi => exact rfl); (case hN => exact rfl); (case hv => first | exact Or.inl rfl | exact Or.inr (Or.inl rfl) | exact Or.inr (Or.inr rfl)); (case hd => decide); (case hc => decide))
  | ((with_reducible refine ew_var (x := "way") (i := 18) (t := ?t) ?hi ?_ ?hN ?hv ?hd ?hc); (case hi => exact rfl); (case hN => exact rfl); (case hv => first | exact Or.inl rfl | exact Or.inr (Or.inl rfl) | exact Or.inr (Or.inr rfl)); (case hd => decide); (case hc => decide))
  | ((with_reducible refine ew_var (x := "joint") (i := 19) (t := ?t) ?hi ?_ ?hN ?hv ?hd ?hc); (case hi => exact rfl); (case hN => exact rfl); (case hv => first | exact Or.inl rfl | exact Or.inr (Or.inl rfl) | exact Or.inr (Or.inr rfl)); (case hd => decide); (case hc => decide))
  | ((with_reducible refine ew_var (x := "wide") (i := 20) (t := ?t) ?hi ?_ ?hN ?hv ?hd ?hc); (case hi => exact rfl); (case hN => exact rfl); (case hv => first | exact Or.inl rfl | exact Or.inr (Or.inl rfl) | exact Or.inr (Or.inr rfl)); (case hd => decide); (case hc => decide))
  | ((with_reducible refine ew_var (x := "twice") (i := 21) (t := ?t) ?hi ?_ ?hN ?hv ?hd ?hc); (case hi => exact rfl); (case hN => exact rfl); (case hv => first | exact Or.inl rfl | exact Or.inr (Or.inl rfl) | exact Or.inr (Or.inr rfl)); (case hd => decide); (case hc => decide))
  | ((with_reducible refine ew_var (x := "idle") (i := 22) (t := ?t) ?hi ?_ ?hN ?hv ?hd ?hc); (case hi => exact rfl); (case hN => exact rfl); (case hv => first | exact Or.inl rfl | exact Or.inr (Or.inl rfl) | exact Or.inr (Or.inr rfl)); (case hd => decide); (case hc => decide))
  | ((with_reducible refine ew_sub (h := ?_)))
  | ((with_reducible refine ew_str (hk := ?_)))
  | ((with_reducible refine ew_int (hk := ?_)))
  | ((with_reducible refine ew_bl (hk := ?_)))
  | ((with_reducible refine ew_tup (h := ?_)))
  | ((with_reducible refine tw_cmp (hm := ?hm) (h := ?_)); (case hm => exact rfl))
  | ((with_reducible refine ew_cmp (hm := ?hm) (h := ?_)); (case hm => exact rfl))
  | ((with_reducible refine ew_lst (h := ?_)))
  | ((with_reducible refine ew_call (x := "_law_all") (n := ?n) (con := ?con) (C := ?C) (hr := ?hr) (hg := ?hg) (hdb := ?hdb) (he := ?he) (hpl := ?hpl) (h := ?_)); (case C => exact All.c_law_all (by assumption)); (case hr => assumption); (case hg => exact rfl); (case hdb => decide); (case he => exact rfl); (case hpl => exact rfl))
  | ((with_reducible refine ew_call (x := "_law_equal") (n := ?n) (con := ?con) (C := ?C) (hr := ?hr) (hg := ?hg) (hdb := ?hdb) (he := ?he) (hpl := ?hpl) (h := ?_)); (case C => exact All.c_law_equal (by assumption)); (case hr => assumption); (case hg => exact rfl); (case hdb => decide); (case he => exact rfl); (case hpl => exact rfl))
  | ((with_reducible refine ew_callF (x := "_law_holds") (n := ?n) (pre := ?pre) (C := ?C) (hr := ?hr) (hg := ?hg) (hdb := ?hdb) (he := ?he) (hpl := ?hpl) (h := ?_)); (case C => exact All.c_law_holds (by assumption)); (case hr => assumption); (case hg => exact rfl); (case hdb => decide); (case he => exact rfl); (case hpl => exact rfl))
  | ((with_reducible refine ew_callF (x := "_law_proves") (n := ?n) (pre := ?pre) (C := ?C) (hr := ?hr) (hg := ?hg) (hdb := ?hdb) (he := ?he) (hpl := ?hpl) (h := ?_)); (case C => exact All.c_law_proves (by assumption)); (case hr => assumption); (case hg => exact rfl); (case hdb => decide); (case he => exact rfl); (case hpl => exact rfl))
  | ((with_reducible refine ew_callF (x := "_law_put") (n := ?n) (pre := ?pre) (C := ?C) (hr := ?hr) (hg := ?hg) (hdb := ?hdb) (he := ?he) (hpl := ?hpl) (h := ?_)); (case C => exact All.c_law_put (by assumption)); (case hr => assumption); (case hg => exact rfl); (case hdb => decide); (case he => exact rfl); (case hpl => exact rfl))
  | ((with_reducible refine ew_call (x := "_law_saying") (n := ?n) (con := ?con) (C := ?C) (hr := ?hr) (hg := ?hg) (hdb := ?hdb) (he := ?he) (hpl := ?hpl) (h := ?_)); (case C => exact All.c_law_saying (by assumption)); (case hr => assumption); (case hg => exact rfl); (case hdb => decide); (case he => exact rfl); (case hpl => exact rfl))
  | ((with_reducible refine ew_call (x := "_law_tape") (n := ?n) (con := ?con) (C := ?C) (hr := ?hr) (hg := ?hg) (hdb := ?hdb) (he := ?he) (hpl := ?hpl) (h := ?_)); (case C => exact All.c_law_tape (by assumption)); (case hr => assumption); (case hg => exact rfl); (case hdb => decide); (case he => exact rfl); (case hpl => exact rfl))
  | ((with_reducible refine ew_callF (x := "_law_twists") (n := ?n) (pre := ?pre) (C := ?C) (hr := ?hr) (hg := ?hg) (hdb := ?hdb) (he := ?he) (hpl := ?hpl) (h := ?_)); (case C => exact All.c_law_twists (by assumption)); (case hr => assumption); (case hg => exact rfl); (case hdb => decide); (case he => exact rfl); (case hpl => exact rfl))
  | ((with_reducible refine ew_callF (x := "both") (n := ?n) (pre := ?pre) (C := ?C) (hr := ?hr) (hg := ?hg) (hdb := ?hdb) (he := ?he) (hpl := ?hpl) (h := ?_)); (case C => exact All.c_both (by assumption)); (case hr => assumption); (case hg => exact rfl); (case hdb => decide); (case he => exact rfl); (case hpl => exact rfl))
  | ((with_reducible refine ew_callF (x := "equal_saying") (n := ?n) (pre := ?pre) (C := ?C) (hr := ?hr) (hg := ?hg) (hdb := ?hdb) (he := ?he) (hpl := ?hpl) (h := ?_)); (case C => exact All.c_equal_saying (by assumption)); (case hr => assumption); (case hg => exact rfl); (case hdb => decide); (case he => exact rfl); (case hpl => exact rfl))
  | ((with_reducible refine ew_callF (x := "exchanged") (n := ?n) (pre := ?pre) (C := ?C) (hr := ?hr) (hg := ?hg) (hdb := ?hdb) (he := ?he) (hpl := ?hpl) (h := ?_)); (case C => exact All.c_exchanged (by assumption)); (case hr => assumption); (case hg => exact rfl); (case hdb => decide); (case he => exact rfl); (case hpl => exact rfl))
  | ((with_reducible refine ew_callF (x := "kind_of") (n := ?n) (pre := ?pre) (C := ?C) (hr := ?hr) (hg := ?hg) (hdb := ?hdb) (he := ?he) (hpl := ?hpl) (h := ?_)); (case C => exact All.c_kind_of (by assumption)); (case hr => assumption); (case hg => exact rfl); (case hdb => decide); (case he => exact rfl); (case hpl => exact rfl))
  | ((with_reducible refine ew_callF (x := "put_in") (n := ?n) (pre := ?pre) (C := ?C) (hr := ?hr) (hg := ?hg) (hdb := ?hdb) (he := ?he) (hpl := ?hpl) (h := ?_)); (case C => exact All.c_put_in (by assumption)); (case hr => assumption); (case hg => exact rfl); (case hdb => decide); (case he => exact rfl); (case hpl => exact rfl))
  | ((with_reducible refine ew_callF (x := "same_both") (n := ?n) (pre := ?pre) (C := ?C) (hr := ?hr) (hg := ?hg) (hdb := ?hdb) (he := ?he) (hpl := ?hpl) (h := ?_)); (case C => exact All.c_same_both (by assumption)); (case hr => assumption); (case hg => exact rfl); (case hdb => decide); (case he => exact rfl); (case hpl => exact rfl))
  | ((with_reducible refine ew_callF (x := "swapped") (n := ?n) (pre := ?pre) (C := ?C) (hr := ?hr) (hg := ?hg) (hdb := ?hdb) (he := ?he) (hpl := ?hpl) (h := ?_)); (case C => exact All.c_swapped (by assumption)); (case hr => assumption); (case hg => exact rfl); (case hdb => decide); (case he => exact rfl); (case hpl => exact rfl))
  | ((with_reducible refine ew_callF (x := "then") (n := ?n) (pre := ?pre) (C := ?C) (hr := ?hr) (hg := ?hg) (hdb := ?hdb) (he := ?he) (hpl := ?hpl) (h := ?_)); (case C => exact All.c_then (by assumption)); (case hr => assumption); (case hg => exact rfl); (case hdb => decide); (case he => exact rfl); (case hpl => exact rfl))
  | ((with_reducible refine tw_not (h := ?_)))
  | ((with_reducible refine ew_not (h := ?_)))
  | ((with_reducible refine tw_bool (h := ?_)))
  | ((with_reducible refine ww_and (h := ?_)))
  | ((with_reducible refine ww_or (h := ?_)))
  | ((with_reducible refine ww_and1 (h := ?_)))
  | ((with_reducible refine ww_or1 (h := ?_)))
  | ((with_reducible refine ew_and (h := ?_)))
  | ((with_reducible refine ew_or (h := ?_)))
  | ((with_reducible refine ew_one (h := ?_)))
  | ((with_reducible refine ew_dnewK (h := ?_)))
  | ((with_reducible refine ew_disp1 (h := ?_)))
  | ((with_reducible refine ew_spread (h := ?_)))
  | ((with_reducible refine tw_call (h := ?_)))
  | ((with_reducible refine tw_name (h := ?_)))
  | ((with_reducible refine sw_cons (h := ?_)))
  | ((with_reducible refine sw_nil (h := ?_)))
  | ((with_reducible refine s1_if (h := ?_)))
  | ((with_reducible refine s1_set (x := "tape") (i := 1) ?hN ?hi ?_ ?hx ?hs ?hf); (case hN => exact (scLaw).nd); (case hi => exact rfl); (case hx => first | exact Or.inl rfl | exact Or.inr rfl); (case hs => exact rfl); (case hf => first | exact Or.inr rfl | exact Or.inl rfl))
  | ((with_reducible refine s1_set (x := "names") (i := 2) ?hN ?hi ?_ ?hx ?hs ?hf); (case hN => exact (scLaw).nd); (case hi => exact rfl); (case hx => first | exact Or.inl rfl | exact Or.inr rfl); (case hs => exact rfl); (case hf => first | exact Or.inr rfl | exact Or.inl rfl))
  | ((with_reducible refine s1_set (x := "scheme") (i := 3) ?hN ?hi ?_ ?hx ?hs ?hf); (case hN => exact (scLaw).nd); (case hi => exact rfl); (case hx => first | exact Or.inl rfl | exact Or.inr rfl); (case hs => exact rfl); (case hf => first | exact Or.inr rfl | exact Or.inl rfl))
  | ((with_reducible refine s1_set (x := "one") (i := 4) ?hN ?hi ?_ ?hx ?hs ?hf); (case hN => exact (scLaw).nd); (case hi => exact rfl); (case hx => first | exact Or.inl rfl | exact Or.inr rfl); (case hs => exact rfl); (case hf => first | exact Or.inr rfl | exact Or.inl rfl))
  | ((with_reducible refine s1_set (x := "other") (i := 5) ?hN ?hi ?_ ?hx ?hs ?hf); (case hN => exact (scLaw).nd); (case hi => exact rfl); (case hx => first | exact Or.inl rfl | exact Or.inr rfl); (case hs => exact rfl); (case hf => first | exact Or.inr rfl | exact Or.inl rfl))
  | ((with_reducible refine s1_set (x := "term") (i := 6) ?hN ?hi ?_ ?hx ?hs ?hf); (case hN => exact (scLaw).nd); (case hi => exact rfl); (case hx => first | exact Or.inl rfl | exact Or.inr rfl); (case hs => exact rfl); (case hf => first | exact Or.inr rfl | exact Or.inl rfl))
  | ((with_reducible refine s1_set (x := "due") (i := 7) ?hN ?hi ?_ ?hx ?hs ?hf); (case hN => exact (scLaw).nd); (case hi => exact rfl); (case hx => first | exact Or.inl rfl | exact Or.inr rfl); (case hs => exact rfl); (case hf => first | exact Or.inr rfl | exact Or.inl rfl))
  | ((with_reducible refine s1_set (x := "left") (i := 8) ?hN ?hi ?_ ?hx ?hs ?hf); (case hN => exact (scLaw).nd); (case hi => exact rfl); (case hx => first | exact Or.inl rfl | exact Or.inr rfl); (case hs => exact rfl); (case hf => first | exact Or.inr rfl | exact Or.inl rfl))
  | ((with_reducible refine s1_set (x := "right") (i := 9) ?hN ?hi ?_ ?hx ?hs ?hf); (case hN => exact (scLaw).nd); (case hi => exact rfl); (case hx => first | exact Or.inl rfl | exact Or.inr rfl); (case hs => exact rfl); (case hf => first | exact Or.inr rfl | exact Or.inl rfl))
  | ((with_reducible refine s1_set (x := "told") (i := 10) ?hN ?hi ?_ ?hx ?hs ?hf); (case hN => exact (scLaw).nd); (case hi => exact rfl); (case hx => first | exact Or.inl rfl | exact Or.inr rfl); (case hs => exact rfl); (case hf => first | exact Or.inr rfl | exact Or.inl rfl))
  | ((with_reducible refine s1_set (x := "given") (i := 11) ?hN ?hi ?_ ?hx ?hs ?hf); (case hN => exact (scLaw).nd); (case hi => exact rfl); (case hx => first | exact Or.inl rfl | exact Or.inr rfl); (case hs => exact rfl); (case hf => first | exact Or.inr rfl | exact Or.inl rfl))
  | ((with_reducible refine s1_set (x := "free") (i := 12) ?hN ?hi ?_ ?hx ?hs ?hf); (case hN => exact (scLaw).nd); (case hi => exact rfl); (case hx => first | exact Or.inl rfl | exact Or.inr rfl); (case hs => exact rfl); (case hf => first | exact Or.inr rfl | exact Or.inl rfl))
  | ((with_reducible refine s1_set (x := "open_term") (i := 13) ?hN ?hi ?_ ?hx ?hs ?hf); (case hN => exact (scLaw).nd); (case hi => exact rfl); (case hx => first | exact Or.inl rfl | exact Or.inr rfl); (case hs => exact rfl); (case hf => first | exact Or.inr rfl | exact Or.inl rfl))
  | ((with_reducible refine s1_set (x := "truths") (i := 14) ?hN ?hi ?_ ?hx ?hs ?hf); (case hN => exact (scLaw).nd); (case hi => exact rfl); (case hx => first | exact Or.inl rfl | exact Or.inr rfl); (case hs => exact rfl); (case hf => first | exact Or.inr rfl | exact Or.inl rfl))
  | ((with_reducible refine s1_set (x := "third") (i := 15) ?hN ?hi ?_ ?hx ?hs ?hf); (case hN => exact (scLaw).nd); (case hi => exact rfl); (case hx => first | exact Or.inl rfl | exact Or.inr rfl); (case hs => exact rfl); (case hf => first | exact Or.inr rfl | exact Or.inl rfl))
  | ((with_reducible refine s1_set (x := "more") (i := 16) ?hN ?hi ?_ ?hx ?hs ?hf); (case hN => exact (scLaw).nd); (case hi => exact rfl); (case hx => first | exact Or.inl rfl | exact Or.inr rfl); (case hs => exact rfl); (case hf => first | exact Or.inr rfl | exact Or.inl rfl))
  | ((with_reducible refine s1_set (x := "last") (i := 17) ?hN ?hi ?_ ?hx ?hs ?hf); (case hN => exact (scLaw).nd); (case hi => exact rfl); (case hx => first | exact Or.inl rfl | exact Or.inr rfl); (case hs => exact rfl); (case hf => first | exact Or.inr rfl | exact Or.inl rfl))
  | ((with_reducible refine s1_set (x := "way") (i := 18) ?hN ?hi ?_ ?hx ?hs ?hf); (case hN => exact (scLaw).nd); (case hi => exact rfl); (case hx => first | exact Or.inl rfl | exact Or.inr rfl); (case hs => exact rfl); (case hf => first | exact Or.inr rfl | exact Or.inl rfl))
  | ((with_reducible refine s1_set (x := "joint") (i := 19) ?hN ?hi ?_ ?hx ?hs ?hf); (case hN => exact (scLaw).nd); (case hi => exact rfl); (case hx => first | exact Or.inl rfl | exact Or.inr rfl); (case hs => exact rfl); (case hf => first | exact Or.inr rfl | exact Or.inl rfl))
  | ((with_reducible refine s1_set (x := "wide") (i := 20) ?hN ?hi ?_ ?hx ?hs ?hf); (case hN => exact (scLaw).nd); (case hi => exact rfl); (case hx => first | exact Or.inl rfl | exact Or.inr rfl); (case hs => exact rfl); (case hf => first | exact Or.inr rfl | exact Or.inl rfl))
  | ((with_reducible refine s1_set (x := "twice") (i := 21) ?hN ?hi ?_ ?hx ?hs ?hf); (case hN => exact (scLaw).nd); (case hi => exact rfl); (case hx => first | exact Or.inl rfl | exact Or.inr rfl); (case hs => exact rfl); (case hf => first | exact Or.inr rfl | exact Or.inl rfl))
  | ((with_reducible refine s1_set (x := "idle") (i := 22) ?hN ?hi ?_ ?hx ?hs ?hf); (case hN => exact (scLaw).nd); (case hi => exact rfl); (case hx => first | exact Or.inl rfl | exact Or.inr rfl); (case hs => exact rfl); (case hf => first | exact Or.inr rfl | exact Or.inl rfl))
  | ((with_reducible refine bw_eqs (h := ?h) (hk := ?_)); (case h => exact rfl))
  | ((with_reducible refine bw_nes (h := ?h) (hk := ?_)); (case h => exact rfl))
  | ((with_reducible refine xw_tup (t := ?t) (he := ?he) (hs := ?hs) (hk := ?_)); (case he => first | exact rfl | exact atT0 | exact atT1); (case hs => exact fun _ _ => rfl))
  | ((with_reducible refine xw_lst (ts := ?ts) (t := ?t) (hp := ?hp) (he := ?he) (hs := ?hs) (hk := ?_)); (case hp => walk_at "pt rdb"); (case he => first | exact rfl | exact atT0 | exact atT1); (case hs => exact fun _ _ => rfl))
  | ((with_reducible refine And.intro ?hx ?_); (case hx => exact Nat.le_of_ble_eq_true rfl))
  | (with_reducible refine Exists.intro _ (And.intro rfl ?_))
  | (refine tst_t (by decide +kernel) ?_)
  | (refine tst_f (by decide +kernel) ?_)
  | (refine Exists.intro _ (Exists.intro _ (And.intro rfl (And.intro (by walk_at "pt rdb") ?_))))
  | fail)
theorem law7 (M : Mg mg) (C : All P w K mg base n) (hn : 140 ≤ n) (a : BA) (hr : Room n (bx P w K mg base LN "law" (top 51) a).A) (F : Sto) (k : T → Sto → Prop) (q : ∀ S', k (.bl true) S') (sc ta tb nz : Addr) {scheme one other : Say} {e : Tm} {seed : Int} {ns : List Int} (dr : Drawn scheme one other e) (r : Rho) (hr0 : ∃ x8 x9 x10 x11 x12 x13 x14 x15 x16 x17 x18 x19, r = [some (.ref sc), some (.ref ta), some (.ref nz), some scheme.t, some one.t, some other.t, some e.t, some (eqs one other).t, x8, x9, x10, x11, x12, x13, x14, x15, x16, x17, x18, x19, none, none, none]) :
    sw F (bx P w K mg base LN "law" (top 51) a) ((defBody (top 51)).drop 21) r (tapeS ta tb seed ns) { nx := fun _ S' => k .non S', rt := k } := by
  obtain ⟨x8, x9, x10, x11, x12, x13, x14, x15, x16, x17, x18, x19, rfl⟩ := hr0
  have hu := dr.ud
  have hsd := dr.sd
  have hod := dr.od
  have E1 := dr.ends
  have k1 := eqR_kind dr.eq []
  have ws : (Say.and scheme (.atom (nm "q"))).dep ≤ 5 := by simp only [Say.dep]; omega
  have wid : T.tup [.str "and", scheme.t, .tup [.str "atom", .str "q"]] = (Say.and scheme (.atom (nm "q"))).t := rfl
  refine sw_cons ?_
  repeat' (walk_at "pt 1")
  refine fc0 ⟨by omega, _, _, rfl, ?_⟩
  rw [wid]
  generalize hw : Say.and scheme (.atom (nm "q")) = wide at *
  repeat' (walk_at "pt 1")
  refine fc0 ⟨wide, nm "q", one, other, e, rfl, by omega, by omega, exbs_of E1 wide (by omega), fun twice htw => ?_⟩
  have X := exok (G := []) E1 k1 (fun p hp => (by cases hp)) (by simp) ws htw
  have hXd := X.dep
  repeat' (walk_at "pt 1")
  intro p1 hp1
  repeat' (walk_at "pt 1")
  intro p2 hp2
  repeat' (walk_at "pt 1")
  refine ⟨.inr (nm "q").s, rfl, fun d1 hd1 => ?_⟩
  repeat' (walk_at "pt 1")
  refine fc1 (d1, .dk (one1 (nm "q") one).t) (.inl (.head _)) ⟨wide, d1, one1 (nm "q") one, rfl, .head _, by omega, ?_⟩
  repeat' (walk_at "pt 1")
  refine ⟨.inr (nm "q").s, rfl, fun d2 hd2 => ?_⟩
  repeat' (walk_at "pt 1")
  refine fc1 (d2, .dk (one1 (nm "q") other).t) (.inl (.head _)) ⟨wide, d2, one1 (nm "q") other, rfl, .head _, by omega, ?_⟩
  repeat' (walk_at "pt 1")
  refine fc0 ⟨by omega, _, _, rfl, ?_⟩
  repeat' (walk_at "pt 1")
  refine fc1 (p1, .dk (Tab.t [])) (.inl (.tail _ (.tail _ (.tail _ (.head _))))) ⟨twice, p1, [], .ref p2, _, 12, rfl, .head _, by omega, X.good, nd_nil, X.kind, ⟨_, rfl, ?_⟩⟩
  repeat' (walk_at "pt 1")
  have hq : nm "none" ∉ scheme.atoms := fun h => absurd (dr.sa h) (by decide +kernel)
  refine fc0 ⟨scheme, nm "none", one, other, e, rfl, by omega, by omega, exbs_of E1 scheme (by omega), fun idle hid => ?_⟩
  have Y := exok (G := []) E1 k1 (fun p hp => (by cases hp)) (by simp) (by omega) hid
  have hYd := Y.dep
  have Yk := Y.kind
  rw [put_idle scheme hq, put_idle scheme hq] at Yk
  repeat' (walk_at "pt 1")
  refine s1_retD ?_
  repeat' (walk_at "pt 1")
  intro p3 hp3
  repeat' (walk_at "pt 1")
  intro p4 hp4
  repeat' (walk_at "pt 1")
  refine fc0 ⟨by omega, _, _, rfl, ?_⟩
  repeat' (walk_at "pt 1")
  refine fc1 (p3, .dk (Tab.t [])) (.inl (.tail _ (.head _))) ⟨idle, p3, [], .ref p4, _, 12, rfl, .head _, by omega, Y.good, nd_nil, Yk, ?_⟩
  exact ⟨_, List.Sublist.refl _, q _⟩
end
end B33

set_option Elab.async false
set_option linter.all false
set_option maxRecDepth 100000
set_option maxHeartbeats 4000000
set_option autoImplicit false
set_option pp.maxSteps 600
namespace B33
open PT PySem L2 PySem.Spec PyProof.Rows
local macro_rules | `(tactic| walk_at "pt rdb") => `(tactic| first
  | (apply Or.inl; exact List.Mem.head _)
  | (apply Or.inl; apply List.Mem.tail; exact List.Mem.head _)
  | (apply Or.inl; apply List.Mem.tail; apply List.Mem.tail; exact List.Mem.head _)
  | (apply Or.inl; apply List.Mem.tail; apply List.Mem.tail; apply List.Mem.tail; exact List.Mem.head _)
  | (apply Or.inl; apply List.Mem.tail; apply List.Mem.tail; apply List.Mem.tail; apply List.Mem.tail; exact List.Mem.head _)
  | (apply Or.inl; apply List.Mem.tail; apply List.Mem.tail; apply List.Mem.tail; apply List.Mem.tail; apply List.Mem.tail; exact List.Mem.head _)
  | (apply Or.inl; apply List.Mem.tail; apply List.Mem.tail; apply List.Mem.tail; apply List.Mem.tail; apply List.Mem.tail; apply List.Mem.tail; exact List.Mem.head _)
  | (apply Or.inl; apply List.Mem.tail; apply List.Mem.tail; apply List.Mem.tail; apply List.Mem.tail; apply List.Mem.tail; apply List.Mem.tail; apply List.Mem.tail; exact List.Mem.head _)
  | (apply Or.inl; apply List.Mem.tail; apply List.Mem.tail; apply List.Mem.tail; apply List.Mem.tail; apply List.Mem.tail; apply List.Mem.tail; apply List.Mem.tail; apply List.Mem.tail; exact List.Mem.head _)
  | (apply Or.inl; apply List.Mem.tail; apply List.Mem.tail; apply List.Mem.tail; apply List.Mem.tail; apply List.Mem.tail; apply List.Mem.tail; apply List.Mem.tail; apply List.Mem.tail; apply List.Mem.tail; exact List.Mem.head _)
  | (apply Or.inr; assumption) | (apply Or.inr; exact List.Mem.head _) | (apply Or.inr; apply List.Mem.tail; exact List.Mem.head _) | fail)
section
variable {P : Program} {w : World} {K : PySem.W.Frag} {mg : Str → Option Value} {base : Heap} {n : Nat}
set_option maxHeartbeats 8000000
local macro_rules | `(tactic| walk_at "pt 1") => `(tactic| first
  | ((with_reducible refine aw_cons (hs := ?hs) (h := ?_)); (case hs => exact rfl))
  | ((with_reducible refine aw_nil (hk := ?_)))
  | ((with_reducible refine ew_var (x := "script") (i := 0) (t := ?t) ?hi ?_ ?hN ?hv ?hd ?hc); (case hi => exact rfl); (case hN => exact rfl); (case hv => first | exact Or.inl rfl | exact Or.inr (Or.inl rfl) | exact Or.inr (Or.inr rfl)); (case hd => decide); (case hc => decide))
  | ((with_reducible refine ew_var (x := "tape") (i := 1) (t := ?t) ?hi ?_ ?hN ?hv ?hd ?hc); (case hi => exact rfl); (case hN => exact rfl); (case hv => first | exact Or.inl rfl | exact Or.inr (Or.inl rfl) | exact Or.inr (Or.inr rfl)); (case hd => decide); (case hc => decide))
  | ((with_reducible refine ew_var (x := "names") (i := 2) (t := ?t) ?hi ?_ ?hN ?hv ?hd ?hc); (case hi => exact rfl); (case hN => exact rfl); (case hv => first | exact Or.inl rfl | exact Or.inr (Or.inl rfl) | exact Or.inr (Or.inr rfl)); (case hd => decide); (case hc => decide))
  | ((with_reducible refine ew_var (x := "scheme") (i := 3) (t := ?t) ?hi ?_ ?hN ?hv ?hd ?hc); (case hi => exact rfl); (case hN => exact rfl); (case hv => first | exact Or.inl rfl | exact Or.inr (Or.inl rfl) | exact Or.inr (Or.inr rfl)); (case hd => decide); (case hc => decide))
  | ((with_reducible refine ew_var (x := "one") (i := 4) (t := ?t) ?hi ?_ ?hN ?hv ?hd ?hc); (case hi => exact rfl); (case hN => exact rfl); (case hv => first | exact Or.inl rfl | exact Or.inr (Or.inl rfl) | exact Or.inr (Or.inr rfl)); (case hd => decide); (case hc => decide))
  | ((with_reducible refine ew_var (x := "other") (i := 5) (t := ?t) ?hi ?_ ?hN ?hv ?hd ?hc); (case hi => exact rfl); (case hN => exact rfl); (case hv => first | exact Or.inl rfl | exact Or.inr (Or.inl rfl) | exact Or.inr (Or.inr rfl)); (case hd => decide); (case hc => decide))
  | ((with_reducible refine ew_var (x := "term") (i := 6) (t := ?t) ?hi ?_ ?hN ?hv ?hd ?hc); (case hi => exact rfl); (case hN => exact rfl); (case hv => first | exact Or.inl rfl | exact Or.inr (Or.inl rfl) | exact Or.inr (Or.inr rfl)); (case hd => decide); (case hc => decide))
  | ((with_reducible refine ew_var (x := "due") (i := 7) (t := ?t) ?hi ?_ ?hN ?hv ?hd ?hc); (case hi => exact rfl); (case hN => exact rfl); (case hv => first | exact Or.inl rfl | exact Or.inr (Or.inl rfl) | exact Or.inr (Or.inr rfl)); (case hd => decide); (case hc => decide))
  | ((with_reducible refine ew_var (x := "left") (i := 8) (t := ?t) ?hi ?_ ?hN ?hv ?hd ?hc); (case hi => exact rfl); (case hN => exact rfl); (case hv => first | exact Or.inl rfl | exact Or.inr (Or.inl rfl) | exact Or.inr (Or.inr rfl)); (case hd => decide); (case hc => decide))
  | ((with_reducible refine ew_var (x := "right") (i := 9) (t := ?t) ?hi ?_ ?hN ?hv ?hd ?hc); (case hi => exact rfl); (case hN => exact rfl); (case hv => first | exact Or.inl rfl | exact Or.inr (Or.inl rfl) | exact Or.inr (Or.inr rfl)); (case hd => decide); (case hc => decide))
  | ((with_reducible refine ew_var (x := "told") (i := 10) (t := ?t) ?hi ?_ ?hN ?hv ?hd ?hc); (case hi => exact rfl); (case hN => exact rfl); (case hv => first | exact Or.inl rfl | exact Or.inr (Or.inl rfl) | exact Or.inr (Or.inr rfl)); (case hd => decide); (case hc => decide))
  | ((with_reducible refine ew_var (x := "given") (i := 11) (t := ?t) ?hi ?_ ?hN ?hv ?hd ?hc); (case hi => exact rfl); (case hN => exact rfl); (case hv => first | exact Or.inl rfl | exact Or.inr (Or.inl rfl) | exact Or.inr (Or.inr rfl)); (case hd => decide); (case hc => decide))
  | ((with_reducible refine ew_var (x := "free") (i := 12) (t := ?t) ?hi ?_ ?hN ?hv ?hd ?hc); (case hi => exact rfl); (case hN => exact rfl); (case hv => first | exact Or.inl rfl | exact Or.inr (Or.inl rfl) | exact Or.inr (Or.inr rfl)); (case hd => decide); (case hc => decide))
  | ((with_reducible refine ew_var (x := "open_term") (i := 13) (t := ?t) ?hi ?_ ?hN ?hv ?hd ?hc); (case hi => exact rfl); (case hN => exact rfl); (case hv => first | exact Or.inl rfl | exact Or.inr (Or.inl rfl) | exact Or.inr (Or.inr rfl)); (case hd => decide); (case hc => decide))
  | ((with_reducible refine ew_var (x := "truths") (i := 14) (t := ?t) ?hi ?_ ?hN ?hv ?hd ?hc); (case hi => exact rfl); (case hN => exact rfl); (case hv => first | exact Or.inl rfl | exact Or.inr (Or.inl rfl) | exact Or.inr (Or.inr rfl)); (case hd => decide); (case hc => decide))
  | ((with_reducible refine ew_var (x := "third") (i := 15) (t := ?t) ?hi ?_ ?hN ?hv ?hd ?hc); (case hi => exact rfl); (case hN => exact rfl); (case hv => first | exact Or.inl rfl | exact Or.inr (Or.inl rfl) | exact Or.inr (Or.inr rfl)); (case hd => decide); (case hc => decide))
  | ((with_reducible refine ew_var (x := "more") (i := 16) (t := ?t) ?hi ?_ ?hN ?hv ?hd ?hc); (case hi => exact rfl); (case hN => exact rfl); (case hv => first | exact Or.inl rfl | exact Or.inr (Or.inl rfl) | exact Or.inr (Or.inr rfl)); (case hd => decide); (case hc => decide))
  | ((with_reducible refine ew_var (x := "last") (i := 17) (t := ?t) ?hi ?_ ?hN ?hv ?hd ?hc); (case hi => exact rfl); (case hN => exact rfl); (case hv => first | exact Or.inl rfl | exact Or.inr (Or.inl rfl) | exact Or.inr (Or.inr rfl)); (case hd => decide); (case hc => decide))
  | ((with_reducible refine ew_var (x := "way") (i := 18) (t := ?t) ?hi ?_ ?hN ?hv ?hd ?hc); (case hi => exact rfl); (case hN => exact rfl); (case hv => first | exact Or.inl rfl | exact Or.inr (Or.inl rfl) | exact Or.inr (Or.inr rfl)); (case hd => decide); (case hc => decide))
  | ((with_reducible refine ew_var (x := "joint") (i := 19) (t := ?t) ?hi ?_ ?hN ?hv ?hd ?hc); (case hi => exact rfl); (case hN => exact rfl); (case hv => first | exact Or.inl rfl | exact Or.inr (Or.inl rfl) | exact Or.inr (Or.inr rfl)); (case hd => decide); (case hc => decide))
  | ((with_reducible refine ew_var (x := "wide") (i := 20) (t := ?t) ?hi ?_ ?hN ?hv ?hd ?hc); (case hi => exact rfl); (case hN => exact rfl); (case hv => first | exact Or.inl rfl | exact Or.inr (Or.inl rfl) | exact Or.inr (Or.inr rfl)); (case hd => decide); (case hc => decide))
  | ((with_reducible refine ew_var (x := "twice") (i := 21) (t := ?t) ?hi ?_ ?hN ?hv ?hd ?hc); (case hi => exact rfl); (case hN => exact rfl); (case hv => first | exact Or.inl rfl | exact Or.inr (Or.inl rfl) | exact Or.inr (Or.inr rfl)); (case hd => decide); (case hc => decide))
  | ((with_reducible refine ew_var (x := "idle") (i := 22) (t := ?t) ?hi ?_ ?hN ?hv ?hd ?hc); (case hi => exact rfl); (case hN => exact rfl); (case hv => first | exact Or.inl rfl | exact Or.inr (Or.inl rfl) | exact Or.inr (Or.inr rfl)); (case hd => decide); (case hc => decide))
  | ((with_reducible refine ew_sub (h := ?_)))
  | ((with_reducible refine ew_str (hk := ?_)))
  | ((with_reducible refine ew_int (hk := ?_)))
  | ((with_reducible refine ew_bl (hk := ?_)))
  | ((with_reducible refine ew_tup (h := ?_)))
  | ((with_reducible refine tw_cmp (hm := ?hm) (h := ?_)); (case hm => exact rfl))
  | ((with_reducible refine ew_cmp (hm := ?hm) (h := ?_)); (case hm => exact rfl))
  | ((with_reducible refine ew_lst (h := ?_)))
  | ((with_reducible refine ew_call (x := "_law_all") (n := ?n) (con := ?con) (C := ?C) (hr := ?hr) (hg := ?hg) (hdb := ?hdb) (he := ?he) (hpl := ?hpl) (h := ?_)); (case C => exact All.c_law_all (by assumption)); (case hr => assumption); (case hg => exact rfl); (case hdb => decide); (case he => exact rfl); (case hpl => exact rfl))
  | ((with_reducible refine ew_call (x := "_law_equal") (n := ?n) (con := ?con) (C := ?C) (hr := ?hr) (hg := ?hg) (hdb := ?hdb) (he := ?he) (hpl := ?hpl) (h := ?_)); (case C => exact All.c_law_equal (by assumption)); (case hr => assumption); (case hg => exact rfl); (case hdb => decide); (case he => exact rfl); (case hpl => exact rfl))
  | ((with_reducible refine ew_callF (x := "_law_holds") (n := ?n) (pre := ?pre) (C := ?C) (hr := ?hr) (hg := ?hg) (hdb := ?hdb) (he := ?he) (hpl := ?hpl) (h := ?_)); (case C => exact All.c_law_holds (by assumption)); (case hr => assumption); (case hg => exact rfl); (case hdb => decide); (case he => exact rfl); (case hpl => exact rfl))
  | ((with_reducible refine ew_callF (x := "_law_proves") (n := ?n) (pre := ?pre) (C := ?C) (hr := ?hr) (hg := ?hg) (hdb := ?hdb) (he := ?he) (hpl := ?hpl) (h := ?_)); (case C => exact All.c_law_proves (by assumption)); (case hr => assumption); (case hg => exact rfl); (case hdb => decide); (case he => exact rfl); (case hpl => exact rfl))
  | ((with_reducible refine ew_callF (x := "_law_put") (n := ?n) (pre := ?pre) (C := ?C) (hr := ?hr) (hg := ?hg) (hdb := ?hdb) (he := ?he) (hpl := ?hpl) (h := ?_)); (case C => exact All.c_law_put (by assumption)); (case hr => assumption); (case hg => exact rfl); (case hdb => decide); (case he => exact rfl); (case hpl => exact rfl))
  | ((with_reducible refine ew_call (x := "_law_saying") (n := ?n) (con := ?con) (C := ?C) (hr := ?hr) (hg := ?hg) (hdb := ?hdb) (he := ?he) (hpl := ?hpl) (h := ?_)); (case C => exact All.c_law_saying (by assumption)); (case hr => assumption); (case hg => exact rfl); (case hdb => decide); (case he => exact rfl); (case hpl => exact rfl))
  | ((with_reducible refine ew_call (x := "_law_tape") (n := ?n) (con := ?con) (C := ?C) (hr := ?hr) (hg := ?hg) (hdb := ?hdb) (he := ?he) (hpl := ?hpl) (h := ?_)); (case C => exact All.c_law_tape (by assumption)); (case hr => assumption); (case hg => exact rfl); (case hdb => decide); (case he => exact rfl); (case hpl => exact rfl))
  | ((with_reducible refine ew_callF (x := "_law_twists") (n := ?n) (pre := ?pre) (C := ?C) (hr := ?hr) (hg := ?hg) (hdb := ?hdb) (he := ?he) (hpl := ?hpl) (h := ?_)); (case C => exact All.c_law_twists (by assumption)); (case hr => assumption); (case hg => exact rfl); (case hdb => decide); (case he => exact rfl); (case hpl => exact rfl))
  | ((with_reducible refine ew_callF (x := "both") (n := ?n) (pre := ?pre) (C := ?C) (hr := ?hr) (hg := ?hg) (hdb := ?hdb) (he := ?he) (hpl := ?hpl) (h := ?_)); (case C => exact All.c_both (by assumption)); (case hr => assumption); (case hg => exact rfl); (case hdb => decide); (case he => exact rfl); (case hpl => exact rfl))
  | ((with_reducible refine ew_callF (x := "equal_saying") (n := ?n) (pre := ?pre) (C := ?C) (hr := ?hr) (hg := ?hg) (hdb := ?hdb) (he := ?he) (hpl := ?hpl) (h := ?_)); (case C => exact All.c_equal_saying (by assumption)); (case hr => assumption); (case hg => exact rfl); (case hdb => decide); (case he => exact rfl); (case hpl => exact rfl))
  | ((with_reducible refine ew_callF (x := "exchanged") (n := ?n) (pre := ?pre) (C := ?C) (hr := ?hr) (hg := ?hg) (hdb := ?hdb) (he := ?he) (hpl := ?hpl) (h := ?_)); (case C => exact All.c_exchanged (by assumption)); (case hr => assumption); (case hg => exact rfl); (case hdb => decide); (case he => exact rfl); (case hpl => exact rfl))
  | ((with_reducible refine ew_callF (x := "kind_of") (n := ?n) (pre := ?pre) (C := ?C) (hr := ?hr) (hg := ?hg) (hdb := ?hdb) (he := ?he) (hpl := ?hpl) (h := ?_)); (case C => exact All.c_kind_of (by assumption)); (case hr => assumption); (case hg => exact rfl); (case hdb => decide); (case he => exact rfl); (case hpl => exact rfl))
  | ((with_reducible refine ew_callF (x := "put_in") (n := ?n) (pre := ?pre) (C := ?C) (hr := ?hr) (hg := ?hg) (hdb := ?hdb) (he := ?he) (hpl := ?hpl) (h := ?_)); (case C => exact All.c_put_in (by assumption)); (case hr => assumption); (case hg => exact rfl); (case hdb => decide); (case he => exact rfl); (case hpl => exact rfl))
  | ((with_reducible refine ew_callF (x := "same_both") (n := ?n) (pre := ?pre) (C := ?C) (hr := ?hr) (hg := ?hg) (hdb := ?hdb) (he := ?he) (hpl := ?hpl) (h := ?_)); (case C => exact All.c_same_both (by assumption)); (case hr => assumption); (case hg => exact rfl); (case hdb => decide); (case he => exact rfl); (case hpl => exact rfl))
  | ((with_reducible refine ew_callF (x := "swapped") (n := ?n) (pre := ?pre) (C := ?C) (hr := ?hr) (hg := ?hg) (hdb := ?hdb) (he := ?he) (hpl := ?hpl) (h := ?_)); (case C => exact All.c_swapped (by assumption)); (case hr => assumption); (case hg => exact rfl); (case hdb => decide); (case he => exact rfl); (case hpl => exact rfl))
  | ((with_reducible refine ew_callF (x := "then") (n := ?n) (pre := ?pre) (C := ?C) (hr := ?hr) (hg := ?hg) (hdb := ?hdb) (he := ?he) (hpl := ?hpl) (h := ?_)); (case C => exact All.c_then (by assumption)); (case hr => assumption); (case hg => exact rfl); (case hdb => decide); (case he => exact rfl); (case hpl => exact rfl))
  | ((with_reducible refine tw_not (h := ?_)))
  | ((with_reducible refine ew_not (h := ?_)))
  | ((with_reducible refine tw_bool (h := ?_)))
  | ((with_reducible refine ww_and (h := ?_)))
  | ((with_reducible refine ww_or (h := ?_)))
  | ((with_reducible refine ww_and1 (h := ?_)))
  | ((with_reducible refine ww_or1 (h := ?_)))
  | ((with_reducible refine ew_and (h := ?_)))
  | ((with_reducible refine ew_or (h := ?_)))
  | ((with_reducible refine ew_one (h := ?_)))
  | ((with_reducible refine ew_dnewK (h := ?_)))
  | ((with_reducible refine ew_disp1 (h := ?_)))
  | ((with_reducible refine ew_spread (h := ?_)))
  | ((with_reducible refine tw_call (h := ?_)))
  | ((with_reducible refine tw_name (h := ?_)))
  | ((with_reducible refine sw_cons (h := ?_)))
  | ((with_reducible refine sw_nil (h := ?_)))
  | ((with_reducible refine s1_if (h := ?_)))
  | ((with_reducible refine s1_set (x := "tape") (i := 1) ?hN ?hi ?_ ?hx ?hs ?hf); (case hN => exact (scLaw).nd); (case hi => exact rfl); (case hx => first | exact Or.inl rfl | exact Or.inr rfl); (case hs => exact rfl); (case hf => first | exact Or.inr rfl | exact Or.inl rfl))
  | ((with_reducible refine s1_set (x := "names") (i := 2) ?hN ?hi ?_ ?hx ?hs ?hf); (case hN => exact (scLaw).nd); (case hi => exact rfl); (case hx => first | exact Or.inl rfl | exact Or.inr rfl); (case hs => exact rfl); (case hf => first | exact Or.inr rfl | exact Or.inl rfl))
  | ((with_reducible refine s1_set (x := "scheme") (i := 3) ?hN ?hi ?_ ?hx ?hs ?hf); (case hN => exact (scLaw).nd); (case hi => exact rfl); (case hx => first | exact Or.inl rfl | exact Or.inr rfl); (case hs => exact rfl); (case hf => first | exact Or.inr rfl | exact Or.inl rfl))
  | ((with_reducible refine s1_set (x := "one") (i := 4) ?hN ?hi ?_ ?hx ?hs ?hf); (case hN => exact (scLaw).nd); (case hi => exact rfl); (case hx => first | exact Or.inl rfl | exact Or.inr rfl); (case hs => exact rfl); (case hf => first | exact Or.inr rfl | exact Or.inl rfl))
  | ((with_reducible refine s1_set (x := "other") (i := 5) ?hN ?hi ?_ ?hx ?hs ?hf); (case hN => exact (scLaw).nd); (case hi => exact rfl); (case hx => first | exact Or.inl rfl | exact Or.inr rfl); (case hs => exact rfl); (case hf => first | exact Or.inr rfl | exact Or.inl rfl))
  | ((with_reducible refine s1_set (x := "term") (i := 6) ?hN ?hi ?_ ?hx ?hs ?hf); (case hN => exact (scLaw).nd); (case hi => exact rfl); (case hx => first | exact Or.inl rfl | exact Or.inr rfl); (case hs => exact rfl); (case hf => first | exact Or.inr rfl | exact Or.inl rfl))
  | ((with_reducible refine s1_set (x := "due") (i := 7) ?hN ?hi ?_ ?hx ?hs ?hf); (case hN => exact (scLaw).nd); (case hi => exact rfl); (case hx => first | exact Or.inl rfl | exact Or.inr rfl); (case hs => exact rfl); (case hf => first | exact Or.inr rfl | exact Or.inl rfl))
  | ((with_reducible refine s1_set (x := "left") (i := 8) ?hN ?hi ?_ ?hx ?hs ?hf); (case hN => exact (scLaw).nd); (case hi => exact rfl); (case hx => first | exact Or.inl rfl | exact Or.inr rfl); (case hs => exact rfl); (case hf => first | exact Or.inr rfl | exact Or.inl rfl))
  | ((with_reducible refine s1_set (x := "right") (i := 9) ?hN ?hi ?_ ?hx ?hs ?hf); (case hN => exact (scLaw).nd); (case hi => exact rfl); (case hx => first | exact Or.inl rfl | exact Or.inr rfl); (case hs => exact rfl); (case hf => first | exact Or.inr rfl | exact Or.inl rfl))
  | ((with_reducible refine s1_set (x := "told") (i := 10) ?hN ?hi ?_ ?hx ?hs ?hf); (case hN => exact (scLaw).nd); (case hi => exact rfl); (case hx => first | exact Or.inl rfl | exact Or.inr rfl); (case hs => exact rfl); (case hf => first | exact Or.inr rfl | exact Or.inl rfl))
  | ((with_reducible refine s1_set (x := "given") (i := 11) ?hN ?hi ?_ ?hx ?hs ?hf); (case hN => exact (scLaw).nd); (case hi => exact rfl); (case hx => first | exact Or.inl rfl | exact Or.inr rfl); (case hs => exact rfl); (case hf => first | exact Or.inr rfl | exact Or.inl rfl))
  | ((with_reducible refine s1_set (x := "free") (i := 12) ?hN ?hi ?_ ?hx ?hs ?hf); (case hN => exact (scLaw).nd); (case hi => exact rfl); (case hx => first | exact Or.inl rfl | exact Or.inr rfl); (case hs => exact rfl); (case hf => first | exact Or.inr rfl | exact Or.inl rfl))
  | ((with_reducible refine s1_set (x := "open_term") (i := 13) ?hN ?hi ?_ ?hx ?hs ?hf); (case hN => exact (scLaw).nd); (case hi => exact rfl); (case hx => first | exact Or.inl rfl | exact Or.inr rfl); (case hs => exact rfl); (case hf => first | exact Or.inr rfl | exact Or.inl rfl))
  | ((with_reducible refine s1_set (x := "truths") (i := 14) ?hN ?hi ?_ ?hx ?hs ?hf); (case hN => exact (scLaw).nd); (case hi => exact rfl); (case hx => first | exact Or.inl rfl | exact Or.inr rfl); (case hs => exact rfl); (case hf => first | exact Or.inr rfl | exact Or.inl rfl))
  | ((with_reducible refine s1_set (x := "third") (i := 15) ?hN ?hi ?_ ?hx ?hs ?hf); (case hN => exact (scLaw).nd); (case hi => exact rfl); (case hx => first | exact Or.inl rfl | exact Or.inr rfl); (case hs => exact rfl); (case hf => first | exact Or.inr rfl | exact Or.inl rfl))
  | ((with_reducible refine s1_set (x := "more") (i := 16) ?hN ?hi ?_ ?hx ?hs ?hf); (case hN => exact (scLaw).nd); (case hi => exact rfl); (case hx => first | exact Or.inl rfl | exact Or.inr rfl); (case hs => exact rfl); (case hf => first | exact Or.inr rfl | exact Or.inl rfl))
  | ((with_reducible refine s1_set (x := "last") (i := 17) ?hN ?hi ?_ ?hx ?hs ?hf); (case hN => exact (scLaw).nd); (case hi => exact rfl); (case hx => first | exact Or.inl rfl | exact Or.inr rfl); (case hs => exact rfl); (case hf => first | exact Or.inr rfl | exact Or.inl rfl))
  | ((with_reducible refine s1_set (x := "way") (i := 18) ?hN ?hi ?_ ?hx ?hs ?hf); (case hN => exact (scLaw).nd); (case hi => exact rfl); (case hx => first | exact Or.inl rfl | exact Or.inr rfl); (case hs => exact rfl); (case hf => first | exact Or.inr rfl | exact Or.inl rfl))
  | ((with_reducible refine s1_set (x := "joint") (i := 19) ?hN ?hi ?_ ?hx ?hs ?hf); (case hN => exact (scLaw).nd); (case hi => exact rfl); (case hx => first | exact Or.inl rfl | exact Or.inr rfl); (case hs => exact rfl); (case hf => first | exact Or.inr rfl | exact Or.inl rfl))
  | ((with_reducible refine s1_set (x := "wide") (i := 20) ?hN ?hi ?_ ?hx ?hs ?hf); (case hN => exact (scLaw).nd); (case hi => exact rfl); (case hx => first | exact Or.inl rfl | exact Or.inr rfl); (case hs => exact rfl); (case hf => first | exact Or.inr rfl | exact Or.inl rfl))
  | ((with_reducible refine s1_set (x := "twice") (i := 21) ?hN ?hi ?_ ?hx ?hs ?hf); (case hN => exact (scLaw).nd); (case hi => exact rfl); (case hx => first | exact Or.inl rfl | exact Or.inr rfl); (case hs => exact rfl); (case hf => first | exact Or.inr rfl | exact Or.inl rfl))
  | ((with_reducible refine s1_set (x := "idle") (i := 22) ?hN ?hi ?_ ?hx ?hs ?hf); (case hN => exact (scLaw).nd); (case hi => exact rfl); (case hx => first | exact Or.inl rfl | exact Or.inr rfl); (case hs => exact rfl); (case hf => first | exact Or.inr rfl | exact Or.inl rfl))
  | ((with_reducible refine bw_eqs (h := ?h) (hk := ?_)); (case h => exact rfl))
  | ((with_reducible refine bw_nes (h := ?h) (hk := ?_)); (case h => exact rfl))
  | ((with_reducible refine xw_tup (t := ?t) (he := ?he) (hs := ?hs) (hk := ?_)); (case he => first | exact rfl | exact atT0 | exact atT1); (case hs => exact fun _ _ => rfl))
  | ((with_reducible refine xw_lst (ts := ?ts) (t := ?t) (hp := ?hp) (he := ?he) (hs := ?hs) (hk := ?_)); (case hp => walk_at "pt rdb"); (case he => first | exact rfl | exact atT0 | exact atT1); (case hs => exact fun _ _ => rfl))
  | ((with_reducible refine And.intro ?hx ?_); (case hx => exact Nat.le_of_ble_eq_true rfl))
  | (with_reducible refine Exists.intro _ (And.intro rfl ?_))
  | (refine tst_t (by decide +kernel) ?_)
  | (refine tst_f (by decide +kernel) ?_)
  | (refine Exists.intro _ (Exists.intro _ (And.intro rfl (And.intro (by walk_at "pt rdb") ?_))))
  | fail)
theorem law6 (M : Mg mg) (C : All P w K mg base n) (hn : 140 ≤ n) (a : BA) (hr : Room n (bx P w K mg base LN "law" (top 51) a).A) (F : Sto) (k : T → Sto → Prop) (q : ∀ S', k (.bl true) S') (sc ta tb nz : Addr) {scheme one other : Say} {e told : Tm} {seed : Int} {ns : List Int} (tk : TapeOk seed ns) (dr : Drawn scheme one other e) (tl : Told scheme one other told) (r : Rho) (hr0 : ∃ x11 x12 x13 x14, r = [some (.ref sc), some (.ref ta), some (.ref nz), some scheme.t, some one.t, some other.t, some e.t, some (eqs one other).t, some (scheme.put (one1 nP one)).t, some (scheme.put (one1 nP other)).t, some told.t, x11, x12, x13, x14, none, none, none, none, none, none, none, none]) :
    sw F (bx P w K mg base LN "law" (top 51) a) ((defBody (top 51)).drop 16) r (tapeS ta tb seed ns) { nx := fun _ S' => k .non S', rt := k } := by
  obtain ⟨x11, x12, x13, x14, rfl⟩ := hr0
  have hu := dr.ud
  have hsd := dr.sd
  have hod := dr.od
  have k1 := eqR_kind dr.eq []
  have td := tl.dep
  refine sw_cons ?_
  refine s1_two (i := 15) (j := 16) rfl scLaw.nd rfl rfl ?_
  repeat' (walk_at "pt 1")
  refine ⟨[], tapeS ta tb seed ns, [], [], by simp, by simp, by omega, ta, tb, seed, ns, other, rfl, rfl, tk, by omega, fun third more sd2 ns2 he2 tk2 => ⟨_, _, rfl, ?_⟩⟩
  simp only [List.nil_append, List.append_nil]
  have E2 := ends_eqR he2 (by omega)
  have k2 := eqR_kind he2 []
  have ht := (eqR_bnd he2).ud
  have hA := put_dep (x := nP) (show one.dep ≤ 4 by omega) (by decide) scheme
  have hC := put_dep (x := nP) (show third.dep ≤ 4 by omega) (by decide) scheme
  repeat' (walk_at "pt 1")
  refine ⟨.inr (nm "p").s, rfl, fun d1 hd1 => ?_⟩
  repeat' (walk_at "pt 1")
  refine fc1 (d1, .dk (one1 nP third).t) (.inl (.head _)) ⟨scheme, d1, one1 nP third, rfl, .head _, by omega, ?_⟩
  repeat' (walk_at "pt 1")
  refine fc0 ⟨scheme, nP, other, third, more, rfl, by omega, by omega, exbs_of E2 scheme (by omega), fun way hway => ?_⟩
  have tw := told_of E2 k2 hsd hway
  have wd := tw.dep
  have jk := joint_kind tl.kind tw.kind tl.z tw.z
  have js : (Tm.take (nm "z") (scheme.put (one1 nP one)) (.app (.fst way) (.app (.fst told) (.use (nm "z"))))).says 12 := ⟨by omega, tw.says, tl.says, trivial⟩
  have jd : (Tm.take (nm "z") (scheme.put (one1 nP one)) (.app (.fst way) (.app (.fst told) (.use (nm "z"))))).dep ≤ 45 := by simp only [Tm.dep]; omega
  have jz : (Tm.take (nm "z") (scheme.put (one1 nP one)) (.app (.fst way) (.app (.fst told) (.use (nm "z"))))).size ≤ 90000 := by have := tl.size; have := tw.size; simp only [Tm.size]; omega
  have jg := good_nil js (by omega)
  have jt : (Tm.take (nm "z") (scheme.put (one1 nP one)) (.app (.fst way) (.app (.fst told) (.use (nm "z"))))).t = .tup [.str "take", .str "z", (scheme.put (one1 nP one)).t, .tup [.str "apply", .tup [.str "first", way.t], .tup [.str "apply", .tup [.str "first", told.t], .tup [.str "use", .str "z"]]]] := rfl
  repeat' (walk_at "pt 1")
  rw [← jt]
  generalize hj : Tm.take (nm "z") (scheme.put (one1 nP one)) (.app (.fst way) (.app (.fst told) (.use (nm "z")))) = joint at *
  repeat' (walk_at "pt 1")
  intro p1 hp1
  repeat' (walk_at "pt 1")
  intro p2 hp2
  repeat' (walk_at "pt 1")
  refine fc1 (p1, .dk (Tab.t [])) (.inl (.tail _ (.head _))) ⟨joint, p1, [], .ref p2, _, 12, rfl, .head _, by omega, jg, jz, jk, ?_⟩
  repeat' (walk_at "pt 1")
  refine fc0 ⟨by omega, _, _, rfl, ?_⟩
  refine bw_ned hr.units (eqT_self (s := .thn (scheme.put (one1 nP one)) (scheme.put (one1 nP third))) (by simp only [Say.dep]; omega)) ⟨_, rfl, ?_⟩
  repeat' (walk_at "pt 1")
  intro p3 hp3
  repeat' (walk_at "pt 1")
  intro p4 hp4
  repeat' (walk_at "pt 1")
  refine fc1 (p3, .dk (Tab.t [])) (.inl (.tail _ (.head _))) ⟨joint, p3, [], .ref p4, _, 12, rfl, .head _, by omega, jg, nd_nil, jk, ⟨_, rfl, ?_⟩⟩
  refine tst_f rfl ?_
  refine sw_nil ?_
  refine sw_drop (S2 := tapeS ta tb sd2 ns2) (by repeat (first | exact List.Sublist.refl _ | apply List.Sublist.cons)) ?_
  exact law7 M C hn a hr F k q sc ta tb nz dr _ ⟨_, _, _, _, _, _, _, _, _, _, _, _, rfl⟩
end
end B33

set_option Elab.async false
set_option linter.all false
set_option maxRecDepth 100000
set_option maxHeartbeats 4000000
set_option autoImplicit false
set_option pp.maxSteps 600
namespace B33
open PT PySem L2 PySem.Spec PyProof.Rows
local macro_rules | `(tactic| walk_at "pt rdb") => `(tactic| first
  | (apply Or.inl; exact List.Mem.head _)
  | (apply Or.inl; apply List.Mem.tail; exact List.Mem.head _)
  | (apply Or.inl; apply List.Mem.tail; apply List.Mem.tail; exact List.Mem.head _)
  | (apply Or.inl; apply List.Mem.tail; apply List.Mem.tail; apply List.Mem.tail; exact List.Mem.head _)
  | (apply Or.inl; apply List.Mem.tail; apply List.Mem.tail; apply List.Mem.tail; apply List.Mem.tail; exact List.Mem.head _)
  | (apply Or.inl; apply List.Mem.tail; apply List.Mem.tail; apply List.Mem.tail; apply List.Mem.tail; apply List.Mem.tail; exact List.Mem.head _)
  | (apply Or.inl; apply List.Mem.tail; apply List.Mem.tail; apply List.Mem.tail; apply List.Mem.tail; apply List.Mem.tail; apply List.Mem.tail; exact List.Mem.head _)
  | (apply Or.inl; apply List.Mem.tail; apply List.Mem.tail; apply List.Mem.tail; apply List.Mem.tail; apply List.Mem.tail; apply List.Mem.tail; apply List.Mem.tail; exact List.Mem.head _)
  | (apply Or.inl; apply List.Mem.tail; apply List.Mem.tail; apply List.Mem.tail; apply List.Mem.tail; apply List.Mem.tail; apply List.Mem.tail; apply List.Mem.tail; apply List.Mem.tail; exact List.Mem.head _)
  | (apply Or.inl; apply List.Mem.tail; apply List.Mem.tail; apply List.Mem.tail; apply List.Mem.tail; apply List.Mem.tail; apply List.Mem.tail; apply List.Mem.tail; apply List.Mem.tail; apply List.Mem.tail; exact List.Mem.head _)
  | (apply Or.inr; assumption) | (apply Or.inr; exact List.Mem.head _) | (apply Or.inr; apply List.Mem.tail; exact List.Mem.head _) | fail)
section
variable {P : Program} {w : World} {K : PySem.W.Frag} {mg : Str → Option Value} {base : Heap} {n : Nat}
set_option maxHeartbeats 8000000
local macro_rules | `(tactic| walk_at "pt 1") => `(tactic| first
  | ((with_reducible refine aw_cons (hs := ?hs) (h := ?_)); (case hs => exact rfl))
  | ((with_reducible refine aw_nil (hk := ?_)))
  | ((with_reducible refine ew_var (x := "script") (i := 0) (t := ?t) ?hi ?_ ?hN ?hv ?hd ?hc); (case hi => exact rfl); (case hN => exact rfl); (case hv => first | exact Or.inl rfl | exact Or.inr (Or.inl rfl) | exact Or.inr (Or.inr rfl)); (case hd => decide); (case hc => decide))
  | ((with_reducible refine ew_var (x := "tape") (i := 1) (t := ?t) ?hi ?_ ?hN ?hv ?hd ?hc); (case hi => exact rfl); (case hN => exact rfl); (case hv => first | exact Or.inl rfl | exact Or.inr (Or.inl rfl) | exact Or.inr (Or.inr rfl)); (case hd => decide); (case hc => decide))
  | ((with_reducible refine ew_var (x := "names") (i := 2) (t := ?t) ?hi ?_ ?hN ?hv ?hd ?hc); (case hi => exact rfl); (case hN => exact rfl); (case hv => first | exact Or.inl rfl | exact Or.inr (Or.inl rfl) | exact Or.inr (Or.inr rfl)); (case hd => decide); (case hc => decide))
  | ((with_reducible refine ew_var (x := "scheme") (i := 3) (t := ?t) ?hi ?_ ?hN ?hv ?hd ?hc); (case hi => exact rfl); (case hN => exact rfl); (case hv => first | exact Or.inl rfl | exact Or.inr (Or.inl rfl) | exact Or.inr (Or.inr rfl)); (case hd => decide); (case hc => decide))
  | ((with_reducible refine ew_var (x := "one") (i := 4) (t := ?t) ?hi ?_ ?hN ?hv ?hd ?hc); (case hi => exact rfl); (case hN => exact rfl); (case hv => first | exact Or.inl rfl | exact Or.inr (Or.inl rfl) | exact Or.inr (Or.inr rfl)); (case hd => decide); (case hc => decide))
  | ((with_reducible refine ew_var (x := "other") (i := 5) (t := ?t) ?hi ?_ ?hN ?hv ?hd ?hc); (case hi => exact rfl); (case hN => exact rfl); (case hv => first | exact Or.inl rfl | exact Or.inr (Or.inl rfl) | exact Or.inr (Or.inr rfl)); (case hd => decide); (case hc => decide))
  | ((with_reducible refine ew_var (x := "term") (i := 6) (t := ?t) ?hi ?_ ?hN ?hv ?hd ?hc); (case hi => exact rfl); (case hN => exact rfl); (case hv => first | exact Or.inl rfl | exact Or.inr (Or.inl rfl) | exact Or.inr (Or.inr rfl)); (case hd => decide); (case hc => decide))
  | ((with_reducible refine ew_var (x := "due") (i := 7) (t := ?t) ?hi ?_ ?hN ?hv ?hd ?hc); (case hi => exact rfl); (case hN => exact rfl); (case hv => first | exact Or.inl rfl | exact Or.inr (Or.inl rfl) | exact Or.inr (Or.inr rfl)); (case hd => decide); (case hc => decide))
  | ((with_reducible refine ew_var (x := "left") (i := 8) (t := ?t) ?hi ?_ ?hN ?hv ?hd ?hc); (case hi => exact rfl); (case hN => exact rfl); (case hv => first | exact Or.inl rfl | exact Or.inr (Or.inl rfl) | exact Or.inr (Or.inr rfl)); (case hd => decide); (case hc => decide))
  | ((with_reducible refine ew_var (x := "right") (i := 9) (t := ?t) ?hi ?_ ?hN ?hv ?hd ?hc); (case hi => exact rfl); (case hN => exact rfl); (case hv => first | exact Or.inl rfl | exact Or.inr (Or.inl rfl) | exact Or.inr (Or.inr rfl)); (case hd => decide); (case hc => decide))
  | ((with_reducible refine ew_var (x := "told") (i := 10) (t := ?t) ?hi ?_ ?hN ?hv ?hd ?hc); (case hi => exact rfl); (case hN => exact rfl); (case hv => first | exact Or.inl rfl | exact Or.inr (Or.inl rfl) | exact Or.inr (Or.inr rfl)); (case hd => decide); (case hc => decide))
  | ((with_reducible refine ew_var (x := "given") (i := 11) (t := ?t) ?hi ?_ ?hN ?hv ?hd ?hc); (case hi => exact rfl); (case hN => exact rfl); (case hv => first | exact Or.inl rfl | exact Or.inr (Or.inl rfl) | exact Or.inr (Or.inr rfl)); (case hd => decide); (case hc => decide))
  | ((with_reducible refine ew_var (x := "free") (i := 12) (t := ?t) ?hi ?_ ?hN ?hv ?hd ?hc); (case hi => exact rfl); (case hN => exact rfl); (case hv => first | exact Or.inl rfl | exact Or.inr (Or.inl rfl) | exact Or.inr (Or.inr rfl)); (case hd => decide); (case hc => decide))
  | ((with_reducible refine ew_var (x := "open_term") (i := 13) (t := ?t) ?hi ?_ ?hN ?hv ?hd ?hc); (case hi => exact rfl); (case hN => exact rfl); (case hv => first | exact Or.inl rfl | exact Or.inr (Or.inl rfl) | exact Or.inr (Or.inr rfl)); (case hd => decide); (case hc => decide))
  | ((with_reducible refine ew_var (x := "truths") (i := 14) (t := ?t) ?hi ?_ ?hN ?hv ?hd ?hc); (case hi => exact rfl); (case hN => exact rfl); (case hv => first | exact Or.inl rfl | exact Or.inr (Or.inl rfl) | exact Or.inr (Or.inr rfl)); (case hd => decide); (case hc => decide))
  | ((with_reducible refine ew_var (x := "third") (i := 15) (t := ?t) ?hi ?_ ?hN ?hv ?hd ?hc); (case hi => exact rfl); (case hN => exact rfl); (case hv => first | exact Or.inl rfl | exact Or.inr (Or.inl rfl) | exact Or.inr (Or.inr rfl)); (case hd => decide); (case hc => decide))
  | ((with_reducible refine ew_var (x := "more") (i := 16) (t := ?t) ?hi ?_ ?hN ?hv ?hd ?hc); (case hi => exact rfl); (case hN => exact rfl); (case hv => first | exact Or.inl rfl | exact Or.inr (Or.inl rfl) | exact Or.inr (Or.inr rfl)); (case hd => decide); (case hc => decide))
  | ((with_reducible refine ew_var (x := "last") (i := 17) (t := ?t) ?hi ?_ ?hN ?hv ?hd ?hc); (case hi => exact rfl); (case hN => exact rfl); (case hv => first | exact Or.inl rfl | exact Or.inr (Or.inl rfl) | exact Or.inr (Or.inr rfl)); (case hd => decide); (case hc => decide))
  | ((with_reducible refine ew_var (x := "way") (i := 18) (t := ?t) ?hi ?_ ?hN ?hv ?hd ?hc); (case hi => exact rfl); (case hN => exact rfl); (case hv => first | exact Or.inl rfl | exact Or.inr (Or.inl rfl) | exact Or.inr (Or.inr rfl)); (case hd => decide); (case hc => decide))
  | ((with_reducible refine ew_var (x := "joint") (i := 19) (t := ?t) ?hi ?_ ?hN ?hv ?hd ?hc); (case hi => exact rfl); (case hN => exact rfl); (case hv => first | exact Or.inl rfl | exact Or.inr (Or.inl rfl) | exact Or.inr (Or.inr rfl)); (case hd => decide); (case hc => decide))
  | ((with_reducible refine ew_var (x := "wide") (i := 20) (t := ?t) ?hi ?_ ?hN ?hv ?hd ?hc); (case hi => exact rfl); (case hN => exact rfl); (case hv => first | exact Or.inl rfl | exact Or.inr (Or.inl rfl) | exact Or.inr (Or.inr rfl)); (case hd => decide); (case hc => decide))
  | ((with_reducible refine ew_var (x := "twice") (i := 21) (t := ?t) ?hi ?_ ?hN ?hv ?hd ?hc); (case hi => exact rfl); (case hN => exact rfl); (case hv => first | exact Or.inl rfl | exact Or.inr (Or.inl rfl) | exact Or.inr (Or.inr rfl)); (case hd => decide); (case hc => decide))
  | ((with_reducible refine ew_var (x := "idle") (i := 22) (t := ?t) ?hi ?_ ?hN ?hv ?hd ?hc); (case hi => exact rfl); (case hN => exact rfl); (case hv => first | exact Or.inl rfl | exact Or.inr (Or.inl rfl) | exact Or.inr (Or.inr rfl)); (case hd => decide); (case hc => decide))
  | ((with_reducible refine ew_sub (h := ?_)))
  | ((with_reducible refine ew_str (hk := ?_)))
  | ((with_reducible refine ew_int (hk := ?_)))
  | ((with_reducible refine ew_bl (hk := ?_)))
  | ((with_reducible refine ew_tup (h := ?_)))
  | ((with_reducible refine tw_cmp (hm := ?hm) (h := ?_)); (case hm => exact rfl))
  | ((with_reducible refine ew_cmp (hm := ?hm) (h := ?_)); (case hm => exact rfl))
  | ((with_reducible refine ew_lst (h := ?_)))
  | ((with_reducible refine ew_call (x := "_law_all") (n := ?n) (con := ?con) (C := ?C) (hr := ?hr) (hg := ?hg) (hdb := ?hdb) (he := ?he) (hpl := ?hpl) (h := ?_)); (case C => exact All.c_law_all (by assumption)); (case hr => assumption); (case hg => exact rfl); (case hdb => decide); (case he => exact rfl); (case hpl => exact rfl))
  | ((with_reducible refine ew_call (x := "_law_equal") (n := ?n) (con := ?con) (C := ?C) (hr := ?hr) (hg := ?hg) (hdb := ?hdb) (he := ?he) (hpl := ?hpl) (h := ?_)); (case C => exact All.c_law_equal (by assumption)); (case hr => assumption); (case hg => exact rfl); (case hdb => decide); (case he => exact rfl); (case hpl => exact rfl))
  | ((with_reducible refine ew_callF (x := "_law_holds") (n := ?n) (pre := ?pre) (C := ?C) (hr := ?hr) (hg := ?hg) (hdb := ?hdb) (he := ?he) (hpl := ?hpl) (h := ?_)); (case C => exact All.c_law_holds (by assumption)); (case hr => assumption); (case hg => exact rfl); (case hdb => decide); (case he => exact rfl); (case hpl => exact rfl))
  | ((with_reducible refine ew_callF (x := "_law_proves") (n := ?n) (pre := ?pre) (C := ?C) (hr := ?hr) (hg := ?hg) (hdb := ?hdb) (he := ?he) (hpl := ?hpl) (h := ?_)); (case C => exact All.c_law_proves (by assumption)); (case hr => assumption); (case hg => exact rfl); (case hdb => decide); (case he => exact rfl); (case hpl => exact rfl))
  | ((with_reducible refine ew_callF (x := "_law_put") (n := ?n) (pre := ?pre) (C := ?C) (hr := ?hr) (hg := ?hg) (hdb := ?hdb) (he := ?he) (hpl := ?hpl) (h := ?_)); (case C => exact All.c_law_put (by assumption)); (case hr => assumption); (case hg => exact rfl); (case hdb => decide); (case he => exact rfl); (case hpl => exact rfl))
  | ((with_reducible refine ew_call (x := "_law_saying") (n := ?n) (con := ?con) (C := ?C) (hr := ?hr) (hg := ?hg) (hdb := ?hdb) (he := ?he) (hpl := ?hpl) (h := ?_)); (case C => exact All.c_law_saying (by assumption)); (case hr => assumption); (case hg => exact rfl); (case hdb => decide); (case he => exact rfl); (case hpl => exact rfl))
  | ((with_reducible refine ew_call (x := "_law_tape") (n := ?n) (con := ?con) (C := ?C) (hr := ?hr) (hg := ?hg) (hdb := ?hdb) (he := ?he) (hpl := ?hpl) (h := ?_)); (case C => exact All.c_law_tape (by assumption)); (case hr => assumption); (case hg => exact rfl); (case hdb => decide); (case he => exact rfl); (case hpl => exact rfl))
  | ((with_reducible refine ew_callF (x := "_law_twists") (n := ?n) (pre := ?pre) (C := ?C) (hr := ?hr) (hg := ?hg) (hdb := ?hdb) (he := ?he) (hpl := ?hpl) (h := ?_)); (case C => exact All.c_law_twists (by assumption)); (case hr => assumption); (case hg => exact rfl); (case hdb => decide); (case he => exact rfl); (case hpl => exact rfl))
  | ((with_reducible refine ew_callF (x := "both") (n := ?n) (pre := ?pre) (C := ?C) (hr := ?hr) (hg := ?hg) (hdb := ?hdb) (he := ?he) (hpl := ?hpl) (h := ?_)); (case C => exact All.c_both (by assumption)); (case hr => assumption); (case hg => exact rfl); (case hdb => decide); (case he => exact rfl); (case hpl => exact rfl))
  | ((with_reducible refine ew_callF (x := "equal_saying") (n := ?n) (pre := ?pre) (C := ?C) (hr := ?hr) (hg := ?hg) (hdb := ?hdb) (he := ?he) (hpl := ?hpl) (h := ?_)); (case C => exact All.c_equal_saying (by assumption)); (case hr => assumption); (case hg => exact rfl); (case hdb => decide); (case he => exact rfl); (case hpl => exact rfl))
  | ((with_reducible refine ew_callF (x := "exchanged") (n := ?n) (pre := ?pre) (C := ?C) (hr := ?hr) (hg := ?hg) (hdb := ?hdb) (he := ?he) (hpl := ?hpl) (h := ?_)); (case C => exact All.c_exchanged (by assumption)); (case hr => assumption); (case hg => exact rfl); (case hdb => decide); (case he => exact rfl); (case hpl => exact rfl))
  | ((with_reducible refine ew_callF (x := "kind_of") (n := ?n) (pre := ?pre) (C := ?C) (hr := ?hr) (hg := ?hg) (hdb := ?hdb) (he := ?he) (hpl := ?hpl) (h := ?_)); (case C => exact All.c_kind_of (by assumption)); (case hr => assumption); (case hg => exact rfl); (case hdb => decide); (case he => exact rfl); (case hpl => exact rfl))
  | ((with_reducible refine ew_callF (x := "put_in") (n := ?n) (pre := ?pre) (C := ?C) (hr := ?hr) (hg := ?hg) (hdb := ?hdb) (he := ?he) (hpl := ?hpl) (h := ?_)); (case C => exact All.c_put_in (by assumption)); (case hr => assumption); (case hg => exact rfl); (case hdb => decide); (case he => exact rfl); (case hpl => exact rfl))
  | ((with_reducible refine ew_callF (x := "same_both") (n := ?n) (pre := ?pre) (C := ?C) (hr := ?hr) (hg := ?hg) (hdb := ?hdb) (he := ?he) (hpl := ?hpl) (h := ?_)); (case C => exact All.c_same_both (by assumption)); (case hr => assumption); (case hg => exact rfl); (case hdb => decide); (case he => exact rfl); (case hpl => exact rfl))
  | ((with_reducible refine ew_callF (x := "swapped") (n := ?n) (pre := ?pre) (C := ?C) (hr := ?hr) (hg := ?hg) (hdb := ?hdb) (he := ?he) (hpl := ?hpl) (h := ?_)); (case C => exact All.c_swapped (by assumption)); (case hr => assumption); (case hg => exact rfl); (case hdb => decide); (case he => exact rfl); (case hpl => exact rfl))
  | ((with_reducible refine ew_callF (x := "then") (n := ?n) (pre := ?pre) (C := ?C) (hr := ?hr) (hg := ?hg) (hdb := ?hdb) (he := ?he) (hpl := ?hpl) (h := ?_)); (case C => exact All.c_then (by assumption)); (case hr => assumption); (case hg => exact rfl); (case hdb => decide); (case he => exact rfl); (case hpl => exact rfl))
  | ((with_reducible refine tw_not (h := ?_)))
  | ((with_reducible refine ew_not (h := ?_)))
  | ((with_reducible refine tw_bool (h := ?_)))
  | ((with_reducible refine ww_and (h := ?_)))
  | ((with_reducible refine ww_or (h := ?_)))
  | ((with_reducible refine ww_and1 (h := ?_)))
  | ((with_reducible refine ww_or1 (h := ?_)))
  | ((with_reducible refine ew_and (h := ?_)))
  | ((with_reducible refine ew_or (h := ?_)))
  | ((with_reducible refine ew_one (h := ?_)))
  | ((with_reducible refine ew_dnewK (h := ?_)))
  | ((with_reducible refine ew_disp1 (h := ?_)))
  | ((with_reducible refine ew_spread (h := ?_)))
  | ((with_reducible refine tw_call (h := ?_)))
  | ((with_reducible refine tw_name (h := ?_)))
  | ((with_reducible refine sw_cons (h := ?_)))
  | ((with_reducible refine sw_nil (h := ?_)))
  | ((with_reducible refine s1_if (h := ?_)))
  | ((with_reducible refine s1_set (x := "tape") (i := 1) ?hN ?hi ?_ ?hx ?hs ?hf); (case hN => exact (scLaw).nd); (case hi => exact rfl); (case hx => first | exact Or.inl rfl | exact Or.inr rfl); (case hs => exact rfl); (case hf => first | exact Or.inr rfl | exact Or.inl rfl))
  | ((with_reducible refine s1_set (x := "names") (i := 2) ?hN ?hi ?_ ?hx ?hs ?hf); (case hN => exact (scLaw).nd); (case hi => exact rfl); (case hx => first | exact Or.inl rfl | exact Or.inr rfl); (case hs => exact rfl); (case hf => first | exact Or.inr rfl | exact Or.inl rfl))
  | ((with_reducible refine s1_set (x := "scheme") (i := 3) ?hN ?hi ?_ ?hx ?hs ?hf); (case hN => exact (scLaw).nd); (case hi => exact rfl); (case hx => first | exact Or.inl rfl | exact Or.inr rfl); (case hs => exact rfl); (case hf => first | exact Or.inr rfl | exact Or.inl rfl))
  | ((with_reducible refine s1_set (x := "one") (i := 4) ?hN ?hi ?_ ?hx ?hs ?hf); (case hN => exact (scLaw).nd); (case hi => exact rfl); (case hx => first | exact Or.inl rfl | exact Or.inr rfl); (case hs => exact rfl); (case hf => first | exact Or.inr rfl | exact Or.inl rfl))
  | ((with_reducible refine s1_set (x := "other") (i := 5) ?hN ?hi ?_ ?hx ?hs ?hf); (case hN => exact (scLaw).nd); (case hi => exact rfl); (case hx => first | exact Or.inl rfl | exact Or.inr rfl); (case hs => exact rfl); (case hf => first | exact Or.inr rfl | exact Or.inl rfl))
  | ((with_reducible refine s1_set (x := "term") (i := 6) ?hN ?hi ?_ ?hx ?hs ?hf); (case hN => exact (scLaw).nd); (case hi => exact rfl); (case hx => first | exact Or.inl rfl | exact Or.inr rfl); (case hs => exact rfl); (case hf => first | exact Or.inr rfl | exact Or.inl rfl))
  | ((with_reducible refine s1_set (x := "due") (i := 7) ?hN ?hi ?_ ?hx ?hs ?hf); (case hN => exact (scLaw).nd); (case hi => exact rfl); (case hx => first | exact Or.inl rfl | exact Or.inr rfl); (case hs => exact rfl); (case hf => first | exact Or.inr rfl | exact Or.inl rfl))
  | ((with_reducible refine s1_set (x := "left") (i := 8) ?hN ?hi ?_ ?hx ?hs ?hf); (case hN => exact (scLaw).nd); (case hi => exact rfl); (case hx => first | exact Or.inl rfl | exact Or.inr rfl); (case hs => exact rfl); (case hf => first | exact Or.inr rfl | exact Or.inl rfl))
  | ((with_reducible refine s1_set (x := "right") (i := 9) ?hN ?hi ?_ ?hx ?hs ?hf); (case hN => exact (scLaw).nd); (case hi => exact rfl); (case hx => first | exact Or.inl rfl | exact Or.inr rfl); (case hs => exact rfl); (case hf => first | exact Or.inr rfl | exact Or.inl rfl))
  | ((with_reducible refine s1_set (x := "told") (i := 10) ?hN ?hi ?_ ?hx ?hs ?hf); (case hN => exact (scLaw).nd); (case hi => exact rfl); (case hx => first | exact Or.inl rfl | exact Or.inr rfl); (case hs => exact rfl); (case hf => first | exact Or.inr rfl | exact Or.inl rfl))
  | ((with_reducible refine s1_set (x := "given") (i := 11) ?hN ?hi ?_ ?hx ?hs ?hf); (case hN => exact (scLaw).nd); (case hi => exact rfl); (case hx => first | exact Or.inl rfl | exact Or.inr rfl); (case hs => exact rfl); (case hf => first | exact Or.inr rfl | exact Or.inl rfl))
  | ((with_reducible refine s1_set (x := "free") (i := 12) ?hN ?hi ?_ ?hx ?hs ?hf); (case hN => exact (scLaw).nd); (case hi => exact rfl); (case hx => first | exact Or.inl rfl | exact Or.inr rfl); (case hs => exact rfl); (case hf => first | exact Or.inr rfl | exact Or.inl rfl))
  | ((with_reducible refine s1_set (x := "open_term") (i := 13) ?hN ?hi ?_ ?hx ?hs ?hf); (case hN => exact (scLaw).nd); (case hi => exact rfl); (case hx => first | exact Or.inl rfl | exact Or.inr rfl); (case hs => exact rfl); (case hf => first | exact Or.inr rfl | exact Or.inl rfl))
  | ((with_reducible refine s1_set (x := "truths") (i := 14) ?hN ?hi ?_ ?hx ?hs ?hf); (case hN => exact (scLaw).nd); (case hi => exact rfl); (case hx => first | exact Or.inl rfl | exact Or.inr rfl); (case hs => exact rfl); (case hf => first | exact Or.inr rfl | exact Or.inl rfl))
  | ((with_reducible refine s1_set (x := "third") (i := 15) ?hN ?hi ?_ ?hx ?hs ?hf); (case hN => exact (scLaw).nd); (case hi => exact rfl); (case hx => first | exact Or.inl rfl | exact Or.inr rfl); (case hs => exact rfl); (case hf => first | exact Or.inr rfl | exact Or.inl rfl))
  | ((with_reducible refine s1_set (x := "more") (i := 16) ?hN ?hi ?_ ?hx ?hs ?hf); (case hN => exact (scLaw).nd); (case hi => exact rfl); (case hx => first | exact Or.inl rfl | exact Or.inr rfl); (case hs => exact rfl); (case hf => first | exact Or.inr rfl | exact Or.inl rfl))
  | ((with_reducible refine s1_set (x := "last") (i := 17) ?hN ?hi ?_ ?hx ?hs ?hf); (case hN => exact (scLaw).nd); (case hi => exact rfl); (case hx => first | exact Or.inl rfl | exact Or.inr rfl); (case hs => exact rfl); (case hf => first | exact Or.inr rfl | exact Or.inl rfl))
  | ((with_reducible refine s1_set (x := "way") (i := 18) ?hN ?hi ?_ ?hx ?hs ?hf); (case hN => exact (scLaw).nd); (case hi => exact rfl); (case hx => first | exact Or.inl rfl | exact Or.inr rfl); (case hs => exact rfl); (case hf => first | exact Or.inr rfl | exact Or.inl rfl))
  | ((with_reducible refine s1_set (x := "joint") (i := 19) ?hN ?hi ?_ ?hx ?hs ?hf); (case hN => exact (scLaw).nd); (case hi => exact rfl); (case hx => first | exact Or.inl rfl | exact Or.inr rfl); (case hs => exact rfl); (case hf => first | exact Or.inr rfl | exact Or.inl rfl))
  | ((with_reducible refine s1_set (x := "wide") (i := 20) ?hN ?hi ?_ ?hx ?hs ?hf); (case hN => exact (scLaw).nd); (case hi => exact rfl); (case hx => first | exact Or.inl rfl | exact Or.inr rfl); (case hs => exact rfl); (case hf => first | exact Or.inr rfl | exact Or.inl rfl))
  | ((with_reducible refine s1_set (x := "twice") (i := 21) ?hN ?hi ?_ ?hx ?hs ?hf); (case hN => exact (scLaw).nd); (case hi => exact rfl); (case hx => first | exact Or.inl rfl | exact Or.inr rfl); (case hs => exact rfl); (case hf => first | exact Or.inr rfl | exact Or.inl rfl))
  | ((with_reducible refine s1_set (x := "idle") (i := 22) ?hN ?hi ?_ ?hx ?hs ?hf); (case hN => exact (scLaw).nd); (case hi => exact rfl); (case hx => first | exact Or.inl rfl | exact Or.inr rfl); (case hs => exact rfl); (case hf => first | exact Or.inr rfl | exact Or.inl rfl))
  | ((with_reducible refine bw_eqs (h := ?h) (hk := ?_)); (case h => exact rfl))
  | ((with_reducible refine bw_nes (h := ?h) (hk := ?_)); (case h => exact rfl))
  | ((with_reducible refine xw_tup (t := ?t) (he := ?he) (hs := ?hs) (hk := ?_)); (case he => first | exact rfl | exact atT0 | exact atT1); (case hs => exact fun _ _ => rfl))
  | ((with_reducible refine xw_lst (ts := ?ts) (t := ?t) (hp := ?hp) (he := ?he) (hs := ?hs) (hk := ?_)); (case hp => walk_at "pt rdb"); (case he => first | exact rfl | exact atT0 | exact atT1); (case hs => exact fun _ _ => rfl))
  | ((with_reducible refine And.intro ?hx ?_); (case hx => exact Nat.le_of_ble_eq_true rfl))
  | (with_reducible refine Exists.intro _ (And.intro rfl ?_))
  | (refine tst_t (by decide +kernel) ?_)
  | (refine tst_f (by decide +kernel) ?_)
  | (refine Exists.intro _ (Exists.intro _ (And.intro rfl (And.intro (by walk_at "pt rdb") ?_))))
  | fail)
theorem law5 (M : Mg mg) (C : All P w K mg base n) (hn : 140 ≤ n) (a : BA) (hr : Room n (bx P w K mg base LN "law" (top 51) a).A) (F : Sto) (k : T → Sto → Prop) (q : ∀ S', k (.bl true) S') (sc ta tb nz : Addr) {scheme one other : Say} {e told : Tm} {seed : Int} {ns : List Int} (tk : TapeOk seed ns) (dr : Drawn scheme one other e) (tl : Told scheme one other told) (r : Rho) (hr0 : ∃ x11 x12 x13, r = [some (.ref sc), some (.ref ta), some (.ref nz), some scheme.t, some one.t, some other.t, some e.t, some (eqs one other).t, some (scheme.put (one1 nP one)).t, some (scheme.put (one1 nP other)).t, some told.t, x11, x12, x13, none, none, none, none, none, none, none, none, none]) :
    sw F (bx P w K mg base LN "law" (top 51) a) ((defBody (top 51)).drop 15) r (tapeS ta tb seed ns) { nx := fun _ S' => k .non S', rt := k } := by
  obtain ⟨x11, x12, x13, rfl⟩ := hr0
  have hu := dr.ud
  have hsd := dr.sd
  have hod := dr.od
  have ha := (eqR_bnd dr.eq).atoms
  have hA := put_dep (x := nP) (show one.dep ≤ 4 by omega) (by decide) scheme
  have hB := put_dep (x := nP) (show other.dep ≤ 4 by omega) (by decide) scheme
  have ab : AB ⊆ ABP := by simp
  have a1 : one.atoms ⊆ ABP := fun z hz => ab (dr.oa hz)
  have a2 : other.atoms ⊆ ABP := fun z hz => a1 (ha hz)
  have a3 : (scheme.put (one1 nP one)).atoms ⊆ ABP := fun z hz => (List.mem_append.mp (atoms_put scheme hz)).elim (fun h => dr.sa h) (fun h => a1 h)
  have a4 : (scheme.put (one1 nP other)).atoms ⊆ ABP := fun z hz => (List.mem_append.mp (atoms_put scheme hz)).elim (fun h => dr.sa h) (fun h => a2 h)
  refine sw_cons ?_
  refine s1_forW (g := _) (up := up1 14) (vs := [14]) [some (.ref sc), some (.ref ta), some (.ref nz), some scheme.t, some one.t, some other.t, some e.t, some (eqs one other).t, some (scheme.put (one1 nP one)).t, some (scheme.put (one1 nP other)).t, some told.t, x11, x12, x13, none, none, none, none, none, none, none, none, none] PassesOwn.never rfl (pg_name (i := 14) scLaw.nd rfl (.inl rfl)) (tgt1 (by simp)) (lessT.refl _) ?_ up1_less
  refine iw_lst ?_
  repeat' (walk_at "pt 1")
  intro l hl
  repeat' (walk_at "pt 1")
  refine ⟨[], [], (l, .lst (ABP.map fun x => .str x.s)) :: tapeS ta tb seed ns, [(l, .lst (ABP.map fun x => .str x.s))], rfl, fun p hp => .inr (.inr (by rw [List.mem_singleton.mp hp]; exact .head _)), by omega, l, ABP, rfl, rfl, .head _, by decide, fun p ds S' hdl hp hds => ?_⟩
  simp only [List.nil_append]
  refine ⟨p, ds.map T.ref, rfl, .inl (List.mem_append.mpr (.inl hp)), fun i S1 => S1 = S' ++ (l, .lst (ABP.map fun x => .str x.s)) :: tapeS ta tb seed ns, rfl, fun i S1 h => by subst h; exact .inl (List.mem_append.mpr (.inl hp)), ?_, ?_⟩
  · rintro i u S2 hu2 rfl
    rw [List.getElem?_map] at hu2
    obtain ⟨d, hd, rfl⟩ := Option.map_eq_some_iff.mp hu2
    obtain ⟨kvs, e1, e2⟩ := hds d (List.mem_of_getElem? hd)
    obtain ⟨v, hv⟩ : ∃ v : Nm → Bool, ∀ x ∈ ABP, valT kvs (.inr x.s) = some (.bl (v x)) := ⟨fun x => match valT kvs (.inr x.s) with | some (.bl b) => b | _ => false, fun x hx => by obtain ⟨b, hb⟩ := e2.2 x hx; simp only [hb]⟩
    have mem : (d, MO.dk kvs) ∈ S' ++ (l, .lst (ABP.map fun x => .str x.s)) :: tapeS ta tb seed ns := List.mem_append.mpr (.inl e1)
    have same := fun h => holds_same (x := nP) (v := v) (one := one) (other := other) h scheme
    refine ⟨_, rfl, ?_⟩
    generalize S' ++ (l, .lst (ABP.map fun x => .str x.s)) :: tapeS ta tb seed ns = SS at *
    refine sw_cons ?_
    repeat' (walk_at "pt 1")
    refine fc1 (d, .dk kvs) (.inl mem) ⟨one, d, kvs, v, rfl, .head _, by omega, fun x hx => hv x (a1 hx), ?_⟩
    repeat' (walk_at "pt 1")
    refine fc1 (d, .dk kvs) (.inl mem) ⟨other, d, kvs, v, rfl, .head _, by omega, fun x hx => hv x (a2 hx), ?_⟩
    repeat' (walk_at "pt 1")
    refine ⟨fun hb => ?_, fun hb => ?_⟩
    · have hb : one.holds v = other.holds v := by simpa [T.sEq] using hb
      have hlr := same hb
      repeat' (walk_at "pt 1")
      refine fc1 (d, .dk kvs) (.inl mem) ⟨scheme.put (one1 nP one), d, kvs, v, rfl, .head _, by omega, fun x hx => hv x (a3 hx), ?_⟩
      repeat' (walk_at "pt 1")
      refine fc1 (d, .dk kvs) (.inl mem) ⟨scheme.put (one1 nP other), d, kvs, v, rfl, .head _, by omega, fun x hx => hv x (a4 hx), ?_⟩
      repeat' (walk_at "pt 1")
      refine tst_f (by simp [T.sEq, hlr]) ?_
      exact sw_nil (sw_nil ⟨lessT.setN _ rfl, rfl⟩)
    · refine tst_f rfl ?_
      exact sw_nil (sw_nil ⟨lessT.setN _ rfl, rfl⟩)
  · rintro S2 rfl
    refine sw_drop (S2 := tapeS ta tb seed ns) ((List.sublist_cons_self _ _).trans (List.sublist_append_right _ _)) ?_
    exact law6 M C hn a hr F k q sc ta tb nz tk dr tl _ ⟨_, _, _, _, rfl⟩
end
end B33

set_option Elab.async false
set_option linter.all false
set_option maxRecDepth 100000
set_option maxHeartbeats 4000000
set_option autoImplicit false
set_option pp.maxSteps 600
namespace B33
open PT PySem L2 PySem.Spec PyProof.Rows
local macro_rules | `(tactic| walk_at "pt rdb") => `(tactic| first
  | (apply Or.inl; exact List.Mem.head _)
  | (apply Or.inl; apply List.Mem.tail; exact List.Mem.head _)
  | (apply Or.inl; apply List.Mem.tail; apply List.Mem.tail; exact List.Mem.head _)
  | (apply Or.inl; apply List.Mem.tail; apply List.Mem.tail; apply List.Mem.tail; exact List.Mem.head _)
  | (apply Or.inl; apply List.Mem.tail; apply List.Mem.tail; apply List.Mem.tail; apply List.Mem.tail; exact List.Mem.head _)
  | (apply Or.inl; apply List.Mem.tail; apply List.Mem.tail; apply List.Mem.tail; apply List.Mem.tail; apply List.Mem.tail; exact List.Mem.head _)
  | (apply Or.inl; apply List.Mem.tail; apply List.Mem.tail; apply List.Mem.tail; apply List.Mem.tail; apply List.Mem.tail; apply List.Mem.tail; exact List.Mem.head _)
  | (apply Or.inl; apply List.Mem.tail; apply List.Mem.tail; apply List.Mem.tail; apply List.Mem.tail; apply List.Mem.tail; apply List.Mem.tail; apply List.Mem.tail; exact List.Mem.head _)
  | (apply Or.inl; apply List.Mem.tail; apply List.Mem.tail; apply List.Mem.tail; apply List.Mem.tail; apply List.Mem.tail; apply List.Mem.tail; apply List.Mem.tail; apply List.Mem.tail; exact List.Mem.head _)
  | (apply Or.inl; apply List.Mem.tail; apply List.Mem.tail; apply List.Mem.tail; apply List.Mem.tail; apply List.Mem.tail; apply List.Mem.tail; apply List.Mem.tail; apply List.Mem.tail; apply List.Mem.tail; exact List.Mem.head _)
  | (apply Or.inr; assumption) | (apply Or.inr; exact List.Mem.head _) | (apply Or.inr; apply List.Mem.tail; exact List.Mem.head _) | fail)
section
variable {P : Program} {w : World} {K : PySem.W.Frag} {mg : Str → Option Value} {base : Heap} {n : Nat}
set_option maxHeartbeats 8000000
local macro_rules | `(tactic| walk_at "pt 1") => `(tactic| first
  | ((with_reducible refine aw_cons (hs := ?hs) (h := ?_)); (case hs => exact rfl))
  | ((with_reducible refine aw_nil (hk := ?_)))
  | ((with_reducible refine ew_var (x := "script") (i := 0) (t := ?t) ?hi ?_ ?hN ?hv ?hd ?hc); (case hi => exact rfl); (case hN => exact rfl); (case hv => first | exact Or.inl rfl | exact Or.inr (Or.inl rfl) | exact Or.inr (Or.inr rfl)); (case hd => decide); (case hc => decide))
  | ((with_reducible refine ew_var (x := "tape") (i := 1) (t := ?t) ?hi ?_ ?hN ?hv ?hd ?hc); (case hi => exact rfl); (case hN => exact rfl); (case hv => first | exact Or.inl rfl | exact Or.inr (Or.inl rfl) | exact Or.inr (Or.inr rfl)); (case hd => decide); (case hc => decide))
  | ((with_reducible refine ew_var (x := "names") (i := 2) (t := ?t) ?hi ?_ ?hN ?hv ?hd ?hc); (case hi => exact rfl); (case hN => exact rfl); (case hv => first | exact Or.inl rfl | exact Or.inr (Or.inl rfl) | exact Or.inr (Or.inr rfl)); (case hd => decide); (case hc => decide))
  | ((with_reducible refine ew_var (x := "scheme") (i := 3) (t := ?t) ?hi ?_ ?hN ?hv ?hd ?hc); (case hi => exact rfl); (case hN => exact rfl); (case hv => first | exact Or.inl rfl | exact Or.inr (Or.inl rfl) | exact Or.inr (Or.inr rfl)); (case hd => decide); (case hc => decide))
  | ((with_reducible refine ew_var (x := "one") (i := 4) (t := ?t) ?hi ?_ ?hN ?hv ?hd ?hc); (case hi => exact rfl); (case hN => exact rfl); (case hv => first | exact Or.inl rfl | exact Or.inr (Or.inl rfl) | exact Or.inr (Or.inr rfl)); (case hd => decide); (case hc => decide))
  | ((with_reducible refine ew_var (x := "other") (i := 5) (t := ?t) ?hi ?_ ?hN ?hv ?hd ?hc); (case hi => exact rfl); (case hN => exact rfl); (case hv => first | exact Or.inl rfl | exact Or.inr (Or.inl rfl) | exact Or.inr (Or.inr rfl)); (case hd => decide); (case hc => decide))
  | ((with_reducible refine ew_var (x := "term") (i := 6) (t := ?t) ?hi ?_ ?hN ?hv ?hd ?hc); (case hi => exact rfl); (case hN => exact rfl); (case hv => first | exact Or.inl rfl | exact Or.inr (Or.inl rfl) | exact Or.inr (Or.inr rfl)); (case hd => decide); (case hc => decide))
  | ((with_reducible refine ew_var (x := "due") (i := 7) (t := ?t) ?hi ?_ ?hN ?hv ?hd ?hc); (case hi => exact rfl); (case hN => exact rfl); (case hv => first | exact Or.inl rfl | exact Or.inr (Or.inl rfl) | exact Or.inr (Or.inr rfl)); (case hd => decide); (case hc => decide))
  | ((with_reducible refine ew_var (x := "left") (i := 8) (t := ?t) ?hi ?_ ?hN ?hv ?hd ?hc); (case hi => exact rfl); (case hN => exact rfl); (case hv => first | exact Or.inl rfl | exact Or.inr (Or.inl rfl) | exact Or.inr (Or.inr rfl)); (case hd => decide); (case hc => decide))
  | ((with_reducible refine ew_var (x := "right") (i := 9) (t := ?t) ?hi ?_ ?hN ?hv ?hd ?hc); (case hi => exact rfl); (case hN => exact rfl); (case hv => first | exact Or.inl rfl | exact Or.inr (Or.inl rfl) | exact Or.inr (Or.inr rfl)); (case hd => decide); (case hc => decide))
  | ((with_reducible refine ew_var (x := "told") (i := 10) (t := ?t) ?hi ?_ ?hN ?hv ?hd ?hc); (case hi => exact rfl); (case hN => exact rfl); (case hv => first | exact Or.inl rfl | exact Or.inr (Or.inl rfl) | exact Or.inr (Or.inr rfl)); (case hd => decide); (case hc => decide))
  | ((with_reducible refine ew_var (x := "given") (i := 11) (t := ?t) ?hi ?_ ?hN ?hv ?hd ?hc); (case hi => exact rfl); (case hN => exact rfl); (case hv => first | exact Or.inl rfl | exact Or.inr (Or.inl rfl) | exact Or.inr (Or.inr rfl)); (case hd => decide); (case hc => decide))
  | ((with_reducible refine ew_var (x := "free") (i := 12) (t := ?t) ?hi ?_ ?hN ?hv ?hd ?hc); (case hi => exact rfl); (case hN => exact rfl); (case hv => first | exact Or.inl rfl | exact Or.inr (Or.inl rfl) | exact Or.inr (Or.inr rfl)); (case hd => decide); (case hc => decide))
  | ((with_reducible refine ew_var (x := "open_term") (i := 13) (t := ?t) ?hi ?_ ?hN ?hv ?hd ?hc); (case hi => exact rfl); (case hN => exact rfl); (case hv => first | exact Or.inl rfl | exact Or.inr (Or.inl rfl) | exact Or.inr (Or.inr rfl)); (case hd => decide); (case hc => decide))
  | ((with_reducible refine ew_var (x := "truths") (i := 14) (t := ?t) ?hi ?_ ?hN ?hv ?hd ?hc); (case hi => exact rfl); (case hN => exact rfl); (case hv => first | exact Or.inl rfl | exact Or.inr (Or.inl rfl) | exact Or.inr (Or.inr rfl)); (case hd => decide); (case hc => decide))
  | ((with_reducible refine ew_var (x := "third") (i := 15) (t := ?t) ?hi ?_ ?hN ?hv ?hd ?hc); (case hi => exact rfl); (case hN => exact rfl); (case hv => first | exact Or.inl rfl | exact Or.inr (Or.inl rfl) | exact Or.inr (Or.inr rfl)); (case hd => decide); (case hc => decide))
  | ((with_reducible refine ew_var (x := "more") (i := 16) (t := ?t) ?hi ?_ ?hN ?hv ?hd ?hc); (case hi => exact rfl); (case hN => exact rfl); (case hv => first | exact Or.inl rfl | exact Or.inr (Or.inl rfl) | exact Or.inr (Or.inr rfl)); (case hd => decide); (case hc => decide))
  | ((with_reducible refine ew_var (x := "last") (i := 17) (t := ?t) ?hi ?_ ?hN ?hv ?hd ?hc); (case hi => exact rfl); (case hN => exact rfl); (case hv => first | exact Or.inl rfl | exact Or.inr (Or.inl rfl) | exact Or.inr (Or.inr rfl)); (case hd => decide); (case hc => decide))
  | ((with_reducible refine ew_var (x := "way") (i := 18) (t := ?t) ?hi ?_ ?hN ?hv ?hd ?hc); (case hi => exact rfl); (case hN => exact rfl); (case hv => first | exact Or.inl rfl | exact Or.inr (Or.inl rfl) | exact Or.inr (Or.inr rfl)); (case hd => decide); (case hc => decide))
  | ((with_reducible refine ew_var (x := "joint") (i := 19) (t := ?t) ?hi ?_ ?hN ?hv ?hd ?hc); (case hi => exact rfl); (case hN => exact rfl); (case hv => first | exact Or.inl rfl | exact Or.inr (Or.inl rfl) | exact Or.inr (Or.inr rfl)); (case hd => decide); (case hc => decide))
  | ((with_reducible refine ew_var (x := "wide") (i := 20) (t := ?t) ?hi ?_ ?hN ?hv ?hd ?hc); (case hi => exact rfl); (case hN => exact rfl); (case hv => first | exact Or.inl rfl | exact Or.inr (Or.inl rfl) | exact Or.inr (Or.inr rfl)); (case hd => decide); (case hc => decide))
  | ((with_reducible refine ew_var (x := "twice") (i := 21) (t := ?t) ?hi ?_ ?hN ?hv ?hd ?hc); (case hi => exact rfl); (case hN => exact rfl); (case hv => first | exact Or.inl rfl | exact Or.inr (Or.inl rfl) | exact Or.inr (Or.inr rfl)); (case hd => decide); (case hc => decide))
  | ((with_reducible refine ew_var (x := "idle") (i := 22) (t := ?t) ?hi ?_ ?hN ?hv ?hd ?hc); (case hi => exact rfl); (case hN => exact rfl); (case hv => first | exact Or.inl rfl | exact Or.inr (Or.inl rfl) | exact Or.inr (Or.inr rfl)); (case hd => decide); (case hc => decide))
  | ((with_reducible refine ew_sub (h := ?_)))
  | ((with_reducible refine ew_str (hk := ?_)))
  | ((with_reducible refine ew_int (hk := ?_)))
  | ((with_reducible refine ew_bl (hk := ?_)))
  | ((with_reducible refine ew_tup (h := ?_)))
  | ((with_reducible refine tw_cmp (hm := ?hm) (h := ?_)); (case hm => exact rfl))
  | ((with_reducible refine ew_cmp (hm := ?hm) (h := ?_)); (case hm => exact rfl))
  | ((with_reducible refine ew_lst (h := ?_)))
  | ((with_reducible refine ew_call (x := "_law_all") (n := ?n) (con := ?con) (C := ?C) (hr := ?hr) (hg := ?hg) (hdb := ?hdb) (he := ?he) (hpl := ?hpl) (h := ?_)); (case C => exact All.c_law_all (by assumption)); (case hr => assumption); (case hg => exact rfl); (case hdb => decide); (case he => exact rfl); (case hpl => exact rfl))
  | ((with_reducible refine ew_call (x := "_law_equal") (n := ?n) (con := ?con) (C := ?C) (hr := ?hr) (hg := ?hg) (hdb := ?hdb) (he := ?he) (hpl := ?hpl) (h := ?_)); (case C => exact All.c_law_equal (by assumption)); (case hr => assumption); (case hg => exact rfl); (case hdb => decide); (case he => exact rfl); (case hpl => exact rfl))
  | ((with_reducible refine ew_callF (x := "_law_holds") (n := ?n) (pre := ?pre) (C := ?C) (hr := ?hr) (hg := ?hg) (hdb := ?hdb) (he := ?he) (hpl := ?hpl) (h := ?_)); (case C => exact All.c_law_holds (by assumption)); (case hr => assumption); (case hg => exact rfl); (case hdb => decide); (case he => exact rfl); (case hpl => exact rfl))
  | ((with_reducible refine ew_callF (x := "_law_proves") (n := ?n) (pre := ?pre) (C := ?C) (hr := ?hr) (hg := ?hg) (hdb := ?hdb) (he := ?he) (hpl := ?hpl) (h := ?_)); (case C => exact All.c_law_proves (by assumption)); (case hr => assumption); (case hg => exact rfl); (case hdb => decide); (case he => exact rfl); (case hpl => exact rfl))
  | ((with_reducible refine ew_callF (x := "_law_put") (n := ?n) (pre := ?pre) (C := ?C) (hr := ?hr) (hg := ?hg) (hdb := ?hdb) (he := ?he) (hpl := ?hpl) (h := ?_)); (case C => exact All.c_law_put (by assumption)); (case hr => assumption); (case hg => exact rfl); (case hdb => decide); (case he => exact rfl); (case hpl => exact rfl))
  | ((with_reducible refine ew_call (x := "_law_saying") (n := ?n) (con := ?con) (C := ?C) (hr := ?hr) (hg := ?hg) (hdb := ?hdb) (he := ?he) (hpl := ?hpl) (h := ?_)); (case C => exact All.c_law_saying (by assumption)); (case hr => assumption); (case hg => exact rfl); (case hdb => decide); (case he => exact rfl); (case hpl => exact rfl))
  | ((with_reducible refine ew_call (x := "_law_tape") (n := ?n) (con := ?con) (C := ?C) (hr := ?hr) (hg := ?hg) (hdb := ?hdb) (he := ?he) (hpl := ?hpl) (h := ?_)); (case C => exact All.c_law_tape (by assumption)); (case hr => assumption); (case hg => exact rfl); (case hdb => decide); (case he => exact rfl); (case hpl => exact rfl))
  | ((with_reducible refine ew_callF (x := "_law_twists") (n := ?n) (pre := ?pre) (C := ?C) (hr := ?hr) (hg := ?hg) (hdb := ?hdb) (he := ?he) (hpl := ?hpl) (h := ?_)); (case C => exact All.c_law_twists (by assumption)); (case hr => assumption); (case hg => exact rfl); (case hdb => decide); (case he => exact rfl); (case hpl => exact rfl))
  | ((with_reducible refine ew_callF (x := "both") (n := ?n) (pre := ?pre) (C := ?C) (hr := ?hr) (hg := ?hg) (hdb := ?hdb) (he := ?he) (hpl := ?hpl) (h := ?_)); (case C => exact All.c_both (by assumption)); (case hr => assumption); (case hg => exact rfl); (case hdb => decide); (case he => exact rfl); (case hpl => exact rfl))
  | ((with_reducible refine ew_callF (x := "equal_saying") (n := ?n) (pre := ?pre) (C := ?C) (hr := ?hr) (hg := ?hg) (hdb := ?hdb) (he := ?he) (hpl := ?hpl) (h := ?_)); (case C => exact All.c_equal_saying (by assumption)); (case hr => assumption); (case hg => exact rfl); (case hdb => decide); (case he => exact rfl); (case hpl => exact rfl))
  | ((with_reducible refine ew_callF (x := "exchanged") (n := ?n) (pre := ?pre) (C := ?C) (hr := ?hr) (hg := ?hg) (hdb := ?hdb) (he := ?he) (hpl := ?hpl) (h := ?_)); (case C => exact All.c_exchanged (by assumption)); (case hr => assumption); (case hg => exact rfl); (case hdb => decide); (case he => exact rfl); (case hpl => exact rfl))
  | ((with_reducible refine ew_callF (x := "kind_of") (n := ?n) (pre := ?pre) (C := ?C) (hr := ?hr) (hg := ?hg) (hdb := ?hdb) (he := ?he) (hpl := ?hpl) (h := ?_)); (case C => exact All.c_kind_of (by assumption)); (case hr => assumption); (case hg => exact rfl); (case hdb => decide); (case he => exact rfl); (case hpl => exact rfl))
  | ((with_reducible refine ew_callF (x := "put_in") (n := ?n) (pre := ?pre) (C := ?C) (hr := ?hr) (hg := ?hg) (hdb := ?hdb) (he := ?he) (hpl := ?hpl) (h := ?_)); (case C => exact All.c_put_in (by assumption)); (case hr => assumption); (case hg => exact rfl); (case hdb => decide); (case he => exact rfl); (case hpl => exact rfl))
  | ((with_reducible refine ew_callF (x := "same_both") (n := ?n) (pre := ?pre) (C := ?C) (hr := ?hr) (hg := ?hg) (hdb := ?hdb) (he := ?he) (hpl := ?hpl) (h := ?_)); (case C => exact All.c_same_both (by assumption)); (case hr => assumption); (case hg => exact rfl); (case hdb => decide); (case he => exact rfl); (case hpl => exact rfl))
  | ((with_reducible refine ew_callF (x := "swapped") (n := ?n) (pre := ?pre) (C := ?C) (hr := ?hr) (hg := ?hg) (hdb := ?hdb) (he := ?he) (hpl := ?hpl) (h := ?_)); (case C => exact All.c_swapped (by assumption)); (case hr => assumption); (case hg => exact rfl); (case hdb => decide); (case he => exact rfl); (case hpl => exact rfl))
  | ((with_reducible refine ew_callF (x := "then") (n := ?n) (pre := ?pre) (C := ?C) (hr := ?hr) (hg := ?hg) (hdb := ?hdb) (he := ?he) (hpl := ?hpl) (h := ?_)); (case C => exact All.c_then (by assumption)); (case hr => assumption); (case hg => exact rfl); (case hdb => decide); (case he => exact rfl); (case hpl => exact rfl))
  | ((with_reducible refine tw_not (h := ?_)))
  | ((with_reducible refine ew_not (h := ?_)))
  | ((with_reducible refine tw_bool (h := ?_)))
  | ((with_reducible refine ww_and (h := ?_)))
  | ((with_reducible refine ww_or (h := ?_)))
  | ((with_reducible refine ww_and1 (h := ?_)))
  | ((with_reducible refine ww_or1 (h := ?_)))
  | ((with_reducible refine ew_and (h := ?_)))
  | ((with_reducible refine ew_or (h := ?_)))
  | ((with_reducible refine ew_one (h := ?_)))
  | ((with_reducible refine ew_dnewK (h := ?_)))
  | ((with_reducible refine ew_disp1 (h := ?_)))
  | ((with_reducible refine ew_spread (h := ?_)))
  | ((with_reducible refine tw_call (h := ?_)))
  | ((with_reducible refine tw_name (h := ?_)))
  | ((with_reducible refine sw_cons (h := ?_)))
  | ((with_reducible refine sw_nil (h := ?_)))
  | ((with_reducible refine s1_if (h := ?_)))
  | ((with_reducible refine s1_set (x := "tape") (i := 1) ?hN ?hi ?_ ?hx ?hs ?hf); (case hN => exact (scLaw).nd); (case hi => exact rfl); (case hx => first | exact Or.inl rfl | exact Or.inr rfl); (case hs => exact rfl); (case hf => first | exact Or.inr rfl | exact Or.inl rfl))
  | ((with_reducible refine s1_set (x := "names") (i := 2) ?hN ?hi ?_ ?hx ?hs ?hf); (case hN => exact (scLaw).nd); (case hi => exact rfl); (case hx => first | exact Or.inl rfl | exact Or.inr rfl); (case hs => exact rfl); (case hf => first | exact Or.inr rfl | exact Or.inl rfl))
  | ((with_reducible refine s1_set (x := "scheme") (i := 3) ?hN ?hi ?_ ?hx ?hs ?hf); (case hN => exact (scLaw).nd); (case hi => exact rfl); (case hx => first | exact Or.inl rfl | exact Or.inr rfl); (case hs => exact rfl); (case hf => first | exact Or.inr rfl | exact Or.inl rfl))
  | ((with_reducible refine s1_set (x := "one") (i := 4) ?hN ?hi ?_ ?hx ?hs ?hf); (case hN => exact (scLaw).nd); (case hi => exact rfl); (case hx => first | exact Or.inl rfl | exact Or.inr rfl); (case hs => exact rfl); (case hf => first | exact Or.inr rfl | exact Or.inl rfl))
  | ((with_reducible refine s1_set (x := "other") (i := 5) ?hN ?hi ?_ ?hx ?hs ?hf); (case hN => exact (scLaw).nd); (case hi => exact rfl); (case hx => first | exact Or.inl rfl | exact Or.inr rfl); (case hs => exact rfl); (case hf => first | exact Or.inr rfl | exact Or.inl rfl))
  | ((with_reducible refine s1_set (x := "term") (i := 6) ?hN ?hi ?_ ?hx ?hs ?hf); (case hN => exact (scLaw).nd); (case hi => exact rfl); (case hx => first | exact Or.inl rfl | exact Or.inr rfl); (case hs => exact rfl); (case hf => first | exact Or.inr rfl | exact Or.inl rfl))
  | ((with_reducible refine s1_set (x := "due") (i := 7) ?hN ?hi ?_ ?hx ?hs ?hf); (case hN => exact (scLaw).nd); (case hi => exact rfl); (case hx => first | exact Or.inl rfl | exact Or.inr rfl); (case hs => exact rfl); (case hf => first | exact Or.inr rfl | exact Or.inl rfl))
  | ((with_reducible refine s1_set (x := "left") (i := 8) ?hN ?hi ?_ ?hx ?hs ?hf); (case hN => exact (scLaw).nd); (case hi => exact rfl); (case hx => first | exact Or.inl rfl | exact Or.inr rfl); (case hs => exact rfl); (case hf => first | exact Or.inr rfl | exact Or.inl rfl))
  | ((with_reducible refine s1_set (x := "right") (i := 9) ?hN ?hi ?_ ?hx ?hs ?hf); (case hN => exact (scLaw).nd); (case hi => exact rfl); (case hx => first | exact Or.inl rfl | exact Or.inr rfl); (case hs => exact rfl); (case hf => first | exact Or.inr rfl | exact Or.inl rfl))
  | ((with_reducible refine s1_set (x := "told") (i := 10) ?hN ?hi ?_ ?hx ?hs ?hf); (case hN => exact (scLaw).nd); (case hi => exact rfl); (case hx => first | exact Or.inl rfl | exact Or.inr rfl); (case hs => exact rfl); (case hf => first | exact Or.inr rfl | exact Or.inl rfl))
  | ((with_reducible refine s1_set (x := "given") (i := 11) ?hN ?hi ?_ ?hx ?hs ?hf); (case hN => exact (scLaw).nd); (case hi => exact rfl); (case hx => first | exact Or.inl rfl | exact Or.inr rfl); (case hs => exact rfl); (case hf => first | exact Or.inr rfl | exact Or.inl rfl))
  | ((with_reducible refine s1_set (x := "free") (i := 12) ?hN ?hi ?_ ?hx ?hs ?hf); (case hN => exact (scLaw).nd); (case hi => exact rfl); (case hx => first | exact Or.inl rfl | exact Or.inr rfl); (case hs => exact rfl); (case hf => first | exact Or.inr rfl | exact Or.inl rfl))
  | ((with_reducible refine s1_set (x := "open_term") (i := 13) ?hN ?hi ?_ ?hx ?hs ?hf); (case hN => exact (scLaw).nd); (case hi => exact rfl); (case hx => first | exact Or.inl rfl | exact Or.inr rfl); (case hs => exact rfl); (case hf => first | exact Or.inr rfl | exact Or.inl rfl))
  | ((with_reducible refine s1_set (x := "truths") (i := 14) ?hN ?hi ?_ ?hx ?hs ?hf); (case hN => exact (scLaw).nd); (case hi => exact rfl); (case hx => first | exact Or.inl rfl | exact Or.inr rfl); (case hs => exact rfl); (case hf => first | exact Or.inr rfl | exact Or.inl rfl))
  | ((with_reducible refine s1_set (x := "third") (i := 15) ?hN ?hi ?_ ?hx ?hs ?hf); (case hN => exact (scLaw).nd); (case hi => exact rfl); (case hx => first | exact Or.inl rfl | exact Or.inr rfl); (case hs => exact rfl); (case hf => first | exact Or.inr rfl | exact Or.inl rfl))
  | ((with_reducible refine s1_set (x := "more") (i := 16) ?hN ?hi ?_ ?hx ?hs ?hf); (case hN => exact (scLaw).nd); (case hi => exact rfl); (case hx => first | exact Or.inl rfl | exact Or.inr rfl); (case hs => exact rfl); (case hf => first | exact Or.inr rfl | exact Or.inl rfl))
  | ((with_reducible refine s1_set (x := "last") (i := 17) ?hN ?hi ?_ ?hx ?hs ?hf); (case hN => exact (scLaw).nd); (case hi => exact rfl); (case hx => first | exact Or.inl rfl | exact Or.inr rfl); (case hs => exact rfl); (case hf => first | exact Or.inr rfl | exact Or.inl rfl))
  | ((with_reducible refine s1_set (x := "way") (i := 18) ?hN ?hi ?_ ?hx ?hs ?hf); (case hN => exact (scLaw).nd); (case hi => exact rfl); (case hx => first | exact Or.inl rfl | exact Or.inr rfl); (case hs => exact rfl); (case hf => first | exact Or.inr rfl | exact Or.inl rfl))
  | ((with_reducible refine s1_set (x := "joint") (i := 19) ?hN ?hi ?_ ?hx ?hs ?hf); (case hN => exact (scLaw).nd); (case hi => exact rfl); (case hx => first | exact Or.inl rfl | exact Or.inr rfl); (case hs => exact rfl); (case hf => first | exact Or.inr rfl | exact Or.inl rfl))
  | ((with_reducible refine s1_set (x := "wide") (i := 20) ?hN ?hi ?_ ?hx ?hs ?hf); (case hN => exact (scLaw).nd); (case hi => exact rfl); (case hx => first | exact Or.inl rfl | exact Or.inr rfl); (case hs => exact rfl); (case hf => first | exact Or.inr rfl | exact Or.inl rfl))
  | ((with_reducible refine s1_set (x := "twice") (i := 21) ?hN ?hi ?_ ?hx ?hs ?hf); (case hN => exact (scLaw).nd); (case hi => exact rfl); (case hx => first | exact Or.inl rfl | exact Or.inr rfl); (case hs => exact rfl); (case hf => first | exact Or.inr rfl | exact Or.inl rfl))
  | ((with_reducible refine s1_set (x := "idle") (i := 22) ?hN ?hi ?_ ?hx ?hs ?hf); (case hN => exact (scLaw).nd); (case hi => exact rfl); (case hx => first | exact Or.inl rfl | exact Or.inr rfl); (case hs => exact rfl); (case hf => first | exact Or.inr rfl | exact Or.inl rfl))
  | ((with_reducible refine bw_eqs (h := ?h) (hk := ?_)); (case h => exact rfl))
  | ((with_reducible refine bw_nes (h := ?h) (hk := ?_)); (case h => exact rfl))
  | ((with_reducible refine xw_tup (t := ?t) (he := ?he) (hs := ?hs) (hk := ?_)); (case he => first | exact rfl | exact atT0 | exact atT1); (case hs => exact fun _ _ => rfl))
  | ((with_reducible refine xw_lst (ts := ?ts) (t := ?t) (hp := ?hp) (he := ?he) (hs := ?hs) (hk := ?_)); (case hp => walk_at "pt rdb"); (case he => first | exact rfl | exact atT0 | exact atT1); (case hs => exact fun _ _ => rfl))
  | ((with_reducible refine And.intro ?hx ?_); (case hx => exact Nat.le_of_ble_eq_true rfl))
  | (with_reducible refine Exists.intro _ (And.intro rfl ?_))
  | (refine tst_t (by decide +kernel) ?_)
  | (refine tst_f (by decide +kernel) ?_)
  | (refine Exists.intro _ (Exists.intro _ (And.intro rfl (And.intro (by walk_at "pt rdb") ?_))))
  | fail)
theorem law4 (M : Mg mg) (C : All P w K mg base n) (hn : 140 ≤ n) (a : BA) (hr : Room n (bx P w K mg base LN "law" (top 51) a).A) (F : Sto) (k : T → Sto → Prop) (q : ∀ S', k (.bl true) S') (sc ta tb nz : Addr) {scheme one other : Say} {e told : Tm} {seed : Int} {ns : List Int} (tk : TapeOk seed ns) (dr : Drawn scheme one other e) (tl : Told scheme one other told) :
    sw F (bx P w K mg base LN "law" (top 51) a) ((defBody (top 51)).drop 10) [some (.ref sc), some (.ref ta), some (.ref nz), some scheme.t, some one.t, some other.t, some e.t, some (eqs one other).t, some (scheme.put (one1 nP one)).t, some (scheme.put (one1 nP other)).t, some told.t, none, none, none, none, none, none, none, none, none, none, none, none] (tapeS ta tb seed ns) { nx := fun _ S' => k .non S', rt := k } := by
  have hu := dr.ud
  have hsd := dr.sd
  have hod := dr.od
  have hA := put_dep (x := nP) (show one.dep ≤ 4 by omega) (by decide) scheme
  have hB := put_dep (x := nP) (show other.dep ≤ 4 by omega) (by decide) scheme
  refine sw_cons ?_
  repeat' (walk_at "pt 1")
  refine ew_disp (ps := [(_, _), (_, _), (_, _)]) (by simp) (by simp) ?_
  simp only [pw2]
  repeat' (walk_at "pt 1")
  refine ⟨.inr (nm "e").s, rfl, ?_⟩
  repeat' (walk_at "pt 1")
  refine ⟨.inr (nm "h0").s, rfl, ?_⟩
  repeat' (walk_at "pt 1")
  refine ⟨.inr (nm "h1").s, rfl, ?_⟩
  intro g1 hg1
  obtain ⟨G3, hG3⟩ : ∃ G3 : Tab, G3 = [(.inr (nm "e").s, eqs one other), (.inr (nm "h0").s, .atom (nm "b")), (.inr (nm "h1").s, .atom (nm "a"))] := ⟨_, rfl⟩
  have nd3 : G3.nd := by
    rw [hG3]
    show ([Sum.inr (nm "e").s, Sum.inr (nm "h0").s, Sum.inr (nm "h1").s] : List Key).Nodup
    decide +kernel
  have mg3 : mergeT [] G3.t = G3.t := mergeT_nd G3.t [] (by rw [List.nil_append]; exact Tab.nd_t nd3)
  have mgE : mergeT [] [(Sum.inr (nm "e").s, (eqs one other).t), (Sum.inr (nm "h0").s, T.tup [T.str "atom", T.str "b"]), (Sum.inr (nm "h1").s, T.tup [T.str "atom", T.str "a"])] = G3.t := by rw [← mg3, hG3]; rfl
  rw [mgE]
  repeat' (walk_at "pt 1")
  have E2 : Ends0 12 12 20 4 LB one other (.use (nm "e")) := ends_of (by omega) (by omega) (by decide) trivial (by decide) (fun z hz => by simp only [Tm.names, List.mem_singleton] at hz; subst hz; simp [LB])
  have k2 : kind (.use (nm "e")) G3 = some (eqs one other) := by rw [hG3]; simp [kind, Tab.get]
  have g3s : G3.says 12 := fun p hp => by
    rw [hG3] at hp
    simp only [List.mem_cons, List.not_mem_nil, or_false] at hp
    rcases hp with rfl | rfl | rfl
    · simp only [eqs, Say.dep]; omega
    · simp only [Say.dep]; omega
    · simp only [Say.dep]; omega
  have g3l : G3.length ≤ 10 := by rw [hG3]; exact Nat.le_of_ble_eq_true rfl
  refine fc0 ⟨scheme, nP, one, other, .use (nm "e"), rfl, by omega, by omega, exbs_of E2 scheme (by omega), fun free hfree => ?_⟩
  have X2 := exok (G := G3) E2 k2 g3s g3l (by omega) hfree
  have X2d := X2.dep
  repeat' (walk_at "pt 1")
  intro p9 hp9
  repeat' (walk_at "pt 1")
  refine fc1 (g1, .dk G3.t) (.inl (.tail _ (.head _))) ⟨free, g1, G3, .ref p9, eqs (scheme.put (one1 nP one)) (scheme.put (one1 nP other)), 12, rfl, .head _, by omega, X2.good, nd3, X2.kind, ⟨_, rfl, ?_⟩⟩
  refine tst_f rfl ?_
  refine sw_nil ?_
  repeat' (walk_at "pt 1")
  have ot : (opn one).t = .tup [.str "pair", .tup [.str "take", .str "k", one.t, .tup [.str "apply", .tup [.str "first", .tup [.str "use", .str "h0"]], .tup [.str "use", .str "k"]]], .tup [.str "second", .tup [.str "use", .str "h0"]]] := rfl
  rw [← ot]
  have E3 : Ends0 12 12 20 4 LB one other (opn one) := ends_of (by omega) (by omega) (by simp only [opn, Tm.dep]; omega) (by simp only [opn, Tm.says]; exact ⟨⟨by omega, trivial, trivial⟩, trivial⟩) (by simp [opn, Tm.size]) (fun z hz => by simp [opn, Tm.names, LB] at hz ⊢; rcases hz with rfl | rfl | rfl <;> simp)
  have k3 : kind (opn one) [(.inr (nm "h0").s, eqs one other)] = some (eqs one other) := opn_kind one other
  refine fc0 ⟨scheme, nP, one, other, opn one, rfl, by omega, by omega, exbs_of E3 scheme (by omega), fun told3 htold3 => ?_⟩
  have X3 := exok (G := [(.inr (nm "h0").s, eqs one other)]) E3 k3 (fun p hp => by rw [List.mem_singleton] at hp; subst hp; simp only [eqs, Say.dep]; omega) (by simp) (by omega) htold3
  have X3d := X3.dep
  repeat' (walk_at "pt 1")
  refine ⟨.inr (nm "h0").s, rfl, fun d1 hd1 => ?_⟩
  repeat' (walk_at "pt 1")
  intro p8 hp8
  repeat' (walk_at "pt 1")
  refine fc1 (d1, .dk (Tab.t [(.inr (nm "h0").s, eqs one other)])) (.inl (.tail _ (.head _))) ⟨told3, d1, [(.inr (nm "h0").s, eqs one other)], .ref p8, eqs (scheme.put (one1 nP one)) (scheme.put (one1 nP other)), 12, rfl, .head _, by omega, X3.good, (by unfold Tab.nd; simp), X3.kind, ⟨_, rfl, ?_⟩⟩
  refine tst_f rfl ?_
  refine sw_nil ?_
  refine sw_drop (S2 := tapeS ta tb seed ns) (by repeat (first | exact List.Sublist.refl _ | apply List.Sublist.cons)) ?_
  exact law5 M C hn a hr F k q sc ta tb nz tk dr tl _ ⟨_, _, _, rfl⟩
end
end B33

set_option Elab.async false
set_option linter.all false
set_option maxRecDepth 100000
set_option maxHeartbeats 4000000
set_option autoImplicit false
set_option pp.maxSteps 600
namespace B33
open PT PySem L2 PySem.Spec PyProof.Rows
local macro_rules | `(tactic| walk_at "pt rdb") => `(tactic| first
  | (apply Or.inl; exact List.Mem.head _)
  | (apply Or.inl; apply List.Mem.tail; exact List.Mem.head _)
  | (apply Or.inl; apply List.Mem.tail; apply List.Mem.tail; exact List.Mem.head _)
  | (apply Or.inl; apply List.Mem.tail; apply List.Mem.tail; apply List.Mem.tail; exact List.Mem.head _)
  | (apply Or.inl; apply List.Mem.tail; apply List.Mem.tail; apply List.Mem.tail; apply List.Mem.tail; exact List.Mem.head _)
  | (apply Or.inl; apply List.Mem.tail; apply List.Mem.tail; apply List.Mem.tail; apply List.Mem.tail; apply List.Mem.tail; exact List.Mem.head _)
  | (apply Or.inl; apply List.Mem.tail; apply List.Mem.tail; apply List.Mem.tail; apply List.Mem.tail; apply List.Mem.tail; apply List.Mem.tail; exact List.Mem.head _)
  | (apply Or.inl; apply List.Mem.tail; apply List.Mem.tail; apply List.Mem.tail; apply List.Mem.tail; apply List.Mem.tail; apply List.Mem.tail; apply List.Mem.tail; exact List.Mem.head _)
  | (apply Or.inl; apply List.Mem.tail; apply List.Mem.tail; apply List.Mem.tail; apply List.Mem.tail; apply List.Mem.tail; apply List.Mem.tail; apply List.Mem.tail; apply List.Mem.tail; exact List.Mem.head _)
  | (apply Or.inl; apply List.Mem.tail; apply List.Mem.tail; apply List.Mem.tail; apply List.Mem.tail; apply List.Mem.tail; apply List.Mem.tail; apply List.Mem.tail; apply List.Mem.tail; apply List.Mem.tail; exact List.Mem.head _)
  | (apply Or.inr; assumption) | (apply Or.inr; exact List.Mem.head _) | (apply Or.inr; apply List.Mem.tail; exact List.Mem.head _) | fail)
section
variable {P : Program} {w : World} {K : PySem.W.Frag} {mg : Str → Option Value} {base : Heap} {n : Nat}
set_option maxHeartbeats 8000000
local macro_rules | `(tactic| walk_at "pt 1") => `(tactic| first
  | ((with_reducible refine aw_cons (hs := ?hs) (h := ?_)); (case hs => exact rfl))
  | ((with_reducible refine aw_nil (hk := ?_)))
  | ((with_reducible refine ew_var (x := "script") (i := 0) (t := ?t) ?hi ?_ ?hN ?hv ?hd ?hc); (case hi => exact rfl); (case hN => exact rfl); (case hv => first | exact Or.inl rfl | exact Or.inr (Or.inl rfl) | exact Or.inr (Or.inr rfl)); (case hd => decide); (case hc => decide))
  | ((with_reducible refine ew_var (x := "tape") (i := 1) (t := ?t) ?hi ?_ ?hN ?hv ?hd ?hc); (case hi => exact rfl); (case hN => exact rfl); (case hv => first | exact Or.inl rfl | exact Or.inr (Or.inl rfl) | exact Or.inr (Or.inr rfl)); (case hd => decide); (case hc => decide))
  | ((with_reducible refine ew_var (x := "names") (i := 2) (t := ?t) ?hi ?_ ?hN ?hv ?hd ?hc); (case hi => exact rfl); (case hN => exact rfl); (case hv => first | exact Or.inl rfl | exact Or.inr (Or.inl rfl) | exact Or.inr (Or.inr rfl)); (case hd => decide); (case hc => decide))
  | ((with_reducible refine ew_var (x := "scheme") (i := 3) (t := ?t) ?hi ?_ ?hN ?hv ?hd ?hc); (case hi => exact rfl); (case hN => exact rfl); (case hv => first | exact Or.inl rfl | exact Or.inr (Or.inl rfl) | exact Or.inr (Or.inr rfl)); (case hd => decide); (case hc => decide))
  | ((with_reducible refine ew_var (x := "one") (i := 4) (t := ?t) ?hi ?_ ?hN ?hv ?hd ?hc); (case hi => exact rfl); (case hN => exact rfl); (case hv => first | exact Or.inl rfl | exact Or.inr (Or.inl rfl) | exact Or.inr (Or.inr rfl)); (case hd => decide); (case hc => decide))
  | ((with_reducible refine ew_var (x := "other") (i := 5) (t := ?t) ?hi ?_ ?hN ?hv ?hd ?hc); (case hi => exact rfl); (case hN => exact rfl); (case hv => first | exact Or.inl rfl | exact Or.inr (Or.inl rfl) | exact Or.inr (Or.inr rfl)); (case hd => decide); (case hc => decide))
  | ((with_reducible refine ew_var (x := "term") (i := 6) (t := ?t) ?hi ?_ ?hN ?hv ?hd ?hc); (case hi => exact rfl); (case hN => exact rfl); (case hv => first | exact Or.inl rfl | exact Or.inr (Or.inl rfl) | exact Or.inr (Or.inr rfl)); (case hd => decide); (case hc => decide))
  | ((with_reducible refine ew_var (x := "due") (i := 7) (t := ?t) ?hi ?_ ?hN ?hv ?hd ?hc); (case hi => exact rfl); (case hN => exact rfl); (case hv => first | exact Or.inl rfl | exact Or.inr (Or.inl rfl) | exact Or.inr (Or.inr rfl)); (case hd => decide); (case hc => decide))
  | ((with_reducible refine ew_var (x := "left") (i := 8) (t := ?t) ?hi ?_ ?hN ?hv ?hd ?hc); (case hi => exact rfl); (case hN => exact rfl); (case hv => first | exact Or.inl rfl | exact Or.inr (Or.inl rfl) | exact Or.inr (Or.inr rfl)); (case hd => decide); (case hc => decide))
  | ((with_reducible refine ew_var (x := "right") (i := 9) (t := ?t) ?hi ?_ ?hN ?hv ?hd ?hc); (case hi => exact rfl); (case hN => exact rfl); (case hv => first | exact Or.inl rfl | exact Or.inr (Or.inl rfl) | exact Or.inr (Or.inr rfl)); (case hd => decide); (case hc => decide))
  | ((with_reducible refine ew_var (x := "told") (i := 10) (t := ?t) ?hi ?_ ?hN ?hv ?hd ?hc); (case hi => exact rfl); (case hN => exact rfl); (case hv => first | exact Or.inl rfl | exact Or.inr (Or.inl rfl) | exact Or.inr (Or.inr rfl)); (case hd => decide); (case hc => decide))
  | ((with_reducible refine ew_var (x := "given") (i := 11) (t := ?t) ?hi ?_ ?hN ?hv ?hd ?hc); (case hi => exact rfl); (case hN => exact rfl); (case hv => first | exact Or.inl rfl | exact Or.inr (Or.inl rfl) | exact Or.inr (Or.inr rfl)); (case hd => decide); (case hc => decide))
  | ((with_reducible refine ew_var (x := "free") (i := 12) (t := ?t) ?hi ?_ ?hN ?hv ?hd ?hc); (case hi => exact rfl); (case hN => exact rfl); (case hv => first | exact Or.inl rfl | exact Or.inr (Or.inl rfl) | exact Or.inr (Or.inr rfl)); (case hd => decide); (case hc => decide))
  | ((with_reducible refine ew_var (x := "open_term") (i := 13) (t := ?t) ?hi ?_ ?hN ?hv ?hd ?hc); (case hi => exact rfl); (case hN => exact rfl); (case hv => first | exact Or.inl rfl | exact Or.inr (Or.inl rfl) | exact Or.inr (Or.inr rfl)); (case hd => decide); (case hc => decide))
  | ((with_reducible refine ew_var (x := "truths") (i := 14) (t := ?t) ?hi ?_ ?hN ?hv ?hd ?hc); (case hi => exact rfl); (case hN => exact rfl); (case hv => first | exact Or.inl rfl | exact Or.inr (Or.inl rfl) | exact Or.inr (Or.inr rfl)); (case hd => decide); (case hc => decide))
  | ((with_reducible refine ew_var (x := "third") (i := 15) (t := ?t) ?hi ?_ ?hN ?hv ?hd ?hc); (case hi => exact rfl); (case hN => exact rfl); (case hv => first | exact Or.inl rfl | exact Or.inr (Or.inl rfl) | exact Or.inr (Or.inr rfl)); (case hd => decide); (case hc => decide))
  | ((with_reducible refine ew_var (x := "more") (i := 16) (t := ?t) ?hi ?_ ?hN ?hv ?hd ?hc); (case hi => exact rfl); (case hN => exact rfl); (case hv => first | exact Or.inl rfl | exact Or.inr (Or.inl rfl) | exact Or.inr (Or.inr rfl)); (case hd => decide); (case hc => decide))
  | ((with_reducible refine ew_var (x := "last") (i := 17) (t := ?t) ?hi ?_ ?hN ?hv ?hd ?hc); (case hi => exact rfl); (case hN => exact rfl); (case hv => first | exact Or.inl rfl | exact Or.inr (Or.inl rfl) | exact Or.inr (Or.inr rfl)); (case hd => decide); (case hc => decide))
  | ((with_reducible refine ew_var (x := "way") (i := 18) (t := ?t) ?hi ?_ ?hN ?hv ?hd ?hc); (case hi => exact rfl); (case hN => exact rfl); (case hv => first | exact Or.inl rfl | exact Or.inr (Or.inl rfl) | exact Or.inr (Or.inr rfl)); (case hd => decide); (case hc => decide))
  | ((with_reducible refine ew_var (x := "joint") (i := 19) (t := ?t) ?hi ?_ ?hN ?hv ?hd ?hc); (case hi => exact rfl); (case hN => exact rfl); (case hv => first | exact Or.inl rfl | exact Or.inr (Or.inl rfl) | exact Or.inr (Or.inr rfl)); (case hd => decide); (case hc => decide))
  | ((with_reducible refine ew_var (x := "wide") (i := 20) (t := ?t) ?hi ?_ ?hN ?hv ?hd ?hc); (case hi => exact rfl); (case hN => exact rfl); (case hv => first | exact Or.inl rfl | exact Or.inr (Or.inl rfl) | exact Or.inr (Or.inr rfl)); (case hd => decide); (case hc => decide))
  | ((with_reducible refine ew_var (x := "twice") (i := 21) (t := ?t) ?hi ?_ ?hN ?hv ?hd ?hc); (case hi => exact rfl); (case hN => exact rfl); (case hv => first | exact Or.inl rfl | exact Or.inr (Or.inl rfl) | exact Or.inr (Or.inr rfl)); (case hd => decide); (case hc => decide))
  | ((with_reducible refine ew_var (x := "idle") (i := 22) (t := ?t) ?hi ?_ ?hN ?hv ?hd ?hc); (case hi => exact rfl); (case hN => exact rfl); (case hv => first | exact Or.inl rfl | exact Or.inr (Or.inl rfl) | exact Or.inr (Or.inr rfl)); (case hd => decide); (case hc => decide))
  | ((with_reducible refine ew_sub (h := ?_)))
  | ((with_reducible refine ew_str (hk := ?_)))
  | ((with_reducible refine ew_int (hk := ?_)))
  | ((with_reducible refine ew_bl (hk := ?_)))
  | ((with_reducible refine ew_tup (h := ?_)))
  | ((with_reducible refine tw_cmp (hm := ?hm) (h := ?_)); (case hm => exact rfl))
  | ((with_reducible refine ew_cmp (hm := ?hm) (h := ?_)); (case hm => exact rfl))
  | ((with_reducible refine ew_lst (h := ?_)))
  | ((with_reducible refine ew_call (x := "_law_all") (n := ?n) (con := ?con) (C := ?C) (hr := ?hr) (hg := ?hg) (hdb := ?hdb) (he := ?he) (hpl := ?hpl) (h := ?_)); (case C => exact All.c_law_all (by assumption)); (case hr => assumption); (case hg => exact rfl); (case hdb => decide); (case he => exact rfl); (case hpl => exact rfl))
  | ((with_reducible refine ew_call (x := "_law_equal") (n := ?n) (con := ?con) (C := ?C) (hr := ?hr) (hg := ?hg) (hdb := ?hdb) (he := ?he) (hpl := ?hpl) (h := ?_)); (case C => exact All.c_law_equal (by assumption)); (case hr => assumption); (case hg => exact rfl); (case hdb => decide); (case he => exact rfl); (case hpl => exact rfl))
  | ((with_reducible refine ew_callF (x := "_law_holds") (n := ?n) (pre := ?pre) (C := ?C) (hr := ?hr) (hg := ?hg) (hdb := ?hdb) (he := ?he) (hpl := ?hpl) (h := ?_)); (case C => exact All.c_law_holds (by assumption)); (case hr => assumption); (case hg => exact rfl); (case hdb => decide); (case he => exact rfl); (case hpl => exact rfl))
  | ((with_reducible refine ew_callF (x := "_law_proves") (n := ?n) (pre := ?pre) (C := ?C) (hr := ?hr) (hg := ?hg) (hdb := ?hdb) (he := ?he) (hpl := ?hpl) (h := ?_)); (case C => exact All.c_law_proves (by assumption)); (case hr => assumption); (case hg => exact rfl); (case hdb => decide); (case he => exact rfl); (case hpl => exact rfl))
  | ((with_reducible refine ew_callF (x := "_law_put") (n := ?n) (pre := ?pre) (C := ?C) (hr := ?hr) (hg := ?hg) (hdb := ?hdb) (he := ?he) (hpl := ?hpl) (h := ?_)); (case C => exact All.c_law_put (by assumption)); (case hr => assumption); (case hg => exact rfl); (case hdb => decide); (case he => exact rfl); (case hpl => exact rfl))
  | ((with_reducible refine ew_call (x := "_law_saying") (n := ?n) (con := ?con) (C := ?C) (hr := ?hr) (hg := ?hg) (hdb := ?hdb) (he := ?he) (hpl := ?hpl) (h := ?_)); (case C => exact All.c_law_saying (by assumption)); (case hr => assumption); (case hg => exact rfl); (case hdb => decide); (case he => exact rfl); (case hpl => exact rfl))
  | ((with_reducible refine ew_call (x := "_law_tape") (n := ?n) (con := ?con) (C := ?C) (hr := ?hr) (hg := ?hg) (hdb := ?hdb) (he := ?he) (hpl := ?hpl) (h := ?_)); (case C => exact All.c_law_tape (by assumption)); (case hr => assumption); (case hg => exact rfl); (case hdb => decide); (case he => exact rfl); (case hpl => exact rfl))
  | ((with_reducible refine ew_callF (x := "_law_twists") (n := ?n) (pre := ?pre) (C := ?C) (hr := ?hr) (hg := ?hg) (hdb := ?hdb) (he := ?he) (hpl := ?hpl) (h := ?_)); (case C => exact All.c_law_twists (by assumption)); (case hr => assumption); (case hg => exact rfl); (case hdb => decide); (case he => exact rfl); (case hpl => exact rfl))
  | ((with_reducible refine ew_callF (x := "both") (n := ?n) (pre := ?pre) (C := ?C) (hr := ?hr) (hg := ?hg) (hdb := ?hdb) (he := ?he) (hpl := ?hpl) (h := ?_)); (case C => exact All.c_both (by assumption)); (case hr => assumption); (case hg => exact rfl); (case hdb => decide); (case he => exact rfl); (case hpl => exact rfl))
  | ((with_reducible refine ew_callF (x := "equal_saying") (n := ?n) (pre := ?pre) (C := ?C) (hr := ?hr) (hg := ?hg) (hdb := ?hdb) (he := ?he) (hpl := ?hpl) (h := ?_)); (case C => exact All.c_equal_saying (by assumption)); (case hr => assumption); (case hg => exact rfl); (case hdb => decide); (case he => exact rfl); (case hpl => exact rfl))
  | ((with_reducible refine ew_callF (x := "exchanged") (n := ?n) (pre := ?pre) (C := ?C) (hr := ?hr) (hg := ?hg) (hdb := ?hdb) (he := ?he) (hpl := ?hpl) (h := ?_)); (case C => exact All.c_exchanged (by assumption)); (case hr => assumption); (case hg => exact rfl); (case hdb => decide); (case he => exact rfl); (case hpl => exact rfl))
  | ((with_reducible refine ew_callF (x := "kind_of") (n := ?n) (pre := ?pre) (C := ?C) (hr := ?hr) (hg := ?hg) (hdb := ?hdb) (he := ?he) (hpl := ?hpl) (h := ?_)); (case C => exact All.c_kind_of (by assumption)); (case hr => assumption); (case hg => exact rfl); (case hdb => decide); (case he => exact rfl); (case hpl => exact rfl))
  | ((with_reducible refine ew_callF (x := "put_in") (n := ?n) (pre := ?pre) (C := ?C) (hr := ?hr) (hg := ?hg) (hdb := ?hdb) (he := ?he) (hpl := ?hpl) (h := ?_)); (case C => exact All.c_put_in (by assumption)); (case hr => assumption); (case hg => exact rfl); (case hdb => decide); (case he => exact rfl); (case hpl => exact rfl))
  | ((with_reducible refine ew_callF (x := "same_both") (n := ?n) (pre := ?pre) (C := ?C) (hr := ?hr) (hg := ?hg) (hdb := ?hdb) (he := ?he) (hpl := ?hpl) (h := ?_)); (case C => exact All.c_same_both (by assumption)); (case hr => assumption); (case hg => exact rfl); (case hdb => decide); (case he => exact rfl); (case hpl => exact rfl))
  | ((with_reducible refine ew_callF (x := "swapped") (n := ?n) (pre := ?pre) (C := ?C) (hr := ?hr) (hg := ?hg) (hdb := ?hdb) (he := ?he) (hpl := ?hpl) (h := ?_)); (case C => exact All.c_swapped (by assumption)); (case hr => assumption); (case hg => exact rfl); (case hdb => decide); (case he => exact rfl); (case hpl => exact rfl))
  | ((with_reducible refine ew_callF (x := "then") (n := ?n) (pre := ?pre) (C := ?C) (hr := ?hr) (hg := ?hg) (hdb := ?hdb) (he := ?he) (hpl := ?hpl) (h := ?_)); (case C => exact All.c_then (by assumption)); (case hr => assumption); (case hg => exact rfl); (case hdb => decide); (case he => exact rfl); (case hpl => exact rfl))
  | ((with_reducible refine tw_not (h := ?_)))
  | ((with_reducible refine ew_not (h := ?_)))
  | ((with_reducible refine tw_bool (h := ?_)))
  | ((with_reducible refine ww_and (h := ?_)))
  | ((with_reducible refine ww_or (h := ?_)))
  | ((with_reducible refine ww_and1 (h := ?_)))
  | ((with_reducible refine ww_or1 (h := ?_)))
  | ((with_reducible refine ew_and (h := ?_)))
  | ((with_reducible refine ew_or (h := ?_)))
  | ((with_reducible refine ew_one (h := ?_)))
  | ((with_reducible refine ew_dnewK (h := ?_)))
  | ((with_reducible refine ew_disp1 (h := ?_)))
  | ((with_reducible refine ew_spread (h := ?_)))
  | ((with_reducible refine tw_call (h := ?_)))
  | ((with_reducible refine tw_name (h := ?_)))
  | ((with_reducible refine sw_cons (h := ?_)))
  | ((with_reducible refine sw_nil (h := ?_)))
  | ((with_reducible refine s1_if (h := ?_)))
  | ((with_reducible refine s1_set (x := "tape") (i := 1) ?hN ?hi ?_ ?hx ?hs ?hf); (case hN => exact (scLaw).nd); (case hi => exact rfl); (case hx => first | exact Or.inl rfl | exact Or.inr rfl); (case hs => exact rfl); (case hf => first | exact Or.inr rfl | exact Or.inl rfl))
  | ((with_reducible refine s1_set (x := "names") (i := 2) ?hN ?hi ?_ ?hx ?hs ?hf); (case hN => exact (scLaw).nd); (case hi => exact rfl); (case hx => first | exact Or.inl rfl | exact Or.inr rfl); (case hs => exact rfl); (case hf => first | exact Or.inr rfl | exact Or.inl rfl))
  | ((with_reducible refine s1_set (x := "scheme") (i := 3) ?hN ?hi ?_ ?hx ?hs ?hf); (case hN => exact (scLaw).nd); (case hi => exact rfl); (case hx => first | exact Or.inl rfl | exact Or.inr rfl); (case hs => exact rfl); (case hf => first | exact Or.inr rfl | exact Or.inl rfl))
  | ((with_reducible refine s1_set (x := "one") (i := 4) ?hN ?hi ?_ ?hx ?hs ?hf); (case hN => exact (scLaw).nd); (case hi => exact rfl); (case hx => first | exact Or.inl rfl | exact Or.inr rfl); (case hs => exact rfl); (case hf => first | exact Or.inr rfl | exact Or.inl rfl))
  | ((with_reducible refine s1_set (x := "other") (i := 5) ?hN ?hi ?_ ?hx ?hs ?hf); (case hN => exact (scLaw).nd); (case hi => exact rfl); (case hx => first | exact Or.inl rfl | exact Or.inr rfl); (case hs => exact rfl); (case hf => first | exact Or.inr rfl | exact Or.inl rfl))
  | ((with_reducible refine s1_set (x := "term") (i := 6) ?hN ?hi ?_ ?hx ?hs ?hf); (case hN => exact (scLaw).nd); (case hi => exact rfl); (case hx => first | exact Or.inl rfl | exact Or.inr rfl); (case hs => exact rfl); (case hf => first | exact Or.inr rfl | exact Or.inl rfl))
  | ((with_reducible refine s1_set (x := "due") (i := 7) ?hN ?hi ?_ ?hx ?hs ?hf); (case hN => exact (scLaw).nd); (case hi => exact rfl); (case hx => first | exact Or.inl rfl | exact Or.inr rfl); (case hs => exact rfl); (case hf => first | exact Or.inr rfl | exact Or.inl rfl))
  | ((with_reducible refine s1_set (x := "left") (i := 8) ?hN ?hi ?_ ?hx ?hs ?hf); (case hN => exact (scLaw).nd); (case hi => exact rfl); (case hx => first | exact Or.inl rfl | exact Or.inr rfl); (case hs => exact rfl); (case hf => first | exact Or.inr rfl | exact Or.inl rfl))
  | ((with_reducible refine s1_set (x := "right") (i := 9) ?hN ?hi ?_ ?hx ?hs ?hf); (case hN => exact (scLaw).nd); (case hi => exact rfl); (case hx => first | exact Or.inl rfl | exact Or.inr rfl); (case hs => exact rfl); (case hf => first | exact Or.inr rfl | exact Or.inl rfl))
  | ((with_reducible refine s1_set (x := "told") (i := 10) ?hN ?hi ?_ ?hx ?hs ?hf); (case hN => exact (scLaw).nd); (case hi => exact rfl); (case hx => first | exact Or.inl rfl | exact Or.inr rfl); (case hs => exact rfl); (case hf => first | exact Or.inr rfl | exact Or.inl rfl))
  | ((with_reducible refine s1_set (x := "given") (i := 11) ?hN ?hi ?_ ?hx ?hs ?hf); (case hN => exact (scLaw).nd); (case hi => exact rfl); (case hx => first | exact Or.inl rfl | exact Or.inr rfl); (case hs => exact rfl); (case hf => first | exact Or.inr rfl | exact Or.inl rfl))
  | ((with_reducible refine s1_set (x := "free") (i := 12) ?hN ?hi ?_ ?hx ?hs ?hf); (case hN => exact (scLaw).nd); (case hi => exact rfl); (case hx => first | exact Or.inl rfl | exact Or.inr rfl); (case hs => exact rfl); (case hf => first | exact Or.inr rfl | exact Or.inl rfl))
  | ((with_reducible refine s1_set (x := "open_term") (i := 13) ?hN ?hi ?_ ?hx ?hs ?hf); (case hN => exact (scLaw).nd); (case hi => exact rfl); (case hx => first | exact Or.inl rfl | exact Or.inr rfl); (case hs => exact rfl); (case hf => first | exact Or.inr rfl | exact Or.inl rfl))
  | ((with_reducible refine s1_set (x := "truths") (i := 14) ?hN ?hi ?_ ?hx ?hs ?hf); (case hN => exact (scLaw).nd); (case hi => exact rfl); (case hx => first | exact Or.inl rfl | exact Or.inr rfl); (case hs => exact rfl); (case hf => first | exact Or.inr rfl | exact Or.inl rfl))
  | ((with_reducible refine s1_set (x := "third") (i := 15) ?hN ?hi ?_ ?hx ?hs ?hf); (case hN => exact (scLaw).nd); (case hi => exact rfl); (case hx => first | exact Or.inl rfl | exact Or.inr rfl); (case hs => exact rfl); (case hf => first | exact Or.inr rfl | exact Or.inl rfl))
  | ((with_reducible refine s1_set (x := "more") (i := 16) ?hN ?hi ?_ ?hx ?hs ?hf); (case hN => exact (scLaw).nd); (case hi => exact rfl); (case hx => first | exact Or.inl rfl | exact Or.inr rfl); (case hs => exact rfl); (case hf => first | exact Or.inr rfl | exact Or.inl rfl))
  | ((with_reducible refine s1_set (x := "last") (i := 17) ?hN ?hi ?_ ?hx ?hs ?hf); (case hN => exact (scLaw).nd); (case hi => exact rfl); (case hx => first | exact Or.inl rfl | exact Or.inr rfl); (case hs => exact rfl); (case hf => first | exact Or.inr rfl | exact Or.inl rfl))
  | ((with_reducible refine s1_set (x := "way") (i := 18) ?hN ?hi ?_ ?hx ?hs ?hf); (case hN => exact (scLaw).nd); (case hi => exact rfl); (case hx => first | exact Or.inl rfl | exact Or.inr rfl); (case hs => exact rfl); (case hf => first | exact Or.inr rfl | exact Or.inl rfl))
  | ((with_reducible refine s1_set (x := "joint") (i := 19) ?hN ?hi ?_ ?hx ?hs ?hf); (case hN => exact (scLaw).nd); (case hi => exact rfl); (case hx => first | exact Or.inl rfl | exact Or.inr rfl); (case hs => exact rfl); (case hf => first | exact Or.inr rfl | exact Or.inl rfl))
  | ((with_reducible refine s1_set (x := "wide") (i := 20) ?hN ?hi ?_ ?hx ?hs ?hf); (case hN => exact (scLaw).nd); (case hi => exact rfl); (case hx => first | exact Or.inl rfl | exact Or.inr rfl); (case hs => exact rfl); (case hf => first | exact Or.inr rfl | exact Or.inl rfl))
  | ((with_reducible refine s1_set (x := "twice") (i := 21) ?hN ?hi ?_ ?hx ?hs ?hf); (case hN => exact (scLaw).nd); (case hi => exact rfl); (case hx => first | exact Or.inl rfl | exact Or.inr rfl); (case hs => exact rfl); (case hf => first | exact Or.inr rfl | exact Or.inl rfl))
  | ((with_reducible refine s1_set (x := "idle") (i := 22) ?hN ?hi ?_ ?hx ?hs ?hf); (case hN => exact (scLaw).nd); (case hi => exact rfl); (case hx => first | exact Or.inl rfl | exact Or.inr rfl); (case hs => exact rfl); (case hf => first | exact Or.inr rfl | exact Or.inl rfl))
  | ((with_reducible refine bw_eqs (h := ?h) (hk := ?_)); (case h => exact rfl))
  | ((with_reducible refine bw_nes (h := ?h) (hk := ?_)); (case h => exact rfl))
  | ((with_reducible refine xw_tup (t := ?t) (he := ?he) (hs := ?hs) (hk := ?_)); (case he => first | exact rfl | exact atT0 | exact atT1); (case hs => exact fun _ _ => rfl))
  | ((with_reducible refine xw_lst (ts := ?ts) (t := ?t) (hp := ?hp) (he := ?he) (hs := ?hs) (hk := ?_)); (case hp => walk_at "pt rdb"); (case he => first | exact rfl | exact atT0 | exact atT1); (case hs => exact fun _ _ => rfl))
  | ((with_reducible refine And.intro ?hx ?_); (case hx => exact Nat.le_of_ble_eq_true rfl))
  | (with_reducible refine Exists.intro _ (And.intro rfl ?_))
  | (refine tst_t (by decide +kernel) ?_)
  | (refine tst_f (by decide +kernel) ?_)
  | (refine Exists.intro _ (Exists.intro _ (And.intro rfl (And.intro (by walk_at "pt rdb") ?_))))
  | fail)
theorem law3 (M : Mg mg) (C : All P w K mg base n) (hn : 140 ≤ n) (a : BA) (hr : Room n (bx P w K mg base LN "law" (top 51) a).A) (F : Sto) (k : T → Sto → Prop) (q : ∀ S', k (.bl true) S') (sc ta tb nz : Addr) {scheme one other : Say} {e : Tm} {seed : Int} {ns : List Int} (tk : TapeOk seed ns) (dr : Drawn scheme one other e) :
    sw F (bx P w K mg base LN "law" (top 51) a) ((defBody (top 51)).drop 6) [some (.ref sc), some (.ref ta), some (.ref nz), some scheme.t, some one.t, some other.t, some e.t, some (eqs one other).t, none, none, none, none, none, none, none, none, none, none, none, none, none, none, none] (tapeS ta tb seed ns) { nx := fun _ S' => k .non S', rt := k } := by
  have hu := dr.ud
  have hsd := dr.sd
  have hod := dr.od
  have E1 := dr.ends
  have k1 := eqR_kind dr.eq []
  have hA := put_dep (x := nP) (show one.dep ≤ 4 by omega) (by decide) scheme
  have hB := put_dep (x := nP) (show other.dep ≤ 4 by omega) (by decide) scheme
  refine sw_cons ?_
  refine s1_par (i := 8) (j := 9) rfl scLaw.nd rfl rfl (by decide) ?_
  repeat' (walk_at "pt 1")
  refine ⟨.inr (nm "p").s, rfl, fun d1 hd1 => ?_⟩
  repeat' (walk_at "pt 1")
  refine fc1 (d1, .dk (one1 (nm "p") one).t) (.inl (.head _)) ⟨scheme, d1, one1 (nm "p") one, rfl, .head _, by omega, ?_⟩
  repeat' (walk_at "pt 1")
  refine ⟨.inr (nm "p").s, rfl, fun d2 hd2 => ?_⟩
  repeat' (walk_at "pt 1")
  refine fc1 (d2, .dk (one1 (nm "p") other).t) (.inl (.head _)) ⟨scheme, d2, one1 (nm "p") other, rfl, .head _, by omega, ?_⟩
  repeat' (walk_at "pt 1")
  refine fc0 ⟨scheme, nP, one, other, e, rfl, by omega, by omega, exbs_of E1 scheme (by omega), fun told htold => ?_⟩
  have tl := told_of E1 k1 hsd htold
  have td := tl.dep
  have tg := good_nil tl.says (by omega)
  repeat' (walk_at "pt 1")
  intro p5 hp5
  repeat' (walk_at "pt 1")
  intro p6 hp6
  repeat' (walk_at "pt 1")
  refine fc1 (p5, .dk (Tab.t [])) (.inl (.tail _ (.head _))) ⟨told, p5, [], .ref p6, eqs (scheme.put (one1 nP one)) (scheme.put (one1 nP other)), 12, rfl, .head _, by omega, tg, nd_nil, tl.kind, ⟨_, rfl, ?_⟩⟩
  repeat' (walk_at "pt 1")
  refine fc0 ⟨told, rfl, by omega, ?_⟩
  repeat' (walk_at "pt 1")
  refine ⟨.inr (nm "p").s, rfl, fun d3 hd3 => ?_⟩
  repeat' (walk_at "pt 1")
  refine fc1 (d3, .dk (one1 (nm "p") one).t) (.inl (.head _)) ⟨scheme, d3, one1 (nm "p") one, rfl, .head _, by omega, ?_⟩
  repeat' (walk_at "pt 1")
  refine bw_ned hr.units (eqT_self (show (scheme.put (one1 nP one)).dep ≤ 60 by omega)) ⟨_, rfl, ?_⟩
  repeat' (walk_at "pt 1")
  refine fc0 ⟨by omega, _, rfl, ?_⟩
  repeat' (walk_at "pt 1")
  intro p7 hp7
  repeat' (walk_at "pt 1")
  intro p8 hp8
  repeat' (walk_at "pt 1")
  have gm : Good 12 (sm (scheme.put (one1 nP one))) [] := good_nil ⟨⟨by omega, trivial⟩, by omega, trivial⟩ (by simp only [sm, Tm.dep]; omega)
  refine fc1 (p7, .dk (Tab.t [])) (.inl (.tail _ (.head _))) ⟨sm (scheme.put (one1 nP one)), p7, [], .ref p8, eqs (scheme.put (one1 nP one)) (scheme.put (one1 nP one)), 12, by rw [sm_t]; rfl, .head _, by simp only [sm, Tm.dep]; omega, gm, nd_nil, sm_kind _ [], ⟨_, rfl, ?_⟩⟩
  refine tst_f rfl ?_
  refine sw_nil ?_
  refine sw_drop (S2 := tapeS ta tb seed ns) (by repeat (first | exact List.Sublist.refl _ | apply List.Sublist.cons)) ?_
  exact law4 M C hn a hr F k q sc ta tb nz tk dr tl
end
end B33

set_option Elab.async false
set_option linter.all false
set_option maxRecDepth 100000
set_option maxHeartbeats 4000000
set_option autoImplicit false
set_option pp.maxSteps 600
namespace B33
open PT PySem L2 PySem.Spec PyProof.Rows
local macro_rules | `(tactic| walk_at "pt rdb") => `(tactic| first
  | (apply Or.inl; exact List.Mem.head _)
  | (apply Or.inl; apply List.Mem.tail; exact List.Mem.head _)
  | (apply Or.inl; apply List.Mem.tail; apply List.Mem.tail; exact List.Mem.head _)
  | (apply Or.inl; apply List.Mem.tail; apply List.Mem.tail; apply List.Mem.tail; exact List.Mem.head _)
  | (apply Or.inl; apply List.Mem.tail; apply List.Mem.tail; apply List.Mem.tail; apply List.Mem.tail; exact List.Mem.head _)
  | (apply Or.inl; apply List.Mem.tail; apply List.Mem.tail; apply List.Mem.tail; apply List.Mem.tail; apply List.Mem.tail; exact List.Mem.head _)
  | (apply Or.inl; apply List.Mem.tail; apply List.Mem.tail; apply List.Mem.tail; apply List.Mem.tail; apply List.Mem.tail; apply List.Mem.tail; exact List.Mem.head _)
  | (apply Or.inl; apply List.Mem.tail; apply List.Mem.tail; apply List.Mem.tail; apply List.Mem.tail; apply List.Mem.tail; apply List.Mem.tail; apply List.Mem.tail; exact List.Mem.head _)
  | (apply Or.inl; apply List.Mem.tail; apply List.Mem.tail; apply List.Mem.tail; apply List.Mem.tail; apply List.Mem.tail; apply List.Mem.tail; apply List.Mem.tail; apply List.Mem.tail; exact List.Mem.head _)
  | (apply Or.inl; apply List.Mem.tail; apply List.Mem.tail; apply List.Mem.tail; apply List.Mem.tail; apply List.Mem.tail; apply List.Mem.tail; apply List.Mem.tail; apply List.Mem.tail; apply List.Mem.tail; exact List.Mem.head _)
  | (apply Or.inr; assumption) | (apply Or.inr; exact List.Mem.head _) | (apply Or.inr; apply List.Mem.tail; exact List.Mem.head _) | fail)
section
variable {P : Program} {w : World} {K : PySem.W.Frag} {mg : Str → Option Value} {base : Heap} {n : Nat}
set_option maxHeartbeats 8000000
local macro_rules | `(tactic| walk_at "pt 1") => `(tactic| first
  | ((with_reducible refine aw_cons (hs := ?hs) (h := ?_)); (case hs => exact rfl))
  | ((with_reducible refine aw_nil (hk := ?_)))
  | ((with_reducible refine ew_var (x := "script") (i := 0) (t := ?t) ?hi ?_ ?hN ?hv ?hd ?hc); (case hi => exact rfl); (case hN => exact rfl); (case hv => first | exact Or.inl rfl | exact Or.inr (Or.inl rfl) | exact Or.inr (Or.inr rfl)); (case hd => decide); (case hc => decide))
  | ((with_reducible refine ew_var (x := "tape") (i := 1) (t := ?t) ?hi ?_ ?hN ?hv ?hd ?hc); (case hi => exact rfl); (case hN => exact rfl); (case hv => first | exact Or.inl rfl | exact Or.inr (Or.inl rfl) | exact Or.inr (Or.inr rfl)); (case hd => decide); (case hc => decide))
  | ((with_reducible refine ew_var (x := "names") (i := 2) (t := ?t) ?hi ?_ ?hN ?hv ?hd ?hc); (case hi => exact rfl); (case hN => exact rfl); (case hv => first | exact Or.inl rfl | exact Or.inr (Or.inl rfl) | exact Or.inr (Or.inr rfl)); (case hd => decide); (case hc => decide))
  | ((with_reducible refine ew_var (x := "scheme") (i := 3) (t := ?t) ?hi ?_ ?hN ?hv ?hd ?hc); (case hi => exact rfl); (case hN => exact rfl); (case hv => first | exact Or.inl rfl | exact Or.inr (Or.inl rfl) | exact Or.inr (Or.inr rfl)); (case hd => decide); (case hc => decide))
  | ((with_reducible refine ew_var (x := "one") (i := 4) (t := ?t) ?hi ?_ ?hN ?hv ?hd ?hc); (case hi => exact rfl); (case hN => exact rfl); (case hv => first | exact Or.inl rfl | exact Or.inr (Or.inl rfl) | exact Or.inr (Or.inr rfl)); (case hd => decide); (case hc => decide))
  | ((with_reducible refine ew_var (x := "other") (i := 5) (t := ?t) ?hi ?_ ?hN ?hv ?hd ?hc); (case hi => exact rfl); (case hN => exact rfl); (case hv => first | exact Or.inl rfl | exact Or.inr (Or.inl rfl) | exact Or.inr (Or.inr rfl)); (case hd => decide); (case hc => decide))
  | ((with_reducible refine ew_var (x := "term") (i := 6) (t := ?t) ?hi ?_ ?hN ?hv ?hd ?hc); (case hi => exact rfl); (case hN => exact rfl); (case hv => first | exact Or.inl rfl | exact Or.inr (Or.inl rfl) | exact Or.inr (Or.inr rfl)); (case hd => decide); (case hc => decide))
  | ((with_reducible refine ew_var (x := "due") (i := 7) (t := ?t) ?hi ?_ ?hN ?hv ?hd ?hc); (case hi => exact rfl); (case hN => exact rfl); (case hv => first | exact Or.inl rfl | exact Or.inr (Or.inl rfl) | exact Or.inr (Or.inr rfl)); (case hd => decide); (case hc => decide))
  | ((with_reducible refine ew_var (x := "left") (i := 8) (t := ?t) ?hi ?_ ?hN ?hv ?hd ?hc); (case hi => exact rfl); (case hN => exact rfl); (case hv => first | exact Or.inl rfl | exact Or.inr (Or.inl rfl) | exact Or.inr (Or.inr rfl)); (case hd => decide); (case hc => decide))
  | ((with_reducible refine ew_var (x := "right") (i := 9) (t := ?t) ?hi ?_ ?hN ?hv ?hd ?hc); (case hi => exact rfl); (case hN => exact rfl); (case hv => first | exact Or.inl rfl | exact Or.inr (Or.inl rfl) | exact Or.inr (Or.inr rfl)); (case hd => decide); (case hc => decide))
  | ((with_reducible refine ew_var (x := "told") (i := 10) (t := ?t) ?hi ?_ ?hN ?hv ?hd ?hc); (case hi => exact rfl); (case hN => exact rfl); (case hv => first | exact Or.inl rfl | exact Or.inr (Or.inl rfl) | exact Or.inr (Or.inr rfl)); (case hd => decide); (case hc => decide))
  | ((with_reducible refine ew_var (x := "given") (i := 11) (t := ?t) ?hi ?_ ?hN ?hv ?hd ?hc); (case hi => exact rfl); (case hN => exact rfl); (case hv => first | exact Or.inl rfl | exact Or.inr (Or.inl rfl) | exact Or.inr (Or.inr rfl)); (case hd => decide); (case hc => decide))
  | ((with_reducible refine ew_var (x := "free") (i := 12) (t := ?t) ?hi ?_ ?hN ?hv ?hd ?hc); (case hi => exact rfl); (case hN => exact rfl); (case hv => first | exact Or.inl rfl | exact Or.inr (Or.inl rfl) | exact Or.inr (Or.inr rfl)); (case hd => decide); (case hc => decide))
  | ((with_reducible refine ew_var (x := "open_term") (i := 13) (t := ?t) ?hi ?_ ?hN ?hv ?hd ?hc); (case hi => exact rfl); (case hN => exact rfl); (case hv => first | exact Or.inl rfl | exact Or.inr (Or.inl rfl) | exact Or.inr (Or.inr rfl)); (case hd => decide); (case hc => decide))
  | ((with_reducible refine ew_var (x := "truths") (i := 14) (t := ?t) ?hi ?_ ?hN ?hv ?hd ?hc); (case hi => exact rfl); (case hN => exact rfl); (case hv => first | exact Or.inl rfl | exact Or.inr (Or.inl rfl) | exact Or.inr (Or.inr rfl)); (case hd => decide); (case hc => decide))
  | ((with_reducible refine ew_var (x := "third") (i := 15) (t := ?t) ?hi ?_ ?hN ?hv ?hd ?hc); (case hi => exact rfl); (case hN => exact rfl); (case hv => first | exact Or.inl rfl | exact Or.inr (Or.inl rfl) | exact Or.inr (Or.inr rfl)); (case hd => decide); (case hc => decide))
  | ((with_reducible refine ew_var (x := "more") (i := 16) (t := ?t) ?hi ?_ ?hN ?hv ?hd ?hc); (case hi => exact rfl); (case hN => exact rfl); (case hv => first | exact Or.inl rfl | exact Or.inr (Or.inl rfl) | exact Or.inr (Or.inr rfl)); (case hd => decide); (case hc => decide))
  | ((with_reducible refine ew_var (x := "last") (i := 17) (t := ?t) ?hi ?_ ?hN ?hv ?hd ?hc); (case hi => exact rfl); (case hN => exact rfl); (case hv => first | exact Or.inl rfl | exact Or.inr (Or.inl rfl) | exact Or.inr (Or.inr rfl)); (case hd => decide); (case hc => decide))
  | ((with_reducible refine ew_var (x := "way") (i := 18) (t := ?t) ?hi ?_ ?hN ?hv ?hd ?hc); (case hi => exact rfl); (case hN => exact rfl); (case hv => first | exact Or.inl rfl | exact Or.inr (Or.inl rfl) | exact Or.inr (Or.inr rfl)); (case hd => decide); (case hc => decide))
  | ((with_reducible refine ew_var (x := "joint") (i := 19) (t := ?t) ?hi ?_ ?hN ?hv ?hd ?hc); (case hi => exact rfl); (case hN => exact rfl); (case hv => first | exact Or.inl rfl | exact Or.inr (Or.inl rfl) | exact Or.inr (Or.inr rfl)); (case hd => decide); (case hc => decide))
  | ((with_reducible refine ew_var (x := "wide") (i := 20) (t := ?t) ?hi ?_ ?hN ?hv ?hd ?hc); (case hi => exact rfl); (case hN => exact rfl); (case hv => first | exact Or.inl rfl | exact Or.inr (Or.inl rfl) | exact Or.inr (Or.inr rfl)); (case hd => decide); (case hc => decide))
  | ((with_reducible refine ew_var (x := "twice") (i := 21) (t := ?t) ?hi ?_ ?hN ?hv ?hd ?hc); (case hi => exact rfl); (case hN => exact rfl); (case hv => first | exact Or.inl rfl | exact Or.inr (Or.inl rfl) | exact Or.inr (Or.inr rfl)); (case hd => decide); (case hc => decide))
  | ((with_reducible refine ew_var (x := "idle") (i := 22) (t := ?t) ?hi ?_ ?hN ?hv ?hd ?hc); (case hi => exact rfl); (case hN => exact rfl); (case hv => first | exact Or.inl rfl | exact Or.inr (Or.inl rfl) | exact Or.inr (Or.inr rfl)); (case hd => decide); (case hc => decide))
  | ((with_reducible refine ew_sub (h := ?_)))
  | ((with_reducible refine ew_str (hk := ?_)))
  | ((with_reducible refine ew_int (hk := ?_)))
  | ((with_reducible refine ew_bl (hk := ?_)))
  | ((with_reducible refine ew_tup (h := ?_)))
  | ((with_reducible refine tw_cmp (hm := ?hm) (h := ?_)); (case hm => exact rfl))
  | ((with_reducible refine ew_cmp (hm := ?hm) (h := ?_)); (case hm => exact rfl))
  | ((with_reducible refine ew_lst (h := ?_)))
  | ((with_reducible refine ew_call (x := "_law_all") (n := ?n) (con := ?con) (C := ?C) (hr := ?hr) (hg := ?hg) (hdb := ?hdb) (he := ?he) (hpl := ?hpl) (h := ?_)); (case C => exact All.c_law_all (by assumption)); (case hr => assumption); (case hg => exact rfl); (case hdb => decide); (case he => exact rfl); (case hpl => exact rfl))
  | ((with_reducible refine ew_call (x := "_law_equal") (n := ?n) (con := ?con) (C := ?C) (hr := ?hr) (hg := ?hg) (hdb := ?hdb) (he := ?he) (hpl := ?hpl) (h := ?_)); (case C => exact All.c_law_equal (by assumption)); (case hr => assumption); (case hg => exact rfl); (case hdb => decide); (case he => exact rfl); (case hpl => exact rfl))
  | ((with_reducible refine ew_callF (x := "_law_holds") (n := ?n) (pre := ?pre) (C := ?C) (hr := ?hr) (hg := ?hg) (hdb := ?hdb) (he := ?he) (hpl := ?hpl) (h := ?_)); (case C => exact All.c_law_holds (by assumption)); (case hr => assumption); (case hg => exact rfl); (case hdb => decide); (case he => exact rfl); (case hpl => exact rfl))
  | ((with_reducible refine ew_callF (x := "_law_proves") (n := ?n) (pre := ?pre) (C := ?C) (hr := ?hr) (hg := ?hg) (hdb := ?hdb) (he := ?he) (hpl := ?hpl) (h := ?_)); (case C => exact All.c_law_proves (by assumption)); (case hr => assumption); (case hg => exact rfl); (case hdb => decide); (case he => exact rfl); (case hpl => exact rfl))
  | ((with_reducible refine ew_callF (x := "_law_put") (n := ?n) (pre := ?pre) (C := ?C) (hr := ?hr) (hg := ?hg) (hdb := ?hdb) (he := ?he) (hpl := ?hpl) (h := ?_)); (case C => exact All.c_law_put (by assumption)); (case hr => assumption); (case hg => exact rfl); (case hdb => decide); (case he => exact rfl); (case hpl => exact rfl))
  | ((with_reducible refine ew_call (x := "_law_saying") (n := ?n) (con := ?con) (C := ?C) (hr := ?hr) (hg := ?hg) (hdb := ?hdb) (he := ?he) (hpl := ?hpl) (h := ?_)); (case C => exact All.c_law_saying (by assumption)); (case hr => assumption); (case hg => exact rfl); (case hdb => decide); (case he => exact rfl); (case hpl => exact rfl))
  | ((with_reducible refine ew_call (x := "_law_tape") (n := ?n) (con := ?con) (C := ?C) (hr := ?hr) (hg := ?hg) (hdb := ?hdb) (he := ?he) (hpl := ?hpl) (h := ?_)); (case C => exact All.c_law_tape (by assumption)); (case hr => assumption); (case hg => exact rfl); (case hdb => decide); (case he => exact rfl); (case hpl => exact rfl))
  | ((with_reducible refine ew_callF (x := "_law_twists") (n := ?n) (pre := ?pre) (C := ?C) (hr := ?hr) (hg := ?hg) (hdb := ?hdb) (he := ?he) (hpl := ?hpl) (h := ?_)); (case C => exact All.c_law_twists (by assumption)); (case hr => assumption); (case hg => exact rfl); (case hdb => decide); (case he => exact rfl); (case hpl => exact rfl))
  | ((with_reducible refine ew_callF (x := "both") (n := ?n) (pre := ?pre) (C := ?C) (hr := ?hr) (hg := ?hg) (hdb := ?hdb) (he := ?he) (hpl := ?hpl) (h := ?_)); (case C => exact All.c_both (by assumption)); (case hr => assumption); (case hg => exact rfl); (case hdb => decide); (case he => exact rfl); (case hpl => exact rfl))
  | ((with_reducible refine ew_callF (x := "equal_saying") (n := ?n) (pre := ?pre) (C := ?C) (hr := ?hr) (hg := ?hg) (hdb := ?hdb) (he := ?he) (hpl := ?hpl) (h := ?_)); (case C => exact All.c_equal_saying (by assumption)); (case hr => assumption); (case hg => exact rfl); (case hdb => decide); (case he => exact rfl); (case hpl => exact rfl))
  | ((with_reducible refine ew_callF (x := "exchanged") (n := ?n) (pre := ?pre) (C := ?C) (hr := ?hr) (hg := ?hg) (hdb := ?hdb) (he := ?he) (hpl := ?hpl) (h := ?_)); (case C => exact All.c_exchanged (by assumption)); (case hr => assumption); (case hg => exact rfl); (case hdb => decide); (case he => exact rfl); (case hpl => exact rfl))
  | ((with_reducible refine ew_callF (x := "kind_of") (n := ?n) (pre := ?pre) (C := ?C) (hr := ?hr) (hg := ?hg) (hdb := ?hdb) (he := ?he) (hpl := ?hpl) (h := ?_)); (case C => exact All.c_kind_of (by assumption)); (case hr => assumption); (case hg => exact rfl); (case hdb => decide); (case he => exact rfl); (case hpl => exact rfl))
  | ((with_reducible refine ew_callF (x := "put_in") (n := ?n) (pre := ?pre) (C := ?C) (hr := ?hr) (hg := ?hg) (hdb := ?hdb) (he := ?he) (hpl := ?hpl) (h := ?_)); (case C => exact All.c_put_in (by assumption)); (case hr => assumption); (case hg => exact rfl); (case hdb => decide); (case he => exact rfl); (case hpl => exact rfl))
  | ((with_reducible refine ew_callF (x := "same_both") (n := ?n) (pre := ?pre) (C := ?C) (hr := ?hr) (hg := ?hg) (hdb := ?hdb) (he := ?he) (hpl := ?hpl) (h := ?_)); (case C => exact All.c_same_both (by assumption)); (case hr => assumption); (case hg => exact rfl); (case hdb => decide); (case he => exact rfl); (case hpl => exact rfl))
  | ((with_reducible refine ew_callF (x := "swapped") (n := ?n) (pre := ?pre) (C := ?C) (hr := ?hr) (hg := ?hg) (hdb := ?hdb) (he := ?he) (hpl := ?hpl) (h := ?_)); (case C => exact All.c_swapped (by assumption)); (case hr => assumption); (case hg => exact rfl); (case hdb => decide); (case he => exact rfl); (case hpl => exact rfl))
  | ((with_reducible refine ew_callF (x := "then") (n := ?n) (pre := ?pre) (C := ?C) (hr := ?hr) (hg := ?hg) (hdb := ?hdb) (he := ?he) (hpl := ?hpl) (h := ?_)); (case C => exact All.c_then (by assumption)); (case hr => assumption); (case hg => exact rfl); (case hdb => decide); (case he => exact rfl); (case hpl => exact rfl))
  | ((with_reducible refine tw_not (h := ?_)))
  | ((with_reducible refine ew_not (h := ?_)))
  | ((with_reducible refine tw_bool (h := ?_)))
  | ((with_reducible refine ww_and (h := ?_)))
  | ((with_reducible refine ww_or (h := ?_)))
  | ((with_reducible refine ww_and1 (h := ?_)))
  | ((with_reducible refine ww_or1 (h := ?_)))
  | ((with_reducible refine ew_and (h := ?_)))
  | ((with_reducible refine ew_or (h := ?_)))
  | ((with_reducible refine ew_one (h := ?_)))
  | ((with_reducible refine ew_dnewK (h := ?_)))
  | ((with_reducible refine ew_disp1 (h := ?_)))
  | ((with_reducible refine ew_spread (h := ?_)))
  | ((with_reducible refine tw_call (h := ?_)))
  | ((with_reducible refine tw_name (h := ?_)))
  | ((with_reducible refine sw_cons (h := ?_)))
  | ((with_reducible refine sw_nil (h := ?_)))
  | ((with_reducible refine s1_if (h := ?_)))
  | ((with_reducible refine s1_set (x := "tape") (i := 1) ?hN ?hi ?_ ?hx ?hs ?hf); (case hN => exact (scLaw).nd); (case hi => exact rfl); (case hx => first | exact Or.inl rfl | exact Or.inr rfl); (case hs => exact rfl); (case hf => first | exact Or.inr rfl | exact Or.inl rfl))
  | ((with_reducible refine s1_set (x := "names") (i := 2) ?hN ?hi ?_ ?hx ?hs ?hf); (case hN => exact (scLaw).nd); (case hi => exact rfl); (case hx => first | exact Or.inl rfl | exact Or.inr rfl); (case hs => exact rfl); (case hf => first | exact Or.inr rfl | exact Or.inl rfl))
  | ((with_reducible refine s1_set (x := "scheme") (i := 3) ?hN ?hi ?_ ?hx ?hs ?hf); (case hN => exact (scLaw).nd); (case hi => exact rfl); (case hx => first | exact Or.inl rfl | exact Or.inr rfl); (case hs => exact rfl); (case hf => first | exact Or.inr rfl | exact Or.inl rfl))
  | ((with_reducible refine s1_set (x := "one") (i := 4) ?hN ?hi ?_ ?hx ?hs ?hf); (case hN => exact (scLaw).nd); (case hi => exact rfl); (case hx => first | exact Or.inl rfl | exact Or.inr rfl); (case hs => exact rfl); (case hf => first | exact Or.inr rfl | exact Or.inl rfl))
  | ((with_reducible refine s1_set (x := "other") (i := 5) ?hN ?hi ?_ ?hx ?hs ?hf); (case hN => exact (scLaw).nd); (case hi => exact rfl); (case hx => first | exact Or.inl rfl | exact Or.inr rfl); (case hs => exact rfl); (case hf => first | exact Or.inr rfl | exact Or.inl rfl))
  | ((with_reducible refine s1_set (x := "term") (i := 6) ?hN ?hi ?_ ?hx ?hs ?hf); (case hN => exact (scLaw).nd); (case hi => exact rfl); (case hx => first | exact Or.inl rfl | exact Or.inr rfl); (case hs => exact rfl); (case hf => first | exact Or.inr rfl | exact Or.inl rfl))
  | ((with_reducible refine s1_set (x := "due") (i := 7) ?hN ?hi ?_ ?hx ?hs ?hf); (case hN => exact (scLaw).nd); (case hi => exact rfl); (case hx => first | exact Or.inl rfl | exact Or.inr rfl); (case hs => exact rfl); (case hf => first | exact Or.inr rfl | exact Or.inl rfl))
  | ((with_reducible refine s1_set (x := "left") (i := 8) ?hN ?hi ?_ ?hx ?hs ?hf); (case hN => exact (scLaw).nd); (case hi => exact rfl); (case hx => first | exact Or.inl rfl | exact Or.inr rfl); (case hs => exact rfl); (case hf => first | exact Or.inr rfl | exact Or.inl rfl))
  | ((with_reducible refine s1_set (x := "right") (i := 9) ?hN ?hi ?_ ?hx ?hs ?hf); (case hN => exact (scLaw).nd); (case hi => exact rfl); (case hx => first | exact Or.inl rfl | exact Or.inr rfl); (case hs => exact rfl); (case hf => first | exact Or.inr rfl | exact Or.inl rfl))
  | ((with_reducible refine s1_set (x := "told") (i := 10) ?hN ?hi ?_ ?hx ?hs ?hf); (case hN => exact (scLaw).nd); (case hi => exact rfl); (case hx => first | exact Or.inl rfl | exact Or.inr rfl); (case hs => exact rfl); (case hf => first | exact Or.inr rfl | exact Or.inl rfl))
  | ((with_reducible refine s1_set (x := "given") (i := 11) ?hN ?hi ?_ ?hx ?hs ?hf); (case hN => exact (scLaw).nd); (case hi => exact rfl); (case hx => first | exact Or.inl rfl | exact Or.inr rfl); (case hs => exact rfl); (case hf => first | exact Or.inr rfl | exact Or.inl rfl))
  | ((with_reducible refine s1_set (x := "free") (i := 12) ?hN ?hi ?_ ?hx ?hs ?hf); (case hN => exact (scLaw).nd); (case hi => exact rfl); (case hx => first | exact Or.inl rfl | exact Or.inr rfl); (case hs => exact rfl); (case hf => first | exact Or.inr rfl | exact Or.inl rfl))
  | ((with_reducible refine s1_set (x := "open_term") (i := 13) ?hN ?hi ?_ ?hx ?hs ?hf); (case hN => exact (scLaw).nd); (case hi => exact rfl); (case hx => first | exact Or.inl rfl | exact Or.inr rfl); (case hs => exact rfl); (case hf => first | exact Or.inr rfl | exact Or.inl rfl))
  | ((with_reducible refine s1_set (x := "truths") (i := 14) ?hN ?hi ?_ ?hx ?hs ?hf); (case hN => exact (scLaw).nd); (case hi => exact rfl); (case hx => first | exact Or.inl rfl | exact Or.inr rfl); (case hs => exact rfl); (case hf => first | exact Or.inr rfl | exact Or.inl rfl))
  | ((with_reducible refine s1_set (x := "third") (i := 15) ?hN ?hi ?_ ?hx ?hs ?hf); (case hN => exact (scLaw).nd); (case hi => exact rfl); (case hx => first | exact Or.inl rfl | exact Or.inr rfl); (case hs => exact rfl); (case hf => first | exact Or.inr rfl | exact Or.inl rfl))
  | ((with_reducible refine s1_set (x := "more") (i := 16) ?hN ?hi ?_ ?hx ?hs ?hf); (case hN => exact (scLaw).nd); (case hi => exact rfl); (case hx => first | exact Or.inl rfl | exact Or.inr rfl); (case hs => exact rfl); (case hf => first | exact Or.inr rfl | exact Or.inl rfl))
  | ((with_reducible refine s1_set (x := "last") (i := 17) ?hN ?hi ?_ ?hx ?hs ?hf); (case hN => exact (scLaw).nd); (case hi => exact rfl); (case hx => first | exact Or.inl rfl | exact Or.inr rfl); (case hs => exact rfl); (case hf => first | exact Or.inr rfl | exact Or.inl rfl))
  | ((with_reducible refine s1_set (x := "way") (i := 18) ?hN ?hi ?_ ?hx ?hs ?hf); (case hN => exact (scLaw).nd); (case hi => exact rfl); (case hx => first | exact Or.inl rfl | exact Or.inr rfl); (case hs => exact rfl); (case hf => first | exact Or.inr rfl | exact Or.inl rfl))
  | ((with_reducible refine s1_set (x := "joint") (i := 19) ?hN ?hi ?_ ?hx ?hs ?hf); (case hN => exact (scLaw).nd); (case hi => exact rfl); (case hx => first | exact Or.inl rfl | exact Or.inr rfl); (case hs => exact rfl); (case hf => first | exact Or.inr rfl | exact Or.inl rfl))
  | ((with_reducible refine s1_set (x := "wide") (i := 20) ?hN ?hi ?_ ?hx ?hs ?hf); (case hN => exact (scLaw).nd); (case hi => exact rfl); (case hx => first | exact Or.inl rfl | exact Or.inr rfl); (case hs => exact rfl); (case hf => first | exact Or.inr rfl | exact Or.inl rfl))
  | ((with_reducible refine s1_set (x := "twice") (i := 21) ?hN ?hi ?_ ?hx ?hs ?hf); (case hN => exact (scLaw).nd); (case hi => exact rfl); (case hx => first | exact Or.inl rfl | exact Or.inr rfl); (case hs => exact rfl); (case hf => first | exact Or.inr rfl | exact Or.inl rfl))
  | ((with_reducible refine s1_set (x := "idle") (i := 22) ?hN ?hi ?_ ?hx ?hs ?hf); (case hN => exact (scLaw).nd); (case hi => exact rfl); (case hx => first | exact Or.inl rfl | exact Or.inr rfl); (case hs => exact rfl); (case hf => first | exact Or.inr rfl | exact Or.inl rfl))
  | ((with_reducible refine bw_eqs (h := ?h) (hk := ?_)); (case h => exact rfl))
  | ((with_reducible refine bw_nes (h := ?h) (hk := ?_)); (case h => exact rfl))
  | ((with_reducible refine xw_tup (t := ?t) (he := ?he) (hs := ?hs) (hk := ?_)); (case he => first | exact rfl | exact atT0 | exact atT1); (case hs => exact fun _ _ => rfl))
  | ((with_reducible refine xw_lst (ts := ?ts) (t := ?t) (hp := ?hp) (he := ?he) (hs := ?hs) (hk := ?_)); (case hp => walk_at "pt rdb"); (case he => first | exact rfl | exact atT0 | exact atT1); (case hs => exact fun _ _ => rfl))
  | ((with_reducible refine And.intro ?hx ?_); (case hx => exact Nat.le_of_ble_eq_true rfl))
  | (with_reducible refine Exists.intro _ (And.intro rfl ?_))
  | (refine tst_t (by decide +kernel) ?_)
  | (refine tst_f (by decide +kernel) ?_)
  | (refine Exists.intro _ (Exists.intro _ (And.intro rfl (And.intro (by walk_at "pt rdb") ?_))))
  | fail)
theorem law2 (M : Mg mg) (C : All P w K mg base n) (hn : 140 ≤ n) (a : BA) (hr : Room n (bx P w K mg base LN "law" (top 51) a).A) (F : Sto) (k : T → Sto → Prop) (q : ∀ S', k (.bl true) S') (sc ta tb nz : Addr) {scheme one : Say} {seed0 : Int} {ns0 : List Int} (tk0 : TapeOk seed0 ns0) (hsd : scheme.dep ≤ 4) (hsa : scheme.atoms ⊆ ABP) (hod : one.dep ≤ 2) (hoa : one.atoms ⊆ AB) :
    sw F (bx P w K mg base LN "law" (top 51) a) ((defBody (top 51)).drop 3) [some (.ref sc), some (.ref ta), some (.ref nz), some scheme.t, some one.t, none, none, none, none, none, none, none, none, none, none, none, none, none, none, none, none, none, none] (tapeS ta tb seed0 ns0) { nx := fun _ S' => k .non S', rt := k } := by
  refine sw_cons ?_
  refine s1_two (i := 5) (j := 6) rfl scLaw.nd rfl rfl ?_
  repeat' (walk_at "pt 1")
  refine ⟨[], tapeS ta tb seed0 ns0, [], [], by simp, by simp, by omega, ta, tb, seed0, ns0, one, rfl, rfl, tk0, by omega, fun other e seed ns heq tk => ⟨_, _, rfl, ?_⟩⟩
  simp only [List.nil_append, List.append_nil]
  have dr : Drawn scheme one other e := ⟨hsd, hsa, hod, hoa, heq⟩
  have hu := dr.ud
  have E1 := dr.ends
  have b1 := eqR_bnd heq
  have htd := b1.td
  have k1 := eqR_kind heq []
  have hsay : e.says 12 := Tm.says_mono (by omega) b1.says
  have ge := good_nil hsay (by omega)
  repeat' (walk_at "pt 1")
  have dq : EqT (eqs one other).t (eqs one other).t true := eqT_self (by simp only [eqs, Say.dep]; omega)
  refine fc0 ⟨by omega, _, _, rfl, ?_⟩
  repeat' (walk_at "pt 1")
  refine bw_ned hr.units dq ⟨_, rfl, ?_⟩
  repeat' (walk_at "pt 1")
  intro p1 hp1
  repeat' (walk_at "pt 1")
  intro p2 hp2
  repeat' (walk_at "pt 1")
  refine fc1 (p1, .dk (Tab.t [])) (.inl (.tail _ (.head _))) ⟨e, p1, [], .ref p2, eqs one other, 12, rfl, .head _, by omega, ge, nd_nil, k1, ⟨_, rfl, ?_⟩⟩
  repeat' (walk_at "pt 1")
  refine fc0 ⟨by omega, _, rfl, ?_⟩
  repeat' (walk_at "pt 1")
  intro p3 hp3
  repeat' (walk_at "pt 1")
  intro p4 hp4
  repeat' (walk_at "pt 1")
  have gs : Good 12 (swp e) [] := good_nil ⟨hsay, hsay⟩ (by simp only [swp, Tm.dep]; omega)
  refine fc1 (p3, .dk (Tab.t [])) (.inl (.tail _ (.head _))) ⟨swp e, p3, [], .ref p4, eqs other one, 12, rfl, .head _, by simp only [swp, Tm.dep]; omega, gs, nd_nil, swp_kind k1, ⟨_, rfl, ?_⟩⟩
  refine tst_f rfl ?_
  refine sw_nil ?_
  refine sw_drop (S2 := tapeS ta tb seed ns) (by repeat (first | exact List.Sublist.refl _ | apply List.Sublist.cons)) ?_
  exact law3 M C hn a hr F k q sc ta tb nz tk dr
end
end B33

set_option Elab.async false
set_option linter.all false
set_option maxRecDepth 100000
set_option maxHeartbeats 4000000
set_option autoImplicit false
set_option pp.maxSteps 600
namespace B33
open PT PySem L2 PySem.Spec PyProof.Rows
local macro_rules | `(tactic| walk_at "pt rdb") => `(tactic| first
  | (apply Or.inl; exact List.Mem.head _)
  | (apply Or.inl; apply List.Mem.tail; exact List.Mem.head _)
  | (apply Or.inl; apply List.Mem.tail; apply List.Mem.tail; exact List.Mem.head _)
  | (apply Or.inl; apply List.Mem.tail; apply List.Mem.tail; apply List.Mem.tail; exact List.Mem.head _)
  | (apply Or.inl; apply List.Mem.tail; apply List.Mem.tail; apply List.Mem.tail; apply List.Mem.tail; exact List.Mem.head _)
  | (apply Or.inl; apply List.Mem.tail; apply List.Mem.tail; apply List.Mem.tail; apply List.Mem.tail; apply List.Mem.tail; exact List.Mem.head _)
  | (apply Or.inl; apply List.Mem.tail; apply List.Mem.tail; apply List.Mem.tail; apply List.Mem.tail; apply List.Mem.tail; apply List.Mem.tail; exact List.Mem.head _)
  | (apply Or.inl; apply List.Mem.tail; apply List.Mem.tail; apply List.Mem.tail; apply List.Mem.tail; apply List.Mem.tail; apply List.Mem.tail; apply List.Mem.tail; exact List.Mem.head _)
  | (apply Or.inl; apply List.Mem.tail; apply List.Mem.tail; apply List.Mem.tail; apply List.Mem.tail; apply List.Mem.tail; apply List.Mem.tail; apply List.Mem.tail; apply List.Mem.tail; exact List.Mem.head _)
  | (apply Or.inl; apply List.Mem.tail; apply List.Mem.tail; apply List.Mem.tail; apply List.Mem.tail; apply List.Mem.tail; apply List.Mem.tail; apply List.Mem.tail; apply List.Mem.tail; apply List.Mem.tail; exact List.Mem.head _)
  | (apply Or.inr; assumption) | (apply Or.inr; exact List.Mem.head _) | (apply Or.inr; apply List.Mem.tail; exact List.Mem.head _) | fail)
section
variable {P : Program} {w : World} {K : PySem.W.Frag} {mg : Str → Option Value} {base : Heap} {n : Nat}
set_option maxHeartbeats 8000000
local macro_rules | `(tactic| walk_at "pt 1") => `(tactic| first
  | ((with_reducible refine aw_cons (hs := ?hs) (h := ?_)); (case hs => exact rfl))
  | ((with_reducible refine aw_nil (hk := ?_)))
  | ((with_reducible refine ew_var (x := "script") (i := 0) (t := ?t) ?hi ?_ ?hN ?hv ?hd ?hc); (case hi => exact rfl); (case hN => exact rfl); (case hv => first | exact Or.inl rfl | exact Or.inr (Or.inl rfl) | exact Or.inr (Or.inr rfl)); (case hd => decide); (case hc => decide))
  | ((with_reducible refine ew_var (x := "tape") (i := 1) (t := ?t) ?hi ?_ ?hN ?hv ?hd ?hc); (case hi => exact rfl); (case hN => exact rfl); (case hv => first | exact Or.inl rfl | exact Or.inr (Or.inl rfl) | exact Or.inr (Or.inr rfl)); (case hd => decide); (case hc => decide))
  | ((with_reducible refine ew_var (x := "names") (i := 2) (t := ?t) ?hi ?_ ?hN ?hv ?hd ?hc); (case hi => exact rfl); (case hN => exact rfl); (case hv => first | exact Or.inl rfl | exact Or.inr (Or.inl rfl) | exact Or.inr (Or.inr rfl)); (case hd => decide); (case hc => decide))
  | ((with_reducible refine ew_var (x := "scheme") (i := 3) (t := ?t) ?hi ?_ ?hN ?hv ?hd ?hc); (case hi => exact rfl); (case hN => exact rfl); (case hv => first | exact Or.inl rfl | exact Or.inr (Or.inl rfl) | exact Or.inr (Or.inr rfl)); (case hd => decide); (case hc => decide))
  | ((with_reducible refine ew_var (x := "one") (i := 4) (t := ?t) ?hi ?_ ?hN ?hv ?hd ?hc); (case hi => exact rfl); (case hN => exact rfl); (case hv => first | exact Or.inl rfl | exact Or.inr (Or.inl rfl) | exact Or.inr (Or.inr rfl)); (case hd => decide); (case hc => decide))
  | ((with_reducible refine ew_var (x := "other") (i := 5) (t := ?t) ?hi ?_ ?hN ?hv ?hd ?hc); (case hi => exact rfl); (case hN => exact rfl); (case hv => first | exact Or.inl rfl | exact Or.inr (Or.inl rfl) | exact Or.inr (Or.inr rfl)); (case hd => decide); (case hc => decide))
  | ((with_reducible refine ew_var (x := "term") (i := 6) (t := ?t) ?hi ?_ ?hN ?hv ?hd ?hc); (case hi => exact rfl); (case hN => exact rfl); (case hv => first | exact Or.inl rfl | exact Or.inr (Or.inl rfl) | exact Or.inr (Or.inr rfl)); (case hd => decide); (case hc => decide))
  | ((with_reducible refine ew_var (x := "due") (i := 7) (t := ?t) ?hi ?_ ?hN ?hv ?hd ?hc); (case hi => exact rfl); (case hN => exact rfl); (case hv => first | exact Or.inl rfl | exact Or.inr (Or.inl rfl) | exact Or.inr (Or.inr rfl)); (case hd => decide); (case hc => decide))
  | ((with_reducible refine ew_var (x := "left") (i := 8) (t := ?t) ?hi ?_ ?hN ?hv ?hd ?hc); (case hi => exact rfl); (case hN => exact rfl); (case hv => first | exact Or.inl rfl | exact Or.inr (Or.inl rfl) | exact Or.inr (Or.inr rfl)); (case hd => decide); (case hc => decide))
  | ((with_reducible refine ew_var (x := "right") (i := 9) (t := ?t) ?hi ?_ ?hN ?hv ?hd ?hc); (case hi => exact rfl); (case hN => exact rfl); (case hv => first | exact Or.inl rfl | exact Or.inr (Or.inl rfl) | exact Or.inr (Or.inr rfl)); (case hd => decide); (case hc => decide))
  | ((with_reducible refine ew_var (x := "told") (i := 10) (t := ?t) ?hi ?_ ?hN ?hv ?hd ?hc); (case hi => exact rfl); (case hN => exact rfl); (case hv => first | exact Or.inl rfl | exact Or.inr (Or.inl rfl) | exact Or.inr (Or.inr rfl)); (case hd => decide); (case hc => decide))
  | ((with_reducible refine ew_var (x := "given") (i := 11) (t := ?t) ?hi ?_ ?hN ?hv ?hd ?hc); (case hi => exact rfl); (case hN => exact rfl); (case hv => first | exact Or.inl rfl | exact Or.inr (Or.inl rfl) | exact Or.inr (Or.inr rfl)); (case hd => decide); (case hc => decide))
  | ((with_reducible refine ew_var (x := "free") (i := 12) (t := ?t) ?hi ?_ ?hN ?hv ?hd ?hc); (case hi => exact rfl); (case hN => exact rfl); (case hv => first | exact Or.inl rfl | exact Or.inr (Or.inl rfl) | exact Or.inr (Or.inr rfl)); (case hd => decide); (case hc => decide))
  | ((with_reducible refine ew_var (x := "open_term") (i := 13) (t := ?t) ?hi ?_ ?hN ?hv ?hd ?hc); (case hi => exact rfl); (case hN => exact rfl); (case hv => first | exact Or.inl rfl | exact Or.inr (Or.inl rfl) | exact Or.inr (Or.inr rfl)); (case hd => decide); (case hc => decide))
  | ((with_reducible refine ew_var (x := "truths") (i := 14) (t := ?t) ?hi ?_ ?hN ?hv ?hd ?hc); (case hi => exact rfl); (case hN => exact rfl); (case hv => first | exact Or.inl rfl | exact Or.inr (Or.inl rfl) | exact Or.inr (Or.inr rfl)); (case hd => decide); (case hc => decide))
  | ((with_reducible refine ew_var (x := "third") (i := 15) (t := ?t) ?hi ?_ ?hN ?hv ?hd ?hc); (case hi => exact rfl); (case hN => exact rfl); (case hv => first | exact Or.inl rfl | exact Or.inr (Or.inl rfl) | exact Or.inr (Or.inr rfl)); (case hd => decide); (case hc => decide))
  | ((with_reducible refine ew_var (x := "more") (i := 16) (t := ?t) ?hi ?_ ?hN ?hv ?hd ?hc); (case hi => exact rfl); (case hN => exact rfl); (case hv => first | exact Or.inl rfl | exact Or.inr (Or.inl rfl) | exact Or.inr (Or.inr rfl)); (case hd => decide); (case hc => decide))
  | ((with_reducible refine ew_var (x := "last") (i := 17) (t := ?t) ?hi ?_ ?hN ?hv ?hd ?hc); (case hi => exact rfl); (case hN => exact rfl); (case hv => first | exact Or.inl rfl | exact Or.inr (Or.inl rfl) | exact Or.inr (Or.inr rfl)); (case hd => decide); (case hc => decide))
  | ((with_reducible refine ew_var (x := "way") (i := 18) (t := ?t) ?hi ?_ ?hN ?hv ?hd ?hc); (case hi => exact rfl); (case hN => exact rfl); (case hv => first | exact Or.inl rfl | exact Or.inr (Or.inl rfl) | exact Or.inr (Or.inr rfl)); (case hd => decide); (case hc => decide))
  | ((with_reducible refine ew_var (x := "joint") (i := 19) (t := ?t) ?hi ?_ ?hN ?hv ?hd ?hc); (case hi => exact rfl); (case hN => exact rfl); (case hv => first | exact Or.inl rfl | exact Or.inr (Or.inl rfl) | exact Or.inr (Or.inr rfl)); (case hd => decide); (case hc => decide))
  | ((with_reducible refine ew_var (x := "wide") (i := 20) (t := ?t) ?hi ?_ ?hN ?hv ?hd ?hc); (case hi => exact rfl); (case hN => exact rfl); (case hv => first | exact Or.inl rfl | exact Or.inr (Or.inl rfl) | exact Or.inr (Or.inr rfl)); (case hd => decide); (case hc => decide))
  | ((with_reducible refine ew_var (x := "twice") (i := 21) (t := ?t) ?hi ?_ ?hN ?hv ?hd ?hc); (case hi => exact rfl); (case hN => exact rfl); (case hv => first | exact Or.inl rfl | exact Or.inr (Or.inl rfl) | exact Or.inr (Or.inr rfl)); (case hd => decide); (case hc => decide))
  | ((with_reducible refine ew_var (x := "idle") (i := 22) (t := ?t) ?hi ?_ ?hN ?hv ?hd ?hc); (case hi => exact rfl); (case hN => exact rfl); (case hv => first | exact Or.inl rfl | exact Or.inr (Or.inl rfl) | exact Or.inr (Or.inr rfl)); (case hd => decide); (case hc => decide))
  | ((with_reducible refine ew_sub (h := ?_)))
  | ((with_reducible refine ew_str (hk := ?_)))
  | ((with_reducible refine ew_int (hk := ?_)))
  | ((with_reducible refine ew_bl (hk := ?_)))
  | ((with_reducible refine ew_tup (h := ?_)))
  | ((with_reducible refine tw_cmp (hm := ?hm) (h := ?_)); (case hm => exact rfl))
  | ((with_reducible refine ew_cmp (hm := ?hm) (h := ?_)); (case hm => exact rfl))
  | ((with_reducible refine ew_lst (h := ?_)))
  | ((with_reducible refine ew_call (x := "_law_all") (n := ?n) (con := ?con) (C := ?C) (hr := ?hr) (hg := ?hg) (hdb := ?hdb) (he := ?he) (hpl := ?hpl) (h := ?_)); (case C => exact All.c_law_all (by assumption)); (case hr => assumption); (case hg => exact rfl); (case hdb => decide); (case he => exact rfl); (case hpl => exact rfl))
  | ((with_reducible refine ew_call (x := "_law_equal") (n := ?n) (con := ?con) (C := ?C) (hr := ?hr) (hg := ?hg) (hdb := ?hdb) (he := ?he) (hpl := ?hpl) (h := ?_)); (case C => exact All.c_law_equal (by assumption)); (case hr => assumption); (case hg => exact rfl); (case hdb => decide); (case he => exact rfl); (case hpl => exact rfl))
  | ((with_reducible refine ew_callF (x := "_law_holds") (n := ?n) (pre := ?pre) (C := ?C) (hr := ?hr) (hg := ?hg) (hdb := ?hdb) (he := ?he) (hpl := ?hpl) (h := ?_)); (case C => exact All.c_law_holds (by assumption)); (case hr => assumption); (case hg => exact rfl); (case hdb => decide); (case he => exact rfl); (case hpl => exact rfl))
  | ((with_reducible refine ew_callF (x := "_law_proves") (n := ?n) (pre := ?pre) (C := ?C) (hr := ?hr) (hg := ?hg) (hdb := ?hdb) (he := ?he) (hpl := ?hpl) (h := ?_)); (case C => exact All.c_law_proves (by assumption)); (case hr => assumption); (case hg => exact rfl); (case hdb => decide); (case he => exact rfl); (case hpl => exact rfl))
  | ((with_reducible refine ew_callF (x := "_law_put") (n := ?n) (pre := ?pre) (C := ?C) (hr := ?hr) (hg := ?hg) (hdb := ?hdb) (he := ?he) (hpl := ?hpl) (h := ?_)); (case C => exact All.c_law_put (by assumption)); (case hr => assumption); (case hg => exact rfl); (case hdb => decide); (case he => exact rfl); (case hpl => exact rfl))
  | ((with_reducible refine ew_call (x := "_law_saying") (n := ?n) (con := ?con) (C := ?C) (hr := ?hr) (hg := ?hg) (hdb := ?hdb) (he := ?he) (hpl := ?hpl) (h := ?_)); (case C => exact All.c_law_saying (by assumption)); (case hr => assumption); (case hg => exact rfl); (case hdb => decide); (case he => exact rfl); (case hpl => exact rfl))
  | ((with_reducible refine ew_call (x := "_law_tape") (n := ?n) (con := ?con) (C := ?C) (hr := ?hr) (hg := ?hg) (hdb := ?hdb) (he := ?he) (hpl := ?hpl) (h := ?_)); (case C => exact All.c_law_tape (by assumption)); (case hr => assumption); (case hg => exact rfl); (case hdb => decide); (case he => exact rfl); (case hpl => exact rfl))
  | ((with_reducible refine ew_callF (x := "_law_twists") (n := ?n) (pre := ?pre) (C := ?C) (hr := ?hr) (hg := ?hg) (hdb := ?hdb) (he := ?he) (hpl := ?hpl) (h := ?_)); (case C => exact All.c_law_twists (by assumption)); (case hr => assumption); (case hg => exact rfl); (case hdb => decide); (case he => exact rfl); (case hpl => exact rfl))
  | ((with_reducible refine ew_callF (x := "both") (n := ?n) (pre := ?pre) (C := ?C) (hr := ?hr) (hg := ?hg) (hdb := ?hdb) (he := ?he) (hpl := ?hpl) (h := ?_)); (case C => exact All.c_both (by assumption)); (case hr => assumption); (case hg => exact rfl); (case hdb => decide); (case he => exact rfl); (case hpl => exact rfl))
  | ((with_reducible refine ew_callF (x := "equal_saying") (n := ?n) (pre := ?pre) (C := ?C) (hr := ?hr) (hg := ?hg) (hdb := ?hdb) (he := ?he) (hpl := ?hpl) (h := ?_)); (case C => exact All.c_equal_saying (by assumption)); (case hr => assumption); (case hg => exact rfl); (case hdb => decide); (case he => exact rfl); (case hpl => exact rfl))
  | ((with_reducible refine ew_callF (x := "exchanged") (n := ?n) (pre := ?pre) (C := ?C) (hr := ?hr) (hg := ?hg) (hdb := ?hdb) (he := ?he) (hpl := ?hpl) (h := ?_)); (case C => exact All.c_exchanged (by assumption)); (case hr => assumption); (case hg => exact rfl); (case hdb => decide); (case he => exact rfl); (case hpl => exact rfl))
  | ((with_reducible refine ew_callF (x := "kind_of") (n := ?n) (pre := ?pre) (C := ?C) (hr := ?hr) (hg := ?hg) (hdb := ?hdb) (he := ?he) (hpl := ?hpl) (h := ?_)); (case C => exact All.c_kind_of (by assumption)); (case hr => assumption); (case hg => exact rfl); (case hdb => decide); (case he => exact rfl); (case hpl => exact rfl))
  | ((with_reducible refine ew_callF (x := "put_in") (n := ?n) (pre := ?pre) (C := ?C) (hr := ?hr) (hg := ?hg) (hdb := ?hdb) (he := ?he) (hpl := ?hpl) (h := ?_)); (case C => exact All.c_put_in (by assumption)); (case hr => assumption); (case hg => exact rfl); (case hdb => decide); (case he => exact rfl); (case hpl => exact rfl))
  | ((with_reducible refine ew_callF (x := "same_both") (n := ?n) (pre := ?pre) (C := ?C) (hr := ?hr) (hg := ?hg) (hdb := ?hdb) (he := ?he) (hpl := ?hpl) (h := ?_)); (case C => exact All.c_same_both (by assumption)); (case hr => assumption); (case hg => exact rfl); (case hdb => decide); (case he => exact rfl); (case hpl => exact rfl))
  | ((with_reducible refine ew_callF (x := "swapped") (n := ?n) (pre := ?pre) (C := ?C) (hr := ?hr) (hg := ?hg) (hdb := ?hdb) (he := ?he) (hpl := ?hpl) (h := ?_)); (case C => exact All.c_swapped (by assumption)); (case hr => assumption); (case hg => exact rfl); (case hdb => decide); (case he => exact rfl); (case hpl => exact rfl))
  | ((with_reducible refine ew_callF (x := "then") (n := ?n) (pre := ?pre) (C := ?C) (hr := ?hr) (hg := ?hg) (hdb := ?hdb) (he := ?he) (hpl := ?hpl) (h := ?_)); (case C => exact All.c_then (by assumption)); (case hr => assumption); (case hg => exact rfl); (case hdb => decide); (case he => exact rfl); (case hpl => exact rfl))
  | ((with_reducible refine tw_not (h := ?_)))
  | ((with_reducible refine ew_not (h := ?_)))
  | ((with_reducible refine tw_bool (h := ?_)))
  | ((with_reducible refine ww_and (h := ?_)))
  | ((with_reducible refine ww_or (h := ?_)))
  | ((with_reducible refine ww_and1 (h := ?_)))
  | ((with_reducible refine ww_or1 (h := ?_)))
  | ((with_reducible refine ew_and (h := ?_)))
  | ((with_reducible refine ew_or (h := ?_)))
  | ((with_reducible refine ew_one (h := ?_)))
  | ((with_reducible refine ew_dnewK (h := ?_)))
  | ((with_reducible refine ew_disp1 (h := ?_)))
  | ((with_reducible refine ew_spread (h := ?_)))
  | ((with_reducible refine tw_call (h := ?_)))
  | ((with_reducible refine tw_name (h := ?_)))
  | ((with_reducible refine sw_cons (h := ?_)))
  | ((with_reducible refine sw_nil (h := ?_)))
  | ((with_reducible refine s1_if (h := ?_)))
  | ((with_reducible refine s1_set (x := "tape") (i := 1) ?hN ?hi ?_ ?hx ?hs ?hf); (case hN => exact (scLaw).nd); (case hi => exact rfl); (case hx => first | exact Or.inl rfl | exact Or.inr rfl); (case hs => exact rfl); (case hf => first | exact Or.inr rfl | exact Or.inl rfl))
  | ((with_reducible refine s1_set (x := "names") (i := 2) ?hN ?hi ?_ ?hx ?hs ?hf); (case hN => exact (scLaw).nd); (case hi => exact rfl); (case hx => first | exact Or.inl rfl | exact Or.inr rfl); (case hs => exact rfl); (case hf => first | exact Or.inr rfl | exact Or.inl rfl))
  | ((with_reducible refine s1_set (x := "scheme") (i := 3) ?hN ?hi ?_ ?hx ?hs ?hf); (case hN => exact (scLaw).nd); (case hi => exact rfl); (case hx => first | exact Or.inl rfl | exact Or.inr rfl); (case hs => exact rfl); (case hf => first | exact Or.inr rfl | exact Or.inl rfl))
  | ((with_reducible refine s1_set (x := "one") (i := 4) ?hN ?hi ?_ ?hx ?hs ?hf); (case hN => exact (scLaw).nd); (case hi => exact rfl); (case hx => first | exact Or.inl rfl | exact Or.inr rfl); (case hs => exact rfl); (case hf => first | exact Or.inr rfl | exact Or.inl rfl))
  | ((with_reducible refine s1_set (x := "other") (i := 5) ?hN ?hi ?_ ?hx ?hs ?hf); (case hN => exact (scLaw).nd); (case hi => exact rfl); (case hx => first | exact Or.inl rfl | exact Or.inr rfl); (case hs => exact rfl); (case hf => first | exact Or.inr rfl | exact Or.inl rfl))
  | ((with_reducible refine s1_set (x := "term") (i := 6) ?hN ?hi ?_ ?hx ?hs ?hf); (case hN => exact (scLaw).nd); (case hi => exact rfl); (case hx => first | exact Or.inl rfl | exact Or.inr rfl); (case hs => exact rfl); (case hf => first | exact Or.inr rfl | exact Or.inl rfl))
  | ((with_reducible refine s1_set (x := "due") (i := 7) ?hN ?hi ?_ ?hx ?hs ?hf); (case hN => exact (scLaw).nd); (case hi => exact rfl); (case hx => first | exact Or.inl rfl | exact Or.inr rfl); (case hs => exact rfl); (case hf => first | exact Or.inr rfl | exact Or.inl rfl))
  | ((with_reducible refine s1_set (x := "left") (i := 8) ?hN ?hi ?_ ?hx ?hs ?hf); (case hN => exact (scLaw).nd); (case hi => exact rfl); (case hx => first | exact Or.inl rfl | exact Or.inr rfl); (case hs => exact rfl); (case hf => first | exact Or.inr rfl | exact Or.inl rfl))
  | ((with_reducible refine s1_set (x := "right") (i := 9) ?hN ?hi ?_ ?hx ?hs ?hf); (case hN => exact (scLaw).nd); (case hi => exact rfl); (case hx => first | exact Or.inl rfl | exact Or.inr rfl); (case hs => exact rfl); (case hf => first | exact Or.inr rfl | exact Or.inl rfl))
  | ((with_reducible refine s1_set (x := "told") (i := 10) ?hN ?hi ?_ ?hx ?hs ?hf); (case hN => exact (scLaw).nd); (case hi => exact rfl); (case hx => first | exact Or.inl rfl | exact Or.inr rfl); (case hs => exact rfl); (case hf => first | exact Or.inr rfl | exact Or.inl rfl))
  | ((with_reducible refine s1_set (x := "given") (i := 11) ?hN ?hi ?_ ?hx ?hs ?hf); (case hN => exact (scLaw).nd); (case hi => exact rfl); (case hx => first | exact Or.inl rfl | exact Or.inr rfl); (case hs => exact rfl); (case hf => first | exact Or.inr rfl | exact Or.inl rfl))
  | ((with_reducible refine s1_set (x := "free") (i := 12) ?hN ?hi ?_ ?hx ?hs ?hf); (case hN => exact (scLaw).nd); (case hi => exact rfl); (case hx => first | exact Or.inl rfl | exact Or.inr rfl); (case hs => exact rfl); (case hf => first | exact Or.inr rfl | exact Or.inl rfl))
  | ((with_reducible refine s1_set (x := "open_term") (i := 13) ?hN ?hi ?_ ?hx ?hs ?hf); (case hN => exact (scLaw).nd); (case hi => exact rfl); (case hx => first | exact Or.inl rfl | exact Or.inr rfl); (case hs => exact rfl); (case hf => first | exact Or.inr rfl | exact Or.inl rfl))
  | ((with_reducible refine s1_set (x := "truths") (i := 14) ?hN ?hi ?_ ?hx ?hs ?hf); (case hN => exact (scLaw).nd); (case hi => exact rfl); (case hx => first | exact Or.inl rfl | exact Or.inr rfl); (case hs => exact rfl); (case hf => first | exact Or.inr rfl | exact Or.inl rfl))
  | ((with_reducible refine s1_set (x := "third") (i := 15) ?hN ?hi ?_ ?hx ?hs ?hf); (case hN => exact (scLaw).nd); (case hi => exact rfl); (case hx => first | exact Or.inl rfl | exact Or.inr rfl); (case hs => exact rfl); (case hf => first | exact Or.inr rfl | exact Or.inl rfl))
  | ((with_reducible refine s1_set (x := "more") (i := 16) ?hN ?hi ?_ ?hx ?hs ?hf); (case hN => exact (scLaw).nd); (case hi => exact rfl); (case hx => first | exact Or.inl rfl | exact Or.inr rfl); (case hs => exact rfl); (case hf => first | exact Or.inr rfl | exact Or.inl rfl))
  | ((with_reducible refine s1_set (x := "last") (i := 17) ?hN ?hi ?_ ?hx ?hs ?hf); (case hN => exact (scLaw).nd); (case hi => exact rfl); (case hx => first | exact Or.inl rfl | exact Or.inr rfl); (case hs => exact rfl); (case hf => first | exact Or.inr rfl | exact Or.inl rfl))
  | ((with_reducible refine s1_set (x := "way") (i := 18) ?hN ?hi ?_ ?hx ?hs ?hf); (case hN => exact (scLaw).nd); (case hi => exact rfl); (case hx => first | exact Or.inl rfl | exact Or.inr rfl); (case hs => exact rfl); (case hf => first | exact Or.inr rfl | exact Or.inl rfl))
  | ((with_reducible refine s1_set (x := "joint") (i := 19) ?hN ?hi ?_ ?hx ?hs ?hf); (case hN => exact (scLaw).nd); (case hi => exact rfl); (case hx => first | exact Or.inl rfl | exact Or.inr rfl); (case hs => exact rfl); (case hf => first | exact Or.inr rfl | exact Or.inl rfl))
  | ((with_reducible refine s1_set (x := "wide") (i := 20) ?hN ?hi ?_ ?hx ?hs ?hf); (case hN => exact (scLaw).nd); (case hi => exact rfl); (case hx => first | exact Or.inl rfl | exact Or.inr rfl); (case hs => exact rfl); (case hf => first | exact Or.inr rfl | exact Or.inl rfl))
  | ((with_reducible refine s1_set (x := "twice") (i := 21) ?hN ?hi ?_ ?hx ?hs ?hf); (case hN => exact (scLaw).nd); (case hi => exact rfl); (case hx => first | exact Or.inl rfl | exact Or.inr rfl); (case hs => exact rfl); (case hf => first | exact Or.inr rfl | exact Or.inl rfl))
  | ((with_reducible refine s1_set (x := "idle") (i := 22) ?hN ?hi ?_ ?hx ?hs ?hf); (case hN => exact (scLaw).nd); (case hi => exact rfl); (case hx => first | exact Or.inl rfl | exact Or.inr rfl); (case hs => exact rfl); (case hf => first | exact Or.inr rfl | exact Or.inl rfl))
  | ((with_reducible refine bw_eqs (h := ?h) (hk := ?_)); (case h => exact rfl))
  | ((with_reducible refine bw_nes (h := ?h) (hk := ?_)); (case h => exact rfl))
  | ((with_reducible refine xw_tup (t := ?t) (he := ?he) (hs := ?hs) (hk := ?_)); (case he => first | exact rfl | exact atT0 | exact atT1); (case hs => exact fun _ _ => rfl))
  | ((with_reducible refine xw_lst (ts := ?ts) (t := ?t) (hp := ?hp) (he := ?he) (hs := ?hs) (hk := ?_)); (case hp => walk_at "pt rdb"); (case he => first | exact rfl | exact atT0 | exact atT1); (case hs => exact fun _ _ => rfl))
  | ((with_reducible refine And.intro ?hx ?_); (case hx => exact Nat.le_of_ble_eq_true rfl))
  | (with_reducible refine Exists.intro _ (And.intro rfl ?_))
  | (refine tst_t (by decide +kernel) ?_)
  | (refine tst_f (by decide +kernel) ?_)
  | (refine Exists.intro _ (Exists.intro _ (And.intro rfl (And.intro (by walk_at "pt rdb") ?_))))
  | fail)
theorem fn_of {x : Str} {st : Stmt} {N ps : List Str} {f : Addr} {fd : FuncData} {c : Con} (G : Fun K x x st f fd) (S : FnScope N ps (defScope st)) (hlen : ∀ ts F S k, c ts F S k → ts.length = ps.length)
    (h : ∀ a : BA, Room n (bx P w K mg base N x st a).A → ∀ ts F S k, c ts F S k → sw F (bx P w K mg base N x st a) (defBody st) (slots N ts) S { nx := fun _ S' => k .non S', rt := k }) : FnOk P w K mg base CX0 (n + 1) f fd ps (spOf K c) := by
  refine G.ok S (fun vs H Q E ⟨ts, F, S, k, trs, _, hc, _⟩ => by rw [trs.length]; exact hlen ts F S k hc) (fun cdv A outer s H vs Q E hr ⟨ts, F, S1, k, trs, ok, hc, post⟩ => ?_)
  refine ⟨_, psW, ?_⟩
  have q := h ⟨f, cdv, A, outer, s, H, E⟩ hr ts F S1 k hc (L2.start N vs) H { nx := fun _ H' => Q .non H', rt := Q } (slots_ok trs ok)
  refine q ⟨fun σ' H' r' S' s2 ok2 hk => post .non H' .non S' s2 ok2.toOkH .non hk, fun v H' t S' s2 ok2 tr hk => post v H' t S' s2 ok2 tr hk, fun _ _ _ _ _ _ z => z.elim, fun _ _ _ _ _ _ z => z.elim⟩
theorem ok_law {f : Addr} {fd : FuncData} (M : Mg mg) (G : Fun K "law" "law" (top 51) f fd) (C : All P w K mg base n) (hn : 140 ≤ n) : FnOk P w K mg base CX0 (n + 1) f fd ["script"] (spOf K (cLaw (n + 1))) := by
  refine fn_of G scLaw (fun ts F S k h => ?_) (fun a hr ts F S k h => ?_)
  · obtain ⟨_, _, _, rfl, _⟩ := h; rfl
  obtain ⟨_, sc, is, rfl, rfl, hsc, hl, q⟩ := h
  have q : ∀ S', k (.bl true) S' := q
  refine sw_cons ?_
  repeat' (walk_at "pt 1")
  refine ⟨[], [], [], [(sc, .lst (is.map T.int))], rfl, fun p hp => .inl (by rw [List.mem_singleton.mp hp]; exact hsc), by omega, sc, is, rfl, rfl, .head _, hl, fun ta tb seed0 ns0 tk0 => ?_⟩
  simp only [List.nil_append, List.append_nil]
  repeat' (walk_at "pt 1")
  intro nz hnz
  repeat' (walk_at "pt 1")
  refine s1_par (i := 3) (j := 4) rfl scLaw.nd rfl rfl (by decide) ?_
  repeat' (walk_at "pt 1")
  refine ⟨[(nz, .lst (ABP.map fun x => .str x.s))], tapeS ta tb seed0 ns0, [], [(nz, .lst (ABP.map fun x => .str x.s))], rfl, fun p hp => .inr (.inl hp), ta, tb, nz, seed0, ns0, 3, ABP, rfl, rfl, tk0, .head _, by simp, by decide, by omega, fun scheme seed1 ns1 hsd hsa tk1 => ?_⟩
  simp only [List.cons_append, List.nil_append, List.append_nil]
  repeat' (walk_at "pt 1")
  intro nz2 hnz2
  repeat' (walk_at "pt 1")
  refine ⟨[(nz2, .lst (AB.map fun x => .str x.s)), (nz, .lst (ABP.map fun x => .str x.s))], tapeS ta tb seed1 ns1, [], [(nz2, .lst (AB.map fun x => .str x.s))], rfl, fun p hp => .inr (.inl (by rw [List.mem_singleton.mp hp]; exact .head _)), ta, tb, nz2, seed1, ns1, 1, AB, rfl, rfl, tk1, .head _, by simp, by decide, by omega, fun one seed2 ns2 hod hoa tk2 => ?_⟩
  simp only [List.cons_append, List.nil_append, List.append_nil]
  refine sw_drop (S2 := tapeS ta tb seed2 ns2) ((List.Sublist.refl _).cons _ |>.cons _) ?_
  exact law2 M C hn a hr F k q sc ta tb nz tk2 hsd hsa hod hoa
end
end B33

set_option Elab.async false
set_option linter.all false
set_option maxRecDepth 100000
set_option maxHeartbeats 4000000
set_option autoImplicit false
namespace B33
open PT PySem L2 PySem.Spec PyProof.Rows
/-! ### all of them -/
structure Dfs (K : PySem.W.Frag) (mg : Str → Option Value) : Prop where
  d_then : Df K mg "then" (top 2) ["one", "other"]
  d_both : Df K mg "both" (top 3) ["one", "other"]
  d_either : Df K mg "either" (top 4) ["one", "other"]
  d_put_in : Df K mg "put_in" (top 8) ["saying", "table"]
  d_parts_within : Df K mg "parts_within" (top 13) ["term"]
  d_new_name : Df K mg "new_name" (top 14) ["taken"]
  d_equal_saying : Df K mg "equal_saying" (top 16) ["one", "other"]
  d_swapped : Df K mg "swapped" (top 17) ["term"]
  d_same_both : Df K mg "same_both" (top 18) ["saying"]
  d_exchanged : Df K mg "exchanged" (top 19) ["scheme", "name", "one", "other", "term"]
  d_led_over : Df K mg "led_over" (top 20) ["left", "right", "first", "last"]
  d_names_apart : Df K mg "names_apart" (top 21) ["first", "last"]
  d_names_of : Df K mg "names_of" (top 22) ["term"]
  d_kind_of : Df K mg "kind_of" (top 24) ["term", "givens", "theorems"]
  d_proved : Df K mg "proved" (top 25) ["term", "givens", "theorems", "place", "found"]
  d_joined_kind : Df K mg "joined_kind" (top 26) ["term", "told", "place"]
  d_by_cases : Df K mg "by_cases" (top 27) ["term", "givens", "theorems", "place", "found"]
  d_law_tape : Df K mg "_law_tape" (top 30) ["script"]
  d_law_draw : Df K mg "_law_draw" (top 31) ["tape", "many"]
  d_law_pick : Df K mg "_law_pick" (top 32) ["tape", "row"]
  d_law_saying : Df K mg "_law_saying" (top 34) ["tape", "depth", "names"]
  d_law_holds : Df K mg "_law_holds" (top 35) ["saying", "truths"]
  d_law_all : Df K mg "_law_all" (top 37) ["names"]
  d_law_put : Df K mg "_law_put" (top 42) ["saying", "table"]
  d_law_parts : Df K mg "_law_parts" (top 45) ["term"]
  d_law_kind : Df K mg "_law_kind" (top 47) ["term", "givens", "theorems", "place"]
  d_law_proves : Df K mg "_law_proves" (top 48) ["term", "givens", "theorems", "saying"]
  d_law_twists : Df K mg "_law_twists" (top 49) ["term"]
  d_law_equal : Df K mg "_law_equal" (top 50) ["tape", "one"]
section
variable {P : Program} {w : World} {K : PySem.W.Frag} {mg : Str → Option Value} {base : Heap}
theorem fn_zero {pre : Pre} (h : ∀ ts F q, ¬ pre ts F q) : ∀ ts F S k, ¬ Fn pre ts F S k := fun ts F S k z => h ts F _ z.2
theorem all_n (M : Mg mg) (D : Dfs K mg) : ∀ n, All P w K mg base n
  | 0 => by
    refine ⟨cl_zero D.d_then (fn_zero ?_), cl_zero D.d_both (fn_zero ?_), cl_zero D.d_either (fn_zero ?_), cl_zero D.d_put_in (fn_zero ?_), cl_zero D.d_parts_within (fn_zero ?_), cl_zero D.d_new_name (fn_zero ?_), cl_zero D.d_equal_saying (fn_zero ?_), cl_zero D.d_swapped (fn_zero ?_), cl_zero D.d_same_both (fn_zero ?_), cl_zero D.d_exchanged (fn_zero ?_), cl_zero D.d_led_over (fn_zero ?_), cl_zero D.d_names_apart (fn_zero ?_), cl_zero D.d_names_of (fn_zero ?_), cl_zero D.d_kind_of (fn_zero ?_), cl_zero D.d_proved ?_, cl_zero D.d_joined_kind (fn_zero ?_), cl_zero D.d_by_cases ?_, cl_zero D.d_law_tape ?_, cl_zero D.d_law_draw ?_, cl_zero D.d_law_pick ?_, cl_zero D.d_law_saying ?_, cl_zero D.d_law_holds (fn_zero ?_), cl_zero D.d_law_all ?_, cl_zero D.d_law_put (fn_zero ?_), cl_zero D.d_law_parts ?_, cl_zero D.d_law_kind (fn_zero ?_), cl_zero D.d_law_proves (fn_zero ?_), cl_zero D.d_law_twists (fn_zero ?_), cl_zero D.d_law_equal ?_⟩
    · rintro _ _ _ ⟨h, _⟩; omega
    · rintro _ _ _ ⟨h, _⟩; omega
    · rintro _ _ _ ⟨h, _⟩; omega
    · rintro _ _ _ ⟨s, _, _, _, _, h, _⟩; have := Say.dep1 s; omega
    · rintro _ _ _ ⟨h, _⟩; omega
    · rintro _ _ _ ⟨h, _⟩; omega
    · rintro _ _ _ ⟨h, _⟩; omega
    · rintro _ _ _ ⟨h, _⟩; omega
    · rintro _ _ _ ⟨h, _⟩; omega
    · rintro _ _ _ ⟨_, _, _, _, _, _, h, _⟩; omega
    · rintro _ _ _ ⟨h, _⟩; omega
    · rintro _ _ _ ⟨h, _⟩; omega
    · rintro _ _ _ ⟨h, _⟩; omega
    · rintro _ _ _ ⟨_, _, _, _, _, _, _, _, h, _⟩; omega
    · rintro _ _ _ _ ⟨_, _, _, _, _, _, _, _, _, _, _, _, h, _⟩; omega
    · rintro _ _ _ ⟨h, _⟩; omega
    · rintro _ _ _ _ ⟨_, _, _, _, _, _, _, _, _, _, _, _, _, _, _, _, h, _⟩; omega
    · rintro _ _ _ _ ⟨h, _⟩; omega
    · rintro _ _ _ _ ⟨h, _⟩; omega
    · rintro _ _ _ _ ⟨h, _⟩; omega
    · rintro _ _ _ _ ⟨_, _, _, _, _, _, _, _, _, _, _, _, _, h, _⟩; omega
    · rintro _ _ _ ⟨s, _, _, _, _, _, h, _⟩; have := Say.dep1 s; omega
    · rintro _ _ _ _ ⟨h, _⟩; omega
    · rintro _ _ _ ⟨s, _, _, _, _, h, _⟩; have := Say.dep1 s; omega
    · rintro _ _ _ _ ⟨h, _⟩; omega
    · rintro _ _ _ ⟨_, _, _, _, _, _, _, _, _, h, _⟩; omega
    · rintro _ _ _ ⟨_, _, _, _, _, _, _, _, h, _⟩; omega
    · rintro _ _ _ ⟨_, _, h, _⟩; omega
    · rintro _ _ _ _ ⟨h, _⟩; omega
  | n + 1 => by
    have C := all_n M D n
    exact ⟨ok_then D.d_then C, ok_both D.d_both C, ok_either D.d_either C, ok_put D.d_put_in C, ok_parts_within D.d_parts_within C, ok_new_name M D.d_new_name C, ok_equal_saying D.d_equal_saying C, ok_swapped D.d_swapped C, ok_same_both D.d_same_both C, ok_exchanged D.d_exchanged C, ok_led_over D.d_led_over C, ok_names_apart D.d_names_apart C, ok_names_of M D.d_names_of C, ok_kind_of D.d_kind_of C, ok_proved M D.d_proved C, ok_joined_kind D.d_joined_kind C, ok_by_cases D.d_by_cases C, ok_law_tape M D.d_law_tape C, ok_law_draw M D.d_law_draw C, ok_law_pick M D.d_law_pick C, ok_law_saying D.d_law_saying C, ok_law_holds D.d_law_holds C, ok_law_all M D.d_law_all C, ok_law_put D.d_law_put C, ok_law_parts D.d_law_parts C, ok_law_kind M D.d_law_kind C, ok_law_proves D.d_law_proves C, ok_law_twists D.d_law_twists C M, ok_law_equal D.d_law_equal C⟩
/-- no list among the module's own objects -/
def noLists (K : PySem.W.Frag) : Bool := K.all fun p => match p.2.cls with | .type n => !(n == "list") | _ => true
theorem noLists_at : ∀ {K : PySem.W.Frag} {a : Addr} {o : Obj}, noLists K = true → K.lookup a = some o → o.cls ≠ .type "list"
  | [], _, _, _, e => by simp at e
  | (b, u) :: K, a, o, h, e => by
    unfold noLists at h
    rw [List.all_cons, Bool.and_eq_true] at h
    rw [List.lookup_cons] at e
    split at e
    · cases e
      intro z
      have h1 := h.1
      simp only [z] at h1
      exact absurd h1 (by decide)
    · exact noLists_at (K := K) h.2 e
/-- what the law promises -/
def spLaw (K : PySem.W.Frag) : Sp := fun vs H Q E => noLists K = true → spOf K (cLaw 141) vs H Q E
theorem sp_law {H : Hp} {a : Addr} {ns : List Int} (hl : ns.length ≤ 63) (h : SqL K H a (ns.map V.int)) : spLaw K [.ref a] H (fun v _ => v = .bl true) fun _ _ _ => False := by
  intro nl
  have rd : Rd H a (.lst (ns.map V.int)) := by
    rcases h with h | ⟨o, _, _, h1, h2, _⟩
    · exact h
    · exact absurd h2 (noLists_at nl h1)
  refine ⟨[.ref a], [(a, .lst (ns.map T.int))], [], fun t _ => t = .bl true, .cons (.ref a) .nil, ⟨fun p hp => (by cases hp), List.nodup_nil, fun p hp => ?_⟩, ⟨by decide, a, ns, rfl, rfl, .head _, hl, fun _ => rfl⟩, fun v H' t S' _ _ tr e => ?_⟩
  · rw [List.mem_singleton.mp hp]
    exact ⟨⟨_, rd, TRs.ofInts ns⟩, fun x _ hx => (by cases hx)⟩
  · subst e
    exact tr.bl_inv
theorem df_mk {x : Str} {st : Stmt} {ps : List Str} {h : Heap} (X : K.In h) (G : h.Ns mainGlobals mg) {f : Addr} {od an : Option Addr} {sl : Array (Option Value)} {oc kV dc pm cd ct : Value}
    (a : PySem.W.nsIn K mainGlobals x = some (some (.ref f))) (l : K.lookup f = some ⟨oc, od, .func (PySem.W.fnOf x x (defArgs st) (defBody st) (defScope st) .none kV dc pm an cd ct), sl⟩) (e : PySem.W.codeIn K cd x = true) (k : PySem.W.keepIn K (.ref f) = true)
    (b : ∀ fd, Fun K x x st f fd → Binds K fd ps []) : Df K mg x st ps :=
  ⟨⟨f, _, fun_mk l e k, PySem.W.mg_of X G a, b _ (fun_mk l e k)⟩⟩
theorem all_mk {h : Heap} {fa : Addr} (X : K.In h) (G : h.Ns mainGlobals mg) (hfa : mg "law" = some (.ref fa)) {f0 f1 f2 f3 f4 f5 f6 f7 f8 f9 f10 f11 f12 f13 f14 f15 f16 f17 f18 f19 f20 f21 f22 f23 f24 f25 f26 f27 f28 f29 : Addr} {od0 an0 od1 an1 od2 an2 od3 an3 od4 an4 od5 an5 od6 an6 od7 an7 od8 an8 od9 an9 od10 an10 od11 an11 od12 an12 od13 an13 od14 an14 od15 an15 od16 an16 od17 an17 od18 an18 od19 an19 od20 an20 od21 an21 od22 an22 od23 an23 od24 an24 od25 an25 od26 an26 od27 an27 od28 an28 od29 an29 : Option Addr} {sl0 sl1 sl2 sl3 sl4 sl5 sl6 sl7 sl8 sl9 sl10 sl11 sl12 sl13 sl14 sl15 sl16 sl17 sl18 sl19 sl20 sl21 sl22 sl23 sl24 sl25 sl26 sl27 sl28 sl29 : Array (Option Value)} {oc0 kV0 dc0 pm0 cd0 ct0 oc1 kV1 dc1 pm1 cd1 ct1 oc2 kV2 dc2 pm2 cd2 ct2 oc3 kV3 dc3 pm3 cd3 ct3 oc4 kV4 dc4 pm4 cd4 ct4 oc5 kV5 dc5 pm5 cd5 ct5 oc6 kV6 dc6 pm6 cd6 ct6 oc7 kV7 dc7 pm7 cd7 ct7 oc8 kV8 dc8 pm8 cd8 ct8 oc9 kV9 dc9 pm9 cd9 ct9 oc10 kV10 dc10 pm10 cd10 ct10 oc11 kV11 dc11 pm11 cd11 ct11 oc12 kV12 dc12 pm12 cd12 ct12 oc13 kV13 dc13 pm13 cd13 ct13 oc14 kV14 dc14 pm14 cd14 ct14 oc15 kV15 dc15 pm15 cd15 ct15 oc16 kV16 dc16 pm16 cd16 ct16 oc17 kV17 dc17 pm17 cd17 ct17 oc18 kV18 dc18 pm18 cd18 ct18 oc19 kV19 dc19 pm19 cd19 ct19 oc20 kV20 dc20 pm20 cd20 ct20 oc21 kV21 dc21 pm21 cd21 ct21 oc22 kV22 dc22 pm22 cd22 ct22 oc23 kV23 dc23 pm23 cd23 ct23 oc24 kV24 dc24 pm24 cd24 ct24 oc25 kV25 dc25 pm25 cd25 ct25 oc26 kV26 dc26 pm26 cd26 ct26 oc27 kV27 dc27 pm27 cd27 ct27 oc28 kV28 dc28 pm28 cd28 ct28 oc29 kV29 dc29 pm29 cd29 ct29 : Value}
    (a0 : PySem.W.nsIn K mainGlobals "then" = some (some (.ref f0))) (l0 : K.lookup f0 = some ⟨oc0, od0, .func (PySem.W.fnOf "then" "then" (defArgs (top 2)) (defBody (top 2)) (defScope (top 2)) .none kV0 dc0 pm0 an0 cd0 ct0), sl0⟩) (e0 : PySem.W.codeIn K cd0 "then" = true) (k0 : PySem.W.keepIn K (.ref f0) = true)
    (a1 : PySem.W.nsIn K mainGlobals "both" = some (some (.ref f1))) (l1 : K.lookup f1 = some ⟨oc1, od1, .func (PySem.W.fnOf "both" "both" (defArgs (top 3)) (defBody (top 3)) (defScope (top 3)) .none kV1 dc1 pm1 an1 cd1 ct1), sl1⟩) (e1 : PySem.W.codeIn K cd1 "both" = true) (k1 : PySem.W.keepIn K (.ref f1) = true)
    (a2 : PySem.W.nsIn K mainGlobals "either" = some (some (.ref f2))) (l2 : K.lookup f2 = some ⟨oc2, od2, .func (PySem.W.fnOf "either" "either" (defArgs (top 4)) (defBody (top 4)) (defScope (top 4)) .none kV2 dc2 pm2 an2 cd2 ct2), sl2⟩) (e2 : PySem.W.codeIn K cd2 "either" = true) (k2 : PySem.W.keepIn K (.ref f2) = true)
    (a3 : PySem.W.nsIn K mainGlobals "put_in" = some (some (.ref f3))) (l3 : K.lookup f3 = some ⟨oc3, od3, .func (PySem.W.fnOf "put_in" "put_in" (defArgs (top 8)) (defBody (top 8)) (defScope (top 8)) .none kV3 dc3 pm3 an3 cd3 ct3), sl3⟩) (e3 : PySem.W.codeIn K cd3 "put_in" = true) (k3 : PySem.W.keepIn K (.ref f3) = true)
    (a4 : PySem.W.nsIn K mainGlobals "parts_within" = some (some (.ref f4))) (l4 : K.lookup f4 = some ⟨oc4, od4, .func (PySem.W.fnOf "parts_within" "parts_within" (defArgs (top 13)) (defBody (top 13)) (defScope (top 13)) .none kV4 dc4 pm4 an4 cd4 ct4), sl4⟩) (e4 : PySem.W.codeIn K cd4 "parts_within" = true) (k4 : PySem.W.keepIn K (.ref f4) = true)
    (a5 : PySem.W.nsIn K mainGlobals "new_name" = some (some (.ref f5))) (l5 : K.lookup f5 = some ⟨oc5, od5, .func (PySem.W.fnOf "new_name" "new_name" (defArgs (top 14)) (defBody (top 14)) (defScope (top 14)) .none kV5 dc5 pm5 an5 cd5 ct5), sl5⟩) (e5 : PySem.W.codeIn K cd5 "new_name" = true) (k5 : PySem.W.keepIn K (.ref f5) = true)
    (a6 : PySem.W.nsIn K mainGlobals "equal_saying" = some (some (.ref f6))) (l6 : K.lookup f6 = some ⟨oc6, od6, .func (PySem.W.fnOf "equal_saying" "equal_saying" (defArgs (top 16)) (defBody (top 16)) (defScope (top 16)) .none kV6 dc6 pm6 an6 cd6 ct6), sl6⟩) (e6 : PySem.W.codeIn K cd6 "equal_saying" = true) (k6 : PySem.W.keepIn K (.ref f6) = true)
    (a7 : PySem.W.nsIn K mainGlobals "swapped" = some (some (.ref f7))) (l7 : K.lookup f7 = some ⟨oc7, od7, .func (PySem.W.fnOf "swapped" "swapped" (defArgs (top 17)) (defBody (top 17)) (defScope (top 17)) .none kV7 dc7 pm7 an7 cd7 ct7), sl7⟩) (e7 : PySem.W.codeIn K cd7 "swapped" = true) (k7 : PySem.W.keepIn K (.ref f7) = true)
    (a8 : PySem.W.nsIn K mainGlobals "same_both" = some (some (.ref f8))) (l8 : K.lookup f8 = some ⟨oc8, od8, .func (PySem.W.fnOf "same_both" "same_both" (defArgs (top 18)) (defBody (top 18)) (defScope (top 18)) .none kV8 dc8 pm8 an8 cd8 ct8), sl8⟩) (e8 : PySem.W.codeIn K cd8 "same_both" = true) (k8 : PySem.W.keepIn K (.ref f8) = true)
    (a9 : PySem.W.nsIn K mainGlobals "exchanged" = some (some (.ref f9))) (l9 : K.lookup f9 = some ⟨oc9, od9, .func (PySem.W.fnOf "exchanged" "exchanged" (defArgs (top 19)) (defBody (top 19)) (defScope (top 19)) .none kV9 dc9 pm9 an9 cd9 ct9), sl9⟩) (e9 : PySem.W.codeIn K cd9 "exchanged" = true) (k9 : PySem.W.keepIn K (.ref f9) = true)
    (a10 : PySem.W.nsIn K mainGlobals "led_over" = some (some (.ref f10))) (l10 : K.lookup f10 = some ⟨oc10, od10, .func (PySem.W.fnOf "led_over" "led_over" (defArgs (top 20)) (defBody (top 20)) (defScope (top 20)) .none kV10 dc10 pm10 an10 cd10 ct10), sl10⟩) (e10 : PySem.W.codeIn K cd10 "led_over" = true) (k10 : PySem.W.keepIn K (.ref f10) = true)
    (a11 : PySem.W.nsIn K mainGlobals "names_apart" = some (some (.ref f11))) (l11 : K.lookup f11 = some ⟨oc11, od11, .func (PySem.W.fnOf "names_apart" "names_apart" (defArgs (top 21)) (defBody (top 21)) (defScope (top 21)) .none kV11 dc11 pm11 an11 cd11 ct11), sl11⟩) (e11 : PySem.W.codeIn K cd11 "names_apart" = true) (k11 : PySem.W.keepIn K (.ref f11) = true)
    (a12 : PySem.W.nsIn K mainGlobals "names_of" = some (some (.ref f12))) (l12 : K.lookup f12 = some ⟨oc12, od12, .func (PySem.W.fnOf "names_of" "names_of" (defArgs (top 22)) (defBody (top 22)) (defScope (top 22)) .none kV12 dc12 pm12 an12 cd12 ct12), sl12⟩) (e12 : PySem.W.codeIn K cd12 "names_of" = true) (k12 : PySem.W.keepIn K (.ref f12) = true)
    (a13 : PySem.W.nsIn K mainGlobals "kind_of" = some (some (.ref f13))) (l13 : K.lookup f13 = some ⟨oc13, od13, .func (PySem.W.fnOf "kind_of" "kind_of" (defArgs (top 24)) (defBody (top 24)) (defScope (top 24)) .none kV13 dc13 pm13 an13 cd13 ct13), sl13⟩) (e13 : PySem.W.codeIn K cd13 "kind_of" = true) (k13 : PySem.W.keepIn K (.ref f13) = true)
    (a14 : PySem.W.nsIn K mainGlobals "proved" = some (some (.ref f14))) (l14 : K.lookup f14 = some ⟨oc14, od14, .func (PySem.W.fnOf "proved" "proved" (defArgs (top 25)) (defBody (top 25)) (defScope (top 25)) .none kV14 dc14 pm14 an14 cd14 ct14), sl14⟩) (e14 : PySem.W.codeIn K cd14 "proved" = true) (k14 : PySem.W.keepIn K (.ref f14) = true)
    (a15 : PySem.W.nsIn K mainGlobals "joined_kind" = some (some (.ref f15))) (l15 : K.lookup f15 = some ⟨oc15, od15, .func (PySem.W.fnOf "joined_kind" "joined_kind" (defArgs (top 26)) (defBody (top 26)) (defScope (top 26)) .none kV15 dc15 pm15 an15 cd15 ct15), sl15⟩) (e15 : PySem.W.codeIn K cd15 "joined_kind" = true) (k15 : PySem.W.keepIn K (.ref f15) = true)
    (a16 : PySem.W.nsIn K mainGlobals "by_cases" = some (some (.ref f16))) (l16 : K.lookup f16 = some ⟨oc16, od16, .func (PySem.W.fnOf "by_cases" "by_cases" (defArgs (top 27)) (defBody (top 27)) (defScope (top 27)) .none kV16 dc16 pm16 an16 cd16 ct16), sl16⟩) (e16 : PySem.W.codeIn K cd16 "by_cases" = true) (k16 : PySem.W.keepIn K (.ref f16) = true)
    (a17 : PySem.W.nsIn K mainGlobals "_law_tape" = some (some (.ref f17))) (l17 : K.lookup f17 = some ⟨oc17, od17, .func (PySem.W.fnOf "_law_tape" "_law_tape" (defArgs (top 30)) (defBody (top 30)) (defScope (top 30)) .none kV17 dc17 pm17 an17 cd17 ct17), sl17⟩) (e17 : PySem.W.codeIn K cd17 "_law_tape" = true) (k17 : PySem.W.keepIn K (.ref f17) = true)
    (a18 : PySem.W.nsIn K mainGlobals "_law_draw" = some (some (.ref f18))) (l18 : K.lookup f18 = some ⟨oc18, od18, .func (PySem.W.fnOf "_law_draw" "_law_draw" (defArgs (top 31)) (defBody (top 31)) (defScope (top 31)) .none kV18 dc18 pm18 an18 cd18 ct18), sl18⟩) (e18 : PySem.W.codeIn K cd18 "_law_draw" = true) (k18 : PySem.W.keepIn K (.ref f18) = true)
    (a19 : PySem.W.nsIn K mainGlobals "_law_pick" = some (some (.ref f19))) (l19 : K.lookup f19 = some ⟨oc19, od19, .func (PySem.W.fnOf "_law_pick" "_law_pick" (defArgs (top 32)) (defBody (top 32)) (defScope (top 32)) .none kV19 dc19 pm19 an19 cd19 ct19), sl19⟩) (e19 : PySem.W.codeIn K cd19 "_law_pick" = true) (k19 : PySem.W.keepIn K (.ref f19) = true)
    (a20 : PySem.W.nsIn K mainGlobals "_law_saying" = some (some (.ref f20))) (l20 : K.lookup f20 = some ⟨oc20, od20, .func (PySem.W.fnOf "_law_saying" "_law_saying" (defArgs (top 34)) (defBody (top 34)) (defScope (top 34)) .none kV20 dc20 pm20 an20 cd20 ct20), sl20⟩) (e20 : PySem.W.codeIn K cd20 "_law_saying" = true) (k20 : PySem.W.keepIn K (.ref f20) = true)
    (a21 : PySem.W.nsIn K mainGlobals "_law_holds" = some (some (.ref f21))) (l21 : K.lookup f21 = some ⟨oc21, od21, .func (PySem.W.fnOf "_law_holds" "_law_holds" (defArgs (top 35)) (defBody (top 35)) (defScope (top 35)) .none kV21 dc21 pm21 an21 cd21 ct21), sl21⟩) (e21 : PySem.W.codeIn K cd21 "_law_holds" = true) (k21 : PySem.W.keepIn K (.ref f21) = true)
    (a22 : PySem.W.nsIn K mainGlobals "_law_all" = some (some (.ref f22))) (l22 : K.lookup f22 = some ⟨oc22, od22, .func (PySem.W.fnOf "_law_all" "_law_all" (defArgs (top 37)) (defBody (top 37)) (defScope (top 37)) .none kV22 dc22 pm22 an22 cd22 ct22), sl22⟩) (e22 : PySem.W.codeIn K cd22 "_law_all" = true) (k22 : PySem.W.keepIn K (.ref f22) = true)
    (a23 : PySem.W.nsIn K mainGlobals "_law_put" = some (some (.ref f23))) (l23 : K.lookup f23 = some ⟨oc23, od23, .func (PySem.W.fnOf "_law_put" "_law_put" (defArgs (top 42)) (defBody (top 42)) (defScope (top 42)) .none kV23 dc23 pm23 an23 cd23 ct23), sl23⟩) (e23 : PySem.W.codeIn K cd23 "_law_put" = true) (k23 : PySem.W.keepIn K (.ref f23) = true)
    (a24 : PySem.W.nsIn K mainGlobals "_law_parts" = some (some (.ref f24))) (l24 : K.lookup f24 = some ⟨oc24, od24, .func (PySem.W.fnOf "_law_parts" "_law_parts" (defArgs (top 45)) (defBody (top 45)) (defScope (top 45)) .none kV24 dc24 pm24 an24 cd24 ct24), sl24⟩) (e24 : PySem.W.codeIn K cd24 "_law_parts" = true) (k24 : PySem.W.keepIn K (.ref f24) = true)
    (a25 : PySem.W.nsIn K mainGlobals "_law_kind" = some (some (.ref f25))) (l25 : K.lookup f25 = some ⟨oc25, od25, .func (PySem.W.fnOf "_law_kind" "_law_kind" (defArgs (top 47)) (defBody (top 47)) (defScope (top 47)) .none kV25 dc25 pm25 an25 cd25 ct25), sl25⟩) (e25 : PySem.W.codeIn K cd25 "_law_kind" = true) (k25 : PySem.W.keepIn K (.ref f25) = true)
    (a26 : PySem.W.nsIn K mainGlobals "_law_proves" = some (some (.ref f26))) (l26 : K.lookup f26 = some ⟨oc26, od26, .func (PySem.W.fnOf "_law_proves" "_law_proves" (defArgs (top 48)) (defBody (top 48)) (defScope (top 48)) .none kV26 dc26 pm26 an26 cd26 ct26), sl26⟩) (e26 : PySem.W.codeIn K cd26 "_law_proves" = true) (k26 : PySem.W.keepIn K (.ref f26) = true)
    (a27 : PySem.W.nsIn K mainGlobals "_law_twists" = some (some (.ref f27))) (l27 : K.lookup f27 = some ⟨oc27, od27, .func (PySem.W.fnOf "_law_twists" "_law_twists" (defArgs (top 49)) (defBody (top 49)) (defScope (top 49)) .none kV27 dc27 pm27 an27 cd27 ct27), sl27⟩) (e27 : PySem.W.codeIn K cd27 "_law_twists" = true) (k27 : PySem.W.keepIn K (.ref f27) = true)
    (a28 : PySem.W.nsIn K mainGlobals "_law_equal" = some (some (.ref f28))) (l28 : K.lookup f28 = some ⟨oc28, od28, .func (PySem.W.fnOf "_law_equal" "_law_equal" (defArgs (top 50)) (defBody (top 50)) (defScope (top 50)) .none kV28 dc28 pm28 an28 cd28 ct28), sl28⟩) (e28 : PySem.W.codeIn K cd28 "_law_equal" = true) (k28 : PySem.W.keepIn K (.ref f28) = true)
    (a29 : PySem.W.nsIn K mainGlobals "law" = some (some (.ref f29))) (l29 : K.lookup f29 = some ⟨oc29, od29, .func (PySem.W.fnOf "law" "law" (defArgs (top 51)) (defBody (top 51)) (defScope (top 51)) .none kV29 dc29 pm29 an29 cd29 ct29), sl29⟩) (e29 : PySem.W.codeIn K cd29 "law" = true) (k29 : PySem.W.keepIn K (.ref f29) = true)
    (z0 : PySem.W.nsIn K mainGlobals "len" = some none) (z1 : PySem.W.nsIn K mainGlobals "sum" = some none) (z2 : PySem.W.nsIn K mainGlobals "all" = some none) (z3 : PySem.W.nsIn K mainGlobals "any" = some none) (z4 : PySem.W.nsIn K mainGlobals "sorted" = some none) (z5 : PySem.W.nsIn K mainGlobals "isinstance" = some none) (z6 : PySem.W.nsIn K mainGlobals "abs" = some none) (z7 : PySem.W.nsIn K mainGlobals "tuple" = some none) (z8 : PySem.W.nsIn K mainGlobals "list" = some none) (z9 : PySem.W.nsIn K mainGlobals "dict" = some none) (z10 : PySem.W.nsIn K mainGlobals "str" = some none) (z11 : PySem.W.nsIn K mainGlobals "int" = some none) (z12 : PySem.W.nsIn K mainGlobals "range" = some none) (z13 : PySem.W.nsIn K mainGlobals "enumerate" = some none) (nl : noLists K = true) :
    ∃ fd : FuncData, (∀ (s : Shared) (v : Value), BindsTo s fd ⟨[v], []⟩ [("script", v)]) ∧ ∀ base : Heap, K.In base → base.Ns mainGlobals mg → FnOk P w K mg base CX0 141 fa fd ["script"] (spLaw K) := by
  have M : Mg mg := ⟨PySem.W.mg_none_of X G z0, PySem.W.mg_none_of X G z1, PySem.W.mg_none_of X G z2, PySem.W.mg_none_of X G z3, PySem.W.mg_none_of X G z4, PySem.W.mg_none_of X G z5, PySem.W.mg_none_of X G z6, PySem.W.mg_none_of X G z7, PySem.W.mg_none_of X G z8, PySem.W.mg_none_of X G z9, PySem.W.mg_none_of X G z10, PySem.W.mg_none_of X G z11, PySem.W.mg_none_of X G z12, PySem.W.mg_none_of X G z13⟩
  have D : Dfs K mg := ⟨df_mk X G a0 l0 e0 k0 (fun _ F => F.binds (ps := ["one", "other"]) fun _ _ _ _ _ _ us hl => match us, hl with | [_, _], _ => rfl),
    df_mk X G a1 l1 e1 k1 (fun _ F => F.binds (ps := ["one", "other"]) fun _ _ _ _ _ _ us hl => match us, hl with | [_, _], _ => rfl),
    df_mk X G a2 l2 e2 k2 (fun _ F => F.binds (ps := ["one", "other"]) fun _ _ _ _ _ _ us hl => match us, hl with | [_, _], _ => rfl),
    df_mk X G a3 l3 e3 k3 (fun _ F => F.binds (ps := ["saying", "table"]) fun _ _ _ _ _ _ us hl => match us, hl with | [_, _], _ => rfl),
    df_mk X G a4 l4 e4 k4 (fun _ F => F.binds (ps := ["term"]) fun _ _ _ _ _ _ us hl => match us, hl with | [_], _ => rfl),
    df_mk X G a5 l5 e5 k5 (fun _ F => F.binds (ps := ["taken"]) fun _ _ _ _ _ _ us hl => match us, hl with | [_], _ => rfl),
    df_mk X G a6 l6 e6 k6 (fun _ F => F.binds (ps := ["one", "other"]) fun _ _ _ _ _ _ us hl => match us, hl with | [_, _], _ => rfl),
    df_mk X G a7 l7 e7 k7 (fun _ F => F.binds (ps := ["term"]) fun _ _ _ _ _ _ us hl => match us, hl with | [_], _ => rfl),
    df_mk X G a8 l8 e8 k8 (fun _ F => F.binds (ps := ["saying"]) fun _ _ _ _ _ _ us hl => match us, hl with | [_], _ => rfl),
    df_mk X G a9 l9 e9 k9 (fun _ F => F.binds (ps := ["scheme", "name", "one", "other", "term"]) fun _ _ _ _ _ _ us hl => match us, hl with | [_, _, _, _, _], _ => rfl),
    df_mk X G a10 l10 e10 k10 (fun _ F => F.binds (ps := ["left", "right", "first", "last"]) fun _ _ _ _ _ _ us hl => match us, hl with | [_, _, _, _], _ => rfl),
    df_mk X G a11 l11 e11 k11 (fun _ F => F.binds (ps := ["first", "last"]) fun _ _ _ _ _ _ us hl => match us, hl with | [_, _], _ => rfl),
    df_mk X G a12 l12 e12 k12 (fun _ F => F.binds (ps := ["term"]) fun _ _ _ _ _ _ us hl => match us, hl with | [_], _ => rfl),
    df_mk X G a13 l13 e13 k13 (fun _ F => F.binds (ps := ["term", "givens", "theorems"]) fun _ _ _ _ _ _ us hl => match us, hl with | [_, _, _], _ => rfl),
    df_mk X G a14 l14 e14 k14 (fun _ F => F.binds (ps := ["term", "givens", "theorems", "place", "found"]) fun _ _ _ _ _ _ us hl => match us, hl with | [_, _, _, _, _], _ => rfl),
    df_mk X G a15 l15 e15 k15 (fun _ F => F.binds (ps := ["term", "told", "place"]) fun _ _ _ _ _ _ us hl => match us, hl with | [_, _, _], _ => rfl),
    df_mk X G a16 l16 e16 k16 (fun _ F => F.binds (ps := ["term", "givens", "theorems", "place", "found"]) fun _ _ _ _ _ _ us hl => match us, hl with | [_, _, _, _, _], _ => rfl),
    df_mk X G a17 l17 e17 k17 (fun _ F => F.binds (ps := ["script"]) fun _ _ _ _ _ _ us hl => match us, hl with | [_], _ => rfl),
    df_mk X G a18 l18 e18 k18 (fun _ F => F.binds (ps := ["tape", "many"]) fun _ _ _ _ _ _ us hl => match us, hl with | [_, _], _ => rfl),
    df_mk X G a19 l19 e19 k19 (fun _ F => F.binds (ps := ["tape", "row"]) fun _ _ _ _ _ _ us hl => match us, hl with | [_, _], _ => rfl),
    df_mk X G a20 l20 e20 k20 (fun _ F => F.binds (ps := ["tape", "depth", "names"]) fun _ _ _ _ _ _ us hl => match us, hl with | [_, _, _], _ => rfl),
    df_mk X G a21 l21 e21 k21 (fun _ F => F.binds (ps := ["saying", "truths"]) fun _ _ _ _ _ _ us hl => match us, hl with | [_, _], _ => rfl),
    df_mk X G a22 l22 e22 k22 (fun _ F => F.binds (ps := ["names"]) fun _ _ _ _ _ _ us hl => match us, hl with | [_], _ => rfl),
    df_mk X G a23 l23 e23 k23 (fun _ F => F.binds (ps := ["saying", "table"]) fun _ _ _ _ _ _ us hl => match us, hl with | [_, _], _ => rfl),
    df_mk X G a24 l24 e24 k24 (fun _ F => F.binds (ps := ["term"]) fun _ _ _ _ _ _ us hl => match us, hl with | [_], _ => rfl),
    df_mk X G a25 l25 e25 k25 (fun _ F => F.binds (ps := ["term", "givens", "theorems", "place"]) fun _ _ _ _ _ _ us hl => match us, hl with | [_, _, _, _], _ => rfl),
    df_mk X G a26 l26 e26 k26 (fun _ F => F.binds (ps := ["term", "givens", "theorems", "saying"]) fun _ _ _ _ _ _ us hl => match us, hl with | [_, _, _, _], _ => rfl),
    df_mk X G a27 l27 e27 k27 (fun _ F => F.binds (ps := ["term"]) fun _ _ _ _ _ _ us hl => match us, hl with | [_], _ => rfl),
    df_mk X G a28 l28 e28 k28 (fun _ F => F.binds (ps := ["tape", "one"]) fun _ _ _ _ _ _ us hl => match us, hl with | [_, _], _ => rfl)⟩
  have e := hfa.symm.trans (PySem.W.mg_of X G a29)
  cases e
  have FL := fun_mk (st := top 51) l29 e29 k29
  refine ⟨PySem.W.fnOf "law" "law" (defArgs (top 51)) (defBody (top 51)) (defScope (top 51)) .none kV29 dc29 pm29 an29 cd29 ct29, fun s v => .of_eq rfl, fun base _ _ => ?_⟩
  exact (ok_law (P := P) (w := w) (base := base) M FL (all_n M D 140) (Nat.le_refl _)).imp fun vs H Q E z => z nl
end
theorem walk {l : PySem.W.OpenLaw} {q : Program} {loose : List Str} {XP : (Str → Option Value) → Heap → Prop} {YP : World → Heap → Prop} {d : DefRec} {K : Params → PySem.W.Frag} (hn : l.most = some 63) (hdf : d.params.defaults = [])
    (hY : ∀ (w : World) (h : Heap), YP w h → (K w.params).In h)
    (F : ∀ (w : World) (mg : Str → Option Value) (fa : Addr) (h : Heap), (K w.params).In h → h.Ns mainGlobals mg → mg d.name = some (.ref fa) →
      ∃ fd : FuncData, (∀ (s : Shared) (u : Value), BindsTo s fd ⟨[u], []⟩ [("script", u)]) ∧ ∀ base : Heap, (K w.params).In base → base.Ns mainGlobals mg → FnOk l.prog w (K w.params) mg base CX0 141 fa fd ["script"] (spLaw (K w.params))) :
    PySem.W.WalkO q loose XP YP l.row.toRowW d [] (fun f vs => PySem.call f vs) :=
  L2.walk_of (n := 63) (k := 141) (x := "script") (CX := fun _ => CX0) (sp := fun w => spLaw (K w.params)) hn (by decide) hdf ⟨rfl, by decide, by decide⟩ hY F (fun _ _ a ns hl _ hS => sp_law hl hS) fun _ _ _ _ _ z => z
end B33
open PySem PySem.W PyProof.Rows
set_option maxHeartbeats 0 in
theorem PySem.Challenge.cw_briefproof_k33_whole_exchanges_holds : PySem.Challenge.rw_briefproof_k33_whole_exchanges.Holds := by
  w_on; o_law; k_head; (case hw => w_witness2)
  k_fill
  refine B33.walk (l := PySem.Challenge.rw_briefproof_k33_whole_exchanges) rfl rfl (fun w h Y => PySem.W.kIn_of Y) ?F
  case F =>
    intro w mg fa h KX G hmg
    refine' B33.all_mk KX G hmg ?a0 ?l0 ?e0 ?k0 ?a1 ?l1 ?e1 ?k1 ?a2 ?l2 ?e2 ?k2 ?a3 ?l3 ?e3 ?k3 ?a4 ?l4 ?e4 ?k4 ?a5 ?l5 ?e5 ?k5 ?a6 ?l6 ?e6 ?k6 ?a7 ?l7 ?e7 ?k7 ?a8 ?l8 ?e8 ?k8 ?a9 ?l9 ?e9 ?k9 ?a10 ?l10 ?e10 ?k10 ?a11 ?l11 ?e11 ?k11 ?a12 ?l12 ?e12 ?k12 ?a13 ?l13 ?e13 ?k13 ?a14 ?l14 ?e14 ?k14 ?a15 ?l15 ?e15 ?k15 ?a16 ?l16 ?e16 ?k16 ?a17 ?l17 ?e17 ?k17 ?a18 ?l18 ?e18 ?k18 ?a19 ?l19 ?e19 ?k19 ?a20 ?l20 ?e20 ?k20 ?a21 ?l21 ?e21 ?k21 ?a22 ?l22 ?e22 ?k22 ?a23 ?l23 ?e23 ?k23 ?a24 ?l24 ?e24 ?k24 ?a25 ?l25 ?e25 ?k25 ?a26 ?l26 ?e26 ?k26 ?a27 ?l27 ?e27 ?k27 ?a28 ?l28 ?e28 ?k28 ?a29 ?l29 ?e29 ?k29 ?z0 ?z1 ?z2 ?z3 ?z4 ?z5 ?z6 ?z7 ?z8 ?z9 ?z10 ?z11 ?z12 ?z13 ?nl
    (case a0 => k_is); (case l0 => k_is); (case e0 => k_is); (case k0 => k_is)
    (case a1 => k_is); (case l1 => k_is); (case e1 => k_is); (case k1 => k_is)
    (case a2 => k_is); (case l2 => k_is); (case e2 => k_is); (case k2 => k_is)
    (case a3 => k_is); (case l3 => k_is); (case e3 => k_is); (case k3 => k_is)
    (case a4 => k_is); (case l4 => k_is); (case e4 => k_is); (case k4 => k_is)
    (case a5 => k_is); (case l5 => k_is); (case e5 => k_is); (case k5 => k_is)
    (case a6 => k_is); (case l6 => k_is); (case e6 => k_is); (case k6 => k_is)
    (case a7 => k_is); (case l7 => k_is); (case e7 => k_is); (case k7 => k_is)
    (case a8 => k_is); (case l8 => k_is); (case e8 => k_is); (case k8 => k_is)
    (case a9 => k_is); (case l9 => k_is); (case e9 => k_is); (case k9 => k_is)
    (case a10 => k_is); (case l10 => k_is); (case e10 => k_is); (case k10 => k_is)
    (case a11 => k_is); (case l11 => k_is); (case e11 => k_is); (case k11 => k_is)
    (case a12 => k_is); (case l12 => k_is); (case e12 => k_is); (case k12 => k_is)
    (case a13 => k_is); (case l13 => k_is); (case e13 => k_is); (case k13 => k_is)
    (case a14 => k_is); (case l14 => k_is); (case e14 => k_is); (case k14 => k_is)
    (case a15 => k_is); (case l15 => k_is); (case e15 => k_is); (case k15 => k_is)
    (case a16 => k_is); (case l16 => k_is); (case e16 => k_is); (case k16 => k_is)
    (case a17 => k_is); (case l17 => k_is); (case e17 => k_is); (case k17 => k_is)
    (case a18 => k_is); (case l18 => k_is); (case e18 => k_is); (case k18 => k_is)
    (case a19 => k_is); (case l19 => k_is); (case e19 => k_is); (case k19 => k_is)
    (case a20 => k_is); (case l20 => k_is); (case e20 => k_is); (case k20 => k_is)
    (case a21 => k_is); (case l21 => k_is); (case e21 => k_is); (case k21 => k_is)
    (case a22 => k_is); (case l22 => k_is); (case e22 => k_is); (case k22 => k_is)
    (case a23 => k_is); (case l23 => k_is); (case e23 => k_is); (case k23 => k_is)
    (case a24 => k_is); (case l24 => k_is); (case e24 => k_is); (case k24 => k_is)
    (case a25 => k_is); (case l25 => k_is); (case e25 => k_is); (case k25 => k_is)
    (case a26 => k_is); (case l26 => k_is); (case e26 => k_is); (case k26 => k_is)
    (case a27 => k_is); (case l27 => k_is); (case e27 => k_is); (case k27 => k_is)
    (case a28 => k_is); (case l28 => k_is); (case e28 => k_is); (case k28 => k_is)
    (case a29 => k_is); (case l29 => k_is); (case e29 => k_is); (case k29 => k_is)
    (case z0 => k_is); (case z1 => k_is); (case z2 => k_is); (case z3 => k_is); (case z4 => k_is); (case z5 => k_is); (case z6 => k_is); (case z7 => k_is); (case z8 => k_is); (case z9 => k_is); (case z10 => k_is); (case z11 => k_is); (case z12 => k_is); (case z13 => k_is)
    (case nl => exact Eq.refl true)

