import PyProof.Rows.All
import Wide.All
import OpenK.AllK
import Wide.FinOn
import HandS.ForMost
import HandS.IsInst
import HandS.ListItems
import HandS.DictComp
import HandS.TupAny
import HandS.Style
import HandS.TupLe
import HandS.SetKeys
import HandS.Zip
import KE.KDictZip
import HandS.Ends
import PySem.Challenge.RW_briefproof_k02_whole_likeness_and_instan
set_option Elab.async false
set_option linter.all false
set_option maxRecDepth 100000
set_option maxHeartbeats 2000000
set_option autoImplicit false
/-! A layer over the hand layer: data without the heap, a store of objects that change, weakest preconditions over both. -/
namespace PT
open PySem L2
/-- data: a tuple is its items; an object that changes, or a dict, is told by its address -/
inductive T where
  | non | bl (b : Bool) | int (i : Int) | str (x : Str) | ref (a : Addr) | ty (n : String) | kt (ks : List Key) | tup (xs : List T)
/-- a tuple, tracked or kept -/
def Imm (o : HO) : Prop := (∃ xs, o = .tup xs) ∨ ∃ ob xs, o = .frz ob (.tup xs)
/-- all tuples stay -/
def KeepI (H H' : Hp) : Prop := ∀ a o, Imm o → H a = some o → H' a = some o
theorem KeepI.refl (H : Hp) : KeepI H H := fun _ _ _ h => h
theorem KeepI.trans {H H1 H2 : Hp} (a : KeepI H H1) (b : KeepI H1 H2) : KeepI H H2 := fun x o i h => b x o i (a x o i h)
theorem upd_none {H : Hp} {p a : Addr} {o : HO} (h : upd H p o a = none) : H a = none := by
  by_cases q : a = p
  · subst q; rw [upd_same] at h; cases h
  · rw [upd_ne q] at h; exact h
theorem KeepI.new {H : Hp} {p : Addr} {o : HO} (h : H p = none) : KeepI H (upd H p o) := fun a u _ e => by
  rw [upd_ne (ne_of_none e h)]; exact e
/-- an object that is no tuple is changed -/
theorem KeepI.mut {H : Hp} {p : Addr} {o u : HO} (h : H p = some u) (hu : ¬ Imm u) : KeepI H (upd H p o) := fun a w i e => by
  by_cases q : a = p
  · subst q; rw [h] at e; cases e; exact absurd i hu
  · rw [upd_ne q]; exact e
theorem sqt_keep {K : PySem.W.Frag} {H H' : Hp} {a : Addr} {xs : List V} (k : KeepI H H') (h : SqT K H a xs) : SqT K H' a xs := by
  rcases h with (h | ⟨o, h⟩) | h
  · exact .inl (.inl (k _ _ (.inl ⟨_, rfl⟩) h))
  · exact .inl (.inr ⟨o, k _ _ (.inr ⟨_, _, rfl⟩) h⟩)
  · exact .inr h
mutual
/-- the value v is the data t -/
inductive TR (K : PySem.W.Frag) (H : Hp) : V → T → Prop
  | non : TR K H .non .non
  | bl (b : Bool) : TR K H (.bl b) (.bl b)
  | int (i : Int) : TR K H (.int i) (.int i)
  | str (x : Str) : TR K H (.str x) (.str x)
  | ref (a : Addr) : TR K H (.ref a) (.ref a)
  | ty (n : String) : TR K H (.ty n) (.ty n)
  | kt {a : Addr} {ks : List Key} : H a = some (.tup (ks.map kV)) → TR K H (.ref a) (.kt ks)
  | tup {a : Addr} {xs : List V} {ts : List T} : SqT K H a xs → TRs K H xs ts → TR K H (.ref a) (.tup ts)
inductive TRs (K : PySem.W.Frag) (H : Hp) : List V → List T → Prop
  | nil : TRs K H [] []
  | cons {v : V} {vs : List V} {t : T} {ts : List T} : TR K H v t → TRs K H vs ts → TRs K H (v :: vs) (t :: ts)
end
section
variable {K : PySem.W.Frag} {H H' : Hp}
mutual
theorem TR.keep (k : KeepI H H') : ∀ {v : V} {t : T}, TR K H v t → TR K H' v t
  | _, _, .non => .non
  | _, _, .bl b => .bl b
  | _, _, .int i => .int i
  | _, _, .str x => .str x
  | _, _, .ref a => .ref a
  | _, _, .ty a => .ty a
  | _, _, .kt h => .kt (k _ _ (.inl ⟨_, rfl⟩) h)
  | _, _, .tup h r => .tup (sqt_keep k h) (TRs.keep k r)
theorem TRs.keep (k : KeepI H H') : ∀ {vs : List V} {ts : List T}, TRs K H vs ts → TRs K H' vs ts
  | _, _, .nil => .nil
  | _, _, .cons h r => .cons (TR.keep k h) (TRs.keep k r)
end
theorem TRs.length : ∀ {vs : List V} {ts : List T}, TRs K H vs ts → vs.length = ts.length
  | _, _, .nil => rfl
  | _, _, .cons _ r => congrArg (· + 1) (TRs.length r)
theorem TRs.get : ∀ {vs : List V} {ts : List T} {i : Nat} {t : T}, TRs K H vs ts → ts[i]? = some t → ∃ v, vs[i]? = some v ∧ TR K H v t
  | _, _, _, _, .nil, e => by simp at e
  | _, _, 0, _, .cons r _, e => by simp at e; subst e; exact ⟨_, rfl, r⟩
  | _, _, i + 1, t, .cons _ r, e => by
    obtain ⟨v, h1, h2⟩ := TRs.get (i := i) (t := t) r (by simpa using e)
    exact ⟨v, by simpa using h1, h2⟩
theorem TRs.get' : ∀ {vs : List V} {ts : List T} {i : Nat} {v : V}, TRs K H vs ts → vs[i]? = some v → ∃ t, ts[i]? = some t ∧ TR K H v t
  | _, _, _, _, .nil, e => by simp at e
  | _, _, 0, _, .cons r _, e => by simp at e; subst e; exact ⟨_, rfl, r⟩
  | _, _, i + 1, v, .cons _ r, e => by
    obtain ⟨t, h1, h2⟩ := TRs.get' (i := i) (v := v) r (by simpa using e)
    exact ⟨t, by simpa using h1, h2⟩
theorem TRs.app : ∀ {vs ws : List V} {ts us : List T}, TRs K H vs ts → TRs K H ws us → TRs K H (vs ++ ws) (ts ++ us)
  | _, _, _, _, .nil, h => h
  | _, _, _, _, .cons r t, h => .cons r (TRs.app t h)
theorem TRs.drop : ∀ {vs : List V} {ts : List T} (n : Nat), TRs K H vs ts → TRs K H (vs.drop n) (ts.drop n)
  | _, _, 0, r => r
  | _, _, _ + 1, .nil => .nil
  | _, _, n + 1, .cons _ t => TRs.drop n t
theorem TRs.take : ∀ {vs : List V} {ts : List T} (n : Nat), TRs K H vs ts → TRs K H (vs.take n) (ts.take n)
  | _, _, 0, _ => .nil
  | _, _, _ + 1, .nil => .nil
  | _, _, n + 1, .cons r t => .cons r (TRs.take n t)
theorem TRs.set {x : V} {u : T} (r : TR K H x u) : ∀ {vs : List V} {ts : List T} (i : Nat), TRs K H vs ts → TRs K H (vs.set i x) (ts.set i u)
  | _, _, _, .nil => .nil
  | _, _, 0, .cons _ t => .cons r t
  | _, _, i + 1, .cons q t => .cons q (TRs.set r i t)
theorem TRs.dropLast : ∀ {vs : List V} {ts : List T}, TRs K H vs ts → TRs K H vs.dropLast ts.dropLast := fun {vs ts} h => by
  rw [List.dropLast_eq_take, List.dropLast_eq_take, h.length]; exact h.take _
theorem TRs.last : ∀ {vs : List V} {ts : List T} {t : T}, TRs K H vs (ts ++ [t]) → ∃ v, vs[vs.length - 1]? = some v ∧ TR K H v t := fun {vs ts t} h => by
  have e : (ts ++ [t])[(ts ++ [t]).length - 1]? = some t := by simp
  rw [← h.length] at e
  exact h.get e
theorem TRs.rev : ∀ {vs : List V} {ts : List T}, TRs K H vs ts → TRs K H vs.reverse ts.reverse
  | _, _, .nil => .nil
  | _, _, .cons r t => by rw [List.reverse_cons, List.reverse_cons]; exact (TRs.rev t).app (.cons r .nil)
theorem TRs.eraseIdx : ∀ {vs : List V} {ts : List T} (i : Nat), TRs K H vs ts → TRs K H (vs.eraseIdx i) (ts.eraseIdx i)
  | _, _, _, .nil => .nil
  | _, _, 0, .cons _ t => t
  | _, _, i + 1, .cons r t => .cons r (TRs.eraseIdx i t)
theorem TR.int_inv {v : V} {i : Int} (h : TR K H v (.int i)) : v = .int i := by cases h; rfl
theorem TR.str_inv {v : V} {x : Str} (h : TR K H v (.str x)) : v = .str x := by cases h; rfl
theorem TR.bl_inv {v : V} {b : Bool} (h : TR K H v (.bl b)) : v = .bl b := by cases h; rfl
theorem TR.non_inv {v : V} (h : TR K H v .non) : v = .non := by cases h; rfl
theorem TR.ref_inv {v : V} {a : Addr} (h : TR K H v (.ref a)) : v = .ref a := by cases h; rfl
theorem TR.tup_inv {v : V} {ts : List T} (h : TR K H v (.tup ts)) : ∃ a xs, v = .ref a ∧ SqT K H a xs ∧ TRs K H xs ts := by
  cases h with
  | tup s r => exact ⟨_, _, rfl, s, r⟩
theorem TRs.strs : ∀ {vs : List V} {is : List Str}, TRs K H vs (is.map T.str) → vs = is.map V.str
  | _, [], .nil => rfl
  | _, i :: is, .cons r t => by rw [List.map_cons, r.str_inv, TRs.strs t]
theorem TRs.bls : ∀ {vs : List V} {is : List Bool}, TRs K H vs (is.map T.bl) → vs = is.map V.bl
  | _, [], .nil => rfl
  | _, i :: is, .cons r t => by rw [List.map_cons, r.bl_inv, TRs.bls t]
theorem TRs.ofInts : ∀ (is : List Int), TRs K H (is.map V.int) (is.map T.int)
  | [] => .nil
  | i :: is => .cons (.int i) (TRs.ofInts is)
theorem TRs.ofStrs : ∀ (is : List Str), TRs K H (is.map V.str) (is.map T.str)
  | [] => .nil
  | i :: is => .cons (.str i) (TRs.ofStrs is)
end
/-! ### objects that change -/
inductive MO where
  /-- a list -/
  | lst (ts : List T)
  /-- a dict: keys ints and texts; keys tuples of these -/
  | dk (kvs : List (Key × T)) | dt (kvs : List (List Key × T))
  /-- a dict that is walked, as it stood then -/
  | dkf (o : Obj) (vs : List (Key × V)) (kvs : List (Key × T))
  /-- a tracked tuple of keys -/
  | kt (ks : List Key)
  /-- a tape: [cells, seed], the cells at b -/
  | tape (b : Addr)
abbrev Sto := List (Addr × MO)
def foot : Addr × MO → List Addr
  | (a, .tape b) => [a, b]
  | (a, _) => [a]
def feet (S : Sto) : List Addr := S.flatMap foot
def PKV {κ : Type} (K : PySem.W.Frag) (H : Hp) : List (κ × V) → List (κ × T) → Prop := Paired fun p q => p.1 = q.1 ∧ TR K H p.2 q.2
/-- a tape's content -/
def Tape (H : Hp) (a b : Addr) : Prop := ∃ (seed : Int) (ns : List Int), H a = some (.lst [.ref b, .int seed]) ∧ H b = some (.lst (ns.map V.int)) ∧ (∀ n ∈ ns, 0 ≤ n) ∧ 0 ≤ seed ∧ seed < 2147483647 ∧ ns.length ≤ 63
/-- the object at a is written as told -/
def MOk (K : PySem.W.Frag) (H : Hp) : Addr × MO → Prop
  | (a, .lst ts) => ∃ vs, H a = some (.lst vs) ∧ TRs K H vs ts
  | (a, .dk kvs) => ∃ vs, H a = some (.dK vs) ∧ PKV K H vs kvs
  | (a, .dt kvs) => ∃ vs, H a = some (.dT vs) ∧ PKV K H vs kvs
  | (a, .dkf o vs kvs) => H a = some (.frz o (.dK vs)) ∧ PKV K H vs kvs
  | (a, .kt ks) => H a = some (.tup (ks.map kV))
  | (a, .tape b) => Tape H a b
/-- the object at a may be read as told -/
def MRd (K : PySem.W.Frag) (H : Hp) : Addr × MO → Prop
  | (a, .lst ts) => ∃ vs, Rd H a (.lst vs) ∧ TRs K H vs ts
  | (a, .dk kvs) => ∃ vs, Rd H a (.dK vs) ∧ PKV K H vs kvs
  | (a, .dt kvs) => ∃ vs, H a = some (.dT vs) ∧ PKV K H vs kvs
  | (a, .dkf o vs kvs) => H a = some (.frz o (.dK vs)) ∧ PKV K H vs kvs
  | (a, .kt ks) => H a = some (.tup (ks.map kV))
  | (a, .tape b) => Tape H a b
theorem MOk.rd {K : PySem.W.Frag} {H : Hp} : ∀ {p : Addr × MO}, MOk K H p → MRd K H p
  | (a, .lst ts), ⟨vs, h, r⟩ => ⟨vs, .inl h, r⟩
  | (a, .dk kvs), ⟨vs, h, r⟩ => ⟨vs, .inl h, r⟩
  | (a, .dt kvs), h => h
  | (a, .dkf o vs kvs), h => h
  | (a, .kt ks), h => h
  | (a, .tape b), h => h
theorem PKV.keep {κ : Type} {K : PySem.W.Frag} {H H' : Hp} (k : KeepI H H') {vs : List (κ × V)} {ts : List (κ × T)} (h : PKV K H vs ts) : PKV K H' vs ts :=
  Paired.mapP h fun _ _ q => ⟨q.1, q.2.keep k⟩
theorem PKV.length {κ : Type} {K : PySem.W.Frag} {H : Hp} {vs : List (κ × V)} {ts : List (κ × T)} (h : PKV K H vs ts) : vs.length = ts.length := Paired.length h
theorem MOk.keep {K : PySem.W.Frag} {H H' : Hp} {p : Addr × MO} (k : KeepI H H') (h : ∀ a ∈ foot p, ∀ o, H a = some o → H' a = some o) (m : MOk K H p) : MOk K H' p := by
  obtain ⟨a, o⟩ := p
  cases o with
  | lst ts => obtain ⟨vs, e, r⟩ := m; exact ⟨vs, h a (by simp [foot]) _ e, r.keep k⟩
  | dk kvs => obtain ⟨vs, e, r⟩ := m; exact ⟨vs, h a (by simp [foot]) _ e, r.keep k⟩
  | dt kvs => obtain ⟨vs, e, r⟩ := m; exact ⟨vs, h a (by simp [foot]) _ e, r.keep k⟩
  | dkf o vs kvs => exact ⟨h a (by simp [foot]) _ m.1, m.2.keep k⟩
  | kt ks => exact h a (by simp [foot]) _ m
  | tape b =>
    obtain ⟨seed, ns, e1, e2, r⟩ := m
    exact ⟨seed, ns, h a (by simp [foot]) _ e1, h b (by simp [foot]) _ e2, r⟩
theorem MRd.keep {K : PySem.W.Frag} {H H' : Hp} {p : Addr × MO} (k : KeepI H H') (h : ∀ a ∈ foot p, ∀ o, H a = some o → H' a = some o) (m : MRd K H p) : MRd K H' p := by
  obtain ⟨a, o⟩ := p
  have rd : ∀ u, Rd H a u → (∀ o, H a = some o → H' a = some o) → Rd H' a u := fun u r q => by
    rcases r with r | ⟨o, r⟩
    · exact .inl (q _ r)
    · exact .inr ⟨o, q _ r⟩
  cases o with
  | lst ts => obtain ⟨vs, e, r⟩ := m; exact ⟨vs, rd _ e (h a (by simp [foot])), r.keep k⟩
  | dk kvs => obtain ⟨vs, e, r⟩ := m; exact ⟨vs, rd _ e (h a (by simp [foot])), r.keep k⟩
  | dt kvs => obtain ⟨vs, e, r⟩ := m; exact ⟨vs, h a (by simp [foot]) _ e, r.keep k⟩
  | dkf o vs kvs => exact ⟨h a (by simp [foot]) _ m.1, m.2.keep k⟩
  | kt ks => exact h a (by simp [foot]) _ m
  | tape b =>
    obtain ⟨seed, ns, e1, e2, r⟩ := m
    exact ⟨seed, ns, h a (by simp [foot]) _ e1, h b (by simp [foot]) _ e2, r⟩
/-- an object of the store stands in the heap -/
theorem MOk.there {K : PySem.W.Frag} {H : Hp} {p : Addr × MO} (m : MOk K H p) : ∀ a ∈ foot p, ∃ o, H a = some o := by
  obtain ⟨a, o⟩ := p
  cases o with
  | lst ts => obtain ⟨vs, e, r⟩ := m; intro b hb; simp [foot] at hb; subst hb; exact ⟨_, e⟩
  | dk kvs => obtain ⟨vs, e, r⟩ := m; intro b hb; simp [foot] at hb; subst hb; exact ⟨_, e⟩
  | dt kvs => obtain ⟨vs, e, r⟩ := m; intro b hb; simp [foot] at hb; subst hb; exact ⟨_, e⟩
  | dkf o vs kvs => intro b hb; simp [foot] at hb; subst hb; exact ⟨_, m.1⟩
  | kt ks => intro b hb; simp [foot] at hb; subst hb; exact ⟨_, m⟩
  | tape b =>
    obtain ⟨seed, ns, e1, e2, r⟩ := m
    intro c hc
    simp [foot] at hc
    rcases hc with rfl | rfl
    · exact ⟨_, e1⟩
    · exact ⟨_, e2⟩
theorem MRd.there {K : PySem.W.Frag} {H : Hp} {p : Addr × MO} (m : MRd K H p) : ∀ a ∈ foot p, ∃ o, H a = some o := by
  obtain ⟨a, o⟩ := p
  have rd : ∀ u, Rd H a u → ∃ o, H a = some o := fun u r => by
    rcases r with r | ⟨o, r⟩
    · exact ⟨_, r⟩
    · exact ⟨_, r⟩
  cases o with
  | lst ts => obtain ⟨vs, e, r⟩ := m; intro b hb; simp [foot] at hb; subst hb; exact rd _ e
  | dk kvs => obtain ⟨vs, e, r⟩ := m; intro b hb; simp [foot] at hb; subst hb; exact rd _ e
  | dt kvs => obtain ⟨vs, e, r⟩ := m; intro b hb; simp [foot] at hb; subst hb; exact ⟨_, e⟩
  | dkf o vs kvs => intro b hb; simp [foot] at hb; subst hb; exact ⟨_, m.1⟩
  | kt ks => intro b hb; simp [foot] at hb; subst hb; exact ⟨_, m⟩
  | tape b => exact MOk.there (K := K) (p := (a, .tape b)) m
/-! ### what is known -/
/-- the store S is as told, and F may be read -/
structure OkH (K : PySem.W.Frag) (F : Sto) (H : Hp) (S : Sto) : Prop where
  sto : ∀ p ∈ S, MOk K H p
  nd : (feet S).Nodup
  rdo : ∀ p ∈ F, MRd K H p ∧ ∀ a ∈ foot p, a ∉ feet S
abbrev Rho := List (Option T)
structure Ok (K : PySem.W.Frag) (F : Sto) (σ : St) (H : Hp) (r : Rho) (S : Sto) : Prop extends OkH K F H S where
  len : r.length = σ.length
  loc : ∀ (i : Nat) (t : T), r[i]? = some (some t) → ∃ v, σ[i]? = some (some v) ∧ TR K H v t
/-- what may be read -/
def Rdb (F : Sto) (S : Sto) (p : Addr × MO) : Prop := p ∈ S ∨ p ∈ F
theorem OkH.read {K : PySem.W.Frag} {F : Sto} {H : Hp} {S : Sto} (ok : OkH K F H S) {p : Addr × MO} (h : Rdb F S p) : MRd K H p := by
  rcases h with h | h
  · exact (ok.sto p h).rd
  · exact (ok.rdo p h).1
/-- a step: all stays but the store; what is owned was owned, or is new -/
structure Stp (H : Hp) (S : Sto) (H' : Hp) (S' : Sto) : Prop where
  at_ : ∀ a o, (a ∉ feet S ∨ Imm o) → H a = some o → H' a = some o
  fre : ∀ a, H' a = none → H a = none
  own : ∀ a ∈ feet S', a ∈ feet S ∨ H a = none
theorem Stp.refl (H : Hp) (S : Sto) : Stp H S H S := ⟨fun _ _ _ h => h, fun _ h => h, fun _ h => .inl h⟩
theorem Stp.trans {H H1 H2 : Hp} {S S1 S2 : Sto} (a : Stp H S H1 S1) (b : Stp H1 S1 H2 S2) : Stp H S H2 S2 where
  at_ := fun x o i h => b.at_ x o (by
    rcases i with i | i
    · refine .inl fun hm => ?_
      rcases a.own x hm with q | q
      · exact i q
      · rw [q] at h; cases h
    · exact .inr i) (a.at_ x o i h)
  fre := fun x h => a.fre x (b.fre x h)
  own := fun x h => by
    rcases b.own x h with q | q
    · exact a.own x q
    · exact .inr (a.fre x q)
theorem Stp.toI {H H' : Hp} {S S' : Sto} (k : Stp H S H' S') : KeepI H H' := fun a o i h => k.at_ a o (.inr i) h
theorem Stp.new {H : Hp} {S : Sto} {p : Addr} {o : HO} (hp : H p = none) : Stp H S (upd H p o) S :=
  ⟨fun a u _ e => by rw [upd_ne (ne_of_none e hp)]; exact e, fun _ e => upd_none e, fun _ h => .inl h⟩
theorem Stp.put {H : Hp} {S : Sto} {p : Addr} {o : HO} {m : MO} (hp : H p = none) (hf : foot (p, m) = [p]) : Stp H S (upd H p o) ((p, m) :: S) :=
  ⟨fun a u _ e => by rw [upd_ne (ne_of_none e hp)]; exact e, fun _ e => upd_none e, fun a h => by
    have ha' : a ∈ foot (p, m) ++ feet S := h
    rw [hf] at ha'
    rcases List.mem_cons.mp ha' with rfl | ha'
    · exact .inr hp
    · exact .inl ha'⟩
/-! ### readings -/
def WE (X : Cx) (e : Expr) (σ : St) (H : Hp) (Q : VK) : Prop := ∀ (pins : List (Addr × Obj)) (s : Shared), Inv X pins σ H s → wpAny (model X.prog X.w) X.A (eval e X.env) (EP X pins σ Q) X.xe s
def WT (X : Cx) (e : Expr) (σ : St) (H : Hp) (Q : Bool → Hp → Prop) : Prop := ∀ (pins : List (Addr × Obj)) (s : Shared), Inv X pins σ H s → wpAny (model X.prog X.w) X.A (isTrue e X.env (eval e X.env)) (TP X pins σ Q) X.xe s
def WA (X : Cx) (es : List Expr) (σ : St) (H : Hp) (Q : List V → Hp → Prop) : Prop := ∀ (pos : Pos) (pins : List (Addr × Obj)) (s : Shared), Inv X pins σ H s → wpAny (model X.prog X.w) X.A (spliced (backTo pos (starEach es X.env))) (AP X pins σ Q) X.xe s
def WS (X : Cx) (sts : List Stmt) (D : Ends) (σ : St) (H : Hp) : Prop := ∀ (pins : List (Addr × Obj)) (s : Shared), Inv X pins σ H s → wpAny (model X.prog X.w) X.A (execs sts X.env) (SP X pins D) X.xe s
def WS1 (X : Cx) (st : Stmt) (D : Ends) (σ : St) (H : Hp) : Prop := ∀ (pins : List (Addr × Obj)) (s : Shared), Inv X pins σ H s → wpAny (model X.prog X.w) X.A (exec st X.env) (SP X pins D) X.xe s
theorem peW {X : Cx} {e : Expr} : PE X e (WE X e) := ⟨fun pins s σ H Q I h => h pins s I⟩
theorem ptW {X : Cx} {e : Expr} : PT X e (WT X e) := ⟨fun pins s σ H Q I h => h pins s I⟩
theorem paW {X : Cx} {es : List Expr} : PA X es (WA X es) := ⟨fun pos pins s σ H Q I h => h pos pins s I⟩
theorem psW {X : Cx} {sts : List Stmt} : PSs X sts (WS X sts) := ⟨fun pins s σ H D I h => h pins s I⟩
theorem ps1 {X : Cx} {st : Stmt} : PS X st (WS1 X st) := ⟨fun pins s σ H D I h => h pins s I⟩
theorem we_of {X : Cx} {e : Expr} {t : TE} (h : PE X e t) {σ : St} {H : Hp} {Q : VK} (q : t σ H Q) : WE X e σ H Q := fun pins s I => h.run pins s σ H Q I q
theorem wt_of {X : Cx} {e : Expr} {t : TT} (h : PT X e t) {σ : St} {H : Hp} {Q : Bool → Hp → Prop} (q : t σ H Q) : WT X e σ H Q := fun pins s I => h.run pins s σ H Q I q
theorem wa_of {X : Cx} {es : List Expr} {t : TA} (h : PA X es t) {σ : St} {H : Hp} {Q : List V → Hp → Prop} (q : t σ H Q) : WA X es σ H Q := fun pos pins s I => h.run pos pins s σ H Q I q
theorem ws_of {X : Cx} {sts : List Stmt} {t : TS} (h : PSs X sts t) {σ : St} {H : Hp} {D : Ends} (q : t D σ H) : WS X sts D σ H := fun pins s I => h.run pins s σ H D I q
theorem ws1_of {X : Cx} {st : Stmt} {t : TS} (h : PS X st t) {σ : St} {H : Hp} {D : Ends} (q : t D σ H) : WS1 X st D σ H := fun pins s I => h.run pins s σ H D I q
/-- what an expression is to lead to -/
def CoE (K : PySem.W.Frag) (F : Sto) (σ : St) (H : Hp) (r : Rho) (S : Sto) (k : T → Sto → Prop) (Q : VK) : Prop := ∀ v H' t S', Stp H S H' S' → Ok K F σ H' r S' → TR K H' v t → k t S' → Q v H'
def CoT (K : PySem.W.Frag) (F : Sto) (σ : St) (H : Hp) (r : Rho) (S : Sto) (k : Bool → Sto → Prop) (Q : Bool → Hp → Prop) : Prop := ∀ b H' S', Stp H S H' S' → Ok K F σ H' r S' → k b S' → Q b H'
def CoA (K : PySem.W.Frag) (F : Sto) (σ : St) (H : Hp) (r : Rho) (S : Sto) (k : List T → Sto → Prop) (Q : List V → Hp → Prop) : Prop := ∀ vs H' ts S', Stp H S H' S' → Ok K F σ H' r S' → TRs K H' vs ts → k ts S' → Q vs H'
def ew (F : Sto) (X : Cx) (e : Expr) (r : Rho) (S : Sto) (k : T → Sto → Prop) : Prop := ∀ σ H Q, Ok X.K F σ H r S → CoE X.K F σ H r S k Q → WE X e σ H Q
def tw (F : Sto) (X : Cx) (e : Expr) (r : Rho) (S : Sto) (k : Bool → Sto → Prop) : Prop := ∀ σ H Q, Ok X.K F σ H r S → CoT X.K F σ H r S k Q → WT X e σ H Q
def aw (F : Sto) (X : Cx) (es : List Expr) (r : Rho) (S : Sto) (k : List T → Sto → Prop) : Prop := ∀ σ H Q, Ok X.K F σ H r S → CoA X.K F σ H r S k Q → WA X es σ H Q
/-- what a block is to lead to -/
structure KE where
  nx : Rho → Sto → Prop
  rt : T → Sto → Prop
  bk : Rho → Sto → Prop := fun _ _ => False
  ct : Rho → Sto → Prop := fun _ _ => False
structure CoS (K : PySem.W.Frag) (F : Sto) (H : Hp) (S : Sto) (k : KE) (D : Ends) : Prop where
  nx : ∀ σ' H' r' S', Stp H S H' S' → Ok K F σ' H' r' S' → k.nx r' S' → D.nx σ' H'
  rt : ∀ v H' t S', Stp H S H' S' → OkH K F H' S' → TR K H' v t → k.rt t S' → D.rt v H'
  bk : ∀ σ' H' r' S', Stp H S H' S' → Ok K F σ' H' r' S' → k.bk r' S' → D.bk σ' H'
  ct : ∀ σ' H' r' S', Stp H S H' S' → Ok K F σ' H' r' S' → k.ct r' S' → D.ct σ' H'
def sw (F : Sto) (X : Cx) (sts : List Stmt) (r : Rho) (S : Sto) (k : KE) : Prop := ∀ σ H D, Ok X.K F σ H r S → CoS X.K F H S k D → WS X sts D σ H
def s1w (F : Sto) (X : Cx) (st : Stmt) (r : Rho) (S : Sto) (k : KE) : Prop := ∀ σ H D, Ok X.K F σ H r S → CoS X.K F H S k D → WS1 X st D σ H
section
variable {K : PySem.W.Frag} {F : Sto} {X : Cx} {σ : St} {H H' : Hp} {r : Rho} {S S' : Sto}
theorem CoE.mono {k : T → Sto → Prop} {Q : VK} (c : CoE K F σ H r S k Q) (e : Stp H S H' S') : CoE K F σ H' r S' k Q := fun v H2 t S' kp ok tr q => c v H2 t S' (e.trans kp) ok tr q
theorem CoA.mono {k : List T → Sto → Prop} {Q : List V → Hp → Prop} (c : CoA K F σ H r S k Q) (e : Stp H S H' S') : CoA K F σ H' r S' k Q := fun v H2 t S' kp ok tr q => c v H2 t S' (e.trans kp) ok tr q
theorem CoT.mono {k : Bool → Sto → Prop} {Q : Bool → Hp → Prop} (c : CoT K F σ H r S k Q) (e : Stp H S H' S') : CoT K F σ H' r S' k Q := fun v H2 S' kp ok q => c v H2 S' (e.trans kp) ok q
theorem CoS.mono {k : KE} {D : Ends} (c : CoS K F H S k D) (e : Stp H S H' S') : CoS K F H' S' k D :=
  ⟨fun σ' H2 r' S' kp => c.nx σ' H2 r' S' (e.trans kp), fun v H2 t S' kp => c.rt v H2 t S' (e.trans kp), fun σ' H2 r' S' kp => c.bk σ' H2 r' S' (e.trans kp), fun σ' H2 r' S' kp => c.ct σ' H2 r' S' (e.trans kp)⟩
theorem feet_mem {S : Sto} {a : Addr} (h : a ∈ feet S) : ∃ q ∈ S, a ∈ foot q := List.mem_flatMap.mp h
theorem feet_of {S : Sto} {q : Addr × MO} {a : Addr} (hq : q ∈ S) (h : a ∈ foot q) : a ∈ feet S := List.mem_flatMap.mpr ⟨q, hq, h⟩
theorem OkH.there (ok : OkH K F H S) {a : Addr} (h : a ∈ feet S) : ∃ o, H a = some o := by
  obtain ⟨q, hq, ha⟩ := feet_mem h
  exact (ok.sto q hq).there a ha
theorem OkH.fresh {p : Addr} (ok : OkH K F H S) (hp : H p = none) : p ∉ feet S := fun h => by
  obtain ⟨o, e⟩ := ok.there h
  rw [hp] at e; cases e
/-- what may be read stays so over a step -/
theorem OkH.rdo' (ok : OkH K F H S) (st : Stp H S H' S') : ∀ p ∈ F, MRd K H' p ∧ ∀ a ∈ foot p, a ∉ feet S' := fun p hp => by
  obtain ⟨m, f⟩ := ok.rdo p hp
  refine ⟨m.keep st.toI fun a ha o e => st.at_ a o (.inl (f a ha)) e, fun a ha hs => ?_⟩
  rcases st.own a hs with q | q
  · exact f a ha q
  · obtain ⟨o, e⟩ := m.there a ha
    rw [q] at e; cases e
theorem OkH.new {p : Addr} {o : HO} (ok : OkH K F H S) (hp : H p = none) : OkH K F (upd H p o) S :=
  ⟨fun q hq => (ok.sto q hq).keep (.new hp) fun a ha u e => by rw [upd_ne (ne_of_none e hp)]; exact e, ok.nd, ok.rdo' (.new hp)⟩
theorem Ok.new {p : Addr} {o : HO} (ok : Ok K F σ H r S) (hp : H p = none) : Ok K F σ (upd H p o) r S :=
  ⟨ok.toOkH.new hp, ok.len, fun i t e => let ⟨v, h1, h2⟩ := ok.loc i t e; ⟨v, h1, h2.keep (.new hp)⟩⟩
/-- .. and the new object is put to the store -/
theorem OkH.put {p : Addr} {o : HO} (m : MO) (ok : OkH K F H S) (hp : H p = none) (hf : foot (p, m) = [p]) (hm : MOk K (upd H p o) (p, m)) : OkH K F (upd H p o) ((p, m) :: S) := by
  have ok1 := ok.new (o := o) hp
  refine ⟨fun q hq => ?_, ?_, ok.rdo' (.put hp hf)⟩
  · rcases List.mem_cons.mp hq with rfl | hq
    · exact hm
    · exact ok1.sto q hq
  · show (foot (p, m) ++ feet S).Nodup
    rw [hf]
    exact List.nodup_cons.mpr ⟨ok.fresh hp, ok.nd⟩
theorem Ok.put {p : Addr} {o : HO} (m : MO) (ok : Ok K F σ H r S) (hp : H p = none) (hf : foot (p, m) = [p]) (hm : MOk K (upd H p o) (p, m)) : Ok K F σ (upd H p o) r ((p, m) :: S) :=
  ⟨ok.toOkH.put m hp hf hm, ok.len, (ok.new (o := o) hp).loc⟩
/-- an object of the store is changed -/
theorem feet_mid {Sa Sb : Sto} {p : Addr × MO} : feet (Sa ++ p :: Sb) = feet Sa ++ (foot p ++ feet Sb) := by
  unfold feet
  rw [List.flatMap_append, List.flatMap_cons]
theorem Stp.mut {Sa Sb : Sto} {p : Addr} {m m' : MO} {u o : HO} (hf : foot (p, m) = [p]) (hf' : foot (p, m') = [p]) (hu : H p = some u) (hi : ¬ Imm u) : Stp H (Sa ++ (p, m) :: Sb) (upd H p o) (Sa ++ (p, m') :: Sb) where
  at_ := fun a w i e => by
    by_cases q : a = p
    · subst q
      rcases i with i | i
      · exact absurd (by rw [feet_mid, hf]; simp) i
      · rw [hu] at e; cases e; exact absurd i hi
    · rw [upd_ne q]; exact e
  fre := fun _ e => upd_none e
  own := fun a h => by rw [feet_mid, hf'] at h; rw [feet_mid, hf]; exact .inl h
theorem OkH.mut {Sa Sb : Sto} {p : Addr} {m m' : MO} {u o : HO} (ok : OkH K F H (Sa ++ (p, m) :: Sb)) (hf : foot (p, m) = [p]) (hf' : foot (p, m') = [p]) (hu : H p = some u) (hi : ¬ Imm u) (hm : MOk K (upd H p o) (p, m')) :
    OkH K F (upd H p o) (Sa ++ (p, m') :: Sb) := by
  have nd := ok.nd
  rw [feet_mid, hf] at nd
  have na : ∀ a, a ∈ feet Sa ∨ a ∈ feet Sb → a ≠ p := fun a h e => by
    subst e
    have h2 := List.nodup_append.mp nd
    rcases h with h | h
    · exact h2.2.2 a h a (by simp) rfl
    · exact (List.nodup_cons.mp h2.2.1).1 h
  refine ⟨fun q hq => ?_, ?_, ok.rdo' (.mut hf hf' hu hi)⟩
  · have keep : ∀ q, q ∈ Sa ++ (p, m) :: Sb → (∀ a ∈ foot q, a ≠ p) → MOk K (upd H p o) q := fun q hq hne => (ok.sto q hq).keep (.mut hu hi) fun a ha w e => by rw [upd_ne (hne a ha)]; exact e
    rcases List.mem_append.mp hq with h | h
    · exact keep q (List.mem_append_left _ h) fun a ha => na a (.inl (feet_of h ha))
    · rcases List.mem_cons.mp h with rfl | h
      · exact hm
      · exact keep q (List.mem_append_right _ (List.mem_cons_of_mem _ h)) fun a ha => na a (.inr (feet_of h ha))
  · rw [feet_mid, hf']
    exact nd
theorem Ok.mut {Sa Sb : Sto} {p : Addr} {m : MO} (m' : MO) {u o : HO} (ok : Ok K F σ H r (Sa ++ (p, m) :: Sb)) (hf : foot (p, m) = [p]) (hf' : foot (p, m') = [p]) (hu : H p = some u) (hi : ¬ Imm u) (hm : MOk K (upd H p o) (p, m')) :
    Ok K F σ (upd H p o) r (Sa ++ (p, m') :: Sb) :=
  ⟨ok.toOkH.mut hf hf' hu hi hm, ok.len, fun i t e => let ⟨v, h1, h2⟩ := ok.loc i t e; ⟨v, h1, h2.keep (.mut hu hi)⟩⟩
/-- a slot is stored -/
theorem Ok.set {i : Nat} {v : V} {t : T} (ok : Ok K F σ H r S) (tr : TR K H v t) : Ok K F (σ.set i (some v)) H (r.set i (some t)) S :=
  ⟨ok.toOkH, by rw [List.length_set, List.length_set, ok.len], fun j u e => by
    by_cases q : i = j
    · subst q
      by_cases hl : i < r.length
      · rw [List.getElem?_set_self hl] at e
        cases e
        exact ⟨v, by rw [List.getElem?_set_self (by rw [← ok.len]; exact hl)], tr⟩
      · rw [List.getElem?_eq_none (by simpa using hl)] at e
        cases e
    · rw [List.getElem?_set_ne q] at e
      obtain ⟨w, h1, h2⟩ := ok.loc j u e
      exact ⟨w, by rw [List.getElem?_set_ne q]; exact h1, h2⟩⟩
end
end PT
set_option Elab.async false
set_option linter.all false
set_option maxRecDepth 100000
set_option maxHeartbeats 2000000
set_option autoImplicit false
namespace PT
open PySem L2
section
variable {F : Sto} {X : Cx} {r : Rho} {S : Sto} {k : T → Sto → Prop} {pos : Pos}
theorem ew_var {i : Nat} {x : Str} {t : T} (hi : r[i]? = some (some t)) (hk : k t S) (hN : X.N[i]? = some x := by rfl) (hv : Vis X.env.scope x := by first | exact Or.inl rfl | exact Or.inr (Or.inl rfl) | exact Or.inr (Or.inr rfl))
    (hd : (x == ("__debug__" : Str)) = false := by decide) (hcd : (x == ("__classdict__" : Str)) = false := by decide) : ew F X (.Name x pos) r S k := by
  intro σ H Q ok c
  obtain ⟨v, e, tr⟩ := ok.loc i t hi
  exact we_of (pe_var hN hv hd hcd) ⟨v, e, c v H t S (.refl H S) ok tr hk⟩
theorem ew_int {i : Int} {j} (hk : k (.int i) S) : ew F X (.Constant (.int i) j pos) r S k := fun σ H Q ok c => we_of pe_int (c _ H _ S (.refl H S) ok (.int i) hk)
theorem ew_str {x : Str} {j} (hk : k (.str x) S) : ew F X (.Constant (.str x) j pos) r S k := fun σ H Q ok c => we_of pe_str (c _ H _ S (.refl H S) ok (.str x) hk)
theorem ew_bl {b : Bool} {j} (hk : k (.bl b) S) : ew F X (.Constant (.bool b) j pos) r S k := fun σ H Q ok c => we_of pe_bl (c _ H _ S (.refl H S) ok (.bl b) hk)
theorem ew_non {j} (hk : k .non S) : ew F X (.Constant .none j pos) r S k := fun σ H Q ok c => we_of pe_non (c _ H _ S (.refl H S) ok .non hk)
/-- a constant of the module -/
theorem ew_glob {x : Str} {v : V} {u : Value} {t : T} (hg : Gl X x) (hm : X.mg x = some u) (rv : RelV v u) (ht : ∀ H, TR X.K H v t) (hk : k t S) (hd : (x == ("__debug__" : Str)) = false := by decide) : ew F X (.Name x pos) r S k :=
  fun σ H Q ok c => we_of (pe_glob hg hm rv hd) (c v H t S (.refl H S) ok (ht H) hk)
/-! ### arguments, displays -/
variable {es : List Expr} {e a b : Expr}
theorem aw_nil {k : List T → Sto → Prop} (hk : k [] S) : aw F X [] r S k := fun σ H Q ok c => wa_of pa_nil (c [] H [] S (.refl H S) ok .nil hk)
theorem aw_cons {k : List T → Sto → Prop} (h : ew F X e r S fun t S1 => aw F X es r S1 fun ts S2 => k (t :: ts) S2) (hs : starEach (e :: es) X.env = (false, eval e X.env) :: starEach es X.env := by rfl) : aw F X (e :: es) r S k := by
  intro σ H Q ok c
  refine wa_of (pa_cons peW paW hs) ?_
  refine h σ H _ ok fun v H1 t S1 k1 ok1 tr h1 => ?_
  exact h1 σ H1 _ ok1 fun vs H2 ts S2 k2 ok2 trs q => c _ H2 _ S2 (k1.trans k2) ok2 (.cons (tr.keep k2.toI) trs) q
theorem ew_tup {x1} (h : aw F X es r S fun ts S1 => ts.length ≤ 100000 ∧ k (.tup ts) S1) : ew F X (.Tuple es x1 pos) r S k := by
  intro σ H Q ok c
  refine we_of (pe_tup paW) ?_
  refine h σ H _ ok fun vs H1 ts S1 k1 ok1 trs q => ⟨Nat.le_trans (by rw [trs.length]; exact q.1) (by decide), fun p hp => ?_⟩
  exact c (.ref p) _ (.tup ts) S1 (k1.trans (.new hp)) (ok1.new hp) (.tup (.inl (.inl upd_same)) (trs.keep (.new hp))) q.2
/-- a new list -/
theorem ew_lst (h : aw F X es r S fun ts S1 => ts.length ≤ 100000 ∧ ∀ p, p ∉ feet S1 → k (.ref p) ((p, .lst ts) :: S1)) : ew F X (.List es pos) r S k := by
  intro σ H Q ok c
  refine we_of (pe_lst paW) ?_
  refine h σ H _ ok fun vs H1 ts S1 k1 ok1 trs q => ⟨Nat.le_trans (by rw [trs.length]; exact q.1) (by decide), fun p hp => ?_⟩
  exact c (.ref p) _ (.ref p) _ (k1.trans (.put hp rfl)) (ok1.put (.lst ts) hp rfl ⟨vs, upd_same, trs.keep (.new hp)⟩) (.ref p) (q.2 p (ok1.fresh hp))
/-- {} -/
theorem ew_dnewK (h : ∀ p, p ∉ feet S → k (.ref p) ((p, .dk []) :: S)) : ew F X (.Dict [] [] pos) r S k := by
  intro σ H Q ok c
  refine we_of pe_dnewK fun p hp => ?_
  exact c (.ref p) _ (.ref p) _ (.put hp rfl) (ok.put (.dk []) hp rfl ⟨[], upd_same, .nil⟩) (.ref p) (h p (ok.fresh hp))
/-! ### operators by values -/
/-- a two-place operation by data -/
def bw (F : Sto) (X : Cx) (f : Value → Value → Sem Value) (ta tb : T) (r : Rho) (S : Sto) (k : T → Sto → Prop) : Prop := ∀ σ H x y Q, Ok X.K F σ H r S → TR X.K H x ta → TR X.K H y tb → CoE X.K F σ H r S k Q →
  ∀ (pins : List (Addr × Obj)) (s : Shared) (v u : Value), Inv X pins σ H s → RelV x v → RelV y u → wpAny (model X.prog X.w) X.A (f v u) (EP X pins σ Q) X.xe s
theorem bw_of {f : Value → Value → Sem Value} {rr : R2} {ta tb : T} (ho : OpR X f rr) (h : ∀ σ H x y Q, Ok X.K F σ H r S → TR X.K H x ta → TR X.K H y tb → CoE X.K F σ H r S k Q → rr x y H Q) : bw F X f ta tb r S k :=
  fun σ H x y Q ok ha hb c pins s v u I rv ru => ho pins s σ H x y v u Q I rv ru (h σ H x y Q ok ha hb c)
theorem ew_bin {op : Operator} (h : ew F X a r S fun ta S1 => ew F X b r S1 fun tb S2 => bw F X (binaryOp op) ta tb r S2 k) : ew F X (.BinOp a op b pos) r S k := by
  intro σ H Q ok c pins s I
  refine wpAny_BinOp (thn (h σ H (fun x H1 => WE X b σ H1 fun y H2 => ∀ pins s v u, Inv X pins σ H2 s → RelV x v → RelV y u → wpAny (model X.prog X.w) X.A (binaryOp op v u) (EP X pins σ Q) X.xe s) ok ?_ pins s I) fun v s1 ⟨x, H1, I1, rx, q1⟩ =>
    thn (q1 pins s1 I1) fun u s2 ⟨y, H2, I2, ry, q2⟩ => q2 pins s2 v u I2 rx ry)
  intro x H1 ta S1 k1 ok1 tr1 hb
  refine hb σ H1 _ ok1 fun y H2 tb S2 k2 ok2 tr2 hw => ?_
  exact fun pins s v u I rv ru => hw σ H2 x y Q ok2 (tr1.keep k2.toI) tr2 (c.mono (k1.trans k2)) pins s v u I rv ru
theorem ew_cmp {op : CmpOp} (h : ew F X a r S fun ta S1 => ew F X b r S1 fun tb S2 => bw F X (compareOp op) ta tb r S2 k) (hm : behindInMarks op b = false := by rfl) : ew F X (.Compare a [op] [b] pos) r S k := by
  intro σ H Q ok c pins s I
  refine wpAny_Compare1 (thn (h σ H (fun x H1 => WE X b σ H1 fun y H2 => ∀ pins s v u, Inv X pins σ H2 s → RelV x v → RelV y u → wpAny (model X.prog X.w) X.A (compareOp op v u) (EP X pins σ Q) X.xe s) ok ?_ pins s I) fun v s1 ⟨x, H1, I1, rx, q1⟩ =>
    thn (q1 pins s1 I1) fun u s2 ⟨y, H2, I2, ry, q2⟩ => q2 pins s2 v u I2 rx ry) hm
  intro x H1 ta S1 k1 ok1 tr1 hb
  refine hb σ H1 _ ok1 fun y H2 tb S2 k2 ok2 tr2 hw => ?_
  exact fun pins s v u I rv ru => hw σ H2 x y Q ok2 (tr1.keep k2.toI) tr2 (c.mono (k1.trans k2)) pins s v u I rv ru
/-- a comparison as a test -/
theorem tw_cmp {op : CmpOp} {k : Bool → Sto → Prop} (h : ew F X a r S fun ta S1 => ew F X b r S1 fun tb S2 => bw F X (compareOp op) ta tb r S2 fun t S3 => ∃ c, t = .bl c ∧ k c S3) (hm : behindInMarks op b = false := by rfl) : tw F X (.Compare a [op] [b] pos) r S k := by
  intro σ H Q ok c pins s I
  refine wpAny_isTrue_Compare1 (thn (h σ H (fun x H1 => WE X b σ H1 fun y H2 => ∀ pins s v u, Inv X pins σ H2 s → RelV x v → RelV y u → wpAny (model X.prog X.w) X.A (compareOp op v u) (EP X pins σ (fun z H3 => ∃ c, z = .bl c ∧ Q c H3)) X.xe s) ok ?_ pins s I) fun v s1 ⟨x, H1, I1, rx, q1⟩ =>
    thn (q1 pins s1 I1) fun u s2 ⟨y, H2, I2, ry, q2⟩ => thn (q2 pins s2 v u I2 rx ry) fun cv s3 ⟨z, H3, I3, rz, d, e, q3⟩ => ?_) hm
  · intro x H1 ta S1 k1 ok1 tr1 hb
    refine hb σ H1 _ ok1 fun y H2 tb S2 k2 ok2 tr2 hw => ?_
    refine fun pins s v u I rv ru => hw σ H2 x y _ ok2 (tr1.keep k2.toI) tr2 (fun z H3 t S3 k3 ok3 tr3 q3 => ?_) pins s v u I rv ru
    obtain ⟨d, e, q⟩ := q3
    subst e
    exact ⟨d, tr3.bl_inv, c d H3 S3 ((k1.trans k2).trans k3) ok3 q⟩
  · subst e
    cases rz
    exact wpAny_truthy_bool ⟨H3, I3, q3⟩
end
section
variable {F : Sto} {X : Cx} {r : Rho} {S : Sto} {k : T → Sto → Prop}
theorem bw_I0 {f : Value → Value → Sem Value} {g : Int → Int → V} {t : Int → Int → T} {i j : Int} (ho : OpR X f (rI0 g)) (hg : ∀ H, TR X.K H (g i j) (t i j)) (hk : k (t i j) S) : bw F X f (.int i) (.int j) r S k :=
  bw_of ho fun σ H x y Q ok ha hb c => ⟨i, j, ha.int_inv, hb.int_inv, c _ H _ S (.refl H S) ok (hg H) hk⟩
theorem bw_add {i j : Int} (hk : k (.int (i + j)) S) : bw F X (binaryOp .Add) (.int i) (.int j) r S k := bw_I0 (t := fun i j => .int (i + j)) op_add (fun _ => .int _) hk
theorem bw_sub {i j : Int} (hk : k (.int (i - j)) S) : bw F X (binaryOp .Sub) (.int i) (.int j) r S k := bw_I0 (t := fun i j => .int (i - j)) op_sub (fun _ => .int _) hk
theorem bw_lt {i j : Int} (hk : k (.bl (decide (i < j))) S) : bw F X (compareOp .Lt) (.int i) (.int j) r S k := bw_I0 (t := fun i j => .bl (decide (i < j))) op_lt (fun _ => .bl _) hk
theorem bw_gt {i j : Int} (hk : k (.bl (decide (i > j))) S) : bw F X (compareOp .Gt) (.int i) (.int j) r S k := bw_I0 (t := fun i j => .bl (decide (i > j))) op_gt (fun _ => .bl _) hk
theorem bw_mul {i j : Int} (h : (-(2 ^ 64) < i ∧ i < 2 ^ 64) ∨ (-(2 ^ 64) < j ∧ j < 2 ^ 64)) (hk : k (.int (i * j)) S) : bw F X (binaryOp .Mult) (.int i) (.int j) r S k :=
  bw_of op_mul fun σ H x y Q ok ha hb c => ⟨i, j, ha.int_inv, hb.int_inv, h, c _ H _ S (.refl H S) ok (.int _) hk⟩
theorem bw_fdiv {i j : Int} (h : j ≠ 0 ∧ j.natAbs < 1073741824) (hk : k (.int (i.fdiv j)) S) : bw F X (binaryOp .FloorDiv) (.int i) (.int j) r S k :=
  bw_of op_fdivN fun σ H x y Q ok ha hb c => ⟨i, j, ha.int_inv, hb.int_inv, h, c _ H _ S (.refl H S) ok (.int _) hk⟩
theorem bw_mod {i j : Int} (h : j ≠ 0) (hk : k (.int (i.fmod j)) S) : bw F X (binaryOp .Mod) (.int i) (.int j) r S k :=
  bw_of op_modN fun σ H x y Q ok ha hb c => ⟨i, j, ha.int_inv, hb.int_inv, h, c _ H _ S (.refl H S) ok (.int _) hk⟩
theorem bw_cats {x y : Str} (h : x.length + y.length ≤ 100000) (hk : k (.str (x ++ y)) S) : bw F X (binaryOp .Add) (.str x) (.str y) r S k :=
  bw_of op_add_str fun σ H v w Q ok ha hb c => ⟨x, y, ha.str_inv, hb.str_inv, Nat.le_trans h (by decide), c _ H _ S (.refl H S) ok (.str _) hk⟩
/-- scalars that are flat -/
def T.scal : T → T → Bool
  | .non, .non => true | .non, .int _ => true | .int _, .non => true | .non, .bl _ => true | .bl _, .non => true | .non, .str _ => true | .str _, .non => true
  | .int _, .int _ => true | .bl _, .bl _ => true | .str _, .str _ => true
  | .int _, .str _ => true | .str _, .int _ => true | .bl _, .str _ => true | .str _, .bl _ => true
  | _, _ => false
def T.sEq : T → T → Bool
  | .non, .non => true
  | .int i, .int j => decide (i = j)
  | .bl i, .bl j => decide (i = j)
  | .str i, .str j => decide (i = j)
  | _, _ => false
theorem scal_tr {K : PySem.W.Frag} {H : Hp} {x y : V} {ta tb : T} (ha : TR K H x ta) (hb : TR K H y tb) (h : T.scal ta tb = true) : scal x y = true ∧ decide (x = y) = T.sEq ta tb := by
  cases ha <;> cases hb <;> simp_all [T.scal, scal, T.sEq]
theorem bw_eqs {ta tb : T} (h : T.scal ta tb = true) (hk : k (.bl (T.sEq ta tb)) S) : bw F X (compareOp .Eq) ta tb r S k :=
  bw_of op_eq fun σ H x y Q ok ha hb c => ⟨(scal_tr ha hb h).1, by rw [(scal_tr ha hb h).2]; exact c _ H _ S (.refl H S) ok (.bl _) hk⟩
theorem bw_nes {ta tb : T} (h : T.scal ta tb = true) (hk : k (.bl (!T.sEq ta tb)) S) : bw F X (compareOp .NotEq) ta tb r S k :=
  bw_of op_ne fun σ H x y Q ok ha hb c => ⟨(scal_tr ha hb h).1, by rw [(scal_tr ha hb h).2]; exact c _ H _ S (.refl H S) ok (.bl _) hk⟩
/-! data at any depth -/
mutual
def T.py : T → Option PyData
  | .non => some .none
  | .bl b => some (.bool b)
  | .int i => some (.int i)
  | .str x => some (.str x)
  | .ref _ => none
  | .ty _ => none
  | .kt _ => none
  | .tup ts => (T.pys ts).map .tuple
def T.pys : List T → Option (List PyData)
  | [] => some []
  | t :: ts => match T.py t, T.pys ts with
    | some d, some ds => some (d :: ds)
    | _, _ => none
end
mutual
theorem TR.dp {K : PySem.W.Frag} {H : Hp} : ∀ {v : V} {t : T} {d : PyData}, TR K H v t → T.py t = some d → Dp K H v d
  | _, _, _, .non, e => by simp [T.py] at e; subst e; exact .non
  | _, _, _, .bl b, e => by simp [T.py] at e; subst e; exact .bl b
  | _, _, _, .int b, e => by simp [T.py] at e; subst e; exact .int b
  | _, _, _, .str b, e => by simp [T.py] at e; subst e; exact .str b
  | _, _, _, .ref _, e => by simp [T.py] at e
  | _, _, _, .ty _, e => by simp [T.py] at e
  | _, _, _, .kt _, e => by simp [T.py] at e
  | _, _, _, .tup (ts := ts) s r, e => by
    rw [T.py] at e
    obtain ⟨ds, e1, e2⟩ := Option.map_eq_some_iff.mp e
    subst e2
    exact .tup s (TRs.dp r e1)
theorem TRs.dp {K : PySem.W.Frag} {H : Hp} : ∀ {vs : List V} {ts : List T} {ds : List PyData}, TRs K H vs ts → T.pys ts = some ds → DpAll K H vs ds
  | _, _, _, .nil, e => by simp [T.pys] at e; subst e; exact .nil
  | _, _, _, .cons (t := t) (ts := ts) r q, e => by
    rw [T.pys] at e
    cases h1 : T.py t with
    | none => rw [h1] at e; cases e
    | some d =>
      cases h2 : T.pys ts with
      | none => rw [h1, h2] at e; cases e
      | some es =>
        rw [h1, h2] at e
        cases e
        exact .cons (TR.dp r h1) (TRs.dp q h2)
end
/-- data that may be compared, and whether it is equal -/
def EqT (ta tb : T) (b : Bool) : Prop := ∃ d e, T.py ta = some d ∧ T.py tb = some e ∧ SeqAt.shaped d = true ∧ SeqAt.shaped e = true ∧ PyData.eqv d e = b
theorem bw_eqd {ta tb : T} {b : Bool} (hu : X.A.units + 64 < cLine) (h : EqT ta tb b) (hk : k (.bl b) S) : bw F X (compareOp .Eq) ta tb r S k :=
  bw_of (op_eqD hu) fun σ H x y Q ok ha hb c => by
    obtain ⟨d, e, h1, h2, h3, h4, h5⟩ := h
    subst h5
    exact ⟨d, e, ha.dp h1, hb.dp h2, h3, h4, c _ H _ S (.refl H S) ok (.bl _) hk⟩
theorem bw_ned {ta tb : T} {b : Bool} (hu : X.A.units + 64 < cLine) (h : EqT ta tb b) (hk : k (.bl (!b)) S) : bw F X (compareOp .NotEq) ta tb r S k :=
  bw_of (op_neD hu) fun σ H x y Q ok ha hb c => by
    obtain ⟨d, e, h1, h2, h3, h4, h5⟩ := h
    subst h5
    exact ⟨d, e, ha.dp h1, hb.dp h2, h3, h4, c _ H _ S (.refl H S) ok (.bl _) hk⟩
/-- x in a tuple of flat items -/
def T.flat : T → Bool | .non => true | .bl _ => true | .int _ => true | .str _ => true | _ => false
def T.inT (x : T) (xs : List T) : Bool := xs.any fun y => T.sEq y x
theorem flat_tr {K : PySem.W.Frag} {H : Hp} {x : V} {t : T} (h : TR K H x t) (hf : T.flat t = true) : flatV x = true := by
  cases h <;> simp_all [T.flat, flatV]
theorem flats_tr {K : PySem.W.Frag} {H : Hp} : ∀ {xs : List V} {ts : List T}, TRs K H xs ts → ts.all T.flat = true → xs.all flatV = true
  | _, _, .nil, _ => rfl
  | _, _, .cons r q, h => by
    rw [List.all_cons, Bool.and_eq_true] at h ⊢
    exact ⟨flat_tr r h.1, flats_tr q h.2⟩
/-- flat, and not a bool beside an int -/
def T.clr (x y : T) : Bool := T.flat y && !(match y, x with | .bl _, .int _ => true | .int _, .bl _ => true | _, _ => false)
theorem T.clrs {x : T} {xs : List T} (h : xs.all (T.clr x) = true) : xs.all T.flat = true := by
  rw [List.all_eq_true] at h ⊢
  intro y hy
  have := h y hy
  unfold T.clr at this
  rw [Bool.and_eq_true] at this
  exact this.1
theorem T.inT_tr {K : PySem.W.Frag} {H : Hp} {x : V} {t : T} (hx : TR K H x t) : ∀ {xs : List V} {ts : List T}, TRs K H xs ts → ts.all (T.clr t) = true → inV x xs = T.inT t ts
  | _, _, .nil, _ => rfl
  | _, _, .cons (v := v) (t := y) r q, h => by
    rw [List.all_cons, Bool.and_eq_true] at h
    have ih := T.inT_tr hx q h.2
    unfold inV T.inT at ih ⊢
    rw [List.any_cons, List.any_cons, ih]
    congr 1
    cases r <;> cases hx <;> simp_all [T.flat, T.clr, eqV, T.sEq, Bool.beq_eq_decide_eq]
/-- x in (.., ..), a tuple of flat items -/
theorem bw_inT {x : T} {xs : List T} (hx : T.flat x = true) (hf : xs.all (T.clr x) = true) (hk : k (.bl (T.inT x xs)) S) : bw F X (compareOp .In) x (.tup xs) r S k :=
  bw_of op_in_seq fun σ H v w Q ok ha hb c => by
    obtain ⟨a, vs, e, sq, rs⟩ := hb.tup_inv
    have hfl := T.clrs hf
    refine ⟨a, vs, e, .inr sq, flat_tr ha hx, flats_tr rs hfl, ?_⟩
    rw [if_neg Bool.false_ne_true, T.inT_tr ha rs hf]
    exact c _ H _ S (.refl H S) ok (.bl _) hk
/-- x in [..] -/
theorem bw_inL {x : T} {p : Addr} {xs : List T} (hp : Rdb F S (p, .lst xs)) (hx : T.flat x = true) (hf : xs.all (T.clr x) = true) (hk : k (.bl (T.inT x xs)) S) : bw F X (compareOp .In) x (.ref p) r S k :=
  bw_of op_in_seq fun σ H v w Q ok ha hb c => by
    obtain ⟨vs, sq, rs⟩ := ok.toOkH.read hp
    have hfl := T.clrs hf
    refine ⟨p, vs, hb.ref_inv, .inl (.inl sq), flat_tr ha hx, flats_tr rs hfl, ?_⟩
    rw [if_neg Bool.false_ne_true, T.inT_tr ha rs hf]
    exact c _ H _ S (.refl H S) ok (.bl _) hk
end
end PT
set_option Elab.async false
set_option linter.all false
set_option maxRecDepth 100000
set_option maxHeartbeats 2000000
set_option autoImplicit false
namespace PT
open PySem L2 PySem.Spec PyProof.Rows
section
variable {F : Sto} {X : Cx} {r : Rho} {S : Sto} {pos : Pos} {e a b c : Expr} {es rest : List Expr}
/-! ### tests -/
theorem tw_val {k : Bool → Sto → Prop} (h : ew F X e r S fun t S1 => ∃ b, t = .bl b ∧ k b S1) (he : ∀ whole, isTrue e X.env whole = (do let v ← whole; standAt e.pos; holding [v] (truthy v)) := by intro _; rfl) : tw F X e r S k := by
  intro σ H Q ok cc
  refine wt_of (pt_val peW he) ?_
  refine h σ H _ ok fun v H1 t S1 k1 ok1 tr q => ?_
  obtain ⟨b, e, q⟩ := q
  subst e
  exact ⟨b, tr.bl_inv, cc b H1 S1 k1 ok1 q⟩
theorem tw_not {k : Bool → Sto → Prop} (h : tw F X e r S fun b S1 => k (!b) S1) : tw F X (.UnaryOp .Not e pos) r S k := fun σ H Q ok cc =>
  wt_of (pt_not ptW) (h σ H _ ok fun b H1 S1 k1 ok1 q => cc (!b) H1 S1 k1 ok1 q)
/-- and, or as tests: a list of tests -/
def WW (X : Cx) (e : Expr) (σ : L2.St) (H : Hp) (Q : Bool → Hp → Prop) : Prop := ∀ (whole : Sem Value) (pins : List (Addr × Obj)) (s : Shared), Inv X pins σ H s → wpAny (model X.prog X.w) X.A (isTrue e X.env whole) (TP X pins σ Q) X.xe s
def ww (F : Sto) (X : Cx) (e : Expr) (r : Rho) (S : Sto) (k : Bool → Sto → Prop) : Prop := ∀ σ H Q, Ok X.K F σ H r S → CoT X.K F σ H r S k Q → WW X e σ H Q
theorem pwW {X : Cx} {e : Expr} : PW X e (WW X e) := ⟨fun wh pins s σ H Q I h => h wh pins s I⟩
theorem tw_ww {k : Bool → Sto → Prop} (h : ww F X e r S k) : tw F X e r S k := fun σ H Q ok cc pins s I => h σ H Q ok cc _ pins s I
theorem ww_and1 {k : Bool → Sto → Prop} (h : tw F X a r S k) : ww F X (.BoolOp .And [a] pos) r S k := fun σ H Q ok cc wh pins s I => (pw_and1 (pos := pos) ptW).run wh pins s σ H Q I (h σ H Q ok cc)
theorem ww_or1 {k : Bool → Sto → Prop} (h : tw F X a r S k) : ww F X (.BoolOp .Or [a] pos) r S k := fun σ H Q ok cc wh pins s I => (pw_or1 (pos := pos) ptW).run wh pins s σ H Q I (h σ H Q ok cc)
theorem ww_and {k : Bool → Sto → Prop} (h : tw F X a r S fun d S1 => (d = true → ww F X (.BoolOp .And (b :: rest) pos) r S1 k) ∧ (d = false → k false S1)) : ww F X (.BoolOp .And (a :: b :: rest) pos) r S k := by
  intro σ H Q ok cc wh pins s I
  refine (pw_and ptW pwW).run wh pins s σ H Q I ?_
  refine h σ H _ ok fun d H1 S1 k1 ok1 q => ?_
  cases d with
  | true => rw [if_pos rfl]; exact q.1 rfl σ H1 Q ok1 (cc.mono k1)
  | false => rw [if_neg Bool.false_ne_true]; exact cc false H1 S1 k1 ok1 (q.2 rfl)
theorem ww_or {k : Bool → Sto → Prop} (h : tw F X a r S fun d S1 => (d = true → k true S1) ∧ (d = false → ww F X (.BoolOp .Or (b :: rest) pos) r S1 k)) : ww F X (.BoolOp .Or (a :: b :: rest) pos) r S k := by
  intro σ H Q ok cc wh pins s I
  refine (pw_or ptW pwW).run wh pins s σ H Q I ?_
  refine h σ H _ ok fun d H1 S1 k1 ok1 q => ?_
  cases d with
  | false => rw [if_neg Bool.false_ne_true]; exact q.2 rfl σ H1 Q ok1 (cc.mono k1)
  | true => rw [if_pos rfl]; exact cc true H1 S1 k1 ok1 (q.1 rfl)
/-- .. as values: bools but for the last -/
theorem ew_one {op} {k : T → Sto → Prop} (h : ew F X a r S k) : ew F X (.BoolOp op [a] pos) r S k := fun σ H Q ok cc => we_of (pe_one peW) (h σ H Q ok cc)
theorem ew_and {k : T → Sto → Prop} (h : ew F X a r S fun t S1 => ∃ d, t = .bl d ∧ (d = true → ew F X (.BoolOp .And (b :: rest) pos) r S1 k) ∧ (d = false → k (.bl false) S1)) : ew F X (.BoolOp .And (a :: b :: rest) pos) r S k := by
  intro σ H Q ok cc
  refine we_of (pe_and peW peW) ?_
  refine h σ H _ ok fun v H1 t S1 k1 ok1 tr q => ?_
  obtain ⟨d, e, q⟩ := q
  subst e
  refine ⟨d, tr.bl_inv, ?_⟩
  cases d with
  | true => rw [if_pos rfl]; exact q.1 rfl σ H1 Q ok1 (cc.mono k1)
  | false => rw [if_neg Bool.false_ne_true]; exact cc _ H1 _ S1 k1 ok1 (.bl false) (q.2 rfl)
theorem ew_or {k : T → Sto → Prop} (h : ew F X a r S fun t S1 => ∃ d, t = .bl d ∧ (d = true → k (.bl true) S1) ∧ (d = false → ew F X (.BoolOp .Or (b :: rest) pos) r S1 k)) : ew F X (.BoolOp .Or (a :: b :: rest) pos) r S k := by
  intro σ H Q ok cc
  refine we_of (pe_or peW peW) ?_
  refine h σ H _ ok fun v H1 t S1 k1 ok1 tr q => ?_
  obtain ⟨d, e, q⟩ := q
  subst e
  refine ⟨d, tr.bl_inv, ?_⟩
  cases d with
  | false => rw [if_neg Bool.false_ne_true]; exact q.2 rfl σ H1 Q ok1 (cc.mono k1)
  | true => rw [if_pos rfl]; exact cc _ H1 _ S1 k1 ok1 (.bl true) (q.1 rfl)
theorem ew_not {k : T → Sto → Prop} (h : ew F X a r S fun t S1 => ∃ d, t = .bl d ∧ k (.bl (!d)) S1) : ew F X (.UnaryOp .Not a pos) r S k := by
  intro σ H Q ok cc
  refine we_of (pe_not peW) ?_
  refine h σ H _ ok fun v H1 t S1 k1 ok1 tr q => ?_
  obtain ⟨d, e, q⟩ := q
  subst e
  exact ⟨d, tr.bl_inv, cc _ H1 _ S1 k1 ok1 (.bl _) q⟩
theorem ew_ifExp {k : T → Sto → Prop} (h : tw F X c r S fun d S1 => (d = true → ew F X a r S1 k) ∧ (d = false → ew F X b r S1 k)) : ew F X (.IfExp c a b pos) r S k := by
  intro σ H Q ok cc
  refine we_of (pe_ifExp ptW peW peW) ?_
  refine h σ H _ ok fun d H1 S1 k1 ok1 q => ?_
  cases d with
  | true => rw [if_pos rfl]; exact q.1 rfl σ H1 Q ok1 (cc.mono k1)
  | false => rw [if_neg Bool.false_ne_true]; exact q.2 rfl σ H1 Q ok1 (cc.mono k1)
/-! ### subscripts -/
def xw (F : Sto) (X : Cx) (value slice : Expr) (ta ti : T) (r : Rho) (S : Sto) (k : T → Sto → Prop) : Prop := ∀ σ H x y Q, Ok X.K F σ H r S → TR X.K H x ta → TR X.K H y ti → CoE X.K F σ H r S k Q →
  ∀ (pins : List (Addr × Obj)) (s : Shared) (v u : Value), Inv X pins σ H s → RelV x v → RelV y u → wpAny (model X.prog X.w) X.A (subscriptTail value slice v u) (EP X pins σ Q) X.xe s
theorem ew_sub {k : T → Sto → Prop} (h : ew F X a r S fun ta S1 => ew F X b r S1 fun tb S2 => xw F X a b ta tb r S2 k) : ew F X (.Subscript a b pos) r S k := by
  intro σ H Q ok cc pins s I
  refine Subscript_ (thn (h σ H (fun x H1 => WE X b σ H1 fun y H2 => ∀ pins s v u, Inv X pins σ H2 s → RelV x v → RelV y u → wpAny (model X.prog X.w) X.A (subscriptTail a b v u) (EP X pins σ Q) X.xe s) ok ?_ pins s I) fun v s1 ⟨x, H1, I1, rx, q1⟩ =>
    thn (q1 pins s1 I1) fun u s2 ⟨y, H2, I2, ry, q2⟩ => q2 pins s2 v u I2 rx ry)
  intro x H1 ta S1 k1 ok1 tr1 hb
  refine hb σ H1 _ ok1 fun y H2 tb S2 k2 ok2 tr2 hw => ?_
  exact fun pins s v u I rv ru => hw σ H2 x y Q ok2 (tr1.keep k2.toI) tr2 (cc.mono (k1.trans k2)) pins s v u I rv ru
theorem xw_of {rr : R2} {value slice : Expr} {ta ti : T} {k : T → Sto → Prop} (hr : IxR X rr) (hs : PlainIx slice) (h : ∀ σ H x y Q, Ok X.K F σ H r S → TR X.K H x ta → TR X.K H y ti → CoE X.K F σ H r S k Q → rr x y H Q) : xw F X value slice ta ti r S k :=
  fun σ H x y Q ok ha hb cc pins s v u I rv ru => hr value slice pins s σ H x y v u Q I rv ru (h σ H x y Q ok ha hb cc) (hs _ _)
theorem atI_len {α β : Type} {xs : List α} {ys : List β} {i : Int} {y : β} (hl : xs.length = ys.length) (h : atI ys i = some y) : ∃ (j : Nat) (x : α), atI xs i = some x ∧ xs[j]? = some x ∧ ys[j]? = some y := by
  unfold atI at h ⊢
  rw [hl]
  cases e : ixN ys.length i with
  | none => rw [e] at h; cases h
  | some j =>
    rw [e] at h
    have h' : ys[j]? = some y := h
    have hj : j < xs.length := by rw [hl]; exact (List.getElem?_eq_some_iff.mp h').1
    refine ⟨j, xs[j], ?_, ?_, h'⟩
    · show xs[j]? = _
      exact List.getElem?_eq_getElem hj
    · exact List.getElem?_eq_getElem hj
theorem xw_tup {value slice : Expr} {ts : List T} {i : Int} {t : T} {k : T → Sto → Prop} (he : atI ts i = some t) (hk : k t S) (hs : PlainIx slice := by exact fun _ _ => rfl) : xw F X value slice (.tup ts) (.int i) r S k :=
  xw_of ix_tup hs fun σ H x y Q ok ha hb cc => by
    obtain ⟨a, vs, e, sq, rs⟩ := ha.tup_inv
    obtain ⟨j, v, h1, h2, h3⟩ := atI_len rs.length he
    obtain ⟨v', h4, tr⟩ := rs.get h3
    rw [h2] at h4
    cases h4
    exact ⟨a, vs, i, v, e, hb.int_inv, sq, h1, cc v H t S (.refl H S) ok tr hk⟩
theorem xw_lst {value slice : Expr} {p : Addr} {ts : List T} {i : Int} {t : T} {k : T → Sto → Prop} (hp : Rdb F S (p, .lst ts)) (he : atI ts i = some t) (hk : k t S) (hs : PlainIx slice := by exact fun _ _ => rfl) : xw F X value slice (.ref p) (.int i) r S k :=
  xw_of ix_list hs fun σ H x y Q ok ha hb cc => by
    obtain ⟨vs, sq, rs⟩ := ok.toOkH.read hp
    obtain ⟨j, v, h1, h2, h3⟩ := atI_len rs.length he
    obtain ⟨v', h4, tr⟩ := rs.get h3
    rw [h2] at h4
    cases h4
    exact ⟨p, vs, i, v, ha.ref_inv, hb.int_inv, .inl sq, h1, cc v H t S (.refl H S) ok tr hk⟩
theorem xw_str {value slice : Expr} {x : Str} {i : Int} {cd : Nat} {k : T → Sto → Prop} (hl : x.length ≤ 100000) (he : atI x.cps.toList i = some cd) (hk : k (.str ⟨#[cd]⟩) S) (hs : PlainIx slice := by exact fun _ _ => rfl) : xw F X value slice (.str x) (.int i) r S k :=
  xw_of ix_str hs fun σ H v y Q ok ha hb cc => ⟨x, i, cd, ha.str_inv, hb.int_inv, Nat.le_trans hl (by decide), he, cc _ H _ S (.refl H S) ok (.str _) hk⟩
/-- d[k] -/
theorem ix_dict (hu : X.A.units + 1 < cLine) : IxR X (fun x y H Q => ∃ a v, x = .ref a ∧ DGet H a y (some v) ∧ Q v H) := by
  intro value slice pins s σ H x y v u Q I rx ry h hs
  obtain ⟨a, w, e, g, q⟩ := h
  subst e
  obtain rfl : v = Value.ref a := rx
  exact tail_any (dict_typeIs I g) PySem.F.slot_dict_getitem.lookup (d_getItem hu I g ry fun w' s3 I3 rw' => ⟨w, H, I3, rw', q⟩) hs
def kT : Key → T
  | .inl i => .int i
  | .inr x => .str x
theorem kT_tr {K : PySem.W.Frag} {H : Hp} {v : V} {kk : Key} (h : TR K H v (kT kk)) : v = kV kk := by
  cases kk with
  | inl i => exact h.int_inv
  | inr x => exact h.str_inv
theorem tr_kV {K : PySem.W.Frag} {H : Hp} (kk : Key) : TR K H (kV kk) (kT kk) := by
  cases kk with
  | inl i => exact .int i
  | inr x => exact .str x
/-- what a list of pairs holds at a key -/
def valT {κ : Type} [DecidableEq κ] (kvs : List (κ × T)) (k : κ) : Option T := (kvs.find? fun kv => decide (kv.1 = k)).map (·.2)
def putT {κ : Type} [DecidableEq κ] (kvs : List (κ × T)) (k : κ) (v : T) : List (κ × T) := if kvs.any fun kv => decide (kv.1 = k) then kvs.map fun kv => if kv.1 = k then (kv.1, v) else kv else kvs ++ [(k, v)]
theorem PKV.val {κ : Type} [DecidableEq κ] {K : PySem.W.Frag} {H : Hp} (kk : κ) : ∀ {vs : List (κ × V)} {ts : List (κ × T)}, PKV K H vs ts → match valT ts kk with | some t => ∃ v, valV vs kk = some v ∧ TR K H v t | none => valV vs kk = none
  | _, _, .nil => rfl
  | (k1, v) :: vs, (k2, t) :: ts, .cons h r => by
    obtain ⟨h1, h2⟩ := h
    have h1' : k1 = k2 := h1
    subst h1'
    have ih := PKV.val kk r
    by_cases q : k1 = kk
    · rw [valV_pos q]
      show match ((List.find? _ ((k1, t) :: ts)).map _ : Option T) with | some t => ∃ w, some v = some w ∧ TR K H w t | none => some v = none
      rw [List.find?_cons_of_pos (by simpa using q)]
      exact ⟨v, rfl, h2⟩
    · rw [valV_neg q]
      have e : valT ((k1, t) :: ts) kk = valT ts kk := by
        unfold valT
        rw [List.find?_cons_of_neg (by simpa using q)]
      rw [e]
      exact ih
theorem PKV.any {κ : Type} [DecidableEq κ] {K : PySem.W.Frag} {H : Hp} (kk : κ) : ∀ {vs : List (κ × V)} {ts : List (κ × T)}, PKV K H vs ts → (vs.any fun kv => decide (kv.1 = kk)) = ts.any fun kv => decide (kv.1 = kk)
  | _, _, .nil => rfl
  | (k1, v) :: vs, (k2, t) :: ts, .cons h r => by
    have h1' : k1 = k2 := h.1
    subst h1'
    rw [List.any_cons, List.any_cons, PKV.any kk r]
theorem PKV.repl {κ : Type} [DecidableEq κ] {K : PySem.W.Frag} {H : Hp} (kk : κ) {w : V} {u : T} (hw : TR K H w u) : ∀ {vs : List (κ × V)} {ts : List (κ × T)}, PKV K H vs ts → PKV K H (vs.map fun kv => if kv.1 = kk then (kv.1, w) else kv) (ts.map fun kv => if kv.1 = kk then (kv.1, u) else kv)
  | _, _, .nil => .nil
  | (k1, v) :: vs, (k2, t) :: ts, .cons h r => by
    have h1' : k1 = k2 := h.1
    subst h1'
    rw [List.map_cons, List.map_cons]
    refine .cons ?_ (PKV.repl kk hw r)
    by_cases q : k1 = kk
    · rw [if_pos q, if_pos q]; exact ⟨rfl, hw⟩
    · rw [if_neg q, if_neg q]; exact ⟨rfl, h.2⟩
theorem PKV.app {κ : Type} {K : PySem.W.Frag} {H : Hp} : ∀ {vs ws : List (κ × V)} {ts us : List (κ × T)}, PKV K H vs ts → PKV K H ws us → PKV K H (vs ++ ws) (ts ++ us)
  | _, _, _, _, .nil, h => h
  | _, _, _, _, .cons r t, h => .cons r (PKV.app t h)
theorem PKV.put {κ : Type} [DecidableEq κ] {K : PySem.W.Frag} {H : Hp} (kk : κ) {w : V} {u : T} (hw : TR K H w u) {vs : List (κ × V)} {ts : List (κ × T)} (h : PKV K H vs ts) : PKV K H (putK vs kk w) (putT ts kk u) := by
  unfold putK putT
  rw [h.any kk]
  split
  · exact h.repl kk hw
  · exact h.app (.cons ⟨rfl, hw⟩ .nil)
theorem xw_dk {value slice : Expr} {p : Addr} {kvs : List (Key × T)} {kk : Key} {t : T} {k : T → Sto → Prop} (hu : X.A.units + 1 < cLine) (hp : Rdb F S (p, .dk kvs)) (he : valT kvs kk = some t) (hk : k t S) (hs : PlainIx slice := by exact fun _ _ => rfl) : xw F X value slice (.ref p) (kT kk) r S k :=
  xw_of (ix_dict hu) hs fun σ H x y Q ok ha hb cc => by
    obtain ⟨vs, rd, pk⟩ := ok.toOkH.read hp
    have hv := pk.val kk
    rw [he] at hv
    obtain ⟨v, h1, h2⟩ := hv
    exact ⟨p, v, ha.ref_inv, .inl ⟨vs, kk, rd, kT_tr hb, h1.symm⟩, cc v H t S (.refl H S) ok h2 hk⟩
/-- k in d -/
theorem bw_inD {p : Addr} {kvs : List (Key × T)} {kk : Key} {k : T → Sto → Prop} (hu : X.A.units + 1 < cLine) (hp : Rdb F S (p, .dk kvs)) (hk : k (.bl (valT kvs kk).isSome) S) : bw F X (compareOp .In) (kT kk) (.ref p) r S k := by
  intro σ H x y Q ok ha hb cc pins s v u I rv ru
  obtain ⟨vs, rd, pk⟩ := ok.toOkH.read hp
  have hv := pk.val kk
  rw [hb.ref_inv] at ru
  obtain rfl : u = Value.ref p := ru
  rw [kT_tr ha] at rv
  have e : (valV vs kk).isSome = (valT kvs kk).isSome := by
    cases q : valT kvs kk with
    | none => rw [q] at hv; rw [hv] <;> rfl
    | some t => rw [q] at hv; obtain ⟨w, h1, h2⟩ := hv; rw [h1]; rfl
  refine d_in hu I (.inl ⟨vs, kk, rd, rfl, rfl⟩) rv fun s' I' => ⟨.bl _, H, I', rfl, ?_⟩
  rw [e]
  exact cc _ H _ S (.refl H S) ok (.bl _) hk
end
end PT
set_option Elab.async false
set_option linter.all false
set_option maxRecDepth 100000
set_option maxHeartbeats 2000000
set_option autoImplicit false
namespace PT
open PySem L2 PySem.Spec PyProof.Rows
section
variable {F : Sto} {X : Cx} {r : Rho} {S : Sto} {pos p2 : Pos} {e a b c : Expr} {es rest : List Expr}
/-! ### slices -/
def ow (F : Sto) (X : Cx) (o : Option Expr) (r : Rho) (S : Sto) (k : Option Int → Sto → Prop) : Prop := match o with
  | none => k none S
  | some e => ew F X e r S fun t S1 => ∃ i, t = .int i ∧ k (some i) S1
def CoO (K : PySem.W.Frag) (F : Sto) (σ : L2.St) (H : Hp) (r : Rho) (S : Sto) (k : Option Int → Sto → Prop) (Q : Option Int → Hp → Prop) : Prop := ∀ o H' S', Stp H S H' S' → Ok K F σ H' r S' → k o S' → Q o H'
def tO (X : Cx) : Option Expr → TO
  | none => tNoPart
  | some e => tPart (WE X e)
theorem poW {o : Option Expr} : PO X o (tO X o) := by
  cases o with
  | none => exact po_none
  | some e => exact po_some peW
theorem ow_run {o : Option Expr} {k : Option Int → Sto → Prop} (h : ow F X o r S k) {σ : L2.St} {H : Hp} {Q : Option Int → Hp → Prop} (ok : Ok X.K F σ H r S) (cc : CoO X.K F σ H r S k Q) : tO X o σ H Q := by
  cases o with
  | none => exact cc none H S (.refl H S) ok h
  | some e =>
    refine h σ H _ ok fun v H1 t S1 k1 ok1 tr q => ?_
    obtain ⟨i, e, q⟩ := q
    subst e
    exact ⟨i, tr.int_inv, cc (some i) H1 S1 k1 ok1 q⟩
/-- x[lo:hi] by values -/
def lw (F : Sto) (X : Cx) (t : T) (lo hi : Option Int) (r : Rho) (S : Sto) (k : T → Sto → Prop) : Prop := ∀ σ H x Q, Ok X.K F σ H r S → TR X.K H x t → CoE X.K F σ H r S k Q →
  ∀ (pins : List (Addr × Obj)) (s : Shared) (v vl vu : Value) (sl : Addr), Inv X pins σ H s → RelV x v → s.heap.IsSliceOf sl vl vu .none → IsPart vl lo → IsPart vu hi →
    ∃ T id, typeLookup (.type T) "__getitem__" = pure (some (.builtin id)) ∧ s.TypeIs v T ∧ wpAny (model X.prog X.w) X.A (getItem v (.ref sl)) (EP X pins σ Q) X.xe s
theorem lw_of {rr : V → Option Int → Option Int → Hp → VK → Prop} {t : T} {lo hi : Option Int} {k : T → Sto → Prop} (hr : SlR X rr) (h : ∀ σ H x Q, Ok X.K F σ H r S → TR X.K H x t → CoE X.K F σ H r S k Q → rr x lo hi H Q) : lw F X t lo hi r S k :=
  fun σ H x Q ok tr cc pins s v vl vu sl I rv hs pl pu => hr pins s σ H x v vl vu lo hi sl Q I rv hs pl pu (h σ H x Q ok tr cc)
theorem ew_slice {lo hi : Option Expr} {k : T → Sto → Prop} (h : ew F X e r S fun t S1 => ow F X lo r S1 fun l S2 => ow F X hi r S2 fun u S3 => lw F X t l u r S3 k) : ew F X (.Subscript e (.Slice lo hi none p2) pos) r S k := by
  intro σ H Q ok cc pins s I
  let R : V → Option Int → Option Int → Hp → Prop := fun x l u H3 => ∀ (pins : List (Addr × Obj)) (s : Shared) (v vl vu : Value) (sl : Addr), Inv X pins σ H3 s → RelV x v → s.heap.IsSliceOf sl vl vu .none → IsPart vl l → IsPart vu u →
    ∃ T id, typeLookup (.type T) "__getitem__" = pure (some (.builtin id)) ∧ s.TypeIs v T ∧ wpAny (model X.prog X.w) X.A (getItem v (.ref sl)) (EP X pins σ Q) X.xe s
  have h1 : WE X e σ H fun x H1 => tO X lo σ H1 fun l H2 => tO X hi σ H2 fun u H3 => R x l u H3 := by
    refine h σ H _ ok fun x H1 t S1 k1 ok1 tr q1 => ?_
    refine ow_run q1 ok1 fun l H2 S2 k2 ok2 q2 => ?_
    refine ow_run q2 ok2 fun u H3 S3 k3 ok3 q3 => ?_
    exact fun pins s v vl vu sl I rv hs pl pu => q3 σ H3 x Q ok3 (tr.keep (k2.trans k3).toI) (cc.mono ((k1.trans k2).trans k3)) pins s v vl vu sl I rv hs pl pu
  refine Subscript_ (thn (h1 pins s I) fun v s1 ⟨x, H1, I1, r1, q1⟩ => ?_)
  refine wpAny_Slice (thn (poW.run pins s1 σ H1 _ I1 q1) fun vl s2 ⟨l, H2, I2, pl, q2⟩ => thn (poW.run pins s2 σ H2 _ I2 q2) fun vu s3 ⟨u, H3, I3, pu, q3⟩ => ?_)
  rw [evalPart_none]
  refine wpAny_pure ?_
  have I4 : Inv X pins σ H3 { s3 with heap := s3.heap.push { cls := .type "slice", data := .fields #[vl, vu, .none] } } := I3.kept (t' := s3.toks) fun b ob q => Heap.get?_push_of_some _ q
  obtain ⟨T, id, hT, ht, hg⟩ := q3 pins { s3 with heap := s3.heap.push { cls := .type "slice", data := .fields #[vl, vu, .none] } } v vl vu s3.heap.objs.size I4 r1 (Heap.IsSliceOf.new ..) pl pu
  show wpAny (model X.prog X.w) X.A (subscriptTail e (.Slice lo hi none p2) v (.ref s3.heap.objs.size)) (EP X pins σ Q) X.xe { s3 with heap := s3.heap.push { cls := .type "slice", data := .fields #[vl, vu, .none] } }
  exact tail_any (ops := [.ref s3.heap.objs.size, v]) ht hT hg (by with_unfolding_all rfl)
def cutT (ts : List T) (lo hi : Option Int) : List T := (ts.drop (HT.sIx ts.length 0 lo)).take (HT.sIx ts.length ts.length hi - HT.sIx ts.length 0 lo)
theorem cutT_tr {K : PySem.W.Frag} {H : Hp} {vs : List V} {ts : List T} (h : TRs K H vs ts) (lo hi : Option Int) : TRs K H (cutV vs lo hi) (cutT ts lo hi) := by
  unfold cutV cutT
  rw [h.length]
  exact (h.drop _).take _
theorem lw_tup {ts : List T} {lo hi : Option Int} {k : T → Sto → Prop} (hk : k (.tup (cutT ts lo hi)) S) : lw F X (.tup ts) lo hi r S k :=
  lw_of sl_tupA fun σ H x Q ok tr cc => by
    obtain ⟨a, vs, e, sq, rs⟩ := tr.tup_inv
    refine ⟨a, vs, e, sq, fun hw => ?_, fun _ p hp => ?_⟩
    · have e1 : cutT ts lo hi = ts := by
        unfold cutT
        rw [rs.length] at hw
        rw [hw.1, hw.2, List.drop_zero, Nat.sub_zero, List.take_length]
      rw [e1] at hk
      exact cc _ H _ S (.refl H S) ok (.tup sq rs) hk
    · exact cc _ _ _ S (.new hp) (ok.new hp) (.tup (.inl (.inl upd_same)) ((cutT_tr rs lo hi).keep (.new hp))) hk
/-! ### built-ins by name -/
def cw (F : Sto) (X : Cx) (f : Value) (ts : List T) (r : Rho) (S : Sto) (k : T → Sto → Prop) : Prop := ∀ σ H xs Q, Ok X.K F σ H r S → TRs X.K H xs ts → CoE X.K F σ H r S k Q →
  ∀ (pins : List (Addr × Obj)) (s : Shared) (us : List Value), Inv X pins σ H s → Vals xs us → wpAny (model X.prog X.w) X.A (call f us) (EP X pins σ Q) X.xe s
theorem cw_of {f : Value} {rr : List V → Hp → VK → Prop} {ts : List T} {k : T → Sto → Prop} (hr : CallR X f rr) (h : ∀ σ H xs Q, Ok X.K F σ H r S → TRs X.K H xs ts → CoE X.K F σ H r S k Q → rr xs H Q) : cw F X f ts r S k :=
  fun σ H xs Q ok trs cc pins s us I rv => hr pins s σ H xs us Q I rv (h σ H xs Q ok trs cc)
theorem ew_callB {x : Str} {p : Pos} {id : String} {k : T → Sto → Prop} (hm : X.mg x = none) (hv : bootBuiltins x = some (.builtin id)) (h : aw F X (e :: es) r S fun ts S1 => cw F X (.builtin id) ts r S1 k)
    (hg : Gl X x := by rfl) (hn : x ≠ "__name__" := by decide) (hdb : (x == ("__debug__" : Str)) = false := by decide) (he : starEach (e :: es) X.env = (false, eval e X.env) :: starEach es X.env := by rfl) (hpl : (backTo pos (starEach es X.env)).any (·.1) = false := by rfl) :
    ew F X (.Call (.Name x p) (e :: es) [] pos) r S k := by
  intro σ H Q ok cc pins s I
  refine wpAny_Call_Name_kw (ld_blt I hg hm hv ?_ hn hdb)
  refine PyProof.Rows.callWith_builtin1 (thn (h σ H (fun vs H1 => ∀ pins s us, Inv X pins σ H1 s → Vals vs us → wpAny (model X.prog X.w) X.A (call (.builtin id) us) (EP X pins σ Q) X.xe s) ok ?_ pos pins s I) fun us s1 ⟨vs, H1, I1, r1, q1⟩ => q1 pins s1 us I1 r1) he hpl
  exact fun vs H1 ts S1 k1 ok1 trs q pins s us I rv => q σ H1 vs Q ok1 trs (cc.mono k1) pins s us I rv
theorem ew_callTy {x : Str} {p : Pos} {T' : String} {k : T → Sto → Prop} (hm : X.mg x = none) (hv : bootBuiltins x = some (.type T')) (h : aw F X (e :: es) r S fun ts S1 => cw F X (.type T') ts r S1 k)
    (hg : Gl X x := by rfl) (hn : x ≠ "__name__" := by decide) (hdb : (x == ("__debug__" : Str)) = false := by decide) (he : starEach (e :: es) X.env = (false, eval e X.env) :: starEach es X.env := by rfl) (hpl : (backTo pos (starEach es X.env)).any (·.1) = false := by rfl) :
    ew F X (.Call (.Name x p) (e :: es) [] pos) r S k := by
  intro σ H Q ok cc pins s I
  refine wpAny_Call_Name_kw (ld_blt I hg hm hv ?_ hn hdb)
  refine PyProof.Rows.callWith_type1 (thn (h σ H (fun vs H1 => ∀ pins s us, Inv X pins σ H1 s → Vals vs us → wpAny (model X.prog X.w) X.A (call (.type T') us) (EP X pins σ Q) X.xe s) ok ?_ pos pins s I) fun us s1 ⟨vs, H1, I1, r1, q1⟩ => q1 pins s1 us I1 r1) he hpl
  exact fun vs H1 ts S1 k1 ok1 trs q pins s us I rv => q σ H1 vs Q ok1 trs (cc.mono k1) pins s us I rv
/-- a built-in class as a value -/
theorem ew_bltTy {x : Str} {p : Pos} {n : String} {k : T → Sto → Prop} (hm : X.mg x = none) (hv : bootBuiltins x = some (.type n)) (hk : k (.ty n) S) (hg : Gl X x := by rfl) (hn : x ≠ "__name__" := by decide) (hd : (x == ("__debug__" : Str)) = false := by decide) : ew F X (.Name x p) r S k :=
  fun σ H Q ok cc => we_of (pe_bltn (v := .ty n) hg hm hv rfl hn hd) (cc _ H _ S (.refl H S) ok (.ty n) hk)
theorem TRs.one {K : PySem.W.Frag} {H : Hp} {xs : List V} {t : T} (h : TRs K H xs [t]) : ∃ v, xs = [v] ∧ TR K H v t := by
  cases h with
  | cons r q => cases q; exact ⟨_, rfl, r⟩
theorem TRs.two {K : PySem.W.Frag} {H : Hp} {xs : List V} {t u : T} (h : TRs K H xs [t, u]) : ∃ v w, xs = [v, w] ∧ TR K H v t ∧ TR K H w u := by
  cases h with
  | cons r q =>
    obtain ⟨w, e, q2⟩ := q.one
    subst e
    exact ⟨_, _, rfl, r, q2⟩
theorem cw_lenT {ts : List T} {k : T → Sto → Prop} (hk : k (.int ts.length) S) : cw F X (.builtin "len") [.tup ts] r S k :=
  cw_of call_len_seq fun σ H xs Q ok trs cc => by
    obtain ⟨v, rfl, tr⟩ := trs.one
    obtain ⟨a, vs, rfl, sq, rs⟩ := tr.tup_inv
    exact ⟨a, vs, rfl, .inr sq, by rw [rs.length]; exact cc _ H _ S (.refl H S) ok (.int _) hk⟩
theorem cw_lenL {p : Addr} {ts : List T} {k : T → Sto → Prop} (hp : Rdb F S (p, .lst ts)) (hk : k (.int ts.length) S) : cw F X (.builtin "len") [.ref p] r S k :=
  cw_of call_len_seq fun σ H xs Q ok trs cc => by
    obtain ⟨v, rfl, tr⟩ := trs.one
    obtain ⟨vs, rd, rs⟩ := ok.toOkH.read hp
    exact ⟨p, vs, by rw [tr.ref_inv], .inl (.inl rd), by rw [rs.length]; exact cc _ H _ S (.refl H S) ok (.int _) hk⟩
theorem cw_all {p : Addr} {bs : List Bool} {k : T → Sto → Prop} (hc : X.calm = true) (hp : Rdb F S (p, .lst (bs.map T.bl))) (hk : k (.bl (bs.all id)) S) : cw F X (.builtin "all") [.ref p] r S k :=
  cw_of (cr_all hc) fun σ H xs Q ok trs cc => by
    obtain ⟨v, rfl, tr⟩ := trs.one
    obtain ⟨vs, rd, rs⟩ := ok.toOkH.read hp
    exact ⟨p, bs, by rw [tr.ref_inv], .inl (by rw [← rs.bls]; exact rd), cc _ H _ S (.refl H S) ok (.bl _) hk⟩
theorem cw_any {p : Addr} {bs : List Bool} {k : T → Sto → Prop} (hc : X.calm = true) (hp : Rdb F S (p, .lst (bs.map T.bl))) (hk : k (.bl (bs.any id)) S) : cw F X (.builtin "any") [.ref p] r S k :=
  cw_of (cr_any hc) fun σ H xs Q ok trs cc => by
    obtain ⟨v, rfl, tr⟩ := trs.one
    obtain ⟨vs, rd, rs⟩ := ok.toOkH.read hp
    exact ⟨p, bs, by rw [tr.ref_inv], .inl (by rw [← rs.bls]; exact rd), cc _ H _ S (.refl H S) ok (.bl _) hk⟩
theorem cw_strI {i : Int} {k : T → Sto → Prop} (h : i.natAbs.log2 < 1920) (hk : k (.str (toString i)) S) : cw F X (.type "str") [.int i] r S k :=
  cw_of call_str_int fun σ H xs Q ok trs cc => by
    obtain ⟨v, rfl, tr⟩ := trs.one
    exact ⟨i, by rw [tr.int_inv], h, cc _ H _ S (.refl H S) ok (.str _) hk⟩
/-- sorted of texts: some arrangement that ascends -/
theorem cw_sortS {p : Addr} {xs : List Str} {k : T → Sto → Prop} (hp : Rdb F S (p, .lst (xs.map T.str))) (hl : xs.length < 64) (hk : ∀ ys q, ys.Perm xs → sortedS ys = true → q ∉ feet S → k (.ref q) ((q, .lst (ys.map T.str)) :: S)) : cw F X (.builtin "sorted") [.ref p] r S k :=
  cw_of cr_sortedS fun σ H vs Q ok trs cc => by
    obtain ⟨v, rfl, tr⟩ := trs.one
    obtain ⟨ws, rd, rs⟩ := ok.toOkH.read hp
    exact ⟨p, xs, by rw [tr.ref_inv], .inl (by rw [← rs.strs]; exact rd), hl, fun ys q hy hs hq => cc _ _ _ _ (.put hq rfl) (ok.put (.lst _) hq rfl ⟨_, upd_same, .ofStrs ys⟩) (.ref q) (hk ys q hy hs (ok.toOkH.fresh hq))⟩
/-- isinstance of data and a built-in class -/
def T.tyn : T → Option String
  | .non => some "NoneType" | .bl _ => some "bool" | .int _ => some "int" | .str _ => some "str" | .tup _ => some "tuple" | _ => none
theorem tyX_tr {K : PySem.W.Frag} {H : Hp} {v : V} {t : T} {n : String} (h : TR K H v t) (e : T.tyn t = some n) : TyX K H v (.type n) := by
  cases h with
  | non => cases e; exact .base .non
  | bl b => cases e; exact .base (.bl b)
  | int i => cases e; exact .base (.int i)
  | str x => cases e; exact .base (.str x)
  | ref a => cases e
  | ty a => cases e
  | kt a => cases e
  | tup s r =>
    cases e
    rcases s with (s | ⟨o, s⟩) | ⟨o, its, n, hk, hc, _⟩
    · exact .base (.tup s)
    · exact .fTuple s
    · exact .kTuple hk hc
theorem cw_isi {t : T} {n m : String} {b : Bool} {k : T → Sto → Prop} (ht : T.tyn t = some n) (hb : kitB n m = some b) (hk : k (.bl b) S) : cw F X (.builtin "isinstance") [t, .ty m] r S k :=
  cw_of call_isi fun σ H xs Q ok trs cc => by
    obtain ⟨v, w, rfl, tr, tw⟩ := trs.two
    cases tw
    exact ⟨v, .ty m, _, .type m, b, rfl, .ty m, tyX_tr tr ht, kit_ty hb, cc _ H _ S (.refl H S) ok (.bl _) hk⟩
end
end PT
set_option Elab.async false
set_option linter.all false
set_option maxRecDepth 100000
set_option maxHeartbeats 2000000
set_option autoImplicit false
namespace PT
open PySem L2 PySem.Spec PyProof.Rows
/-! ### what a def promises, by data -/
/-- the arguments, what may be read, what is handed over, what is wanted -/
abbrev Con := List T → Sto → Sto → (T → Sto → Prop) → Prop
def spOf (K : PySem.W.Frag) (c : Con) : Sp := fun vs H Q _ => ∃ ts F S k, TRs K H vs ts ∧ OkH K F H S ∧ c ts F S k ∧ ∀ v H' t S', Stp H S H' S' → OkH K F H' S' → TR K H' v t → k t S' → Q v H'
/-- a def of the text keeps its promise -/
structure Cl (P : Program) (w : World) (K : PySem.W.Frag) (mg : Str → Option Value) (base : Heap) (n : Nat) (x : Str) (c : Con) : Prop where
  ex : ∃ (f : Addr) (fd : FuncData) (ps : List Str), FnOk P w K mg base CX0 n f fd ps (spOf K c) ∧ mg x = some (.ref f) ∧ PySem.W.keepIn K (.ref f) = true ∧ Binds K fd ps []
theorem Cl.mono {P : Program} {w : World} {K : PySem.W.Frag} {mg : Str → Option Value} {base : Heap} {n m : Nat} {x : Str} {c : Con} (h : Cl P w K mg base n x c) (le : n ≤ m) : Cl P w K mg base m x c := by
  obtain ⟨f, fd, ps, h1, h2, h3, h4⟩ := h.ex
  exact ⟨f, fd, ps, h1.mono le, h2, h3, h4⟩
theorem Cl.imp {P : Program} {w : World} {K : PySem.W.Frag} {mg : Str → Option Value} {base : Heap} {n : Nat} {x : Str} {c c' : Con} (h : Cl P w K mg base n x c) (i : ∀ ts F S k, c' ts F S k → c ts F S k) : Cl P w K mg base n x c' := by
  obtain ⟨f, fd, ps, h1, h2, h3, h4⟩ := h.ex
  exact ⟨f, fd, ps, h1.imp fun vs H Q E ⟨ts, F, S, k, a, b, c, d⟩ => ⟨ts, F, S, k, a, b, i ts F S k c, d⟩, h2, h3, h4⟩
section
variable {F : Sto} {X : Cx} {r : Rho} {S : Sto} {pos p2 : Pos} {e a b c : Expr} {es rest : List Expr}
/-- part of the store is handed over, the rest may be read -/
theorem OkH.part {K : PySem.W.Frag} {H : Hp} {Sa Sc Sb Fc : Sto} (ok : OkH K F H (Sa ++ (Sc ++ Sb))) (hf : ∀ p ∈ Fc, p ∈ F ∨ p ∈ Sa ∨ p ∈ Sb) : OkH K Fc H Sc := by
  have nd := ok.nd
  have ef : feet (Sa ++ (Sc ++ Sb)) = feet Sa ++ (feet Sc ++ feet Sb) := by unfold feet; rw [List.flatMap_append, List.flatMap_append]
  rw [ef] at nd
  have n1 := List.nodup_append.mp nd
  have n2 := List.nodup_append.mp n1.2.1
  refine ⟨fun p hp => ok.sto p (by simp [hp]), n2.1, fun p hp => ?_⟩
  rcases hf p hp with h | h | h
  · obtain ⟨m, f⟩ := ok.rdo p h
    exact ⟨m, fun x hx hs => f x hx (by rw [ef]; simp [hs])⟩
  · exact ⟨(ok.sto p (by simp [h])).rd, fun x hx hs => n1.2.2 x (feet_of h hx) x (by simp [hs]) rfl⟩
  · exact ⟨(ok.sto p (by simp [h])).rd, fun x hx hs => n2.2.2 x hs x (feet_of h hx) rfl⟩
/-- .. and comes back -/
theorem Stp.part {H H' : Hp} {Sa Sc Sb S' : Sto} (st : Stp H Sc H' S') : Stp H (Sa ++ (Sc ++ Sb)) H' (Sa ++ (S' ++ Sb)) := by
  have ef : ∀ A B C : Sto, feet (A ++ (B ++ C)) = feet A ++ (feet B ++ feet C) := fun A B C => by unfold feet; rw [List.flatMap_append, List.flatMap_append]
  refine ⟨fun x o i h => st.at_ x o ?_ h, st.fre, fun x h => ?_⟩
  · rcases i with i | i
    · rw [ef] at i; exact .inl fun z => i (by simp [z])
    · exact .inr i
  · rw [ef] at h ⊢
    rcases List.mem_append.mp h with h | h
    · exact .inl (by simp [h])
    · rcases List.mem_append.mp h with h | h
      · rcases st.own x h with q | q
        · exact .inl (by simp [q])
        · exact .inr q
      · exact .inl (by simp [h])
theorem OkH.back {K : PySem.W.Frag} {H H' : Hp} {Sa Sc Sb Fc S' : Sto} (ok : OkH K F H (Sa ++ (Sc ++ Sb))) (st : Stp H Sc H' S') (ok' : OkH K Fc H' S') : OkH K F H' (Sa ++ (S' ++ Sb)) := by
  have ef : ∀ A B C : Sto, feet (A ++ (B ++ C)) = feet A ++ (feet B ++ feet C) := fun A B C => by unfold feet; rw [List.flatMap_append, List.flatMap_append]
  have nd := ok.nd
  rw [ef] at nd
  have n1 := List.nodup_append.mp nd
  have n2 := List.nodup_append.mp n1.2.1
  have other : ∀ p, (p ∈ Sa ∨ p ∈ Sb) → (∀ x ∈ foot p, x ∉ feet Sc) := fun p h x hx hs => by
    rcases h with h | h
    · exact n1.2.2 x (feet_of h hx) x (by simp [hs]) rfl
    · exact n2.2.2 x hs x (feet_of h hx) rfl
  have stay : ∀ p, (p ∈ Sa ∨ p ∈ Sb) → MOk K H' p := fun p h => (ok.sto p (by rcases h with h | h <;> simp [h])).keep st.toI fun x hx o e => st.at_ x o (.inl (other p h x hx)) e
  have new : ∀ x ∈ feet S', x ∉ feet Sa ∧ x ∉ feet Sb := fun x h => by
    rcases st.own x h with q | q
    · exact ⟨fun z => n1.2.2 x z x (by simp [q]) rfl, fun z => n2.2.2 x q x z rfl⟩
    · have no : ∀ z, H x = some z → False := fun z e => by rw [q] at e; cases e
      refine ⟨fun z => ?_, fun z => ?_⟩
      · obtain ⟨o, e⟩ := ok.there (a := x) (by rw [ef]; simp [z]); exact no o e
      · obtain ⟨o, e⟩ := ok.there (a := x) (by rw [ef]; simp [z]); exact no o e
  refine ⟨fun p hp => ?_, ?_, ok.rdo' st.part⟩
  · rcases List.mem_append.mp hp with h | h
    · exact stay p (.inl h)
    · rcases List.mem_append.mp h with h | h
      · exact ok'.sto p h
      · exact stay p (.inr h)
  · rw [ef]
    refine List.nodup_append.mpr ⟨n1.1, List.nodup_append.mpr ⟨ok'.nd, n2.2.1, fun x hx y hy e => ?_⟩, fun x hx y hy e => ?_⟩
    · subst e; exact (new x hx).2 hy
    · subst e
      rcases List.mem_append.mp hy with h | h
      · exact (new x h).1 hx
      · exact n1.2.2 x hx x (by simp [h]) rfl
/-- f(e, ..) -/
theorem ew_call {x : Str} {p : Pos} {n : Nat} {con : Con} {k : T → Sto → Prop} (C : Cl X.prog X.w X.K X.mg X.base n x con) (hr : Room n X.A)
    (h : aw F X (e :: es) r S fun ts S1 => ∃ Sa Sc Sb Fc, S1 = Sa ++ (Sc ++ Sb) ∧ (∀ p ∈ Fc, p ∈ F ∨ p ∈ Sa ∨ p ∈ Sb) ∧ con ts Fc Sc fun t S' => k t (Sa ++ (S' ++ Sb)))
    (hg : Gl X x := by rfl) (hdb : (x == ("__debug__" : Str)) = false := by decide) (he : starEach (e :: es) X.env = (false, eval e X.env) :: starEach es X.env := by rfl) (hpl : (backTo pos (starEach es X.env)).any (·.1) = false := by rfl) :
    ew F X (.Call (.Name x p) (e :: es) [] pos) r S k := by
  intro σ H Q ok cc
  obtain ⟨f, fd, ps, G, hm, hk, hb⟩ := C.ex
  refine we_of (pe_call G hr hg hm hk hb .nil pass0 paW hdb he hpl) ?_
  refine h σ H _ ok fun vs H1 ts S1 k1 ok1 trs q => ?_
  obtain ⟨Sa, Sc, Sb, Fc, e1, hf, q⟩ := q
  subst e1
  show spOf X.K con (vs ++ []) H1 Q E0
  rw [List.append_nil]
  refine ⟨ts, Fc, Sc, _, trs, ok1.toOkH.part hf, q, fun v H' t S' st ok' tr kq => ?_⟩
  exact cc v H' t _ (k1.trans st.part) ⟨ok1.toOkH.back st ok', ok1.len, fun i u eu => let ⟨w, h1, h2⟩ := ok1.loc i u eu; ⟨w, h1, h2.keep st.toI⟩⟩ tr kq
/-! ### blocks -/
variable {st : Stmt} {sts : List Stmt} {K' : KE}
theorem sw_nil {k : KE} (h : k.nx r S) : sw F X [] r S k := fun σ H D ok cc => ws_of pss_nil (cc.nx σ H r S (.refl H S) ok h)
theorem sw_cons {k : KE} (h : s1w F X st r S { k with nx := fun r1 S1 => sw F X sts r1 S1 k }) : sw F X (st :: sts) r S k := by
  intro σ H D ok cc
  refine ws_of (pss_cons ps1 psW) ?_
  refine h σ H { D with nx := WS X sts D } ok ⟨fun σ1 H1 r1 S1 st1 ok1 q => ?_, cc.rt, cc.bk, cc.ct⟩
  exact q σ1 H1 D ok1 (cc.mono st1)
theorem s1_ret {k : KE} (h : ew F X e r S fun t S1 => k.rt t S1) : s1w F X (.Return (some e) pos) r S k := fun σ H D ok cc =>
  ws1_of (ps_ret peW) (h σ H _ ok fun v H1 t S1 k1 ok1 tr q => cc.rt v H1 t S1 k1 ok1.toOkH tr q)
theorem s1_expr {k : KE} (h : ew F X e r S fun _ S1 => k.nx r S1) (hs : swapsWith e none pos.line X.env = pure false := by rfl) : s1w F X (.Expr e pos) r S k := fun σ H D ok cc =>
  ws1_of (ps_expr peW hs) (h σ H _ ok fun v H1 t S1 k1 ok1 tr q => cc.nx σ H1 r S1 k1 ok1 q)
theorem s1_set {i : Nat} {x : Str} {pos' : Pos} {k : KE} (hN : X.N.Nodup) (hi : X.N[i]? = some x) (h : ew F X e r S fun t S1 => k.nx (r.set i (some t)) S1) (hx : Loc X.env.scope x := by first | exact .inl rfl | exact .inr rfl)
    (hs : swapsWith e (some (.Name x pos')) pos.line X.env = pure false := by rfl) (hf : X.fn x = true ∨ X.env.scope.names.lookup x = some .local := by first | exact .inl rfl | exact .inr rfl) : s1w F X (.Assign [.Name x pos'] e pos) r S k := fun σ H D ok cc =>
  ws1_of (ps_set hN hi hx peW hs hf) (h σ H _ ok fun v H1 t S1 k1 ok1 tr q => cc.nx _ H1 _ S1 k1 (ok1.set tr) q)
theorem s1_if {A B : List Stmt} {k : KE} (h : tw F X c r S fun d S1 => (d = true → sw F X A r S1 k) ∧ (d = false → sw F X B r S1 k)) : s1w F X (.If c A B pos) r S k := by
  intro σ H D ok cc
  refine ws1_of (ps_if ptW psW psW) ?_
  refine h σ H _ ok fun d H1 S1 k1 ok1 q => ?_
  cases d with
  | true => rw [if_pos rfl]; exact q.1 rfl σ H1 D ok1 (cc.mono k1)
  | false => rw [if_neg Bool.false_ne_true]; exact q.2 rfl σ H1 D ok1 (cc.mono k1)
/-- a, b = e, f: plain local names -/
theorem s1_par {i j : Nat} {x y : Str} {px py pt : Pos} {kt k2 pt2} {k : KE} (hc : X.calm = true) (hN : X.N.Nodup) (hi : X.N[i]? = some x) (hj : X.N[j]? = some y) (hij : i ≠ j)
    (h : ew F X a r S fun t S1 => ew F X b r S1 fun u S2 => k.nx ((r.set i (some t)).set j (some u)) S2)
    (hx : X.env.scope.names.lookup x = some .local := by rfl) (hy : X.env.scope.names.lookup y = some .local := by rfl)
    (hw : swappedStores [.Tuple [.Name x px, .Name y py] kt pt] (.Tuple [a, b] k2 pt2) X.env = pure (some [x, y]) := by rfl)
    (hs : swapsWithSole [.Tuple [.Name x px, .Name y py] kt pt] (.Tuple [a, b] k2 pt2) pos.line X.env = pure false := by rfl) (h1 : starEach [a, b] X.env = (false, eval a X.env) :: starEach [b] X.env := by rfl) (h2 : starEach [b] X.env = (false, eval b X.env) :: starEach [] X.env := by rfl) :
    s1w F X (.Assign [.Tuple [.Name x px, .Name y py] kt pt] (.Tuple [a, b] k2 pt2) pos) r S k := by
  intro σ H D ok cc
  refine ws1_of (ps_par hc hN hi hj hij hx hy (pa_cons peW (pa_cons peW pa_nil h2) h1) hw hs) ?_
  refine h σ H _ ok fun v H1 t S1 k1 ok1 tr q => ?_
  refine q σ H1 _ ok1 fun w H2 u S2 k2 ok2 tr2 q2 => ?_
  exact ⟨v, w, rfl, cc.nx _ H2 _ S2 (k1.trans k2) ((ok2.set (tr.keep k2.toI)).set tr2) q2⟩
/-- a, b = e, e a tuple of two -/
theorem s1_two {i j : Nat} {x y : Str} {px py pt : Pos} {kt} {k : KE} (hc : X.calm = true) (hN : X.N.Nodup) (hi : X.N[i]? = some x) (hj : X.N[j]? = some y)
    (h : ew F X e r S fun t S1 => ∃ t1 t2, t = .tup [t1, t2] ∧ k.nx ((r.set i (some t1)).set j (some t2)) S1)
    (hx : Loc X.env.scope x := by first | exact .inl rfl | exact .inr rfl) (hy : Loc X.env.scope y := by first | exact .inl rfl | exact .inr rfl)
    (hfx : X.fn x = true ∨ X.env.scope.names.lookup x = some .local := by first | exact .inl rfl | exact .inr rfl) (hfy : X.fn y = true ∨ X.env.scope.names.lookup y = some .local := by first | exact .inl rfl | exact .inr rfl)
    (hs : swapsWithSole [.Tuple [.Name x px, .Name y py] kt pt] e pos.line X.env = pure false := by rfl) (hw : swappedStores [.Tuple [.Name x px, .Name y py] kt pt] e X.env = pure none := by rfl)
    (h1 : (assignEach [.Tuple [.Name x px, .Name y py] kt pt] X.env).map (·.2) = [assign (.Tuple [.Name x px, .Name y py] kt pt) X.env] := by rfl)
    (hn : (assignEach [.Name x px, .Name y py] X.env).length = 2 := by rfl) (hst : (assignEach [.Name x px, .Name y py] X.env).findIdx? (·.1) = none := by rfl)
    (g1 : (assignEach [.Name x px, .Name y py] X.env).map (·.2) = assign (.Name x px) X.env :: (assignEach [.Name y py] X.env).map (·.2) := by rfl) (g2 : (assignEach [.Name y py] X.env).map (·.2) = assign (.Name y py) X.env :: (assignEach [] X.env).map (·.2) := by rfl) :
    s1w F X (.Assign [.Tuple [.Name x px, .Name y py] kt pt] e pos) r S k := by
  intro σ H D ok cc
  refine ws1_of (ps_asg peW (pg_tup hc (pgs_cons (pg_name hN hi hx hfx) (pgs_cons (pg_name hN hj hy hfy) pgs_nil g2) g1) hn hst) hs hw h1) ?_
  refine h σ H _ ok fun v H1 t S1 k1 ok1 tr q => ?_
  obtain ⟨t1, t2, rfl, q⟩ := q
  obtain ⟨p, vs, rfl, sq, rs⟩ := tr.tup_inv
  obtain ⟨v1, v2, rfl, r1, r2⟩ := rs.two
  exact ⟨p, _, rfl, sq, rfl, v1, _, rfl, v2, _, rfl, rfl, cc.nx _ H1 _ S1 k1 ((ok1.set r1).set r2) q⟩
/-- while: P by a measure -/
theorem s1_while {body : List Stmt} {k : KE} (hp : PassesOwn (model X.prog X.w) X.A X.env X.xe) (P : Nat → Rho → Sto → Prop) (h0 : ∃ m, P m r S)
    (hs : ∀ m r1 S1, P m r1 S1 → tw F X c r1 S1 fun d S2 => (d = true → sw F X body r1 S2 { k with nx := fun r3 S3 => ∃ m', m' < m ∧ P m' r3 S3, ct := fun r3 S3 => ∃ m', m' < m ∧ P m' r3 S3, bk := k.nx }) ∧ (d = false → k.nx r1 S2)) :
    s1w F X (.While c body [] pos) r S k := by
  intro σ H D ok cc
  obtain ⟨m0, h0⟩ := h0
  refine ws1_of (ps_while hp ptW psW) ⟨fun m σ1 H1 => ∃ r1 S1, Ok X.K F σ1 H1 r1 S1 ∧ Stp H S H1 S1 ∧ P m r1 S1, ⟨m0, r, S, ok, .refl H S, h0⟩, ?_⟩
  rintro m σ1 H1 ⟨r1, S1, ok1, st1, p⟩
  refine hs m r1 S1 p σ1 H1 _ ok1 fun d H2 S2 k2 ok2 q => ?_
  have cc2 := cc.mono (st1.trans k2)
  cases d with
  | true =>
    rw [if_pos rfl]
    refine ⟨fun σ3 H3 => ∃ r3 S3, Ok X.K F σ3 H3 r3 S3 ∧ Stp H S H3 S3 ∧ ∃ m', m' < m ∧ P m' r3 S3, fun σ3 H3 ⟨r3, S3, ok3, st3, m', hm, p3⟩ => ⟨m', hm, r3, S3, ok3, st3, p3⟩, ?_⟩
    refine q.1 rfl σ1 H2 _ ok2 ⟨fun σ3 H3 r3 S3 st3 ok3 q3 => ⟨r3, S3, ok3, (st1.trans k2).trans st3, q3⟩, cc2.rt, cc2.nx, fun σ3 H3 r3 S3 st3 ok3 q3 => ⟨r3, S3, ok3, (st1.trans k2).trans st3, q3⟩⟩
  | false =>
    rw [if_neg Bool.false_ne_true]
    exact cc2.nx σ1 H2 r1 S2 (.refl H2 S2) ok2 (q.2 rfl)
end
end PT
set_option Elab.async false
set_option linter.all false
set_option maxRecDepth 100000
set_option maxHeartbeats 2000000
set_option autoImplicit false
namespace PT
open PySem L2 PySem.Spec PyProof.Rows
/-! ### what loops walk, and their targets -/
/-- new objects alone -/
structure Grw (H H' : Hp) : Prop where
  at_ : ∀ a o, H a = some o → H' a = some o
theorem Grw.refl (H : Hp) : Grw H H := ⟨fun _ _ h => h⟩
theorem Grw.fre {H H' : Hp} (g : Grw H H') {a : Addr} (h : H' a = none) : H a = none := by
  cases e : H a with
  | none => rfl
  | some o => rw [g.at_ a o e] at h; cases h
theorem Grw.stp {H H' : Hp} (g : Grw H H') (S : Sto) : Stp H S H' S := ⟨fun a o _ h => g.at_ a o h, fun _ h => g.fre h, fun _ h => .inl h⟩
theorem Ok.grw {K : PySem.W.Frag} {F : Sto} {σ : L2.St} {H H' : Hp} {r : Rho} {S : Sto} (ok : Ok K F σ H r S) (g : Grw H H') : Ok K F σ H' r S :=
  ⟨⟨fun p hp => (ok.sto p hp).keep (g.stp S).toI fun a _ o e => g.at_ a o e, ok.nd, ok.toOkH.rdo' (g.stp S)⟩, ok.len, fun i t e => let ⟨v, h1, h2⟩ := ok.loc i t e; ⟨v, h1, h2.keep (g.stp S).toI⟩⟩
/-- an iterator that goes over ts while R stands -/
structure IterOk (K : PySem.W.Frag) (J : It) (ts : List T) (R : Hp → Prop) : Prop where
  go : ∀ n H, R H → n < ts.length → J.go n H
  yld : ∀ n H x H', R H → n < ts.length → J.yld n H x H' → Grw H H' ∧ ∃ t, ts[n]? = some t ∧ TR K H' x t
  stop : ∀ n H, R H → ts.length ≤ n → J.stop n H
def iw (F : Sto) (X : Cx) (tg iter : Expr) (r : Rho) (S : Sto) (k : List T → (Sto → Prop) → Sto → Prop) : Prop := ∃ wi, PI X tg iter wi ∧ ∀ σ H R, Ok X.K F σ H r S →
  (∀ J H1 ts rd S1 Q, Stp H S H1 S1 → Ok X.K F σ H1 r S1 → IterOk X.K J ts Q → (∀ H2 S2, OkH X.K F H2 S2 → KeepI H1 H2 → rd S2 → Q H2) → k ts rd S1 → R J H1) → wi σ H R
section
variable {F : Sto} {X : Cx} {r : Rho} {S : Sto} {pos : Pos} {tg iter : Expr} {k : List T → (Sto → Prop) → Sto → Prop}
theorem iw_lst (h : ew F X iter r S fun t S1 => ∃ p ts, t = .ref p ∧ Rdb F S1 (p, .lst ts) ∧ k ts (fun S2 => Rdb F S2 (p, .lst ts)) S1) : iw F X tg iter r S k := by
  refine ⟨_, pi_list peW, fun σ H R ok cc => ?_⟩
  refine h σ H _ ok fun v H1 t S1 k1 ok1 tr q => ?_
  obtain ⟨p, ts, rfl, hr, q⟩ := q
  obtain ⟨vs, rd, rs⟩ := ok1.toOkH.read hr
  refine ⟨p, tr.ref_inv, ⟨vs, .inl rd⟩, cc _ H1 ts (fun S2 => Rdb F S2 (p, .lst ts)) S1 (fun H2 => ∃ ws, SqL X.K H2 p ws ∧ TRs X.K H2 ws ts) k1 ok1 ⟨fun n H2 ⟨ws, s, w⟩ hn => ?_, fun n H2 x H' ⟨ws, s, w⟩ hn y => ?_, fun n H2 ⟨ws, s, w⟩ hn => ?_⟩ (fun H2 S2 ok2 _ r2 => ?_) q⟩
  · exact ⟨ws, ws[n]'(by rw [w.length]; exact hn), s, by simp [w.length, hn]⟩
  · obtain ⟨e, y⟩ := y
    subst e
    obtain ⟨t, h1, h2⟩ := w.get' (y ws s)
    exact ⟨.refl _, t, h1, h2⟩
  · exact ⟨ws, s, by rw [w.length]; exact hn⟩
  · obtain ⟨ws, rd, rs⟩ := ok2.read r2
    exact ⟨ws, .inl rd, rs⟩
theorem iw_tup (h : ew F X iter r S fun t S1 => ∃ ts, t = .tup ts ∧ k ts (fun _ => True) S1) : iw F X tg iter r S k := by
  refine ⟨_, pi_tup peW, fun σ H R ok cc => ?_⟩
  refine h σ H _ ok fun v H1 t S1 k1 ok1 tr q => ?_
  obtain ⟨ts, rfl, q⟩ := q
  obtain ⟨p, vs, rfl, sq, rs⟩ := tr.tup_inv
  refine ⟨p, rfl, ⟨vs, sq⟩, cc _ H1 ts (fun _ => True) S1 (fun H2 => ∃ ws, SqT X.K H2 p ws ∧ TRs X.K H2 ws ts) k1 ok1 ⟨fun n H2 ⟨ws, s, w⟩ hn => ?_, fun n H2 x H' ⟨ws, s, w⟩ hn y => ?_, fun n H2 ⟨ws, s, w⟩ hn => ?_⟩ (fun H2 S2 ok2 kp _ => ⟨vs, sqt_keep kp sq, rs.keep kp⟩) q⟩
  · exact ⟨ws, ws[n]'(by rw [w.length]; exact hn), s, by simp [w.length, hn]⟩
  · obtain ⟨e, y⟩ := y
    subst e
    obtain ⟨t, h1, h2⟩ := w.get' (y ws s)
    exact ⟨.refl _, t, h1, h2⟩
  · exact ⟨ws, s, by rw [w.length]; exact hn⟩
def rng (lo : Int) (n : Nat) : List T := (List.range n).map fun (i : Nat) => T.int (lo + i)
theorem iter_range {K : PySem.W.Frag} {lo : Int} {n : Nat} : IterOk K (Itr lo n) (rng lo n) fun _ => True := by
  have hl : (rng lo n).length = n := by simp [rng]
  refine ⟨fun i H _ h => by rw [hl] at h; exact h, fun i H x H' _ h y => ?_, fun i H _ h => by rw [hl] at h; exact h⟩
  rw [hl] at h
  obtain ⟨e, y⟩ := y
  subst e; subst y
  exact ⟨.refl _, .int (lo + i), by simp [rng, h], .int _⟩
theorem iw_range1 {a : Expr} {p : Pos} (hm : X.mg "range" = none) (h : ew F X a r S fun t S1 => ∃ j : Int, t = .int j ∧ (-(2 ^ 62) ≤ j ∧ j < 2 ^ 62) ∧ k (rng 0 j.toNat) (fun _ => True) S1) (hg : Gl X "range" := by rfl) (hs : starEach [a] X.env = [(false, eval a X.env)] := by rfl) :
    iw F X tg (.Call (.Name "range" p) [a] [] pos) r S k := by
  refine ⟨_, pi_range1 hg hm (pa_cons peW pa_nil hs) hs, fun σ H R ok cc => ?_⟩
  refine h σ H _ ok fun v H1 t S1 k1 ok1 tr q => ?_
  obtain ⟨j, rfl, hb, q⟩ := q
  exact ⟨j, by rw [tr.int_inv], hb.1, hb.2, cc _ H1 _ (fun _ => True) S1 _ k1 ok1 iter_range (fun _ _ _ _ _ => trivial) q⟩
end
/-! targets -/
theorem wipe_at (σ : L2.St) (j : Nat) : ∀ vs : List Nat, (wipe σ vs)[j]? = if j ∈ vs then (if j < σ.length then some none else none) else σ[j]?
  | [] => by simp [wipe]
  | v :: vs => by
    unfold wipe
    have ih := wipe_at σ j vs
    by_cases h : v = j
    · subst h
      rw [if_pos List.mem_cons_self]
      by_cases hl : v < σ.length
      · rw [List.getElem?_set_self (by rw [wipe_length]; exact hl), if_pos hl]
      · rw [List.getElem?_eq_none (by rw [List.length_set, wipe_length]; omega), if_neg hl]
    · rw [List.getElem?_set_ne h, ih]
      by_cases hm : j ∈ vs
      · rw [if_pos hm, if_pos (List.mem_cons_of_mem _ hm)]
      · rw [if_neg hm, if_neg (by simp [hm]; exact fun e => h e.symm)]
theorem wipe_set {σ : L2.St} {vs : List Nat} {i : Nat} {x : Option V} (h : i ∈ vs) : wipe (σ.set i x) vs = wipe σ vs := by
  apply List.ext_getElem?
  intro j
  rw [wipe_at, wipe_at]
  by_cases hj : j ∈ vs
  · rw [if_pos hj, if_pos hj, List.length_set]
  · rw [if_neg hj, if_neg hj, List.getElem?_set_ne (fun e => hj (by rw [← e]; exact h))]
theorem wipe_wipe (σ : L2.St) (vs : List Nat) : wipe (wipe σ vs) vs = wipe σ vs := by
  apply List.ext_getElem?
  intro j
  rw [wipe_at, wipe_at]
  by_cases hj : j ∈ vs
  · rw [if_pos hj, if_pos hj, wipe_length]
  · simp [hj]
def wipeT (r : Rho) : List Nat → Rho
  | [] => r
  | v :: vs => (wipeT r vs).set v none
theorem wipeT_some {r : Rho} {j : Nat} {t : T} : ∀ {vs : List Nat}, (wipeT r vs)[j]? = some (some t) → r[j]? = some (some t) ∧ j ∉ vs
  | [], h => ⟨h, by simp⟩
  | v :: vs, h => by
    unfold wipeT at h
    by_cases hi : v = j
    · subst hi
      by_cases hv : v < (wipeT r vs).length
      · rw [List.getElem?_set_self hv] at h; cases h
      · rw [List.getElem?_eq_none (by simpa using hv)] at h; cases h
    · rw [List.getElem?_set_ne hi] at h
      obtain ⟨h1, h2⟩ := wipeT_some h
      exact ⟨h1, by simp only [List.mem_cons, not_or]; exact ⟨fun e => hi e.symm, h2⟩⟩
theorem wipeT_length (r : Rho) : ∀ vs : List Nat, (wipeT r vs).length = r.length
  | [] => rfl
  | v :: vs => by unfold wipeT; rw [List.length_set, wipeT_length r vs]
theorem Ok.wipe {K : PySem.W.Frag} {F : Sto} {σ : L2.St} {H : Hp} {r : Rho} {S : Sto} (ok : Ok K F σ H r S) (vs : List Nat) : Ok K F (L2.wipe σ vs) H (wipeT r vs) S :=
  ⟨ok.toOkH, by rw [wipeT_length, wipe_length, ok.len], fun i t e => by
    obtain ⟨h1, h2⟩ := wipeT_some e
    obtain ⟨v, h3, h4⟩ := ok.loc i t h1
    exact ⟨v, by rw [wipe_at, if_neg h2]; exact h3, h4⟩⟩
/-- what a target does with data -/
structure Tgt (K : PySem.W.Frag) (g : TG) (up : T → Rho → Option Rho) (vs : List Nat) : Prop where
  sem : ∀ (F : Sto) (x : V) (t : T) (r r' : Rho) (σ : L2.St) (H : Hp) (S : Sto) (Q : L2.St → Hp → Prop), TR K H x t → up t r = some r' → Ok K F σ H r S → (∀ σ', Ok K F σ' H r' S → wipe σ' vs = wipe σ vs → Q σ' H) → g x σ H Q
def up1 (i : Nat) (t : T) (r : Rho) : Option Rho := some (r.set i (some t))
def up2 (i j : Nat) (t : T) (r : Rho) : Option Rho := match t with
  | .tup [a, b] => some ((r.set i (some a)).set j (some b))
  | _ => none
theorem tgt1 {K : PySem.W.Frag} {i : Nat} {vs : List Nat} (h : i ∈ vs) : Tgt K (gName i) (up1 i) vs :=
  ⟨fun F x t r r' σ H S Q tr e ok q => by cases e; exact q _ (ok.set tr) (wipe_set h)⟩
theorem tgt2 {K : PySem.W.Frag} {i j : Nat} {vs : List Nat} (hi : i ∈ vs) (hj : j ∈ vs) : Tgt K (gTup K 2 (gCons (gName i) (gCons (gName j) gNil))) (up2 i j) vs :=
  ⟨fun F x t r r' σ H S Q tr e ok q => by
    unfold up2 at e
    split at e
    · cases e
      obtain ⟨p, ws, rfl, sq, rs⟩ := tr.tup_inv
      obtain ⟨v1, v2, rfl, r1, r2⟩ := rs.two
      exact ⟨p, _, rfl, sq, rfl, v1, _, rfl, v2, _, rfl, rfl, q _ ((ok.set r1).set r2) (by rw [wipe_set hj, wipe_set hi])⟩
    · cases e⟩
section
variable {F : Sto} {X : Cx} {r : Rho} {S : Sto} {pos : Pos} {tg iter : Expr}
/-- for -/
theorem s1_for {body : List Stmt} {k : KE} {g : TG} {up : T → Rho → Option Rho} {vs : List Nat} (hp : PassesOwn (model X.prog X.w) X.A X.env X.xe) (hc : X.calm = true) (hg : PG X tg g) (ht : Tgt X.K g up vs)
    (h : iw F X tg iter r S fun ts rd S1 => ∃ P : Nat → Rho → Sto → Prop, P 0 r S1 ∧ (∀ n r2 S2, P n r2 S2 → rd S2) ∧
      (∀ n u r2 S2, ts[n]? = some u → P n r2 S2 → ∃ r3, up u r2 = some r3 ∧ sw F X body r3 S2 { k with nx := P (n + 1), ct := P (n + 1), bk := k.nx }) ∧ ∀ r2 S2, P ts.length r2 S2 → k.nx r2 S2)
    (hs : ∀ x, foldedSetIterable iter X.env x = pure x := by intro _; rfl) : s1w F X (.For tg iter body [] pos) r S k := by
  intro σ H D ok cc
  obtain ⟨wi, hi, h⟩ := h
  refine ws1_of (ps_for hp hc hi hg psW hs) ?_
  refine h σ H _ ok fun J H1 ts rd S1 R k1 ok1 it hR q => ?_
  obtain ⟨P, p0, hl, hstep, hd⟩ := q
  refine ⟨fun n m σ2 H2 => m = ts.length - n ∧ n ≤ ts.length ∧ ∃ r2 S2, Ok X.K F σ2 H2 r2 S2 ∧ Stp H S H2 S2 ∧ KeepI H1 H2 ∧ P n r2 S2, ⟨ts.length, by simp, Nat.zero_le _, r, S1, ok1, k1, .refl H1, p0⟩, ?_⟩
  rintro n m σ2 H2 ⟨rfl, hn, r2, S2, ok2, st2, kp2, p2⟩
  have hR2 := hR H2 S2 ok2.toOkH kp2 (hl n r2 S2 p2)
  have cc2 := cc.mono st2
  by_cases hlt : n < ts.length
  · refine .inr ⟨it.go n H2 hR2 hlt, fun σ3 H3 => ∃ r3 S3, Ok X.K F σ3 H3 r3 S3 ∧ Stp H S H3 S3 ∧ KeepI H1 H3 ∧ P (n + 1) r3 S3, fun σ3 H3 ⟨r3, S3, ok3, st3, kp3, p3⟩ => ⟨ts.length - (n + 1), by omega, rfl, hlt, r3, S3, ok3, st3, kp3, p3⟩, fun y H' yl => ?_⟩
    obtain ⟨gr, u, hu, tru⟩ := it.yld n H2 y H' hR2 hlt yl
    obtain ⟨r3, e3, hb⟩ := hstep n u r2 S2 hu p2
    have st' := st2.trans (gr.stp S2)
    have kp' := kp2.trans (gr.stp S2).toI
    refine ht.sem F y u r2 r3 σ2 H' S2 _ tru e3 (ok2.grw gr) fun σ3 ok3 _ => ?_
    have cc3 := cc.mono st'
    exact hb σ3 H' _ ok3 ⟨fun σ4 H4 r4 S4 st4 ok4 q4 => ⟨r4, S4, ok4, st'.trans st4, kp'.trans st4.toI, q4⟩, cc3.rt, cc3.nx, fun σ4 H4 r4 S4 st4 ok4 q4 => ⟨r4, S4, ok4, st'.trans st4, kp'.trans st4.toI, q4⟩⟩
  · have e : n = ts.length := by omega
    subst e
    exact .inl ⟨it.stop _ H2 hR2 (Nat.le_refl _), cc2.nx σ2 H2 r2 S2 (.refl H2 S2) ok2 (hd r2 S2 p2)⟩
/-- the contexts of a comprehension's block -/
abbrev Blk (X : Cx) (scope : Scope) (p : Cx → Prop) : Prop := ∀ (s : Shared) (H : Hp) (C : Addr) (cl : List (Str × Addr)) (fp : List Addr), p (X.blk s H scope (compEnvC scope cl C X.env) fp)
/-- a clause's tests by data -/
def WTs (X : Cx) (ifs : List Expr) (σ : L2.St) (H : Hp) (Q : Bool → Hp → Prop) : Prop := ∀ (pins : List (Addr × Obj)) (s : Shared), Inv X pins σ H s →
    wpAny (model X.prog X.w) X.A (forIn ifs true fun c r => if r = true then do let ok ← isTrue c X.env (eval c X.env); pure (ForInStep.yield ok) else pure (ForInStep.yield r)) (TP X pins σ Q) X.xe s
def tsw (F : Sto) (X : Cx) (ifs : List Expr) (r : Rho) (S : Sto) (k : Bool → Sto → Prop) : Prop := ∀ σ H Q, Ok X.K F σ H r S → CoT X.K F σ H r S k Q → WTs X ifs σ H Q
theorem tsw_nil {k : Bool → Sto → Prop} (h : k true S) : tsw F X [] r S k := fun σ H Q ok cc pins s I => (pts_nil (X := X)).run pins s σ H Q I (cc true H S (.refl H S) ok h)
theorem tsw_one {c : Expr} {k : Bool → Sto → Prop} (h : tw F X c r S k) : tsw F X [c] r S k := fun σ H Q ok cc pins s I => (pts_one (X := X) ptW).run pins s σ H Q I (h σ H Q ok cc)
/-- the list under work beside the store -/
theorem Ok.lstD {K : PySem.W.Frag} {σ : L2.St} {H : Hp} {D : Addr} {vacc : List V} {acc : List T} (ok : Ok K F σ H r S) (hD : H D = some (.lst vacc)) (ha : TRs K H vacc acc) (hs : D ∉ feet S) (hf : ∀ p ∈ F, D ∉ foot p) : Ok K F σ H r ((D, .lst acc) :: S) := by
  refine ⟨⟨fun p hp => ?_, ?_, fun p hp => ⟨(ok.rdo p hp).1, fun a h hh => ?_⟩⟩, ok.len, ok.loc⟩
  · rcases List.mem_cons.mp hp with rfl | hp
    · exact ⟨vacc, hD, ha⟩
    · exact ok.sto p hp
  · exact List.nodup_cons.mpr ⟨hs, ok.nd⟩
  · rcases List.mem_cons.mp (show a ∈ D :: feet S from hh) with rfl | hh
    · exact hf p hp h
    · exact (ok.rdo p hp).2 a h hh
/-- [elt for tg in iter if ..] -/
theorem lc_t {elt : Expr} {ifs : List Expr} {scope : Scope} {own : List (Str × Nat)} {k : T → Sto → Prop} {g : TG} {wi : TI} {up : T → Rho → Option Rho} {σ : L2.St} {H : Hp} {Q : VK} (ht : Tgt X.K g up (own.map (·.2))) (oka : Ok X.K F σ H r S) (cc : CoE X.K F σ H r S k Q)
    (h : ∀ σ H R, Ok X.K F σ H r S →
  (∀ (J : It) (H1 : Hp) (ts : List T) (rd : Sto → Prop) (S1 : Sto) (Q : Hp → Prop), Stp H S H1 S1 → Ok X.K F σ H1 r S1 → IterOk X.K J ts Q → (∀ H2 S2, OkH X.K F H2 S2 → KeepI H1 H2 → rd S2 → Q H2) → (∃ P : Nat → List T → Sto → Prop, P 0 [] S1 ∧ (∀ n acc S2, P n acc S2 → rd S2) ∧
      (∀ n u acc S2, ts[n]? = some u → P n acc S2 → acc.length < 100000 ∧ ∃ r3, up u (wipeT r (own.map (·.2))) = some r3 ∧ Blk X scope fun X1 => tsw F X1 ifs r3 S2 fun d S3 => (d = true → Blk X scope fun X2 => ew F X2 elt r3 S3 fun w S4 => P (n + 1) (acc ++ [w]) S4) ∧ (d = false → P (n + 1) acc S3)) ∧
      ∀ acc S2, P ts.length acc S2 → ∀ q, q ∉ feet S2 → k (.ref q) ((q, .lst acc) :: S2)) → R J H1) → wi σ H R) :
    tLc wi g (fun σ H Q => Blk X scope fun X' => WTs X' ifs σ H Q) (fun σ H Q => Blk X scope fun X' => WE X' elt σ H Q) (own.map (·.2)) σ H Q := by
  refine h σ H _ oka fun J H1 ts rd S1 R k1 ok1 it hR q D hD => ?_
  obtain ⟨P, p0, hl, hstep, hd⟩ := q
  have hF : ∀ p ∈ F, D ∉ foot p := fun p hp hm => by
    obtain ⟨o, e⟩ := (ok1.rdo p hp).1.there D hm
    rw [hD] at e; cases e
  let W : Nat → Hp → Prop := fun n H2 => ∃ acc vacc S2, H2 D = some (.lst vacc) ∧ TRs X.K H2 vacc acc ∧ D ∉ feet S2 ∧ Ok X.K F σ H2 r S2 ∧ Stp H S H2 S2 ∧ KeepI H1 H2 ∧ P n acc S2
  have w0 : W 0 (upd H1 D (.lst [])) := ⟨[], [], S1, upd_same, .nil, ok1.toOkH.fresh hD, ok1.new hD, k1.trans (.new hD), .new hD, p0⟩
  refine ⟨fun n m H2 => m = ts.length - n ∧ n ≤ ts.length ∧ W n H2, ⟨ts.length, by simp, Nat.zero_le _, w0⟩, ?_⟩
  rintro n m H2 ⟨rfl, hn, acc, vacc, S2, hD2, ha2, hs2, ok2, st2, kp2, p2⟩
  have hR2 := hR H2 S2 ok2.toOkH kp2 (hl n acc S2 p2)
  by_cases hlt : n < ts.length
  · refine .inr ⟨it.go n H2 hR2 hlt, W (n + 1), fun H3 w3 => ⟨ts.length - (n + 1), by omega, rfl, hlt, w3⟩, fun y H' yl => ?_⟩
    obtain ⟨gr, u, hu, tru⟩ := it.yld n H2 y H' hR2 hlt yl
    obtain ⟨hz, r3, e3, hb⟩ := hstep n u acc S2 hu p2
    have okw := (ok2.grw gr).wipe (own.map (·.2))
    refine ht.sem F y u _ r3 _ H' S2 _ tru e3 okw fun σ3 ok3 hw => ⟨by rw [hw, wipe_wipe], fun s1 Hs C cl fp => ?_⟩
    have stA : Stp H S H' S2 := st2.trans (gr.stp S2)
    have kpA : KeepI H1 H' := kp2.trans (gr.stp S2).toI
    have hDA := gr.at_ D _ hD2
    have haA := ha2.keep (gr.stp S2).toI
    refine hb s1 Hs C cl fp σ3 H' _ ok3 fun d H3 S3 st3 ok4 q3 => ?_
    have own3 : D ∉ feet S3 := fun hm => by
      rcases st3.own D hm with z | z
      · exact hs2 z
      · rw [hDA] at z; cases z
    have hD3 : H3 D = some (.lst vacc) := st3.at_ D _ (.inl hs2) hDA
    have back : ∀ {H4 S4} (st : Stp H' S2 H4 S4), OkH X.K F H4 S4 → Ok X.K F σ H4 r S4 := fun {H4 S4} st ok5 => ⟨ok5, ok2.len, fun i t e => let ⟨v, h1, h2⟩ := (ok2.grw gr).loc i t e; ⟨v, h1, h2.keep st.toI⟩⟩
    cases d with
    | true =>
      rw [if_pos rfl]
      intro s2 Hs2 C2 cl2 fp2
      refine (q3.1 rfl) s2 Hs2 C2 cl2 fp2 σ3 H3 _ ok4 fun w H4 tw S4 st4 ok5 trw p4 => ?_
      have st34 := st3.trans st4
      have hD4 : H4 D = some (.lst vacc) := st4.at_ D _ (.inl own3) hD3
      have own4 : D ∉ feet S4 := fun hm => by
        rcases st4.own D hm with z | z
        · exact own3 z
        · rw [hD3] at z; cases z
      have hlen := ha2.length
      have hni : ¬ Imm (.lst vacc) := fun z => by rcases z with ⟨_, z⟩ | ⟨_, _, z⟩ <;> cases z
      have kpm : KeepI H4 (upd H4 D (.lst (vacc ++ [w]))) := .mut hD4 hni
      have ok6 := back st34 ok5.toOkH
      refine ⟨vacc, hD4, by rw [hlen]; exact Nat.lt_of_lt_of_le hz (by decide), acc ++ [tw], vacc ++ [w], S4, upd_same, ((haA.keep st34.toI).app (.cons trw .nil)).keep kpm, own4, ?_, ?_, (kpA.trans st34.toI).trans kpm, p4⟩
      · refine ⟨⟨fun p hp => (ok6.sto p hp).keep kpm fun a hm o e => ?_, ok6.nd, fun p hp => ⟨(ok6.rdo p hp).1.keep kpm fun a hm o e => ?_, (ok6.rdo p hp).2⟩⟩, ok6.len, fun i t e => let ⟨v, h1, h2⟩ := ok6.loc i t e; ⟨v, h1, h2.keep kpm⟩⟩
        · rw [upd_ne (fun z => own4 (by rw [← z]; exact feet_of hp hm))]; exact e
        · rw [upd_ne (fun z => hF p hp (by rw [← z]; exact hm))]; exact e
      · have stB := (stA.trans st34)
        refine ⟨fun a o i e => ?_, fun a e => stB.fre a (upd_none e), fun a hm => stB.own a hm⟩
        by_cases z : a = D
        · subst z
          have := k1.fre _ hD
          rw [this] at e; cases e
        · rw [upd_ne z]; exact stB.at_ a o i e
    | false =>
      rw [if_neg Bool.false_ne_true]
      exact ⟨acc, vacc, S3, hD3, haA.keep st3.toI, own3, back st3 ok4.toOkH, stA.trans st3, kpA.trans st3.toI, q3.2 rfl⟩
  · have e : n = ts.length := by omega
    subst e
    refine .inl ⟨it.stop _ H2 hR2 (Nat.le_refl _), cc (.ref D) H2 (.ref D) ((D, .lst acc) :: S2) ⟨st2.at_, st2.fre, fun a hm => ?_⟩ (ok2.lstD hD2 ha2 hs2 hF) (.ref D) (hd acc S2 p2 D hs2)⟩
    rcases List.mem_cons.mp (show a ∈ D :: feet S2 from hm) with rfl | hm
    · exact .inr (k1.fre _ hD)
    · exact st2.own a hm
theorem ew_lc {elt : Expr} {ifs : List Expr} {scope : Scope} {own : List (Str × Nat)} {k : T → Sto → Prop} {g : TG} {up : T → Rho → Option Rho} (hc : X.calm = true) (hN : X.N.Nodup) (ok : BlkOk X.N X.env.scope scope own)
    (hg : Blk X scope fun X' => PG X' tg g) (ht : Tgt X.K g up (own.map (·.2)))
    (h : iw F X tg iter r S fun ts rd S1 => ∃ P : Nat → List T → Sto → Prop, P 0 [] S1 ∧ (∀ n acc S2, P n acc S2 → rd S2) ∧
      (∀ n u acc S2, ts[n]? = some u → P n acc S2 → acc.length < 100000 ∧ ∃ r3, up u (wipeT r (own.map (·.2))) = some r3 ∧ Blk X scope fun X1 => tsw F X1 ifs r3 S2 fun d S3 => (d = true → Blk X scope fun X2 => ew F X2 elt r3 S3 fun w S4 => P (n + 1) (acc ++ [w]) S4) ∧ (d = false → P (n + 1) acc S3)) ∧
      ∀ acc S2, P ts.length acc S2 → ∀ q, q ∉ feet S2 → k (.ref q) ((q, .lst acc) :: S2))
    (hs : ∀ x, foldedSetIterable iter X.env x = pure x := by intro _; rfl) : ew F X (.ListComp elt [⟨tg, iter, ifs, 0⟩] scope pos) r S k := by
  intro σ H Q oka cc
  obtain ⟨wi, hi, h⟩ := h
  have hT : Blk X scope fun X' => PTs X' ifs fun σ H Q => Blk X scope fun X' => WTs X' ifs σ H Q := fun s1 H1 C cl fp => ⟨fun pins s σ H Q I h => h s1 H1 C cl fp pins s I⟩
  have hE : Blk X scope fun X' => PE X' elt fun σ H Q => Blk X scope fun X' => WE X' elt σ H Q := fun s1 H1 C cl fp => ⟨fun pins s σ H Q I h => h s1 H1 C cl fp pins s I⟩
  exact we_of (pe_lc hc hN hi ok hg hT hE hs) (lc_t ht oka cc h)
end
end PT
set_option Elab.async false
set_option linter.all false
set_option maxRecDepth 100000
set_option maxHeartbeats 2000000
set_option autoImplicit false
namespace PT
open PySem L2 PySem.Spec PyProof.Rows
/-! ### {**d, k: v} -/
section
variable {prog : Program} {w : World} {κ : Type} [DecidableEq κ] {knd : KeyKind prog w κ} {A : Around} {E : Value → Shared → Prop} {s : Shared}
theorem dictPut_pairs {d : Addr} {kvs : List (κ × Value)} {k : κ} {key v : Value} {Q : Unit → Shared → Prop} (hkey : knd.is k key = true) (hm : s.heap.DictOf knd d kvs)
    (hQ : ∀ h', h'.DictOf knd d (stored kvs k v) → Heap.SameBut d s.heap h' → Q () { s with heap := h' }) (hsz : kvs.length ≤ sizeLine) :
    wpAny (model prog w) A (dictPut d (knd.hash k) key v) Q E s := by
  obtain ⟨o, es, ep, ho, hc, hd, hk, hp, hn⟩ := hm
  have hes : es.size ≤ sizeLine := by
    have e1 := hp.length
    have e2 : es.toList.length = es.size := by simp
    omega
  unfold dictPut
  refine wpAny_bind (wpAny_dictFind_of hkey ho hd hk ?_)
  have hidx : (es.findIdx? fun e => knd.is k e.key) = kvs.findIdx? fun kv => decide (kv.1 = k) := by
    rw [← hp.findIdx k]; obtain ⟨l⟩ := es; simp
  cases hi : es.findIdx? fun e => knd.is k e.key with
  | some i =>
    refine wpAny_updateDict ho hd (hQ _ ⟨_, _, ep, Heap.get?_update_self _ ho (Obj.isFreed_of_dict (Obj.data_mapDict hd _)), hc.mapDict _, Obj.data_mapDict hd _, hk.modify _ _, ?_, ?_⟩ (Heap.SameBut.update ..))
    · rw [stored, if_pos (any_of_findIdx_some (hidx ▸ hi))]
      have hl : (es.toList.findIdx? fun e => knd.is k e.key) = some i := by rw [← hi]; obtain ⟨l⟩ := es; simp
      have := hp.modify hn hl v
      obtain ⟨l⟩ := es
      simpa using this
    · rw [stored, if_pos (any_of_findIdx_some (hidx ▸ hi)), keys_map_store]; exact hn
  | none =>
    have hnot : k ∉ kvs.map (·.1) := not_mem_of_findIdx_none (hidx ▸ hi)
    have hany : ¬ (kvs.any fun kv => decide (kv.1 = k)) = true := by
      rw [List.any_eq_true]; rintro ⟨kv, hkv, he⟩
      exact hnot (List.mem_map.mpr ⟨kv, hkv, of_decide_eq_true he⟩)
    refine wpAny_updateDictKeys (hz := hes) ho hd (hQ _ ⟨_, _, ep + 1, Heap.get?_update_self _ ho (Obj.isFreed_of_dict (Obj.data_mapDictKeys hd _)), hc.mapDictKeys _, Obj.data_mapDictKeys hd _, hk.push hkey _, ?_, ?_⟩ (Heap.SameBut.update ..))
    · rw [stored, if_neg hany]
      have := hp.append hkey (knd.hash k) v
      obtain ⟨l⟩ := es
      simpa using this
    · rw [stored, if_neg hany, List.map_append, List.nodup_append]
      refine ⟨hn, by simp, ?_⟩
      intro a ha b hb
      simp only [List.map_cons, List.map_nil, List.mem_singleton] at hb
      subst hb
      exact fun e => hnot (e ▸ ha)
theorem mergeMapping_pairs {d o : Addr} {kvs more : List (κ × Value)} {Q : Unit → Shared → Prop} (hdo : d ≠ o) (hoS : (o == sysModules) = false)
    (hd : s.heap.DictOf knd d kvs) (ho : s.heap.DictOf knd o more) (hsz : kvs.length + more.length ≤ sizeLine)
    (hQ : ∀ h', h'.DictOf knd d (merged kvs more) → h'.DictOf knd o more → Heap.SameBut d s.heap h' → Q () { s with heap := h' }) :
    wpAny (model prog w) A (mergeMapping d (.ref o) false) Q E s := by
  obtain ⟨od, esd, epd, hod, hcd, hdd, hkd, hpd, hnd⟩ := id hd
  obtain ⟨oo, eso, epo, hoo, hco, hdo', hko, hpo, hno⟩ := id ho
  have hlen : more.length = eso.size := by rw [← hpo.length]; simp
  unfold mergeMapping
  refine wpAny_bind (wpAny_isInstance ho.typeIs isSubtype_dict_dict ?_)
  simp only [if_true]
  refine wpAny_bind (wpAny_specialOf ho.typeIs F.slot_dict_iter.lookup ?_)
  refine wpAny_bind (wpAny_pure ?_)
  simp only [beq_self_eq_true, hoS, Bool.false_eq_true, if_false]
  refine wpAny_bind (wpAny_dictEntries hod hdd ?_)
  have loop : wpAny (model prog w) A (do
      let l ← dictEntries o
      let epoch ← dictEpoch o
      forIn (List.range l.size) PUnit.unit fun i (_ : PUnit) => (do
          let l' ← dictEntries o
          match l'[i]? with
            | some e => do
              holding [e.key, e.val] (dictPut d e.hash e.key e.val)
              let ep' ← dictEpoch o
              if (ep' != epoch) = true then do
                  (unsupported "dict.changed-during-merge" : Sem PUnit)
                  pure (ForInStep.yield PUnit.unit)
                else pure (ForInStep.yield PUnit.unit)
            | _ => do
              (unsupported "dict.changed-during-merge" : Sem PUnit)
              pure (ForInStep.yield PUnit.unit) : Sem (ForInStep PUnit))
      pure ()) Q E s := by
    refine wpAny_bind (wpAny_dictEntries hoo hdo' ?_)
    refine wpAny_bind (wpAny_dictEpoch hoo hdo' ?_)
    refine wpAny_bind ?_
    rw [List.range_eq_range']
    refine wpAny_forIn_list _
      (fun rest _ s' => ∃ h' i, s' = { s with heap := h' } ∧ rest = List.range' i (eso.size - i) ∧ i ≤ eso.size ∧ h'.DictOf knd d (merged kvs (more.take i)) ∧ h'.get? o = some oo ∧ Heap.SameBut d s.heap h')
      _ ?_ ?_ _ _ ⟨s.heap, 0, rfl, by simp, Nat.zero_le _, by simpa [merged] using hd, hoo, Heap.SameBut.refl _ _⟩
    · rintro x rest b s' ⟨h', i, rfl, hr, hi, hd', hoo', hs'⟩
      have hlt : i < eso.size := by
        rcases Nat.lt_or_ge i eso.size with h | h
        · exact h
        · rw [Nat.sub_eq_zero_of_le h] at hr; simp at hr
      obtain ⟨rfl, hrest⟩ : x = i ∧ rest = List.range' (i + 1) (eso.size - (i + 1)) := by
        have e : eso.size - i = (eso.size - (i + 1)) + 1 := by omega
        rw [e, List.range'_succ] at hr
        injection hr with h1 h2
        exact ⟨h1, h2⟩
      refine wpAny_bind (wpAny_dictEntries hoo' hdo' ?_)
      rw [Array.getElem?_eq_getElem hlt]
      obtain ⟨kv, hkv⟩ : ∃ kv, more[x]? = some kv := ⟨more[x]'(by rw [hlen]; exact hlt), List.getElem?_eq_getElem _⟩
      obtain ⟨k, v⟩ := kv
      obtain ⟨hkey, hval⟩ := hpo.get? (e := eso[x]) (by simp [hlt]) hkv
      obtain ⟨k', hkey', hhash⟩ := hko eso[x] (Array.getElem_mem hlt)
      obtain rfl : k' = k := knd.inj _ _ _ hkey' hkey
      show wpAny _ _ (holding [eso[x].key, eso[x].val] (dictPut d eso[x].hash eso[x].key eso[x].val) >>= _) _ _ _
      rw [hhash, hval]
      have hmx : (merged kvs (more.take x)).length ≤ sizeLine := by
        have e1 := merged_length_le kvs (more.take x)
        have e2 : (more.take x).length ≤ more.length := by rw [List.length_take]; omega
        omega
      refine wpAny_bind (wpAny_holding (dictPut_pairs hkey hd' (fun h'' hd'' hs'' => ?_) hmx))
      have hoo'' : h''.get? o = some oo := (hs''.2 o (Ne.symm hdo)).trans hoo'
      refine wpAny_bind (wpAny_dictEpoch hoo'' hdo' ?_)
      rw [if_neg (by simp)]
      exact wpAny_pure ⟨h'', x + 1, rfl, hrest, hlt, by rw [merged_take_succ kvs more x (k', v) hkv]; exact hd'', hoo'', hs'.trans hs''⟩
    · rintro b s' ⟨h', i, rfl, hr, hi, hd', hoo', hs'⟩
      have hin : i = eso.size := by
        rcases Nat.lt_or_ge i eso.size with h | h
        · have e : eso.size - i = (eso.size - (i + 1)) + 1 := by omega
          rw [e, List.range'_succ] at hr; exact nomatch hr
        · exact Nat.le_antisymm hi h
      refine wpAny_pure (hQ h' ?_ ⟨oo, eso, epo, hoo', hco, hdo', hko, hpo, hno⟩ hs')
      rw [hin, ← hlen, List.take_length] at hd'; exact hd'
  split
  · refine wpAny_bind (wpAny_dictEntries hoo hdo' ?_)
    have hl : (forIn eso PUnit.unit fun e (_ : PUnit) => (match e.key with
        | .ref a => (do
          let r ← specialOf e.key (Str.ofString "__eq__")
          if (r != some (Value.builtin "object.__eq__")) = true then
            if (eso.filter (fun x => x.hash == e.hash)).size > 1 then (do let _ ← (unsupported "dict.merge-into-an-empty-dict:keys-of-equal-hash" : Sem PUnit); pure (ForInStep.yield PUnit.unit)) else pure (ForInStep.yield PUnit.unit)
          else pure (ForInStep.yield PUnit.unit))
        | _ => pure (ForInStep.yield PUnit.unit) : Sem (ForInStep PUnit))) = pure PUnit.unit := by
      rw [← Array.forIn_toList]
      refine forIn_yield_id _ fun e he c => ?_
      obtain ⟨k, hkey, _⟩ := hko e (Array.mem_toList_iff.mp he)
      have hb := knd.byValue k _ hkey
      cases e with
      | mk h kk v =>
        cases kk with
        | ref a => simp [carriedByValue] at hb
        | _ => rfl
    refine wpAny_bind (wpAny_of_eq hl ?_)
    exact loop
  · exact loop
/-- {**e, k: v} by its steps -/
theorem spread_walk {env : Env} {e k v : Expr} {pos : Pos} {Q : Value → Shared → Prop}
    (h : wpAny (model prog w) A (eval e env) (fun m s1 => ∃ a kvs, m = .ref a ∧ (a == sysModules) = false ∧ s.heap.objs.size ≠ a ∧ kvs.length < sizeLine ∧ (kvs.map (·.1)).Nodup ∧ s1.heap.DictOf knd a kvs ∧ s1.heap.DictOf knd s.heap.objs.size [] ∧
      ∀ h2, h2.DictOf knd s.heap.objs.size kvs → Heap.SameBut s.heap.objs.size s1.heap h2 →
        wpAny (model prog w) A (eval k env) (fun kv s3 => wpAny (model prog w) A (eval v env) (fun vv s4 => ∃ kk kvs4, knd.is kk kv = true ∧ kvs4.length < sizeLine ∧ (h2.objs.size == sysModules) = false ∧ s.heap.objs.size ≠ h2.objs.size ∧ s4.heap.DictOf knd h2.objs.size [] ∧ s4.heap.DictOf knd s.heap.objs.size kvs4 ∧
          ∀ h4 h5, h4.DictOf knd h2.objs.size [(kk, vv)] → Heap.SameBut h2.objs.size s4.heap h4 → h5.DictOf knd s.heap.objs.size (stored kvs4 kk vv) → Heap.SameBut s.heap.objs.size h4 h5 → ∀ tk, Q (.ref s.heap.objs.size) { s4 with heap := h5, toks := tk }) E s3) E
          { s1 with heap := h2.push { cls := .type "dict", data := .dict #[] } }) E { s with heap := s.heap.push { cls := .type "dict", data := .dict #[] } }) :
    wpAny (model prog w) A (eval (.Dict [none, some k] [e, v] pos) env) Q E s := by
  rw [arm_eval_Dict]
  refine wpAny_bind (wpAny_standAt ?_)
  show wpAny _ _ (dictDisplay [(none, do let x ← eval e env; standAt pos; pure x), (some (eval k env), do let x ← eval v env; standAt pos; pure x)]) _ _ _
  unfold dictDisplay
  simp only [List.forIn_cons, List.forIn_nil, List.isEmpty_nil, if_true, pure_bind, bind_assoc]
  refine wpAny_bind (wpAny_alloc ?_)
  refine wpAny_bind (wpAny_holding ?_)
  refine wpAny_bind (wpAny_mono h (fun m s1 h1 => ?_) fun _ _ z => z)
  obtain ⟨a, kvs, rfl, hsys, hne, hz, hnd, da, d0, h1⟩ := h1
  refine wpAny_bind (wpAny_standAt (wpAny_pure ?_))
  refine wpAny_bind (wpAny_onRaise (wpAny_tryCatch (wpAny_onRaise (wpAny_holding (mergeMapping_pairs hne hsys d0 da (by simp; omega) fun h2 dd2 da2 sb2 => ?_)))))
  rw [merged_nil_of_nodup kvs hnd] at dd2
  have h1 := h1 h2 dd2 sb2
  simp only [List.nil_append, List.length_cons, List.length_nil, List.isEmpty_cons]
  refine wpAny_bind ?_
  rw [if_neg (by decide)]
  refine wpAny_pure ?_
  refine wpAny_bind (wpAny_pure ?_)
  simp only [List.isEmpty_cons, Bool.false_eq_true, if_false]
  refine wpAny_bind (wpAny_bind (wpAny_holding (wpAny_subDict (knd := knd) (by simp) ?_)))
  refine evalPairs_cons ?_
  refine wpAny_mono h1 (fun kv s3 h3 => wpAny_bind (wpAny_mono h3 (fun vv s4 h4 => wpAny_bind (wpAny_standAt (wpAny_pure (evalPairs_nil ?_)))) fun _ _ z => z)) fun _ _ z => z
  obtain ⟨kk, kvs4, hk, hz4, hs2, hn2, dD, d1, q⟩ := h4
  refine ⟨[(kk, vv)], ⟨hk, rfl, trivial⟩, dD, fun h5 d5 sb5 => ?_⟩
  refine wpAny_bind (wpAny_onRaise (wpAny_holding (mergeMapping_pairs hn2 hs2 (d1.sameBut sb5 hn2) d5 (by simp [merged, stored]; omega) fun h6 dd6 da6 sb6 => ?_)))
  refine wpAny_pure (wpAny_pure ?_)
  exact q h5 h6 d5 sb5 dd6 sb6 _
end
section
variable {K : PySem.W.Frag} {F : Sto} {X : Cx} {σ : L2.St} {H H1 : Hp} {r : Rho} {S S1 : Sto} {pos : Pos} {q : Addr}
/-- an object beside the store -/
theorem Stp.side {o : HO} (st : Stp H S H1 S1) (hq : H q = none) : Stp H S (upd H1 q o) S1 :=
  ⟨fun a u i e => by rw [upd_ne (ne_of_none e hq)]; exact st.at_ a u i e, fun a e => st.fre a (upd_none e), st.own⟩
theorem Ok.side {o u : HO} (ok : Ok K F σ H r S) (hq : H q = some u) (hi : ¬ Imm u) (hs : q ∉ feet S) (hf : ∀ p ∈ F, q ∉ foot p) : Ok K F σ (upd H q o) r S := by
  have kp : KeepI H (upd H q o) := .mut hq hi
  refine ⟨⟨fun p hp => (ok.sto p hp).keep kp fun a hm w e => ?_, ok.nd, fun p hp => ⟨(ok.rdo p hp).1.keep kp fun a hm w e => ?_, (ok.rdo p hp).2⟩⟩, ok.len, fun i t e => let ⟨v, h1, h2⟩ := ok.loc i t e; ⟨v, h1, h2.keep kp⟩⟩
  · rw [upd_ne (fun z => hs (by rw [← z]; exact feet_of hp hm))]; exact e
  · rw [upd_ne (fun z => hf p hp (by rw [← z]; exact hm))]; exact e
theorem Ok.add {m : MO} (ok : Ok K F σ H r S) (hm : MOk K H (q, m)) (he : foot (q, m) = [q]) (hs : q ∉ feet S) (hf : ∀ p ∈ F, q ∉ foot p) : Ok K F σ H r ((q, m) :: S) := by
  refine ⟨⟨fun p hp => ?_, ?_, fun p hp => ⟨(ok.rdo p hp).1, fun a h hh => ?_⟩⟩, ok.len, ok.loc⟩
  · rcases List.mem_cons.mp hp with rfl | hp
    · exact hm
    · exact ok.sto p hp
  · show (foot (q, m) ++ feet S).Nodup
    rw [he]
    exact List.nodup_cons.mpr ⟨hs, ok.nd⟩
  · have hh : a ∈ foot (q, m) ++ feet S := hh
    rw [he] at hh
    rcases List.mem_cons.mp hh with rfl | hh
    · exact hf p hp h
    · exact (ok.rdo p hp).2 a h hh
theorem OkH.offF (ok : OkH K F H S) (hq : H q = none) : ∀ p ∈ F, q ∉ foot p := fun p hp hm => by
  obtain ⟨o, e⟩ := (ok.rdo p hp).1.there q hm
  rw [hq] at e; cases e
theorem Stp.off (st : Stp H S H1 S1) {o : HO} (hq : H q = some o) (hs : q ∉ feet S) : q ∉ feet S1 := fun h => by
  rcases st.own q h with z | z
  · exact hs z
  · rw [hq] at z; cases z
theorem notImm_dK {kvs : List (Key × V)} : ¬ Imm (.dK kvs) := fun z => by rcases z with ⟨_, z⟩ | ⟨_, _, z⟩ <;> cases z
theorem notImm_lst {xs : List V} : ¬ Imm (.lst xs) := fun z => by rcases z with ⟨_, z⟩ | ⟨_, _, z⟩ <;> cases z
/-- {**e, k: v} -/
theorem ew_spread {e kx vx : Expr} {k : T → Sto → Prop} (h : ew F X e r S fun t S1 => ∃ p kvs, t = .ref p ∧ Rdb F S1 (p, .dk kvs) ∧ kvs.length ≤ 60000 ∧
      ew F X kx r S1 fun tk S2 => ew F X vx r S2 fun tv S3 => ∃ kk, tk = kT kk ∧ ∀ q, q ∉ feet S3 → k (.ref q) ((q, .dk (putT kvs kk tv)) :: S3)) : ew F X (.Dict [none, some kx] [e, vx] pos) r S k := by
  intro σ H Q ok cc pins s I
  have hn := I.hok.fresh (Nat.le_refl s.heap.objs.size)
  have I1 := I.laid (a := s.heap.objs.size) (o := .dK []) (h' := s.heap.push { cls := .type "dict", data := .dict #[] }) (t' := s.toks) (fun _ _ q => Heap.get?_push_of_some _ q) (Nat.le_refl _) (dk_empty s.heap I.big)
  refine spread_walk (knd := mixKind X.prog X.w) ?_
  generalize hd : s.heap.objs.size = q at hn I1
  have offF := ok.toOkH.offF hn
  have offS := ok.toOkH.fresh hn
  have ok1 : Ok X.K F σ (upd H q (.dK [])) r S := ok.new hn
  refine thn (h σ (upd H q (.dK [])) (fun m H1 => ∃ p kvs vkvs S1, m = .ref p ∧ Stp (upd H q (.dK [])) S H1 S1 ∧ Ok X.K F σ H1 r S1 ∧ p ≠ q ∧ Rd H1 p (.dK vkvs) ∧ PKV X.K H1 vkvs kvs ∧ kvs.length ≤ 60000 ∧
      ew F X kx r S1 fun tk S2 => ew F X vx r S2 fun tv S3 => ∃ kk, tk = kT kk ∧ ∀ q, q ∉ feet S3 → k (.ref q) ((q, .dk (putT kvs kk tv)) :: S3)) ok1 (fun v H1 t S1 st ok2 tr qq => ?_) pins _ I1) fun m s1 ⟨x, H1, I2, rx, p, kvs, vkvs, S1, ex, st, ok2, hpq, hp, pk, hz, qq⟩ => ?_
  · obtain ⟨p, kvs, rfl, hr, hz, qq⟩ := qq
    obtain ⟨vkvs, hp, pk⟩ := ok2.toOkH.read hr
    refine ⟨p, kvs, vkvs, S1, tr.ref_inv, st, ok2, fun z => ?_, hp, pk, hz, qq⟩
    subst z
    rcases hr with hr | hr
    · exact st.off (upd_same) offS (feet_of hr (by simp [foot]))
    · exact offF _ hr (by simp [foot])
  subst ex
  obtain rfl : m = Value.ref p := rx
  obtain ⟨_, hps, vs, rel, dd⟩ := dk_rd I2.hok hp
  have hq1 : H1 q = some (.dK []) := st.at_ q _ (.inl offS) upd_same
  obtain ⟨_, hqs, vs0, rel0, dd0⟩ := dk_of I2.hok hq1
  cases rel0
  have lz : (60000 : Nat) + 2 ≤ sizeLine := by decide
  have ln := pk.length
  have ln2 : vkvs.length = vs.length := rel.length
  refine ⟨p, vs, rfl, hps, (Ne.symm hpq), by omega, ?_, dd, dd0, fun h2 d2 sb2 => ?_⟩
  · obtain ⟨_, _, _, _, _, _, _, _, nd⟩ := dd; exact nd
  have he2 : ∃ o, h2.get? q = some o := let ⟨o, _, _, ho, _⟩ := d2; ⟨o, ho⟩
  have off1 := st.off upd_same offS
  have I3 : Inv X pins σ (upd H1 q (.dK vkvs)) { s1 with heap := h2 } := d_write I2 (t' := s1.toks) (by rw [hq1]; exact True.intro) sb2 he2 (dk_new (by omega) hqs rel d2)
  have ok3 : Ok X.K F σ (upd H1 q (.dK vkvs)) r S1 := ok2.side hq1 notImm_dK off1 offF
  have n3 := I3.hok.fresh (Nat.le_refl h2.objs.size)
  have I4 := I3.laid (a := h2.objs.size) (o := .dK []) (h' := h2.push { cls := .type "dict", data := .dict #[] }) (t' := s1.toks) (fun _ _ q => Heap.get?_push_of_some _ q) (Nat.le_refl _) (dk_empty h2 I3.big)
  generalize hD : h2.objs.size = D at n3 I4
  have hDq : D ≠ q := fun z => by subst z; rw [upd_same] at n3; cases n3
  have ok4 : Ok X.K F σ (upd (upd H1 q (.dK vkvs)) D (.dK [])) r S1 := ok3.new n3
  have st0 : Stp H S H1 S1 := (Stp.new hn).trans st
  have st4 : Stp H S (upd (upd H1 q (.dK vkvs)) D (.dK [])) S1 := (st0.side hn).side (by
    have := upd_none n3
    exact st0.fre D this)
  have offD := ok3.toOkH.fresh n3
  have offDF := ok3.toOkH.offF n3
  have hHD : H D = none := st0.fre D (upd_none n3)
  have pk1 : PKV X.K (upd (upd H1 q (.dK vkvs)) D (.dK [])) vkvs kvs := (pk.keep (.mut hq1 notImm_dK)).keep (.new n3)
  generalize hH4 : upd (upd H1 q (.dK vkvs)) D (.dK []) = H4 at I4 ok4 st4 pk1
  have hq4 : H4 q = some (.dK vkvs) := by rw [← hH4, upd_ne (Ne.symm hDq), upd_same]
  have hD4 : H4 D = some (.dK []) := by rw [← hH4, upd_same]
  refine thn (qq σ H4 (fun x5 H5 => WE X vx σ H5 fun v6 H6 => ∃ kk tv S6, x5 = kV kk ∧ Stp H4 S1 H6 S6 ∧ Ok X.K F σ H6 r S6 ∧ TR X.K H6 v6 tv ∧ ∀ q, q ∉ feet S6 → k (.ref q) ((q, .dk (putT kvs kk tv)) :: S6)) ok4 (fun x5 H5 tk S5 st5 ok5 tr5 q5 => ?_) pins _ I4) fun kv s3 ⟨x5, H5, I5, r5, q5⟩ => thn (q5 pins s3 I5) fun vv s4 ⟨v6, H6, I6, r6, kk, tv, S6, e5, st6, ok6, tr6, q6⟩ => ?_
  · refine q5 σ H5 _ ok5 fun v6 H6 tv S6 st6 ok6 tr6 q6 => ?_
    obtain ⟨kk, rfl, q6⟩ := q6
    exact ⟨kk, tv, S6, kT_tr tr5, st5.trans st6, ok6, tr6, q6⟩
  subst e5
  have hq6 : H6 q = some (.dK vkvs) := st6.at_ q _ (.inl off1) hq4
  have hD6 : H6 D = some (.dK []) := st6.at_ D _ (.inl offD) hD4
  obtain ⟨_, hDs, vs1, rel1, dd1⟩ := dk_of I6.hok hD6
  cases rel1
  obtain ⟨_, hqs6, vs6, rel6, dd6⟩ := dk_of I6.hok hq6
  have ln6 : vkvs.length = vs6.length := rel6.length
  refine ⟨kk, vs6, kV_is r5, by omega, hDs, (Ne.symm hDq), dd1, dd6, fun h4 h5 d4 sb4 d5 sb5 tk => ?_⟩
  have heD : ∃ o, h4.get? D = some o := let ⟨o, _, _, ho, _⟩ := d4; ⟨o, ho⟩
  have I7 : Inv X pins σ (upd H6 D (.dK [(kk, v6)])) { s4 with heap := h4 } := d_write I6 (t' := s4.toks) (by rw [hD6]; exact True.intro) sb4 heD (dk_new (by simp; decide) hDs (.cons ⟨rfl, r6⟩ .nil) d4)
  have hq7 : (upd H6 D (.dK [(kk, v6)])) q = some (.dK vkvs) := by rw [upd_ne (Ne.symm hDq)]; exact hq6
  have heq : ∃ o, h5.get? q = some o := let ⟨o, _, _, ho, _⟩ := d5; ⟨o, ho⟩
  have hl := length_putK vkvs kk v6
  have I8 : Inv X pins σ (upd (upd H6 D (.dK [(kk, v6)])) q (.dK (putK vkvs kk v6))) { s4 with heap := h5, toks := tk } := d_write (s := { s4 with heap := h4 }) (t' := tk) I7 (by rw [hq7]; exact True.intro) sb5 heq (dk_new (by omega) hqs (rel6.put kk r6) d5)
  have off6 := st6.off hq4 off1
  have off6D := st6.off hD4 offD
  have ok7 : Ok X.K F σ (upd H6 D (.dK [(kk, v6)])) r S6 := ok6.side hD6 notImm_dK off6D offDF
  have ok8 : Ok X.K F σ (upd (upd H6 D (.dK [(kk, v6)])) q (.dK (putK vkvs kk v6))) r S6 := ok7.side hq7 notImm_dK off6 offF
  have kp : KeepI H6 (upd (upd H6 D (.dK [(kk, v6)])) q (.dK (putK vkvs kk v6))) := (KeepI.mut hD6 notImm_dK).trans (.mut hq7 notImm_dK)
  have pk8 : PKV X.K (upd (upd H6 D (.dK [(kk, v6)])) q (.dK (putK vkvs kk v6))) (putK vkvs kk v6) (putT kvs kk tv) := PKV.put kk (tr6.keep kp) ((pk1.keep st6.toI).keep kp)
  have st8 : Stp H S (upd (upd H6 D (.dK [(kk, v6)])) q (.dK (putK vkvs kk v6))) S6 := ((st4.trans st6).side hHD).side hn
  refine ⟨.ref q, _, I8, rfl, cc _ _ (.ref q) ((q, .dk (putT kvs kk tv)) :: S6) ⟨st8.at_, st8.fre, fun a ha => ?_⟩ (ok8.add ⟨_, upd_same, pk8⟩ rfl off6 offF) (.ref q) (q6 q off6)⟩
  rcases List.mem_cons.mp (show a ∈ q :: feet S6 from ha) with rfl | ha
  · exact .inr hn
  · exact st8.own a ha
end
end PT
set_option Elab.async false
set_option linter.all false
set_option maxRecDepth 100000
set_option maxHeartbeats 2000000
set_option autoImplicit false
namespace PT
open PySem L2 PySem.Spec PyProof.Rows
/-! ### lists that change -/
section
variable {F : Sto} {X : Cx} {r : Rho} {S : Sto} {pos apos cpos p2 : Pos} {e o a b : Expr} {es : List Expr}
theorem hundred : (100000 : Nat) < sizeLine := by decide
/-- a method by values -/
def mw (F : Sto) (X : Cx) (rr : V → List V → Hp → VK → Prop) (p : Addr) (us : List T) (r : Rho) (S : Sto) (k : T → Sto → Prop) : Prop := ∀ σ H vs Q, Ok X.K F σ H r S → TRs X.K H vs us → CoE X.K F σ H r S k Q → rr (.ref p) vs H Q
theorem ew_mth {name : Str} {id : String} {rr : V → List V → Hp → VK → Prop} {k : T → Sto → Prop} (slot : Slot "list" name id) (hty : typeOf (.builtin id) = pure (.type "method_descriptor")) (hm : MtR X id rr)
    (h : ew F X o r S fun t S1 => ∃ p ts0, t = .ref p ∧ Rdb F S1 (p, .lst ts0) ∧ aw F X (e :: es) r S1 fun us S2 => mw F X rr p us r S2 k)
    (hbase : attributeBase o name X.env (eval o X.env) = eval o X.env)
    (hfew : ((backTo cpos (starEach (e :: es) X.env)).all (fun x => !x.1) && (backToKw cpos (keywordEach [] X.env)).all (fun x => x.1.isSome) && decide ((e :: es).length + ([] : List Keyword).length + (if ([] : List Keyword).isEmpty then 0 else 1) < 30)) = true)
    (hline : (apos.endLine == cpos.line) = true) (hs : starEach (e :: es) X.env = (false, eval e X.env) :: starEach es X.env) (hplain : (backTo cpos (starEach es X.env)).any (·.1) = false) :
    ew F X (.Call (.Attribute o name apos) (e :: es) [] cpos) r S k := by
  intro σ H Q ok cc
  refine we_of (pe_bm PySem.F.plainAttrs_list slot hty hm peW paW hbase hfew hline hs hplain) ?_
  refine h σ H _ ok fun v H1 t S1 k1 ok1 tr q => ?_
  obtain ⟨p, ts0, rfl, hr, q⟩ := q
  obtain ⟨vs, rd, rs⟩ := ok1.toOkH.read hr
  rw [tr.ref_inv]
  refine ⟨.inl ⟨rfl, vs, .inl rd⟩, ?_⟩
  refine q σ H1 _ ok1 fun us H2 ts S2 k2 ok2 trs q2 => ?_
  exact q2 σ H2 us Q ok2 trs (cc.mono (k1.trans k2))
theorem ew_mth0 {name : Str} {id : String} {rr : V → List V → Hp → VK → Prop} {k : T → Sto → Prop} (slot : Slot "list" name id) (hty : typeOf (.builtin id) = pure (.type "method_descriptor")) (hm : MtR X id rr)
    (h : ew F X o r S fun t S1 => ∃ p ts0, t = .ref p ∧ Rdb F S1 (p, .lst ts0) ∧ mw F X rr p [] r S1 k)
    (hbase : attributeBase o name X.env (eval o X.env) = eval o X.env) (hline : (apos.endLine == cpos.line) = true) : ew F X (.Call (.Attribute o name apos) [] [] cpos) r S k := by
  intro σ H Q ok cc
  refine we_of (pe_bm0 PySem.F.plainAttrs_list slot hty hm peW hbase hline) ?_
  refine h σ H _ ok fun v H1 t S1 k1 ok1 tr q => ?_
  obtain ⟨p, ts0, rfl, hr, q⟩ := q
  obtain ⟨vs, rd, rs⟩ := ok1.toOkH.read hr
  rw [tr.ref_inv]
  exact ⟨.inl ⟨rfl, vs, .inl rd⟩, q σ H1 [] Q ok1 .nil (cc.mono k1)⟩
theorem TRs.mid {K : PySem.W.Frag} {H : Hp} {p : Addr} {Sa Sb : Sto} {ts : List T} (ok : OkH K F H (Sa ++ (p, .lst ts) :: Sb)) : ∃ vs, H p = some (.lst vs) ∧ TRs K H vs ts := ok.sto (p, .lst ts) (by simp)
/-- a list of the store is written -/
theorem Ok.wr {K : PySem.W.Frag} {σ : L2.St} {H : Hp} {p : Addr} {Sa Sb : Sto} {ts us : List T} {vs ws : List V} (ok : Ok K F σ H r (Sa ++ (p, .lst ts) :: Sb)) (hp : H p = some (.lst vs)) (hw : TRs K H ws us) :
    Stp H (Sa ++ (p, .lst ts) :: Sb) (upd H p (.lst ws)) (Sa ++ (p, .lst us) :: Sb) ∧ Ok K F σ (upd H p (.lst ws)) r (Sa ++ (p, .lst us) :: Sb) :=
  ⟨.mut rfl rfl hp notImm_lst, ok.mut (.lst us) rfl rfl hp notImm_lst ⟨ws, upd_same, hw.keep (.mut hp notImm_lst)⟩⟩
theorem mw_append {p : Addr} {Sa Sb : Sto} {ts : List T} {y : T} {k : T → Sto → Prop} (hz : ts.length < 100000) (hk : k .non (Sa ++ (p, .lst (ts ++ [y])) :: Sb)) : mw F X rAppend p [y] r (Sa ++ (p, .lst ts) :: Sb) k := fun σ H vs Q ok trs cc => by
  obtain ⟨v, rfl, tr⟩ := trs.one
  obtain ⟨xs, hp, rs⟩ := TRs.mid ok.toOkH
  obtain ⟨st, ok2⟩ := ok.wr hp (rs.app (.cons tr .nil))
  exact ⟨p, xs, v, rfl, rfl, hp, Nat.lt_trans (by rw [rs.length]; exact hz) hundred, cc _ _ _ _ st ok2 .non hk⟩
theorem mw_extend {p b : Addr} {Sa Sb : Sto} {ts us : List T} {k : T → Sto → Prop} (hb : (b, .lst us) ∈ Sa ++ (p, .lst ts) :: Sb) (hz : ts.length + us.length ≤ 100000) (hk : k .non (Sa ++ (p, .lst (ts ++ us)) :: Sb)) : mw F X rExtend p [.ref b] r (Sa ++ (p, .lst ts) :: Sb) k := fun σ H vs Q ok trs cc => by
  obtain ⟨v, rfl, tr⟩ := trs.one
  obtain ⟨xs, hp, rs⟩ := TRs.mid ok.toOkH
  obtain ⟨ys, hb2, rs2⟩ := ok.sto _ hb
  obtain ⟨st, ok2⟩ := ok.wr hp (rs.app rs2)
  exact ⟨p, b, xs, ys, rfl, by rw [tr.ref_inv], hp, hb2, Nat.le_trans (by rw [rs.length, rs2.length]; exact hz) (Nat.le_of_lt hundred), cc _ _ _ _ st ok2 .non hk⟩
theorem mw_pop {p : Addr} {Sa Sb : Sto} {ts : List T} {y : T} {k : T → Sto → Prop} (hk : k y (Sa ++ (p, .lst ts) :: Sb)) : mw F X rPop p [] r (Sa ++ (p, .lst (ts ++ [y])) :: Sb) k := fun σ H vs Q ok trs cc => by
  cases trs
  obtain ⟨xs, hp, rs⟩ := TRs.mid ok.toOkH
  obtain ⟨v, e, tr⟩ := rs.last
  obtain ⟨st, ok2⟩ := ok.wr (us := ts) hp (by have := rs.dropLast; rwa [List.dropLast_concat] at this)
  exact ⟨p, xs, v, rfl, rfl, hp, e, cc _ _ _ _ st ok2 (tr.keep st.toI) hk⟩
theorem mw_popAt {p : Addr} {Sa Sb : Sto} {ts : List T} {i : Int} {n : Nat} {y : T} {k : T → Sto → Prop} (hi : -(2 ^ 63) ≤ i ∧ i < 2 ^ 63) (hn : seqIndex? i ts.length = some n) (hy : ts[n]? = some y) (hk : k y (Sa ++ (p, .lst (ts.eraseIdx n)) :: Sb)) : mw F X rPopAt p [.int i] r (Sa ++ (p, .lst ts) :: Sb) k := fun σ H vs Q ok trs cc => by
  obtain ⟨v, rfl, tr⟩ := trs.one
  obtain ⟨xs, hp, rs⟩ := TRs.mid ok.toOkH
  obtain ⟨w, e, trw⟩ := rs.get hy
  obtain ⟨st, ok2⟩ := ok.wr hp (rs.eraseIdx n)
  exact ⟨p, xs, i, n, w, rfl, by rw [tr.int_inv], hp, hi.1, hi.2, by rw [rs.length]; exact hn, e, cc _ _ _ _ st ok2 (trw.keep st.toI) hk⟩
theorem bw_catL {p q : Addr} {ts us : List T} {k : T → Sto → Prop} (hp : (p, .lst ts) ∈ S) (hq : (q, .lst us) ∈ S) (hz : ts.length + us.length ≤ 100000) (hk : ∀ z, z ∉ feet S → k (.ref z) ((z, .lst (ts ++ us)) :: S)) : bw F X (binaryOp .Add) (.ref p) (.ref q) r S k :=
  bw_of op_cat fun σ H x y Q ok ha hb cc => by
    obtain ⟨xs, e1, r1⟩ := ok.sto _ hp
    obtain ⟨ys, e2, r2⟩ := ok.sto _ hq
    exact ⟨p, q, xs, ys, ha.ref_inv, hb.ref_inv, e1, e2, Nat.le_trans (by rw [r1.length, r2.length]; exact hz) (Nat.le_of_lt hundred), fun z hz => cc _ _ _ _ (.put hz rfl) (ok.put (.lst _) hz rfl ⟨_, upd_same, (r1.app r2).keep (.new hz)⟩) (.ref z) (hk z (ok.toOkH.fresh hz))⟩
/-! o[i] = e -/
theorem s1_setL {k : KE} (h : ew F X e r S fun t S1 => ew F X o r S1 fun u S2 => ew F X a r S2 fun w S3 => ∃ p Sa Sb ts i j, u = .ref p ∧ w = .int i ∧ S3 = Sa ++ (p, .lst ts) :: Sb ∧ ixN ts.length i = some j ∧ k.nx r (Sa ++ (p, .lst (ts.set j t)) :: Sb))
    (hw : swappedStores [.Subscript o a p2] e X.env = pure none := by rfl) (hs : swapsWithSole [.Subscript o a p2] e pos.line X.env = pure false := by rfl)
    (ha : ∀ v, assign (.Subscript o a p2) X.env v = (do
      let ov ← holding [v] (eval o X.env)
      let iv ← holding [v, ov] (eval a X.env)
      standAt p2
      holding [v, ov, iv] (setItem ov iv v)
      release [v, ov, iv] []) := by intro _; rfl) (h1 : (assignEach [.Subscript o a p2] X.env).map (·.2) = [assign (.Subscript o a p2) X.env] := by rfl) :
    s1w F X (.Assign [.Subscript o a p2] e pos) r S k := by
  intro σ H D ok cc
  refine ws1_of (ps_asg peW (pg_sub peW peW set_list ha) hs hw h1) ?_
  refine h σ H _ ok fun v H1 t S1 k1 ok1 tr q => ?_
  refine q σ H1 _ ok1 fun u H2 tu S2 k2 ok2 tru q2 => ?_
  refine q2 σ H2 _ ok2 fun w H3 tw S3 k3 ok3 trw q3 => ?_
  obtain ⟨p, Sa, Sb, ts, i, j, rfl, rfl, rfl, hj, q3⟩ := q3
  obtain ⟨xs, hp, rs⟩ := TRs.mid ok3.toOkH
  obtain ⟨st, ok4⟩ := ok3.wr hp (rs.set ((tr.keep k2.toI).keep k3.toI) j)
  exact ⟨p, xs, i, j, tru.ref_inv, trw.int_inv, hp, by rw [rs.length]; exact hj, cc.nx σ _ r _ (((k1.trans k2).trans k3).trans st) ok4 q3⟩
theorem s1_dput {k : KE} (hu : X.A.units + 1 < cLine) (h : ew F X e r S fun t S1 => ew F X o r S1 fun u S2 => ew F X a r S2 fun w S3 => ∃ p Sa Sb kvs kk, u = .ref p ∧ w = kT kk ∧ S3 = Sa ++ (p, .dk kvs) :: Sb ∧ kvs.length < 100000 ∧ k.nx r (Sa ++ (p, .dk (putT kvs kk t)) :: Sb))
    (hs : swapsWith e (some (.Subscript o a p2)) pos.line X.env = pure false := by rfl) : s1w F X (.Assign [.Subscript o a p2] e pos) r S k := by
  intro σ H D ok cc
  refine ws1_of (ps_dput hu peW peW peW hs) ?_
  refine h σ H _ ok fun v H1 t S1 k1 ok1 tr q => ?_
  refine q σ H1 _ ok1 fun u H2 tu S2 k2 ok2 tru q2 => ?_
  refine q2 σ H2 _ ok2 fun w H3 tw S3 k3 ok3 trw q3 => ?_
  obtain ⟨p, Sa, Sb, kvs, kk, rfl, rfl, rfl, hz, q3⟩ := q3
  obtain ⟨vs, hp, pk⟩ := ok3.sto (p, .dk kvs) (by simp)
  have hl := pk.length
  refine ⟨p, _, tru.ref_inv, .inl ⟨vs, kk, hp, kT_tr trw, Nat.lt_trans (by rw [hl]; exact hz) hundred, rfl⟩, ?_⟩
  have tr3 := (tr.keep k2.toI).keep k3.toI
  have km : KeepI H3 (upd H3 p (.dK (putK vs kk v))) := .mut hp notImm_dK
  exact cc.nx σ _ r _ (((k1.trans k2).trans k3).trans (.mut rfl rfl hp notImm_dK)) (ok3.mut (.dk (putT kvs kk t)) rfl rfl hp notImm_dK ⟨_, upd_same, PKV.put kk (tr3.keep km) (pk.keep km)⟩) q3
/-! tuples of keys, tracked -/
theorem TRs.keys {K : PySem.W.Frag} {H : Hp} : ∀ {vs : List V} {ks : List Key}, TRs K H vs (ks.map kT) → vs = ks.map kV
  | _, [], .nil => rfl
  | _, k :: ks, .cons r t => by rw [List.map_cons, kT_tr r, TRs.keys t]
end
end PT
set_option Elab.async false
set_option linter.all false
set_option maxRecDepth 100000
set_option maxHeartbeats 2000000
set_option autoImplicit false
namespace PT
open PySem L2 PySem.Spec PyProof.Rows
/-! ### dicts -/
section
variable {F : Sto} {X : Cx} {r : Rho} {S : Sto} {pos apos cpos p2 : Pos} {e o a b f : Expr} {es : List Expr}
/-- d.get(k, x) -/
theorem ew_dget2 {k : T → Sto → Prop} (hu : X.A.units + 1 < cLine) (h : ew F X o r S fun t S1 => ∃ p kvs0, t = .ref p ∧ Rdb F S1 (p, .dk kvs0) ∧ ew F X e r S1 fun tk S2 => ew F X f r S2 fun tx S3 => ∃ kvs kk, tk = kT kk ∧ Rdb F S3 (p, .dk kvs) ∧ k ((valT kvs kk).getD tx) S3)
    (m : M2 X o "get" apos e f cpos := by exact ⟨rfl, rfl, rfl, rfl⟩) : ew F X (.Call (.Attribute o "get" apos) [e, f] [] cpos) r S k := by
  intro σ H Q ok cc
  refine we_of (pe_dget2 hu peW peW peW m) ?_
  refine h σ H _ ok fun v H1 t S1 k1 ok1 tr q => ?_
  obtain ⟨p, kvs0, rfl, hr, q⟩ := q
  obtain ⟨vs0, hp0, _⟩ := ok1.toOkH.read hr
  refine ⟨p, tr.ref_inv, .inl ⟨vs0, hp0⟩, ?_⟩
  refine q σ H1 _ ok1 fun y H2 tk S2 k2 ok2 trk q2 => ?_
  refine q2 σ H2 _ ok2 fun z H3 tx S3 k3 ok3 trx q3 => ?_
  obtain ⟨kvs, kk, rfl, hr3, q3⟩ := q3
  obtain ⟨vs, hp, pk⟩ := ok3.toOkH.read hr3
  refine ⟨_, .inl ⟨vs, kk, hp, kT_tr trk, rfl⟩, ?_⟩
  have pv := pk.val kk
  have st := (k1.trans k2).trans k3
  cases hv : valT kvs kk with
  | none =>
    rw [hv] at pv q3
    rw [show valV vs kk = none from pv]
    exact cc _ H3 _ S3 st ok3 trx q3
  | some t =>
    rw [hv] at pv q3
    obtain ⟨w, ew', trw⟩ := pv
    rw [ew']
    exact cc _ H3 _ S3 st ok3 trw q3
/-- list(d.items()) -/
def pairT (p : Key × T) : T := .tup [kT p.1, p.2]
theorem ew_listItems {p : Pos} {k : T → Sto → Prop} (hc : X.calm = true) (hm : X.mg "list" = none) (h : ew F X e r S fun t S1 => ∃ d kvs, t = .ref d ∧ (d, .dk kvs) ∈ S1 ∧ ∀ q, q ∉ feet S1 → k (.ref q) ((q, .lst (kvs.map pairT)) :: S1))
    (hg : Gl X "list" := by rfl) (hbase : attributeBase e "items" X.env (eval e X.env) = eval e X.env := by rfl) (hline : (apos.endLine == cpos.line) = true := by rfl)
    (hs : starEach [.Call (.Attribute e "items" apos) [] [] cpos] X.env = (false, eval (.Call (.Attribute e "items" apos) [] [] cpos) X.env) :: starEach [] X.env := by rfl) :
    ew F X (.Call (.Name "list" p) [.Call (.Attribute e "items" apos) [] [] cpos] [] pos) r S k := by
  intro σ H Q ok cc
  refine we_of (LiI.pe_listItems hc peW hg hm boot_list hbase hline hs) ?_
  refine h σ H _ ok fun v H1 t S1 k1 ok1 tr q => ?_
  obtain ⟨d, kvs, rfl, hr, q⟩ := q
  obtain ⟨vs, hd, pk⟩ := ok1.sto _ hr
  refine ⟨d, vs, tr.ref_inv, hd, fun H' z ts g hz hts hzt hl hp => ?_⟩
  have gr : ∀ a o, H1 a = some o → H' a = some o := g
  have kp : KeepI H1 H' := fun a o _ e => g a o e
  have rs : TRs X.K H' (ts.map V.ref) (kvs.map pairT) := by
    have pk2 := pk.keep kp
    clear cc q hr hd pk hl hts hzt
    revert pk2
    generalize kvs = us
    intro pk2
    induction hp generalizing us with
    | nil => cases pk2; exact .nil
    | cons h1 h2 ih =>
      cases pk2 with
      | cons g1 g2 =>
        refine .cons (.tup (.inl (.inl h1)) (.cons ?_ (.cons g1.2 .nil))) (ih _ g2)
        rw [g1.1]; exact tr_kV _
  have fre : ∀ a, H' a = none → H1 a = none := fun a e => by
    cases e1 : H1 a with
    | none => rfl
    | some o => rw [g a o e1] at e; cases e
  have hzs := ok1.toOkH.fresh hz
  have st : Stp H1 S1 H' ((z, .lst (kvs.map pairT)) :: S1) := ⟨fun a o _ e => g a o e, fre, fun a ha => by
    rcases List.mem_cons.mp (show a ∈ z :: feet S1 from ha) with rfl | ha
    · exact .inr hz
    · exact .inl ha⟩
  have gw : Grw H1 H' := ⟨g⟩
  exact cc _ H' (.ref z) _ (k1.trans st) ((ok1.grw gw).add ⟨_, hl, rs⟩ rfl hzs (ok1.toOkH.offF hz)) (.ref z) (q z hzs)
/-- dict(a list of pairs) -/
def mergeT (kvs more : List (Key × T)) : List (Key × T) := more.foldl (fun acc kv => putT acc kv.1 kv.2) kvs
theorem PKV.merge {K : PySem.W.Frag} {H : Hp} : ∀ {more : List (Key × V)} {mt : List (Key × T)} {kvs : List (Key × V)} {ks : List (Key × T)}, PKV K H more mt → PKV K H kvs ks → PKV K H (mergeK kvs more) (mergeT ks mt) := by
  intro more mt kvs ks h
  induction h generalizing kvs ks with
  | nil => intro g; exact g
  | @cons p q ps qs h t ih =>
    intro g
    have e : p.1 = q.1 := h.1
    have := ih (PKV.put p.1 h.2 g)
    rw [e] at this
    show PKV K H (mergeK (putK kvs p.1 p.2) ps) (mergeT (putT ks q.1 q.2) qs)
    rw [e]
    exact this
theorem cw_dictP {p : Addr} {kvs : List (Key × T)} {k : T → Sto → Prop} (hc : X.calm = true) (hp : Rdb F S (p, .lst (kvs.map pairT))) (hk : ∀ q, q ∉ feet S → k (.ref q) ((q, .dk (mergeT [] kvs)) :: S)) : cw F X (.type "dict") [.ref p] r S k :=
  cw_of (call_dictP hc) fun σ H xs Q ok trs cc => by
    obtain ⟨v, rfl, tr⟩ := trs.one
    obtain ⟨vs, rd, rs⟩ := ok.toOkH.read hp
    have : ∀ {kvs : List (Key × T)} {vs : List V}, TRs X.K H vs (kvs.map pairT) → ∃ (ps : List Addr) (ws : List (Key × V)), vs = ps.map V.ref ∧ Paired (fun p kv => SqT X.K H p [kV kv.1, kv.2]) ps ws ∧ PKV X.K H ws kvs := by
      intro kvs
      induction kvs with
      | nil => intro vs h; cases h; exact ⟨[], [], rfl, .nil, .nil⟩
      | cons kv kvs ih =>
        intro vs h
        cases h with
        | cons h1 h2 =>
          obtain ⟨ps, ws, rfl, g1, g2⟩ := ih h2
          obtain ⟨a, xs, rfl, sq, r2⟩ := h1.tup_inv
          obtain ⟨v1, v2, rfl, t1, t2⟩ := r2.two
          rw [kT_tr t1] at sq
          exact ⟨a :: ps, (kv.1, v2) :: ws, rfl, .cons sq g1, .cons ⟨rfl, t2⟩ g2⟩
    obtain ⟨ps, ws, rfl, g1, g2⟩ := this rs
    refine ⟨p, ps, ws, by rw [tr.ref_inv], .inl rd, g1, fun z hz => ?_⟩
    exact cc _ _ _ _ (.put hz rfl) (ok.put (.dk _) hz rfl ⟨_, upd_same, (PKV.merge g2 .nil).keep (.new hz)⟩) (.ref z) (hk z (ok.toOkH.fresh hz))
/-- sorted(d), its keys texts -/
theorem cw_sortD {p : Addr} {kvs : List (Key × T)} {ks : List Str} {k : T → Sto → Prop} (hc : X.calm = true) (hp : Rdb F S (p, .dk kvs)) (hks : kvs.map (·.1) = ks.map Sum.inr) (hl : ks.length < 64) (hk : ∀ ys q, ys.Perm ks → sortedS ys = true → q ∉ feet S → k (.ref q) ((q, .lst (ys.map T.str)) :: S)) : cw F X (.builtin "sorted") [.ref p] r S k :=
  cw_of (call_sortedD hc) fun σ H xs Q ok trs cc => by
    obtain ⟨v, rfl, tr⟩ := trs.one
    obtain ⟨vs, hd, pk⟩ := ok.toOkH.read hp
    have e : vs.map (·.1) = ks.map Sum.inr := by
      rw [← hks]
      clear hks hk hp hd
      induction pk with
      | nil => rfl
      | cons h t ih => rw [List.map_cons, List.map_cons, h.1, ih]
    exact ⟨p, vs, ks, by rw [tr.ref_inv], hd, e, hl, fun ys q hy hs hq => cc _ _ _ _ (.put hq rfl) (ok.put (.lst _) hq rfl ⟨_, upd_same, .ofStrs ys⟩) (.ref q) (hk ys q hy hs (ok.toOkH.fresh hq))⟩
/-- {k: v} -/
theorem ew_disp1 {kx vx : Expr} {k : T → Sto → Prop} (h : ew F X kx r S fun tk S1 => ew F X vx r S1 fun tv S2 => ∃ kk, tk = kT kk ∧ ∀ q, q ∉ feet S2 → k (.ref q) ((q, .dk [(kk, tv)]) :: S2)) : ew F X (.Dict [some kx] [vx] pos) r S k := by
  intro σ H Q ok cc
  refine we_of (pe_disp (pps_cons peW peW pps_nil) rfl rfl (by simp) (by simp)) fun p hp => ?_
  have offS := ok.toOkH.fresh hp
  have offF := ok.toOkH.offF hp
  refine h σ _ _ (ok.new hp) fun x H1 tk S1 k1 ok1 trk q => ?_
  refine q σ H1 _ ok1 fun y H2 tv S2 k2 ok2 trv q2 => ?_
  obtain ⟨kk, rfl, q2⟩ := q2
  have k12 := k1.trans k2
  have hp2 : H2 p = some (.dK []) := k12.at_ p _ (.inl offS) upd_same
  have off2 := k12.off upd_same offS
  refine ⟨hp2, [(kk, y)], by rw [kT_tr (trk)]; rfl, by simp, ?_⟩
  have st : Stp H S H2 S2 := (Stp.new hp).trans k12
  have st2 := st.side (o := .dK (mergeK [] [(kk, y)])) hp
  have ok3 := ok2.side (o := .dK (mergeK [] [(kk, y)])) hp2 notImm_dK off2 offF
  have km : KeepI H2 (upd H2 p (.dK (mergeK [] [(kk, y)]))) := .mut hp2 notImm_dK
  refine cc _ _ (.ref p) _ ⟨st2.at_, st2.fre, fun a ha => ?_⟩ (ok3.add (m := .dk [(kk, tv)]) ⟨_, upd_same, .cons ⟨rfl, trv.keep km⟩ .nil⟩ rfl off2 offF) (.ref p) (q2 p off2)
  rcases List.mem_cons.mp (show a ∈ p :: feet S2 from ha) with rfl | ha
  · exact .inr hp
  · exact st2.own a ha
/-- name op= e of ints -/
theorem s1_aug {i : Nat} {x : Str} {j : Int} {pos' : Pos} {k : KE} (hN : X.N.Nodup) (hi : X.N[i]? = some x) (hr : r[i]? = some (some (.int j))) (h : ew F X e r S fun t S1 => ∃ n, t = .int n ∧ k.nx (r.set i (some (.int (j + n)))) S1)
    (hx : Loc X.env.scope x := by first | exact .inl rfl | exact .inr rfl) (hf : X.fn x = true ∨ X.env.scope.names.lookup x = some .local := by first | exact .inl rfl | exact .inr rfl) : s1w F X (.AugAssign (.Name x pos') .Add e pos) r S k := by
  intro σ H D ok cc
  refine ws1_of (ps_aug hN hi hx peW ip_add hf) ?_
  obtain ⟨v, ev, tr⟩ := ok.loc i _ hr
  refine ⟨v, ev, h σ H _ ok fun y H1 t S1 k1 ok1 trt q => ?_⟩
  obtain ⟨n, rfl, q⟩ := q
  exact ⟨j, n, tr.int_inv, trt.int_inv, cc.nx _ H1 _ S1 k1 (ok1.set (.int (j + n))) q⟩
/-- enumerate(list) -/
theorem iw_enum {elts : List Expr} {kk : Nat} {tpos p : Pos} {k : List T → (Sto → Prop) → Sto → Prop} (hm : X.mg "enumerate" = none) (h : ew F X e r S fun t S1 => ∃ q ts, t = .ref q ∧ Rdb F S1 (q, .lst ts) ∧ k (ts.mapIdx fun i t => .tup [.int (i : Nat), t]) (fun S2 => Rdb F S2 (q, .lst ts)) S1)
    (hg : Gl X "enumerate" := by rfl) (hs : starEach [e] X.env = [(false, eval e X.env)] := by rfl) : iw F X (.Tuple elts kk tpos) (.Call (.Name "enumerate" p) [e] [] pos) r S k := by
  refine ⟨_, pi_enum hg hm (pa_cons peW pa_nil hs) hs, fun σ H R ok cc => ?_⟩
  refine h σ H _ ok fun v H1 t S1 k1 ok1 tr q => ?_
  obtain ⟨q', ts, rfl, hr, q⟩ := q
  obtain ⟨vs, rd, rs⟩ := ok1.toOkH.read hr
  refine ⟨q', vs, by rw [tr.ref_inv], .inl rd, cc _ H1 _ (fun S2 => Rdb F S2 (q', .lst ts)) S1 (fun H2 => ∃ ws, SqL X.K H2 q' ws ∧ TRs X.K H2 ws ts) k1 ok1 ⟨fun n H2 ⟨ws, s, w⟩ hn => ?_, fun n H2 x H' ⟨ws, s, w⟩ hn y => ?_, fun n H2 ⟨ws, s, w⟩ hn => ?_⟩ (fun H2 S2 ok2 _ r2 => ?_) q⟩
  · rw [List.length_mapIdx] at hn
    exact ⟨ws, ws[n]'(by rw [w.length]; exact hn), s, by simp [w.length, hn]⟩
  · obtain ⟨z, x1, rfl, hz, rfl, y⟩ := y
    obtain ⟨t, h1, h2⟩ := w.get' (y ws s)
    refine ⟨⟨fun a o e => by rw [upd_ne (ne_of_none e hz)]; exact e⟩, .tup [.int (n : Nat), t], by rw [List.getElem?_mapIdx, h1]; rfl, .tup (.inl (.inl upd_same)) (.cons (.int _) (.cons (h2.keep (.new hz)) .nil))⟩
  · rw [List.length_mapIdx] at hn
    exact ⟨ws, s, by rw [w.length]; exact hn⟩
  · obtain ⟨ws, rd, rs⟩ := ok2.read r2
    exact ⟨ws, .inl rd, rs⟩
end
end PT
set_option Elab.async false
set_option linter.all false
set_option maxRecDepth 100000
set_option maxHeartbeats 2000000
set_option autoImplicit false
namespace PT
open PySem L2 PySem.Spec PyProof.Rows
/-! ### the def rule -/
/-- what a call stands in -/
structure BA where
  (f : Addr) (cdv : Value) (A : Around) (outer : List Env) (s : Shared) (H : Hp) (E : XK)
def bx (P : Program) (w : World) (K : PySem.W.Frag) (mg : Str → Option Value) (base : Heap) (N : List Str) (qual : Str) (st : Stmt) (a : BA) : Cx := (cxOf CX0 P w K mg base N qual (defScope st) a.f a.cdv a.A a.outer a.s a.H a.E).nox
/-- a def of the text -/
structure Df (K : PySem.W.Frag) (mg : Str → Option Value) (x : Str) (st : Stmt) (ps : List Str) : Prop where
  ex : ∃ f fd, Fun K x x st f fd ∧ mg x = some (.ref f) ∧ Binds K fd ps []
section
variable {P : Program} {w : World} {K : PySem.W.Frag} {mg : Str → Option Value} {base : Heap} {x : Str} {st : Stmt} {N ps : List Str} {n : Nat}
/-- the slots at the start -/
def slots (N : List Str) (ts : List T) : Rho := ts.map some ++ List.replicate (N.length - ts.length) none
theorem slots_ok {F : Sto} {H : Hp} {S : Sto} {vs : List V} {ts : List T} (trs : TRs K H vs ts) (ok : OkH K F H S) : Ok K F (L2.start N vs) H (slots N ts) S := by
  refine ⟨ok, ?_, fun i t e => ?_⟩
  · unfold slots L2.start; simp [trs.length]
  · unfold slots at e
    by_cases hi : i < ts.length
    · rw [List.getElem?_append_left (by simpa using hi), List.getElem?_map] at e
      obtain ⟨u, h1, h2⟩ := Option.map_eq_some_iff.mp e
      cases h2
      obtain ⟨v, h3, h4⟩ := trs.get h1
      refine ⟨v, ?_, h4⟩
      unfold L2.start
      rw [List.getElem?_append_left (by rw [List.length_map, trs.length]; exact hi), List.getElem?_map, h3]
      rfl
    · rw [List.getElem?_append_right (by simpa using hi), List.getElem?_replicate] at e
      split at e
      · cases e
      · cases e
theorem cl_of {c : Con} (D : Df K mg x st ps) (S : FnScope N ps (defScope st)) (hlen : ∀ ts F S k, c ts F S k → ts.length = ps.length)
    (h : ∀ a : BA, Room n (bx P w K mg base N x st a).A → ∀ ts F S k, c ts F S k → sw F (bx P w K mg base N x st a) (defBody st) (slots N ts) S { nx := fun _ S' => k .non S', rt := k }) : Cl P w K mg base (n + 1) x c := by
  obtain ⟨f, fd, G, hm, hb⟩ := D.ex
  refine ⟨f, fd, ps, G.ok S (fun vs H Q E ⟨ts, F, S, k, trs, _, hc, _⟩ => by rw [trs.length]; exact hlen ts F S k hc) (fun cdv A outer s H vs Q E hr ⟨ts, F, S1, k, trs, ok, hc, post⟩ => ?_), hm, G.kp, hb⟩
  refine ⟨_, psW, ?_⟩
  have q := h ⟨f, cdv, A, outer, s, H, E⟩ hr ts F S1 k hc (L2.start N vs) H { nx := fun _ H' => Q .non H', rt := Q } (slots_ok trs ok)
  refine q ⟨fun σ' H' r' S' s2 ok2 hk => post .non H' .non S' s2 ok2.toOkH .non hk, fun v H' t S' s2 ok2 tr hk => post v H' t S' s2 ok2 tr hk, fun _ _ _ _ _ _ z => z.elim, fun _ _ _ _ _ _ z => z.elim⟩
end
/-- a function of data: reads F, leaves nothing -/
def Fn (pre : List T → Sto → (T → Prop) → Prop) : Con := fun ts F S k => S = [] ∧ pre ts F fun t => k t []
section
variable {F : Sto} {X : Cx} {r : Rho} {S : Sto} {pos : Pos} {e : Expr} {es : List Expr}
theorem ew_callF {x : Str} {p : Pos} {n : Nat} {pre : List T → Sto → (T → Prop) → Prop} {k : T → Sto → Prop} (C : Cl X.prog X.w X.K X.mg X.base n x (Fn pre)) (hr : Room n X.A)
    (h : aw F X (e :: es) r S fun ts S1 => ∃ Fc, (∀ p ∈ Fc, p ∈ F ∨ p ∈ S1) ∧ pre ts Fc fun t => k t S1)
    (hg : Gl X x := by rfl) (hdb : (x == ("__debug__" : Str)) = false := by decide) (he : starEach (e :: es) X.env = (false, eval e X.env) :: starEach es X.env := by rfl) (hpl : (backTo pos (starEach es X.env)).any (·.1) = false := by rfl) :
    ew F X (.Call (.Name x p) (e :: es) [] pos) r S k := by
  refine ew_call C hr ?_ hg hdb he hpl
  intro σ H Q ok cc
  refine h σ H Q ok fun vs H1 ts S1 st ok1 trs q => cc vs H1 ts S1 st ok1 trs ?_
  obtain ⟨Fc, hf, q⟩ := q
  refine ⟨[], [], S1, Fc, rfl, fun p hp => ?_, rfl, q⟩
  rcases hf p hp with h | h
  · exact .inl h
  · exact .inr (.inr h)
end
end PT
set_option Elab.async false
set_option linter.all false
set_option maxRecDepth 100000
set_option maxHeartbeats 2000000
set_option autoImplicit false
namespace PT
open PySem L2 PySem.Spec PyProof.Rows
/-- the built-in names that no def hides -/
structure Mg (mg : Str → Option Value) : Prop where
  (len : mg "len" = none) (sum : mg "sum" = none) (all : mg "all" = none) (any : mg "any" = none) (sorted : mg "sorted" = none) (isinstance : mg "isinstance" = none) (abs : mg "abs" = none)
  (tuple : mg "tuple" = none) (list : mg "list" = none) (dict : mg "dict" = none) (str : mg "str" = none) (int : mg "int" = none) (range : mg "range" = none) (enumerate : mg "enumerate" = none) (zip : mg "zip" = none)
section
variable {F : Sto} {X : Cx} {r : Rho} {S : Sto} {pos : Pos} {e : Expr} {es : List Expr}
/-- data with its own form, not deeper than n -/
def Fit (n : Nat) (t : T) : Prop := ∃ d, T.py t = some d ∧ d.canLay0 = true ∧ d.depth ≤ n
theorem fits_all {n : Nat} : ∀ {ts : List T}, (∀ t ∈ ts, Fit n t) → ∃ ds, T.pys ts = some ds ∧ PyData.canLayAll0 ds = true ∧ PyData.depthAll ds ≤ n ∧ (ds = [] ↔ ts = [])
  | [], _ => ⟨[], rfl, rfl, Nat.zero_le _, by simp⟩
  | t :: ts, h => by
    obtain ⟨d, h1, h2, h3⟩ := h t (by simp)
    obtain ⟨ds, g1, g2, g3, _⟩ := fits_all (ts := ts) fun u hu => h u (by simp [hu])
    refine ⟨d :: ds, by rw [T.pys, h1, g1], ?_, ?_, by simp⟩
    · rw [PyData.canLayAll0, h2, g2]; rfl
    · rw [PyData.depthAll]; omega
/-- a list of data is not empty -/
theorem bw_neE {p q : Addr} {ts : List T} {k : T → Sto → Prop} (hu : X.A.units + 64 < cLine) (hp : Rdb F S (p, .lst ts)) (hq : Rdb F S (q, .lst [])) (hd : ∀ t ∈ ts, Fit 63 t) (hk : k (.bl (!ts.isEmpty)) S) : bw F X (compareOp .NotEq) (.ref p) (.ref q) r S k :=
  bw_of (op_neD hu) fun σ H x y Q ok ha hb cc => by
    obtain ⟨xs, rd, rs⟩ := ok.toOkH.read hp
    obtain ⟨ys, rd2, rs2⟩ := ok.toOkH.read hq
    obtain ⟨ds, g1, g2, g3, g4⟩ := fits_all hd
    cases rs2
    refine ⟨.list ds, .list [], ?_, ?_, ?_, by decide, ?_⟩
    · rw [ha.ref_inv]; exact .lst (.inl rd) (rs.dp g1)
    · rw [hb.ref_inv]; exact .lst (.inl rd2) .nil
    · unfold SeqAt.shaped
      rw [Bool.and_eq_true, decide_eq_true_eq]
      exact ⟨by rw [PyData.canLay0]; exact g2, by rw [PyData.depth]; omega⟩
    · have e : PyData.eqv (.list ds) (.list []) = ts.isEmpty := by
        cases ts with
        | nil => rw [g4.mpr rfl]; rfl
        | cons t ts =>
          cases ds with
          | nil => have := g4.mp rfl; cases this
          | cons d ds => rfl
      rw [e]
      exact cc _ H _ S (.refl H S) ok (.bl _) hk
theorem eqT_fit {ta tb : T} {d e : PyData} (h1 : T.py ta = some d) (h2 : T.py tb = some e) (c1 : d.canLay0 = true) (c2 : e.canLay0 = true) (d1 : d.depth ≤ 64) (d2 : e.depth ≤ 64) : EqT ta tb (PyData.eqv d e) :=
  ⟨d, e, h1, h2, by unfold SeqAt.shaped; rw [c1]; simpa using d1, by unfold SeqAt.shaped; rw [c2]; simpa using d2, rfl⟩
theorem cw_int {i : Int} {k : T → Sto → Prop} (hk : k (.int i) S) : cw F X (.type "int") [.int i] r S k :=
  cw_of call_int1 fun σ H xs Q ok trs cc => by
    obtain ⟨v, rfl, tr⟩ := trs.one
    exact .inl ⟨i, by rw [tr.int_inv], cc _ H _ S (.refl H S) ok (.int _) hk⟩
theorem cw_abs {i : Int} {k : T → Sto → Prop} (hk : k (.int (if i < 0 then -i else i)) S) : cw F X (.builtin "abs") [.int i] r S k :=
  cw_of call_abs fun σ H xs Q ok trs cc => by
    obtain ⟨v, rfl, tr⟩ := trs.one
    exact ⟨i, by rw [tr.int_inv], cc _ H _ S (.refl H S) ok (.int _) hk⟩
/-! what is no more needed is left out -/
theorem feet_sub {S S' : Sto} (h : S'.Sublist S) : (feet S').Sublist (feet S) := by
  induction h with
  | slnil => exact .slnil
  | cons a h ih =>
    show (feet _).Sublist (foot a ++ feet _)
    exact ih.trans (List.sublist_append_right _ _)
  | cons_cons a h ih =>
    show (foot a ++ feet _).Sublist (foot a ++ feet _)
    exact ih.append_left _
theorem OkH.sub {K : PySem.W.Frag} {H : Hp} {S S' : Sto} (ok : OkH K F H S) (h : S'.Sublist S) : OkH K F H S' :=
  ⟨fun p hp => ok.sto p (h.subset hp), ok.nd.sublist (feet_sub h), fun p hp => ⟨(ok.rdo p hp).1, fun a ha hs => (ok.rdo p hp).2 a ha ((feet_sub h).subset hs)⟩⟩
theorem Stp.sub {H H' : Hp} {S S1 S2 : Sto} (st : Stp H S H' S1) (h : S2.Sublist S1) : Stp H S H' S2 := ⟨st.at_, st.fre, fun a ha => st.own a ((feet_sub h).subset ha)⟩
theorem ew_drop {k : T → Sto → Prop} (h : ew F X e r S fun t S1 => ∃ S2, S2.Sublist S1 ∧ k t S2) : ew F X e r S k := fun σ H Q ok cc =>
  h σ H Q ok fun v H1 t S1 st ok1 tr ⟨S2, hs, q⟩ => cc v H1 t S2 (st.sub hs) ⟨ok1.toOkH.sub hs, ok1.len, ok1.loc⟩ tr q
theorem sw_drop {sts : List Stmt} {k : KE} {S2 : Sto} (hs : S2.Sublist S) (h : sw F X sts r S2 k) : sw F X sts r S k := fun σ H D ok cc => by
  have st : Stp H S H S2 := (Stp.refl H S).sub hs
  exact h σ H D ⟨ok.toOkH.sub hs, ok.len, ok.loc⟩ (cc.mono st)
/-- what is known of a slot is left out -/
theorem Ok.less {K : PySem.W.Frag} {σ : L2.St} {H : Hp} {r' : Rho} (ok : Ok K F σ H r S) (hl : r'.length = r.length) (h : ∀ (i : Nat) (t : T), r'[i]? = some (some t) → r[i]? = some (some t)) : Ok K F σ H r' S := ⟨ok.toOkH, by rw [hl, ok.len], fun i t e => ok.loc i t (h i t e)⟩
end
section
variable {P : Program} {w : World} {K : PySem.W.Frag} {mg : Str → Option Value} {base : Heap} {x : Str} {st : Stmt} {ps : List Str}
/-- nothing is promised without a call -/
theorem cl_zero {c : Con} (D : Df K mg x st ps) (h : ∀ ts F S k, ¬ c ts F S k) : Cl P w K mg base 0 x c := by
  obtain ⟨f, fd, G, hm, hb⟩ := D.ex
  have no : ∀ vs H Q E, ¬ spOf K c vs H Q E := fun vs H Q E ⟨ts, F, S, k, _, _, hc, _⟩ => h ts F S k hc
  exact ⟨f, fd, ps, ⟨fun vs H Q E q => absurd q (no vs H Q E), fun A outer s H args us vs Q E _ _ _ _ q => absurd q (no vs H Q E)⟩, hm, G.kp, hb⟩
end
end PT
set_option Elab.async false
set_option linter.all false
set_option maxRecDepth 100000
set_option maxHeartbeats 2000000
set_option autoImplicit false
namespace PT
open PySem L2 PySem.Spec PyProof.Rows
/-- a knows no more than b -/
def lessT : Rho → Rho → Prop
  | [], [] => True
  | none :: a, _ :: b => lessT a b
  | some t :: a, some u :: b => t = u ∧ lessT a b
  | _, _ => False
theorem lessT.len : ∀ {a b : Rho}, lessT a b → a.length = b.length
  | [], [], _ => rfl
  | none :: a, _ :: b, h => congrArg (· + 1) (lessT.len (a := a) (b := b) h)
  | some t :: a, some u :: b, h => congrArg (· + 1) (lessT.len (a := a) (b := b) h.2)
theorem lessT.at : ∀ {a b : Rho} {i : Nat} {t : T}, lessT a b → a[i]? = some (some t) → b[i]? = some (some t)
  | [], [], i, t, _, e => by simp at e
  | none :: a, _ :: b, 0, t, h, e => by simp at e
  | none :: a, _ :: b, i + 1, t, h, e => by simpa using lessT.at (a := a) (b := b) (i := i) h (by simpa using e)
  | some s :: a, some u :: b, 0, t, h, e => by
    have h1 := h.1
    subst h1
    simpa using e
  | some s :: a, some u :: b, i + 1, t, h, e => by simpa using lessT.at (a := a) (b := b) (i := i) h.2 (by simpa using e)
theorem lessT.refl : ∀ a : Rho, lessT a a
  | [] => trivial
  | none :: a => lessT.refl a
  | some t :: a => ⟨rfl, lessT.refl a⟩
section
variable {F : Sto} {X : Cx} {r : Rho} {S : Sto} {pos : Pos} {tg iter c e : Expr} {body sts : List Stmt}
theorem sw_less {r0 : Rho} {k : KE} (h : lessT r0 r) (q : sw F X sts r0 S k) : sw F X sts r S k := fun σ H D ok cc => q σ H D (ok.less h.len fun i t e => h.at e) cc
/-- what is wanted, at slots that know more -/
def KE.up (k : KE) : KE := { nx := fun r S => ∃ r0, lessT r0 r ∧ k.nx r0 S, rt := k.rt, bk := fun r S => ∃ r0, lessT r0 r ∧ k.bk r0 S, ct := fun r S => ∃ r0, lessT r0 r ∧ k.ct r0 S }
theorem Ok.low {K : PySem.W.Frag} {σ : L2.St} {H : Hp} {r0 : Rho} (ok : Ok K F σ H r S) (h : lessT r0 r) : Ok K F σ H r0 S := ok.less h.len fun i t e => h.at e
theorem CoS.up {K : PySem.W.Frag} {H : Hp} {k : KE} {D : Ends} (cc : CoS K F H S k D) : CoS K F H S k.up D :=
  ⟨fun σ' H' r' S' st ok' ⟨r0, l, q⟩ => cc.nx σ' H' r0 S' st (ok'.low l) q, cc.rt, fun σ' H' r' S' st ok' ⟨r0, l, q⟩ => cc.bk σ' H' r0 S' st (ok'.low l) q, fun σ' H' r' S' st ok' ⟨r0, l, q⟩ => cc.ct σ' H' r0 S' st (ok'.low l) q⟩
theorem s1_up {st : Stmt} {k : KE} (h : s1w F X st r S k.up) : s1w F X st r S k := fun σ H D ok cc => h σ H D ok cc.up
/-- a block's ends may be weakened -/
theorem sw_imp {k k' : KE} (h : sw F X sts r S k) (i1 : ∀ r S, k.nx r S → k'.nx r S) (i2 : ∀ t S, k.rt t S → k'.rt t S) (i3 : ∀ r S, k.bk r S → k'.bk r S) (i4 : ∀ r S, k.ct r S → k'.ct r S) : sw F X sts r S k' := fun σ H D ok cc =>
  h σ H D ok ⟨fun σ' H' r' S' st ok' q => cc.nx σ' H' r' S' st ok' (i1 _ _ q), fun v H' t S' st ok' tr q => cc.rt v H' t S' st ok' tr (i2 _ _ q), fun σ' H' r' S' st ok' q => cc.bk σ' H' r' S' st ok' (i3 _ _ q), fun σ' H' r' S' st ok' q => cc.ct σ' H' r' S' st ok' (i4 _ _ q)⟩
theorem tw_imp {k k' : Bool → Sto → Prop} (h : tw F X c r S k) (i : ∀ b S, k b S → k' b S) : tw F X c r S k' := fun σ H Q ok cc => h σ H Q ok fun b H' S' st ok' q => cc b H' S' st ok' (i _ _ q)
theorem tw_less {r0 : Rho} {k : Bool → Sto → Prop} (h : lessT r0 r) (q : tw F X c r0 S k) : tw F X c r S k := fun σ H Q ok cc =>
  q σ H Q (ok.low h) fun d H2 S2 st ok3 z => cc d H2 S2 st ⟨ok3.toOkH, ok.len, fun i t e => let ⟨v, h3, h4⟩ := ok.loc i t e; ⟨v, h3, h4.keep st.toI⟩⟩ z
/-- while with the slots r0 at each turn's start -/
theorem s1_whileW {k : KE} (r0 : Rho) (hp : PassesOwn (model X.prog X.w) X.A X.env X.xe) (P : Nat → Sto → Prop) (h0 : lessT r0 r) (h1 : ∃ m, P m S)
    (hs : ∀ m S1, P m S1 → tw F X c r0 S1 fun d S2 => (d = true → sw F X body r0 S2 { k with nx := fun r3 S3 => lessT r0 r3 ∧ ∃ m', m' < m ∧ P m' S3, ct := fun r3 S3 => lessT r0 r3 ∧ ∃ m', m' < m ∧ P m' S3, bk := k.nx }) ∧ (d = false → k.nx r0 S2)) :
    s1w F X (.While c body [] pos) r S k := by
  refine s1_up (s1_while hp (fun m r1 S1 => lessT r0 r1 ∧ P m S1) (h1.imp fun m p => ⟨h0, p⟩) ?_)
  rintro m r1 S1 ⟨l, p⟩
  refine tw_imp (tw_less l (hs m S1 p)) fun d S2 q => ⟨fun hd => ?_, fun hd => ⟨r0, l, q.2 hd⟩⟩
  refine sw_less l (sw_imp (q.1 hd) (fun r S z => z.2.imp fun m' y => ⟨y.1, z.1, y.2⟩) (fun _ _ z => z) (fun r S z => ⟨r, lessT.refl r, z⟩) (fun r S z => z.2.imp fun m' y => ⟨y.1, z.1, y.2⟩))
theorem lessT.set : ∀ {a b : Rho} (i : Nat) (t : T), lessT a b → lessT (a.set i (some t)) (b.set i (some t))
  | [], [], _, _, _ => trivial
  | none :: a, o :: b, 0, t, h => ⟨rfl, h⟩
  | none :: a, o :: b, i + 1, t, h => lessT.set (a := a) (b := b) i t h
  | some s :: a, some u :: b, 0, t, h => ⟨rfl, h.2⟩
  | some s :: a, some u :: b, i + 1, t, h => ⟨h.1, lessT.set (a := a) (b := b) i t h.2⟩
/-- a test that is known -/
theorem tst_t {A B : Prop} {d : Bool} (h : d = true) (a : A) : (d = true → A) ∧ (d = false → B) := ⟨fun _ => a, fun e => (by rw [h] at e; cases e)⟩
theorem tst_f {A B : Prop} {d : Bool} (h : d = false) (b : B) : (d = true → A) ∧ (d = false → B) := ⟨fun e => (by rw [h] at e; cases e), fun _ => b⟩
end
section
variable {F : Sto} {X : Cx} {r : Rho} {S : Sto} {pos : Pos}
/-- the pairs of a display -/
def pw2 (F : Sto) (X : Cx) : List (Expr × Expr) → Rho → Sto → (List (Key × T) → Sto → Prop) → Prop
  | [], _, S, k => k [] S
  | (a, b) :: ps, r, S, k => ew F X a r S fun ta S1 => ew F X b r S1 fun tb S2 => ∃ kk, ta = kT kk ∧ pw2 F X ps r S2 fun kvs S3 => k ((kk, tb) :: kvs) S3
theorem pw2_run {ps : List (Expr × Expr)} : ∀ {S : Sto} {k : List (Key × T) → Sto → Prop} {σ : L2.St} {H : Hp} {Q : List (V × V) → Hp → Prop}, pw2 F X ps r S k → Ok X.K F σ H r S →
    (∀ vs H' kvs S', Stp H S H' S' → Ok X.K F σ H' r S' → PKV X.K H' vs kvs → kvs.length = ps.length → k kvs S' → Q (vs.map fun p => (kV p.1, p.2)) H') → tPairs (ps.map fun p => (WE X p.1, WE X p.2)) σ H Q := by
  induction ps with
  | nil =>
    intro S k σ H Q h ok cc
    exact cc [] H [] S (.refl H S) ok .nil rfl h
  | cons p ps ih =>
    intro S k σ H Q h ok cc
    obtain ⟨a, b⟩ := p
    refine h σ H _ ok fun x H1 ta S1 k1 ok1 tra q => ?_
    refine q σ H1 _ ok1 fun y H2 tb S2 k2 ok2 trb q2 => ?_
    obtain ⟨kk, rfl, q2⟩ := q2
    refine ih q2 ok2 fun vs H3 kvs S3 k3 ok3 pk hl q3 => ?_
    rw [kT_tr tra]
    exact cc ((kk, y) :: vs) H3 _ S3 ((k1.trans k2).trans k3) ok3 (.cons ⟨rfl, trb.keep k3.toI⟩ pk) (congrArg (· + 1) hl) q3
theorem pps_of {ps : List (Expr × Expr)} : PPs X pos (ps.map fun p => some p.1) (ps.map (·.2)) (ps.map fun p => (WE X p.1, WE X p.2)) := by
  induction ps with
  | nil => exact pps_nil
  | cons p ps ih => exact pps_cons peW peW ih
/-- {k: v, ..}, fifteen at most -/
theorem ew_disp {ps : List (Expr × Expr)} {k : T → Sto → Prop} (h0 : ps ≠ []) (h15 : ps.length ≤ 15) (h : pw2 F X ps r S fun kvs S2 => ∀ q, q ∉ feet S2 → k (.ref q) ((q, .dk (mergeT [] kvs)) :: S2)) : ew F X (.Dict (ps.map fun p => some p.1) (ps.map (·.2)) pos) r S k := by
  intro σ H Q ok cc
  refine we_of (pe_disp pps_of (by simp) (by simp) (by simpa using h0) (by simpa using h15)) fun p hp => ?_
  have offS := ok.toOkH.fresh hp
  have offF := ok.toOkH.offF hp
  refine pw2_run h (ok.new hp) fun vs H2 kvs S2 k12 ok2 pk hl q2 => ?_
  have hp2 : H2 p = some (.dK []) := k12.at_ p _ (.inl offS) upd_same
  have off2 := k12.off upd_same offS
  have lv := pk.length
  refine ⟨hp2, vs, rfl, by omega, ?_⟩
  have st : Stp H S H2 S2 := (Stp.new hp).trans k12
  have st2 := st.side (o := .dK (mergeK [] vs)) hp
  have ok3 := ok2.side (o := .dK (mergeK [] vs)) hp2 notImm_dK off2 offF
  have km : KeepI H2 (upd H2 p (.dK (mergeK [] vs))) := .mut hp2 notImm_dK
  refine cc _ _ (.ref p) _ ⟨st2.at_, st2.fre, fun a ha => ?_⟩ (ok3.add (m := .dk (mergeT [] kvs)) ⟨_, upd_same, PKV.merge (pk.keep km) .nil⟩ rfl off2 offF) (.ref p) (q2 p off2)
  rcases List.mem_cons.mp (show a ∈ p :: feet S2 from ha) with rfl | ha
  · exact .inr hp
  · exact st2.own a ha
end
end PT
set_option Elab.async false
set_option linter.all false
set_option maxRecDepth 100000
set_option maxHeartbeats 2000000
set_option autoImplicit false
namespace PT
open PySem L2 PySem.Spec PyProof.Rows
/-! ### {k: v for a in e for b in f} -/
/-- the expression -/
abbrev dc2 (kx vx ta ia tb ib : Expr) (scope : Scope) (pos : Pos) : Expr := .DictComp kx vx [⟨ta, ia, [], 0⟩, ⟨tb, ib, [], 0⟩] scope pos
end PT
set_option Elab.async false
set_option linter.all false
set_option maxRecDepth 100000
set_option maxHeartbeats 2000000
set_option autoImplicit false
namespace PT
open PySem L2 PySem.Spec PyProof.Rows
section
variable {F : Sto} {X : Cx} {r : Rho} {S : Sto} {pos : Pos}
/-- a dict under work beside the store -/
structure DSide (X : Cx) (F : Sto) (σ : L2.St) (r : Rho) (H0 : Hp) (S0 : Sto) (H1 : Hp) (D : Addr) (H : Hp) (acc : List (Key × T)) (vacc : List (Key × V)) (S : Sto) : Prop where
  (at_ : H D = some (.dK vacc)) (pk : PKV X.K H vacc acc) (off : D ∉ feet S) (ok : Ok X.K F σ H r S) (st : Stp H0 S0 H S) (kp : KeepI H1 H)
/-- a step beside it -/
theorem DSide.step {σ : L2.St} {H0 H1 H H' : Hp} {S0 S' : Sto} {D : Addr} {acc : List (Key × T)} {vacc : List (Key × V)} (d : DSide X F σ r H0 S0 H1 D H acc vacc S) (st : Stp H S H' S') (ok' : OkH X.K F H' S') : DSide X F σ r H0 S0 H1 D H' acc vacc S' :=
  ⟨st.at_ D _ (.inl d.off) d.at_, d.pk.keep st.toI, st.off d.at_ d.off, ⟨ok', d.ok.len, fun i t e => let ⟨v, h1, h2⟩ := d.ok.loc i t e; ⟨v, h1, h2.keep st.toI⟩⟩, d.st.trans st, d.kp.trans st.toI⟩
theorem DSide.put {σ : L2.St} {H0 H1 H : Hp} {S0 : Sto} {D : Addr} {acc : List (Key × T)} {vacc : List (Key × V)} (d : DSide X F σ r H0 S0 H1 D H acc vacc S) (hD : H0 D = none) (hF : ∀ p ∈ F, D ∉ foot p) (kk : Key) {v : V} {t : T} (tr : TR X.K H v t) :
    DSide X F σ r H0 S0 H1 D (upd H D (.dK (putK vacc kk v))) (putT acc kk t) (putK vacc kk v) S :=
  have km : KeepI H (upd H D (.dK (putK vacc kk v))) := .mut d.at_ notImm_dK
  ⟨upd_same, PKV.put kk (tr.keep km) (d.pk.keep km), d.off, d.ok.side d.at_ notImm_dK d.off hF, d.st.side hD, d.kp.trans km⟩
theorem ow_none {k : Option Int → Sto → Prop} (hk : k none S) : ow F X none r S k := hk
theorem ow_some {e : Expr} {k : Option Int → Sto → Prop} (h : ew F X e r S fun t S1 => ∃ i, t = .int i ∧ k (some i) S1) : ow F X (some e) r S k := h
end
theorem atT0 {a : T} {xs : List T} : atI (a :: xs) 0 = some a := atI_nat (j := 0) rfl
theorem atT1 {a b : T} {xs : List T} : atI (a :: b :: xs) 1 = some b := atI_nat (j := 1) rfl
theorem cutT1 {a : T} {xs : List T} : cutT (a :: xs) (some 1) none = xs := by
  unfold cutT HT.sIx
  simp
end PT
set_option Elab.async false
set_option linter.all false
set_option maxRecDepth 100000
set_option maxHeartbeats 2000000
set_option autoImplicit false
namespace PT
open PySem L2 PySem.Spec PyProof.Rows
section
variable {F : Sto} {X : Cx} {r : Rho} {S : Sto} {st : Stmt} {sts : List Stmt}
/-- a statement by itself, then the rest -/
theorem sw_cut {k : KE} (J : Rho → Sto → Prop) (h : s1w F X st r S { k with nx := J }) (h2 : ∀ r1 S1, J r1 S1 → sw F X sts r1 S1 k) : sw F X (st :: sts) r S k :=
  sw_cons fun σ H D ok cc => h σ H D ok ⟨fun σ' H' r' S' st' ok' q => cc.nx σ' H' r' S' st' ok' (h2 _ _ q), cc.rt, cc.bk, cc.ct⟩
theorem tw_bool {op : BoolOp} {vs : List Expr} {pos : Pos} {k : Bool → Sto → Prop} (h : ww F X (.BoolOp op vs pos) r S k) : tw F X (.BoolOp op vs pos) r S k := tw_ww h
theorem tw_call {f : Expr} {es : List Expr} {kws : List Keyword} {pos : Pos} {k : Bool → Sto → Prop} (h : ew F X (.Call f es kws pos) r S fun t S1 => ∃ b, t = .bl b ∧ k b S1) : tw F X (.Call f es kws pos) r S k := tw_val h fun _ => rfl
theorem tw_name {x : Str} {pos : Pos} {k : Bool → Sto → Prop} (h : ew F X (.Name x pos) r S fun t S1 => ∃ b, t = .bl b ∧ k b S1) : tw F X (.Name x pos) r S k := tw_val h fun _ => rfl
/-- return, nothing left behind -/
theorem s1_ret0 {e : Expr} {pos : Pos} {k : KE} (h : ew F X e r S fun t _ => k.rt t []) : s1w F X (.Return (some e) pos) r S k := s1_ret (ew_drop fun σ H Q ok cc => h σ H Q ok fun v H1 t S1 st ok1 tr q => cc v H1 t S1 st ok1 tr ⟨[], List.nil_sublist _, q⟩)
/-- return, some left behind -/
theorem s1_retD {e : Expr} {pos : Pos} {k : KE} (h : ew F X e r S fun t S1 => ∃ S2, S2.Sublist S1 ∧ k.rt t S2) : s1w F X (.Return (some e) pos) r S k := s1_ret (ew_drop h)
theorem perm_map {α β : Type} {f : α → β} {l₁ l₂ : List β} (h : l₁.Perm l₂) : ∀ ks : List α, l₂ = ks.map f → ∃ zs : List α, zs.Perm ks ∧ l₁ = zs.map f := by
  induction h with
  | nil => intro ks e; cases ks with
    | nil => exact ⟨[], .nil, rfl⟩
    | cons k ks => cases e
  | cons x h ih =>
    intro ks e
    cases ks with
    | nil => cases e
    | cons k ks =>
      rw [List.map_cons] at e
      injection e with e1 e2
      obtain ⟨zs, p, q⟩ := ih ks e2
      exact ⟨k :: zs, p.cons k, by rw [List.map_cons, ← e1, q]⟩
  | swap x y l =>
    intro ks e
    match ks, e with
    | a :: b :: ks, e =>
      simp only [List.map_cons, List.cons.injEq] at e
      obtain ⟨e1, e2, e3⟩ := e
      exact ⟨b :: a :: ks, .swap a b ks, by simp [e1, e2, e3]⟩
  | trans h1 h2 ih1 ih2 =>
    intro ks e
    obtain ⟨zs, p, q⟩ := ih2 ks e
    obtain ⟨us, p2, q2⟩ := ih1 zs q
    exact ⟨us, p2.trans p, q2⟩
end
end PT
set_option Elab.async false
set_option linter.all false
set_option maxRecDepth 100000
set_option maxHeartbeats 2000000
set_option autoImplicit false
namespace PT
open PySem L2 PySem.Spec PyProof.Rows
section
variable {F : Sto} {X : Cx} {r : Rho} {S : Sto} {pos p2 : Pos} {e a b c : Expr} {es rest : List Expr}
/-! ### is None, is True -/
def T.isN : T → Bool | .non => true | _ => false
theorem isN_tr {K : PySem.W.Frag} {H : Hp} {v : V} {t : T} (h : TR K H v t) : decide (v = .non) = T.isN t := by
  cases h <;> simp [T.isN]
theorem bw_isN {t : T} {k : T → Sto → Prop} (hk : k (.bl t.isN) S) : bw F X (compareOp .Is) t .non r S k :=
  bw_of op_isN fun σ H x y Q ok ha hb cc => ⟨hb.non_inv, by rw [isN_tr ha]; exact cc _ H _ S (.refl H S) ok (.bl _) hk⟩
theorem bw_notN {t : T} {k : T → Sto → Prop} (hk : k (.bl (!t.isN)) S) : bw F X (compareOp .IsNot) t .non r S k :=
  bw_of op_notN fun σ H x y Q ok ha hb cc => ⟨hb.non_inv, by rw [isN_tr ha]; exact cc _ H _ S (.refl H S) ok (.bl _) hk⟩
theorem bw_isB {x y : Bool} {k : T → Sto → Prop} (hk : k (.bl (decide (x = y))) S) : bw F X (compareOp .Is) (.bl x) (.bl y) r S k :=
  bw_of op_is_bl fun σ H u v Q ok ha hb cc => ⟨x, y, ha.bl_inv, hb.bl_inv, cc _ H _ S (.refl H S) ok (.bl _) hk⟩
theorem bw_isnotB {x y : Bool} {k : T → Sto → Prop} (hk : k (.bl (!decide (x = y))) S) : bw F X (compareOp .IsNot) (.bl x) (.bl y) r S k :=
  bw_of op_isnot_bl fun σ H u v Q ok ha hb cc => ⟨x, y, ha.bl_inv, hb.bl_inv, cc _ H _ S (.refl H S) ok (.bl _) hk⟩
/-! ### x not in [..] -/
theorem bw_notinL {x : T} {p : Addr} {xs : List T} {k : T → Sto → Prop} (hp : Rdb F S (p, .lst xs)) (hx : T.flat x = true) (hf : xs.all (T.clr x) = true) (hk : k (.bl (!T.inT x xs)) S) : bw F X (compareOp .NotIn) x (.ref p) r S k :=
  bw_of op_notIn_seq fun σ H v w Q ok ha hb cc => by
    obtain ⟨vs, sq, rs⟩ := ok.toOkH.read hp
    refine ⟨p, vs, hb.ref_inv, .inl (.inl sq), flat_tr ha hx, flats_tr rs (T.clrs hf), ?_⟩
    rw [if_pos rfl, T.inT_tr ha rs hf]
    exact cc _ H _ S (.refl H S) ok (.bl _) hk
/-! ### lists of data compared -/
/-- lists of data that may be compared, and whether they are equal -/
def EqL (ts us : List T) (b : Bool) : Prop := ∃ ds es, T.pys ts = some ds ∧ T.pys us = some es ∧ SeqAt.shaped (.list ds) = true ∧ SeqAt.shaped (.list es) = true ∧ PyData.eqv (.list ds) (.list es) = b
theorem bw_neL {p q : Addr} {ts us : List T} {b : Bool} {k : T → Sto → Prop} (hu : X.A.units + 64 < cLine) (hp : Rdb F S (p, .lst ts)) (hq : Rdb F S (q, .lst us)) (h : EqL ts us b) (hk : k (.bl (!b)) S) : bw F X (compareOp .NotEq) (.ref p) (.ref q) r S k :=
  bw_of (op_neD hu) fun σ H x y Q ok ha hb cc => by
    obtain ⟨xs, rd, rs⟩ := ok.toOkH.read hp
    obtain ⟨ys, rd2, rs2⟩ := ok.toOkH.read hq
    obtain ⟨ds, es, h1, h2, h3, h4, h5⟩ := h
    subst h5
    exact ⟨.list ds, .list es, by rw [ha.ref_inv]; exact .lst (.inl rd) (rs.dp h1), by rw [hb.ref_inv]; exact .lst (.inl rd2) (rs2.dp h2), h3, h4, cc _ H _ S (.refl H S) ok (.bl _) hk⟩
theorem pys_strs : ∀ xs : List Str, T.pys (xs.map T.str) = some (xs.map PyData.str)
  | [] => rfl
  | x :: xs => by rw [List.map_cons, T.pys, pys_strs xs]; rfl
theorem eqv_strsL : ∀ xs ys : List Str, PyData.eqvAll (xs.map PyData.str) (ys.map PyData.str) = decide (xs = ys)
  | [], [] => rfl
  | [], _ :: _ => rfl
  | _ :: _, [] => rfl
  | x :: xs, y :: ys => by
    rw [List.map_cons, List.map_cons, PyData.eqvAll, eqv_strsL xs ys, PyData.eqv]
    by_cases h : x = y <;> by_cases g : xs = ys <;> simp [h, g]
theorem eqL_strs {xs ys : List Str} (h : ∀ x ∈ xs, (PyData.str x).canLay0 = true) (h2 : ∀ x ∈ ys, (PyData.str x).canLay0 = true) : EqL (xs.map T.str) (ys.map T.str) (decide (xs = ys)) := by
  have lay : ∀ {xs : List Str}, (∀ x ∈ xs, (PyData.str x).canLay0 = true) → SeqAt.shaped (.list (xs.map PyData.str)) = true := by
    intro xs h
    have a : ∀ xs : List Str, (∀ x ∈ xs, (PyData.str x).canLay0 = true) → PyData.canLayAll0 (xs.map PyData.str) = true ∧ PyData.depthAll (xs.map PyData.str) ≤ 1 := by
      intro xs
      induction xs with
      | nil => intro _; exact ⟨rfl, Nat.zero_le _⟩
      | cons x xs ih =>
        intro h
        obtain ⟨i1, i2⟩ := ih fun y hy => h y (by simp [hy])
        refine ⟨by rw [List.map_cons, PyData.canLayAll0, h x (by simp), i1]; rfl, ?_⟩
        rw [List.map_cons, PyData.depthAll, PyData.depth]
        omega
    obtain ⟨i1, i2⟩ := a xs h
    unfold SeqAt.shaped
    rw [Bool.and_eq_true, decide_eq_true_eq]
    exact ⟨by rw [PyData.canLay0]; exact i1, by rw [PyData.depth]; omega⟩
  exact ⟨_, _, pys_strs xs, pys_strs ys, lay h, lay h2, by rw [PyData.eqv]; exact eqv_strsL xs ys⟩
/-! ### xs[::-1] -/
abbrev revE (e : Expr) (k : Nat) (p1 p2 p3 pos : Pos) : Expr := .Subscript e (.Slice none none (some (.UnaryOp .USub (.Constant (.int 1) k p1) p2)) p3) pos
theorem ew_revL {n : Nat} {p1 p2 p3 : Pos} {k : T → Sto → Prop} (h : ew F X e r S fun t S1 => ∃ p ts, t = .ref p ∧ Rdb F S1 (p, .lst ts) ∧ ∀ q, q ∉ feet S1 → k (.ref q) ((q, .lst ts.reverse) :: S1)) : ew F X (revE e n p1 p2 p3 pos) r S k := by
  intro σ H Q ok cc
  refine we_of (pe_revL peW) ?_
  refine h σ H _ ok fun v H1 t S1 k1 ok1 tr q => ?_
  obtain ⟨p, ts, rfl, hp, q⟩ := q
  obtain ⟨vs, rd, rs⟩ := ok1.toOkH.read hp
  refine ⟨p, vs, tr.ref_inv, .inl rd, fun z hz => ?_⟩
  exact cc _ _ _ _ (k1.trans (.put hz rfl)) (ok1.put (.lst _) hz rfl ⟨_, upd_same, rs.rev.keep (.new hz)⟩) (.ref z) (q z (ok1.toOkH.fresh hz))
end
end PT
set_option Elab.async false
set_option linter.all false
set_option maxRecDepth 100000
set_option maxHeartbeats 2000000
set_option autoImplicit false
/-! t[::-1] of tuples -/
namespace PT
open PySem L2 PySem.Spec PyProof.Rows
section
variable {prog : Program} {w : World} {A : Around} {E : Value → Shared → Prop} {s : Shared}
theorem pick_rev (xs : Array Value) : ((List.range xs.size).filterMap fun (k : Nat) => xs[(((xs.size : Int) - 1) + (k : Int) * (-1)).toNat]?) = xs.toList.reverse := by
  obtain ⟨l⟩ := xs
  simp only [List.size_toArray]
  have key : ∀ n : Nat, n ≤ l.length → ((List.range n).filterMap fun (k : Nat) => l.toArray[(((l.length : Int) - 1) + (k : Int) * (-1)).toNat]?) = l.reverse.take n := by
    intro n
    induction n with
    | zero => intro _; simp
    | succ n ih =>
      intro hn
      have e1 : (((l.length : Int) - 1) + (n : Int) * (-1)).toNat = l.length - 1 - n := by omega
      have e2 : l.toArray[(((l.length : Int) - 1) + (n : Int) * (-1)).toNat]? = some (l.reverse[n]'(by simp; omega)) := by
        rw [e1, List.getElem_reverse, List.getElem?_toArray, List.getElem?_eq_getElem]
      rw [List.range_succ, List.filterMap_append, ih (by omega), List.take_add_one, List.getElem?_eq_getElem (by simp; omega)]
      simp only [List.filterMap_cons, e2, List.filterMap_nil]
      rfl
  have := key l.length (Nat.le_refl _)
  rw [List.take_of_length_le (by simp)] at this
  exact this
theorem getItem_tuple_rev {t sl : Addr} {items : Array Value} {vl vu vs : Value} {Q : Value → Shared → Prop} (ht : IsTup s.heap t items) (hs : s.heap.IsSliceOf sl vl vu vs) (pl : IsPart vl none) (pu : IsPart vu none) (ps : IsPart vs (some (-1)))
    (h : Q (.ref s.heap.objs.size) { s with heap := s.heap.push { cls := .type "tuple", data := .seq items.toList.reverse.toArray } }) (hsz : items.size ≤ sizeLine) : wpAny (model prog w) A (getItem (.ref t) (.ref sl)) Q E s := by
  have htake : sizeOk (.seq items.toList.reverse.toArray) := by
    show items.toList.reverse.toArray.size ≤ sizeLine
    simpa using hsz
  obtain ⟨os, hos, hcs, hds⟩ := id hs
  have app : ∀ (A : Around) (E : Value → Shared → Prop) (Q : Int × Int × Nat → Shared → Prop), Q ((items.size : Int) - 1, -1, items.size) s → wpAny (model prog w) A (Builtin.Slice.sliceApplied (.ref sl) (pure (items.size : Int))) Q E s := by
    intro A E Q hq
    unfold Builtin.Slice.sliceApplied Builtin.Slice.sliceFields
    refine wpAny_bind (wpAny_bind (wpAny_field hos hds (x := vl) rfl (wpAny_bind (wpAny_field hos hds (x := vu) rfl (wpAny_bind (wpAny_field hos hds (x := vs) rfl (wpAny_pure ?_)))))))
    refine wpAny_bind (HT.slicePart_ ps ?_)
    rw [show (Option.getD (some (-1 : Int)) 1) = -1 from rfl]
    show wpAny _ _ (if ((-1 : Int) == 0) = true then _ else _) _ _ s
    rw [if_neg (by decide)]
    refine wpAny_bind (HT.slicePart_ pl (wpAny_bind (HT.slicePart_ pu (wpAny_bind (wpAny_pure ?_)))))
    have e : Builtin.Slice.sliceAdjust none none (-1) (items.size : Int) = ((items.size : Int) - 1, -1) := by
      unfold Builtin.Slice.sliceAdjust; simp
    have e2 : Builtin.Slice.slicePlaces ((items.size : Int) - 1) (-1) (-1) = items.size := by
      unfold Builtin.Slice.slicePlaces
      have h1 : ¬ ((-1 : Int) > 0) := by omega
      simp only [h1, if_false]
      have h2 : ∀ z : Int, z / (- -1) = z := fun z => Int.ediv_one z
      rw [h2]
      split <;> omega
    show wpAny _ _ (match Builtin.Slice.sliceAdjust none none (-1) (items.size : Int) with | (lo, hi) => pure (lo, (-1 : Int), Builtin.Slice.slicePlaces lo hi (-1))) _ _ s
    rw [e]
    show wpAny _ _ (pure ((items.size : Int) - 1, (-1 : Int), Builtin.Slice.slicePlaces ((items.size : Int) - 1) (-1) (-1))) _ _ s
    rw [e2]
    exact wpAny_pure hq
  have hTs : s.TypeIs (.ref sl) "slice" := ⟨os, hos, hcs⟩
  unfold getItem
  try with_reducible refine wpAny_holding ?_
  first | refine wpAny_bind (wpAny_pure ?_) | skip
  refine wpAny_bind (wpAny_sequenceKey ht.typeIs (by decide) (wpAny_bind (wpAny_callSpecial?_slot (name := Str.ofString "__getitem__") ht.typeIs PyProof.Rows.slot_tuple_getitem
    (wpAny_call_entry PyProof.Rows.slot_tuple_getitem ht.typeIs entry_tuple_getitem ?_ (args_tuple_getitem _ _)))))
  show wpAny _ _ (Builtin.Tuple.tupleItemsOf (.ref t) >>= _) _ _ s
  refine wpAny_bind (tupleItemsOf_ ht (wpAny_bind (wpAny_typeOf hTs ?_)))
  rw [if_pos (by decide)]
  refine wpAny_bind (app _ _ _ ?_)
  have hno : ¬ ((((items.size : Int) - 1) == 0 && (-1 : Int) == 1 && items.size == items.size) = true) := by simp
  show wpAny _ _ (if (((items.size : Int) - 1) == 0 && (-1 : Int) == 1 && items.size == items.size) = true then _ else _) _ _ s
  rw [if_neg hno, pick_rev]
  first
    | exact wpAny_bind (m := Builtin.Tuple.tupleExact _) (wpAny_newObj_type (wpAny_pure ⟨_, rfl, wpAny_pure h⟩) htake)
    | exact wpAny_bind (m := Builtin.Tuple.tupleExact _) (wpAny_newObj_type (wpAny_bind (wpAny_pure (wpAny_pure ⟨_, rfl, wpAny_pure h⟩))) htake)
    | exact wpAny_bind (wpAny_bind (m := Builtin.Tuple.tupleExact _) (wpAny_newObj_type (wpAny_pure (wpAny_pure ⟨_, rfl, wpAny_pure h⟩)) htake))
    | exact wpAny_bind (wpAny_bind (m := Builtin.Tuple.tupleExact _) (wpAny_newObj_type (wpAny_pure ⟨_, rfl, wpAny_pure h⟩) htake))
end
section
variable {F : Sto} {X : Cx} {r : Rho} {S : Sto} {pos : Pos} {e : Expr}
theorem ew_revT {n : Nat} {p1 p2 p3 : Pos} {k : T → Sto → Prop} (h : ew F X e r S fun t S1 => ∃ ts, t = .tup ts ∧ k (.tup ts.reverse) S1) : ew F X (revE e n p1 p2 p3 pos) r S k := by
  intro σ H Q ok cc pins s I
  refine Subscript_ (thn (h σ H (fun x H1 => ∃ a vs ts S1, x = .ref a ∧ SqT X.K H1 a vs ∧ TRs X.K H1 vs ts ∧ Stp H S H1 S1 ∧ Ok X.K F σ H1 r S1 ∧ k (.tup ts.reverse) S1) ok (fun x H1 t S1 k1 ok1 tr q => ?_) pins s I) fun v s1 ⟨x, H1, I1, r1, q1⟩ => ?_)
  · obtain ⟨ts, rfl, q⟩ := q
    obtain ⟨a, vs, rfl, sq, rs⟩ := tr.tup_inv
    exact ⟨a, vs, ts, S1, rfl, sq, rs, k1, ok1, q⟩
  obtain ⟨a, xs, ts, S1, ex, hx, rs, k1, ok1, q⟩ := q1
  subst ex
  cases r1
  have hst : PO X (some (.UnaryOp .USub (.Constant (.int 1) n p1) p2)) (tPart (tUn (rU fun i => .int (-i)) (tC (.int 1)))) := po_some (pe_un un_neg pe_int)
  refine wpAny_Slice (thn (po_none.run pins s1 σ H1 (fun o H2 => o = none ∧ H2 = H1) I1 ⟨rfl, rfl⟩) fun vl s2 ⟨l, H2, I2, pl, el, e2⟩ => ?_)
  subst el e2
  refine thn (po_none.run pins s2 σ H2 (fun o H3 => o = none ∧ H3 = H2) I2 ⟨rfl, rfl⟩) fun vu s3 ⟨u, H3, I3, pu, eu, e3⟩ => ?_
  subst eu e3
  refine thn (hst.run pins s3 σ H3 (fun o H4 => o = some (-1) ∧ H4 = H3) I3 ⟨1, rfl, -1, rfl, rfl, rfl⟩) fun vs s4 ⟨o, H4, I4, ps, eo, e4⟩ => ?_
  subst eo e4
  have I5 : Inv X pins σ H4 { s4 with heap := s4.heap.push { cls := .type "slice", data := .fields #[vl, vu, vs] } } := I4.kept (t' := s4.toks) fun b ob q => Heap.get?_push_of_some _ q
  obtain ⟨its, rr, ht, hz⟩ := I5.tuple hx
  have hlen := rr.length
  show wpAny (model X.prog X.w) X.A (subscriptTail e (.Slice none none (some (.UnaryOp .USub (.Constant (.int 1) n p1) p2)) p3) (.ref a) (.ref s4.heap.objs.size)) (EP X pins σ Q) X.xe { s4 with heap := s4.heap.push { cls := .type "slice", data := .fields #[vl, vu, vs] } }
  refine tail_any (ops := [.ref a, .ref s4.heap.objs.size]) ht.typeIs PyProof.Rows.slot_tuple_getitem.lookup ?_ (by with_unfolding_all rfl)
  refine getItem_tuple_rev ht (Heap.IsSliceOf.new _ vl vu vs) pl pu ps ?_ (by rw [List.size_toArray]; omega)
  have hn := I5.hok.fresh (Nat.le_refl _)
  refine ⟨.ref _, _, I5.laid (t' := s4.toks) (o := .tup xs.reverse) (fun b ob q => Heap.get?_push_of_some _ q) (Nat.le_refl _) ?_, rfl, cc _ _ (.tup ts.reverse) S1 (k1.trans (.new hn)) (ok1.new hn) (.tup (.inl (.inl upd_same)) (rs.rev.keep (.new hn))) q⟩
  exact ⟨by rw [List.length_reverse]; exact hz, _, by simpa using rr.reverse, IsTup.new _ _⟩
end
end PT
set_option Elab.async false
set_option linter.all false
set_option maxRecDepth 100000
set_option maxHeartbeats 2000000
set_option autoImplicit false
/-! xs.extend(t), t a tuple or a list -/
namespace PT
open PySem L2 PySem.Spec PyProof.Rows
theorem extend_tup (l : Addr) (items : Array Value) (n : Nat) (b : Addr) (items2 : Array Value) (n2 : Nat) (o : Obj) (hc : o.cls = .type "tuple") (hd : o.data = .seq items2 n2)
    (hs0 : ¬(!items.isEmpty && Builtin.List.listTooLong (items.size + items2.size)) = true) (hs1 : items.size ≤ sizeLine) (hs2 : items.size + items2.size ≤ sizeLine + 1) :
    Meets (Builtin.«list.extend» ⟨[.ref l, .ref b], []⟩) (fun _ R s => s.heap.get? l = some { cls := .type "list", dict := none, data := .seq items n, slots := #[] } ∧ s.heap.get? b = some o ∧
      R (.ok (.ret Value.none)) { s with heap := s.heap.update l (Obj.mapSeq fun x => x ++ items2), toks := s.toks }) := by
  intro prog w A R s h
  obtain ⟨hl, hb, h⟩ := h
  have hz' : (items ++ items2).size ≤ sizeLine + 1 := by rw [Array.size_append]; exact hs2
  show wpAny _ A.in1 (Builtin.List.listExtendWith (.ref l) (.ref b) .none) _ _ s
  unfold Builtin.List.listExtendWith
  refine wpAny_bind (wpAny_typeOf ⟨o, hb, hc⟩ ?_)
  have h1 : (Builtin.List.listSameRef (.ref l) (.ref b) || Value.type "tuple" == Value.type "list" || Value.type "tuple" == Value.type "tuple") = true := by simp
  simp only [h1, if_true]
  refine wpAny_bind ?_
  unfold Builtin.List.listItems
  refine wpAny_bind (wpAny_seqItems hb hd (wpAny_pure (wpAny_bind (wpAny_bind (wpAny_seqItems hl rfl (wpAny_pure ?_))))))
  rw [if_neg hs0]
  show wpAny _ A.in1 (updateSeq l (· ++ items2) >>= fun _ => ret Value.none) _ _ s
  exact wpAny_bind (wpAny_updateSeq (hz := hs1) (_hz' := hz') hl rfl (wpAny_pure h))
def rExtendA (K : PySem.W.Frag) : V → List V → Hp → VK → Prop := fun x vs H Q => ∃ l b xs zs, x = .ref l ∧ vs = [.ref b] ∧ H l = some (.lst xs) ∧ (H b = some (.lst zs) ∨ SqT K H b zs) ∧ xs.length + zs.length ≤ sizeLine ∧ Q .non (upd H l (.lst (xs ++ zs)))
theorem mt_extendA {X : Cx} : MtR X "list.extend" (rExtendA X.K) := by
  intro pins s σ H x vs v us Q I rx rv h
  obtain ⟨l, b, xs, zs, rfl, rfl, hH, hB, hz, q⟩ := h
  rcases hB with hB | hB
  · exact mt_extend pins s σ H _ _ v us Q I rx rv ⟨l, b, xs, zs, rfl, rfl, hH, hB, hz, q⟩
  cases rx
  obtain ⟨u, rfl, ru⟩ := rv.one
  cases ru
  obtain ⟨z, its, n, r, hl, e⟩ := I.lstM hH
  obtain ⟨its2, r2, ⟨o2, ho2, hc2, n2, hd2⟩, hz2⟩ := I.tuple hB
  have l2 := r2.length
  have hsz : its.toArray.size + its2.toArray.size ≤ sizeLine := by rw [List.size_toArray, List.size_toArray]; omega
  have hlong : ¬ (!its.toArray.isEmpty && Builtin.List.listTooLong (its.toArray.size + its2.toArray.size)) = true := by rw [notLongL hsz, Bool.and_false]; simp
  refine call_meets F.slot_list_extend ⟨_, e, rfl⟩ F.entry_list_extend (F.args_list_extend_2 _ _) (extend_tup l its.toArray n b its2.toArray n2 o2 hc2 hd2 hlong (by rw [List.size_toArray]; omega) (by omega)) ⟨e, ho2, ?_⟩
  exact ⟨.non, _, I.lset (its' := its ++ its2) hH e (by simp) (r.append r2) (by rw [List.length_append]; omega), rfl, q⟩
section
variable {F : Sto} {X : Cx} {r : Rho} {S : Sto}
theorem mw_extL {p b : Addr} {Sa Sb : Sto} {ts us : List T} {k : T → Sto → Prop} (hb : (b, .lst us) ∈ Sa ++ (p, .lst ts) :: Sb) (hz : ts.length + us.length ≤ 100000) (hk : k .non (Sa ++ (p, .lst (ts ++ us)) :: Sb)) : mw F X (rExtendA X.K) p [.ref b] r (Sa ++ (p, .lst ts) :: Sb) k := fun σ H vs Q ok trs cc => by
  obtain ⟨l, b', xs, zs, h1, h2, h3, h4, h5, h6⟩ := mw_extend hb hz hk σ H vs Q ok trs cc
  exact ⟨l, b', xs, zs, h1, h2, h3, .inl h4, h5, h6⟩
theorem mw_extT {p : Addr} {Sa Sb : Sto} {ts us : List T} {k : T → Sto → Prop} (hz : ts.length + us.length ≤ 100000) (hk : k .non (Sa ++ (p, .lst (ts ++ us)) :: Sb)) : mw F X (rExtendA X.K) p [.tup us] r (Sa ++ (p, .lst ts) :: Sb) k := fun σ H vs Q ok trs cc => by
  obtain ⟨v, rfl, tr⟩ := trs.one
  obtain ⟨b, zs, rfl, sq, rs⟩ := tr.tup_inv
  obtain ⟨ws, hp, rw'⟩ := TRs.mid ok.toOkH
  have l1 := rw'.length
  have l2 := rs.length
  obtain ⟨st, ok2⟩ := ok.wr hp (rw'.app rs)
  exact ⟨p, b, ws, zs, rfl, rfl, hp, .inr sq, Nat.le_trans (by omega) (Nat.le_of_lt hundred), cc _ _ _ _ st ok2 .non hk⟩
end
end PT
set_option Elab.async false
set_option linter.all false
set_option maxRecDepth 100000
set_option maxHeartbeats 2000000
set_option autoImplicit false
/-! a dict is walked: meanwhile it is read only -/
namespace PT
open PySem L2 PySem.Spec PyProof.Rows
section
variable {K : PySem.W.Frag} {F : Sto} {H : Hp} {r : Rho} {σ : L2.St} {d : Addr} {kvs : List (Key × T)} {vs : List (Key × V)} {Sa Sb : Sto} {od : Obj}
theorem mem_mid {Sa Sb : Sto} {p : Addr × MO} (a : Addr) : a ∈ feet (Sa ++ p :: Sb) ↔ a ∈ foot p ∨ a ∈ feet (Sa ++ Sb) := by
  unfold feet
  simp only [List.flatMap_append, List.flatMap_cons, List.mem_append]
  exact ⟨fun h => h.elim (fun h => .inr (.inl h)) fun h => h.elim .inl fun h => .inr (.inr h), fun h => h.elim (fun h => .inr (.inl h)) fun h => h.elim .inl fun h => .inr (.inr h)⟩
theorem nd_mid {Sa Sb : Sto} {p : Addr × MO} (h : (feet (Sa ++ p :: Sb)).Nodup) : (feet (Sa ++ Sb)).Nodup ∧ ∀ a ∈ foot p, a ∉ feet (Sa ++ Sb) := by
  have e : (feet (Sa ++ p :: Sb)).Perm (foot p ++ feet (Sa ++ Sb)) := by
    unfold feet
    simp only [List.flatMap_append, List.flatMap_cons]
    rw [← List.append_assoc, ← List.append_assoc]
    exact List.Perm.append_right _ List.perm_append_comm
  have q := List.nodup_append.mp (e.nodup_iff.mp h)
  exact ⟨q.2.1, fun a ha hb => q.2.2 a ha a hb rfl⟩
abbrev lockF (F : Sto) (d : Addr) (od : Obj) (vs : List (Key × V)) (kvs : List (Key × T)) : Sto := (d, .dkf od vs kvs) :: (d, .dk kvs) :: F
theorem OkH.lock (ok : OkH K F H (Sa ++ (d, .dk kvs) :: Sb)) (hd : H d = some (.dK vs)) (pk : PKV K H vs kvs) : OkH K (lockF F d od vs kvs) (upd H d (.frz od (.dK vs))) (Sa ++ Sb) := by
  have km : KeepI H (upd H d (.frz od (.dK vs))) := .mut hd notImm_dK
  obtain ⟨n1, n2⟩ := nd_mid ok.nd
  have off : d ∉ feet (Sa ++ Sb) := n2 d (List.mem_singleton.mpr rfl)
  refine ⟨fun p hp => (ok.sto p (by rcases List.mem_append.mp hp with h | h <;> simp [h])).keep km fun a ha o e => ?_, n1, fun p hp => ?_⟩
  · rw [upd_ne (fun z => off (by rw [← z]; exact feet_of hp ha))]; exact e
  · rcases List.mem_cons.mp hp with rfl | hp
    · exact ⟨⟨upd_same, pk.keep km⟩, fun a ha => by rw [List.mem_singleton.mp ha]; exact off⟩
    · rcases List.mem_cons.mp hp with rfl | hp
      · exact ⟨⟨vs, .inr ⟨od, upd_same⟩, pk.keep km⟩, fun a ha => by rw [List.mem_singleton.mp ha]; exact off⟩
      · obtain ⟨m, f⟩ := ok.rdo p hp
        refine ⟨m.keep km fun a ha o e => ?_, fun a ha hs => f a ha ((mem_mid a).mpr (.inr hs))⟩
        rw [upd_ne (fun z => f a ha ((mem_mid a).mpr (.inl (by rw [z]; exact List.mem_singleton.mpr rfl))))]; exact e
theorem OkH.unlock {H1 : Hp} {S1 : Sto} (ok : OkH K F H (Sa ++ (d, .dk kvs) :: Sb)) (hd : H d = some (.dK vs)) (pk : PKV K H vs kvs) (st : Stp (upd H d (.frz od (.dK vs))) (Sa ++ Sb) H1 S1) (ok1 : OkH K (lockF F d od vs kvs) H1 S1) :
    H1 d = some (.frz od (.dK vs)) ∧ Stp H (Sa ++ (d, .dk kvs) :: Sb) (upd H1 d (.dK vs)) ((d, .dk kvs) :: S1) ∧ OkH K F (upd H1 d (.dK vs)) ((d, .dk kvs) :: S1) ∧ KeepI H1 (upd H1 d (.dK vs)) := by
  obtain ⟨n1, n2⟩ := nd_mid ok.nd
  have off : d ∉ feet (Sa ++ Sb) := n2 d (List.mem_singleton.mpr rfl)
  have h1 : H1 d = some (.frz od (.dK vs)) := st.at_ d _ (.inl off) upd_same
  have off1 : d ∉ feet S1 := st.off upd_same off
  have km : KeepI H1 (upd H1 d (.dK vs)) := .mut h1 fun z => by rcases z with ⟨_, z⟩ | ⟨_, _, z⟩ <;> cases z
  have stp : Stp H (Sa ++ (d, .dk kvs) :: Sb) (upd H1 d (.dK vs)) ((d, .dk kvs) :: S1) := by
    refine ⟨fun a o i e => ?_, fun a e => ?_, fun a ha => ?_⟩
    · by_cases z : a = d
      · subst z; rw [hd] at e; cases e; exact upd_same
      · rw [upd_ne z]
        refine st.at_ a o (i.elim (fun i => .inl fun q => i ((mem_mid a).mpr (.inr q))) .inr) ?_
        rw [upd_ne z]; exact e
    · exact upd_none (st.fre a (upd_none e))
    · rcases List.mem_cons.mp (show a ∈ d :: feet S1 from ha) with rfl | ha
      · exact .inl ((mem_mid a).mpr (.inl (List.mem_singleton.mpr rfl)))
      · rcases st.own a ha with q | q
        · exact .inl ((mem_mid a).mpr (.inr q))
        · exact .inr (upd_none q)
  refine ⟨h1, stp, ⟨fun p hp => ?_, List.nodup_cons.mpr ⟨off1, ok1.nd⟩, ok.rdo' stp⟩, km⟩
  rcases List.mem_cons.mp hp with rfl | hp
  · exact ⟨vs, upd_same, pk.keep stp.toI⟩
  · refine (ok1.sto p hp).keep km fun a ha o e => ?_
    rw [upd_ne (fun z => off1 (by rw [← z]; exact feet_of hp ha))]; exact e
end
section
variable {F : Sto} {X : Cx} {r : Rho} {S : Sto} {pos : Pos} {e tg iter : Expr} {d : Addr} {kvs : List (Key × T)} {Sa Sb : Sto}
theorem ew_lock {k : T → Sto → Prop} (hS : S = Sa ++ (d, .dk kvs) :: Sb) (h : ∀ od vs, ew (lockF F d od vs kvs) X e r (Sa ++ Sb) fun t S1 => k t ((d, .dk kvs) :: S1)) : ew F X e r S k := by
  subst hS
  intro σ H Q ok cc
  obtain ⟨vs, hd, pk⟩ := ok.toOkH.sto (d, .dk kvs) (by simp)
  refine we_of (pe_lock peW) ⟨d, .dK vs, hd, trivial, fun od => ?_⟩
  have km : KeepI H (upd H d (.frz od (.dK vs))) := .mut hd notImm_dK
  refine h od vs σ _ _ ⟨ok.toOkH.lock hd pk, ok.len, fun i t z => let ⟨v, h1, h2⟩ := ok.loc i t z; ⟨v, h1, h2.keep km⟩⟩ fun v H1 t S1 st ok1 tr q => ?_
  obtain ⟨g1, g2, g3, g4⟩ := ok.toOkH.unlock hd pk st ok1.toOkH
  exact ⟨g1, cc v _ t _ g2 ⟨g3, ok1.len, fun i t z => let ⟨v, h1, h2⟩ := ok1.loc i t z; ⟨v, h1, h2.keep g4⟩⟩ (tr.keep g4) q⟩
theorem PKV.at {κ : Type} {K : PySem.W.Frag} {H : Hp} : ∀ {vs : List (κ × V)} {ts : List (κ × T)} {i : Nat} {k : κ} {v : V}, PKV K H vs ts → vs[i]? = some (k, v) → ∃ t, ts[i]? = some (k, t) ∧ TR K H v t
  | _, _, _, _, _, .nil, e => by simp at e
  | _, _, 0, _, _, .cons (b := (k2, t)) h _, e => by simp at e; subst e; obtain ⟨h1, h2⟩ := h; exact ⟨t, by simp at h1 ⊢; exact h1.symm, h2⟩
  | _, _, i + 1, k, v, .cons _ q, e => by obtain ⟨t, h1, h2⟩ := PKV.at (i := i) (k := k) (v := v) q (by simpa using e); exact ⟨t, by simpa using h1, h2⟩
/-- for k in d, d locked -/
theorem iw_keys {k : List T → (Sto → Prop) → Sto → Prop} (h : ew F X iter r S fun t S1 => ∃ d od vs kvs, t = .ref d ∧ Rdb F S1 (d, .dkf od vs kvs) ∧ k (kvs.map fun kv => kT kv.1) (fun S2 => Rdb F S2 (d, .dkf od vs kvs)) S1) : iw F X tg iter r S k := by
  refine ⟨_, pi_keys peW, fun σ H R ok cc => ?_⟩
  refine h σ H _ ok fun v H1 t S1 k1 ok1 tr q => ?_
  obtain ⟨d, od, vs, kvs, rfl, hr, q⟩ := q
  obtain ⟨hd, pk⟩ := ok1.toOkH.read hr
  have ln := pk.length
  refine ⟨d, od, tr.ref_inv, .inl ⟨vs, hd, cc _ H1 _ (fun S2 => Rdb F S2 (d, .dkf od vs kvs)) S1 (fun H2 => H2 d = some (.frz od (.dK vs)) ∧ PKV X.K H2 vs kvs) k1 ok1 ⟨fun n H2 h2 hn => ?_, fun n H2 x H' h2 hn y => ?_, fun n H2 h2 hn => ?_⟩ (fun H2 S2 ok2 _ r2 => ok2.read r2) q⟩⟩
  · exact ⟨h2.1, by rw [List.length_map] at hn; omega⟩
  · obtain ⟨e1, kk, v', e2, e3⟩ := y
    subst e1; subst e3
    obtain ⟨t, e4, _⟩ := h2.2.at e2
    exact ⟨.refl _, kT kk, by rw [List.getElem?_map, e4]; rfl, tr_kV kk⟩
  · exact ⟨h2.1, by rw [List.length_map] at hn; omega⟩
end
end PT
set_option Elab.async false
set_option linter.all false
set_option maxRecDepth 100000
set_option maxHeartbeats 2000000
set_option autoImplicit false
/-! dict comprehensions with one for, setdefault, dict(d), list(d), for a, b in zip(t, u) -/
namespace PT
open PySem L2 PySem.Spec PyProof.Rows
section
variable {F : Sto} {X : Cx} {r : Rho} {S : Sto} {pos apos cpos p2 : Pos} {e o f tg iter : Expr}
abbrev dc1 (kx vx tg iter : Expr) (ifs : List Expr) (scope : Scope) (pos : Pos) : Expr := .DictComp kx vx [⟨tg, iter, ifs, 0⟩] scope pos
/-- what a dict comprehension asks -/
def DcAsk (F : Sto) (X : Cx) (r : Rho) (kx vx : Expr) (ifs : List Expr) (scope : Scope) (vs : List Nat) (up : T → Rho → Option Rho) (k : T → Sto → Prop) (ts : List T) (rd : Sto → Prop) (S1 : Sto) : Prop :=
  ∃ P : Nat → List (Key × T) → Sto → Prop, P 0 [] S1 ∧ (∀ n acc S2, P n acc S2 → rd S2) ∧
    (∀ n u acc S2, ts[n]? = some u → P n acc S2 → acc.length < 100000 ∧ ∃ r3, up u (wipeT r vs) = some r3 ∧ Blk X scope fun X1 => tsw F X1 ifs r3 S2 fun d S3 =>
      (d = true → Blk X scope fun Y => ew F Y kx r3 S3 fun tk S5 => ∃ kk, tk = kT kk ∧ Blk X scope fun Z => ew F Z vx r3 S5 fun tv S6 => acc.length < 100000 ∧ P (n + 1) (putT acc kk tv) S6) ∧ (d = false → P (n + 1) acc S3)) ∧
    ∀ acc S2, P ts.length acc S2 → ∀ q, q ∉ feet S2 → k (.ref q) ((q, .dk acc) :: S2)
theorem dc1_t {kx vx : Expr} {ifs : List Expr} {scope : Scope} {own : List (Str × Nat)} {k : T → Sto → Prop} {wi : TI} {g : TG} {up : T → Rho → Option Rho} {σ : L2.St} {H : Hp} {Q : VK} (ta : Tgt X.K g up (own.map (·.2))) (oka : Ok X.K F σ H r S) (cc : CoE X.K F σ H r S k Q)
    (h : ∀ σ H R, Ok X.K F σ H r S → (∀ (J : It) (H1 : Hp) (ts : List T) (rd : Sto → Prop) (S1 : Sto) (Q : Hp → Prop), Stp H S H1 S1 → Ok X.K F σ H1 r S1 → IterOk X.K J ts Q → (∀ H2 S2, OkH X.K F H2 S2 → KeepI H1 H2 → rd S2 → Q H2) → DcAsk F X r kx vx ifs scope (own.map (·.2)) up k ts rd S1 → R J H1) → wi σ H R) :
    tDc wi g (fun σ H Q => Blk X scope fun Y => WTs Y ifs σ H Q) (fun σ H Q => Blk X scope fun Y => WE Y kx σ H Q) (fun σ H Q => Blk X scope fun Y => WE Y vx σ H Q) (own.map (·.2)) σ H Q := by
  refine h σ H _ oka fun J H1 ts rd S1 R k1 ok1 it hR q D hD => ?_
  obtain ⟨P, p0, hl, hstep, hd⟩ := q
  have hF := ok1.toOkH.offF hD
  have hD0 : H D = none := k1.fre _ hD
  let W : Nat → Hp → Prop := fun n H2 => ∃ acc vacc S2, DSide X F σ r H S H1 D H2 acc vacc S2 ∧ P n acc S2
  have w0 : W 0 (upd H1 D (.dK [])) := ⟨[], [], S1, ⟨upd_same, .nil, ok1.toOkH.fresh hD, ok1.new hD, k1.trans (.new hD), .new hD⟩, p0⟩
  refine ⟨fun n m H2 => m = ts.length - n ∧ n ≤ ts.length ∧ W n H2, ⟨ts.length, by simp, Nat.zero_le _, w0⟩, ?_⟩
  rintro n m H2 ⟨rfl, hn, acc, vacc, S2, ds, p2⟩
  have hR2 := hR H2 S2 ds.ok.toOkH ds.kp (hl n acc S2 p2)
  by_cases hlt : n < ts.length
  · refine .inr ⟨it.go n H2 hR2 hlt, W (n + 1), fun H3 w3 => ⟨ts.length - (n + 1), by omega, rfl, hlt, w3⟩, fun y H' yl => ?_⟩
    obtain ⟨gr, u, hu, tru⟩ := it.yld n H2 y H' hR2 hlt yl
    obtain ⟨hz, r3, e3, hin⟩ := hstep n u acc S2 hu p2
    have ds1 := ds.step (gr.stp S2) (ds.ok.grw gr).toOkH
    refine ta.sem F y u _ r3 _ H' S2 _ tru e3 (ds1.ok.wipe (own.map (·.2))) fun σ2 ok2 hw => ⟨by rw [hw, wipe_wipe], fun s1 Hs Ce cl fp => ?_⟩
    refine hin s1 Hs Ce cl fp σ2 H' _ ok2 fun d H3 S3 st3 ok3 q3 => ?_
    have ds3 := ds1.step st3 ok3.toOkH
    cases d with
    | true =>
      rw [if_pos rfl]
      intro s4 Hs4 C4 cl4 fp4
      refine (q3.1 rfl) s4 Hs4 C4 cl4 fp4 σ2 H3 _ ok3 fun x8 H8 tk8 S8 st8 ok8 tr8 q8 => ?_
      obtain ⟨kk, rfl, q8⟩ := q8
      intro s5 Hs5 C5 cl5 fp5
      refine q8 s5 Hs5 C5 cl5 fp5 σ2 H8 _ ok8 fun x9 H9 tv9 S9 st9 ok9 tr9 q9 => ?_
      have ds9 := ds3.step (st8.trans st9) ok9.toOkH
      have lz := ds9.pk.length
      exact ⟨vacc, kk, kT_tr tr8, ds9.at_, by rw [lz]; exact Nat.lt_trans hz hundred, putT acc kk tv9, putK vacc kk x9, S9, ds9.put hD0 hF kk tr9, q9.2⟩
    | false =>
      rw [if_neg Bool.false_ne_true]
      exact ⟨acc, vacc, S3, ds3, q3.2 rfl⟩
  · have e : n = ts.length := by omega
    subst e
    refine .inl ⟨it.stop _ H2 hR2 (Nat.le_refl _), cc (.ref D) H2 (.ref D) ((D, .dk acc) :: S2) ⟨ds.st.at_, ds.st.fre, fun a hm => ?_⟩ (ds.ok.add ⟨vacc, ds.at_, ds.pk⟩ rfl ds.off hF) (.ref D) (hd acc S2 p2 D ds.off)⟩
    rcases List.mem_cons.mp (show a ∈ D :: feet S2 from hm) with rfl | hm
    · exact .inr hD0
    · exact ds.st.own a hm
theorem ew_dc1 {kx vx : Expr} {ifs : List Expr} {scope : Scope} {own : List (Str × Nat)} {k : T → Sto → Prop} {g : TG} {up : T → Rho → Option Rho} (hc : X.calm = true) (hN : X.N.Nodup) (ok : BlkOk X.N X.env.scope scope own)
    (hg : Blk X scope fun Y => PG Y tg g) (ta : Tgt X.K g up (own.map (·.2))) (h : iw F X tg iter r S (DcAsk F X r kx vx ifs scope (own.map (·.2)) up k))
    (hs : ∀ x, foldedSetIterable iter X.env x = pure x := by intro _; rfl) : ew F X (dc1 kx vx tg iter ifs scope pos) r S k := by
  intro σ H Q oka cc
  obtain ⟨wi, hi, h⟩ := h
  have pt : Blk X scope fun Y => PTs Y ifs fun σ H Q => Blk X scope fun Y => WTs Y ifs σ H Q := fun s1 H1 C cl fp => ⟨fun pins s σ H Q I h => h s1 H1 C cl fp pins s I⟩
  have pk : Blk X scope fun Y => PE Y kx fun σ H Q => Blk X scope fun Y => WE Y kx σ H Q := fun s1 H1 C cl fp => ⟨fun pins s σ H Q I h => h s1 H1 C cl fp pins s I⟩
  have pv : Blk X scope fun Y => PE Y vx fun σ H Q => Blk X scope fun Y => WE Y vx σ H Q := fun s1 H1 C cl fp => ⟨fun pins s σ H Q I h => h s1 H1 C cl fp pins s I⟩
  exact we_of (pe_dc hc hN hi ok hg pt pk pv hs) (dc1_t ta oka cc h)
/-- y = {..}, stored by the comprehension itself -/
theorem s1_setDc1 {i : Nat} {y : Str} {py spos : Pos} {kx vx : Expr} {ifs : List Expr} {scope : Scope} {own : List (Str × Nat)} {k : KE} {g : TG} {up : T → Rho → Option Rho} (hc : X.calm = true) (hN : X.N.Nodup) (hy : X.N[i]? = some y) (ok : BlkOk X.N X.env.scope scope own)
    (hg : Blk X scope fun Y => PG Y tg g) (ta : Tgt X.K g up (own.map (·.2))) (h : iw F X tg iter r S (DcAsk F X r kx vx ifs scope (own.map (·.2)) up fun t S1 => k.nx (r.set i (some t)) S1))
    (hyl : X.env.scope.names.lookup y = some .local := by rfl) (hsw : swapsWith (dc1 kx vx tg iter ifs scope pos) (some (.Name y py)) spos.line X.env = pure true := by rfl)
    (hs : ∀ x, foldedSetIterable iter X.env x = pure x := by intro _; rfl) : s1w F X (.Assign [.Name y py] (dc1 kx vx tg iter ifs scope pos) spos) r S k := by
  intro σ H D oka cc
  obtain ⟨wi, hi, h⟩ := h
  have pt : Blk X scope fun Y => PTs Y ifs fun σ H Q => Blk X scope fun Y => WTs Y ifs σ H Q := fun s1 H1 C cl fp => ⟨fun pins s σ H Q I h => h s1 H1 C cl fp pins s I⟩
  have pk : Blk X scope fun Y => PE Y kx fun σ H Q => Blk X scope fun Y => WE Y kx σ H Q := fun s1 H1 C cl fp => ⟨fun pins s σ H Q I h => h s1 H1 C cl fp pins s I⟩
  have pv : Blk X scope fun Y => PE Y vx fun σ H Q => Blk X scope fun Y => WE Y vx σ H Q := fun s1 H1 C cl fp => ⟨fun pins s σ H Q I h => h s1 H1 C cl fp pins s I⟩
  have q := dc1_t (Q := fun v H1 => D.nx (σ.set i (some v)) H1) ta oka (fun v H' t S' st ok' tr hk => cc.nx _ H' _ S' st (ok'.set tr) hk) h
  intro pins s I
  rw [exec_Assign_Name_used _ _ _ _ hsw]
  refine wpAny_bind (wpAny_standAt (wpAny_bind ?_))
  show wpAny _ X.A (comprehension (dc1 kx vx tg iter ifs scope pos) scope X.env (firstIterPos [⟨tg, iter, ifs, 0⟩] pos) newDict false (eval iter X.env) (some (assign (.Name y py) X.env)) >>= fun _ => pure ()) _ _ s
  refine wpAny_bind (thn (dc_core (Qf := fun _ s' => SP X pins D .next s') hc hN I hi ok hg pt pk pv hs q fun L C s' m H' I' q ns f => ?_) fun _ s' hq => wpAny_pure (wpAny_pure hq))
  show wpAny _ _ (assign (.Name y py) X.env (.ref L)) _ _ _
  refine wpAny_assign_Name (store_ok2 (v := V.ref L) I' hN hy (.inl hyl) rfl (fun s2 I2 ⟨a, sb, ha⟩ => ?_) (.inr hyl))
  obtain ⟨g0, g1, g2, g3, g4, g5⟩ := f
  have ne : C ≠ a := ha.elim (fun z => by rw [z]; exact g1) (fun z e => g4 y a z e.symm)
  exact ⟨m, ns.sameBut sb ne, fun h3 sb3 => ⟨_, H', I2.turned (t' := s2.toks) (fun b o hb e => (sb3.2 b hb).trans e) g0 g1 g3 g4 g5, q⟩⟩
/-! ### d.setdefault(k, x) -/
theorem ew_setd {k : T → Sto → Prop} (h : ew F X o r S fun t S1 => ∃ p, t = .ref p ∧ (∃ kvs0, (p, .dk kvs0) ∈ S1) ∧ ew F X e r S1 fun tk S2 => ew F X f r S2 fun tx S3 => ∃ Sa Sb kvs kk, tk = kT kk ∧ S3 = Sa ++ (p, .dk kvs) :: Sb ∧ kvs.length < 100000 ∧
      (∀ t, valT kvs kk = some t → k t S3) ∧ (valT kvs kk = none → k tx (Sa ++ (p, .dk (putT kvs kk tx)) :: Sb)))
    (m : M2 X o "setdefault" apos e f cpos := by exact ⟨rfl, rfl, rfl, rfl⟩) : ew F X (.Call (.Attribute o "setdefault" apos) [e, f] [] cpos) r S k := by
  intro σ H Q ok cc
  refine we_of (pe_dsetd peW peW peW m) ?_
  refine h σ H _ ok fun v H1 t S1 k1 ok1 tr q => ?_
  obtain ⟨p, rfl, ⟨kvs0, h0⟩, q⟩ := q
  obtain ⟨vs0, hp0, _⟩ := ok1.toOkH.sto _ h0
  refine ⟨p, tr.ref_inv, .inl ⟨vs0, .inl hp0⟩, ?_⟩
  refine q σ H1 _ ok1 fun y H2 tk S2 k2 ok2 trk q2 => ?_
  refine q2 σ H2 _ ok2 fun z H3 tx S3 k3 ok3 trx q3 => ?_
  obtain ⟨Sa, Sb, kvs, kk, rfl, rfl, hz, q4, q5⟩ := q3
  obtain ⟨vs, hp, pk⟩ := ok3.toOkH.sto (p, .dk kvs) (by simp)
  have st := (k1.trans k2).trans k3
  have pv := pk.val kk
  have lz := pk.length
  refine ⟨vs, kk, hp, kT_tr trk, by rw [lz]; exact Nat.lt_trans hz hundred, fun w hw => ?_, fun hw => ?_⟩
  · cases hv : valT kvs kk with
    | none => rw [hv] at pv; rw [show valV vs kk = none from pv] at hw; cases hw
    | some t =>
      rw [hv] at pv
      obtain ⟨w', e1, e2⟩ := pv
      rw [e1] at hw; cases hw
      exact cc _ H3 t _ st ok3 e2 (q4 t hv)
  · have hn : valT kvs kk = none := by
      cases hv : valT kvs kk with
      | none => rfl
      | some t => rw [hv] at pv; obtain ⟨w', e1, _⟩ := pv; rw [e1] at hw; cases hw
    have km : KeepI H3 (upd H3 p (.dK (putK vs kk z))) := .mut hp notImm_dK
    exact cc z _ tx _ (st.trans (.mut rfl rfl hp notImm_dK)) (ok3.mut (.dk _) rfl rfl hp notImm_dK ⟨_, upd_same, PKV.put kk (trx.keep km) (pk.keep km)⟩) (trx.keep km) (q5 hn)
/-! ### dict(d), list(d) -/
theorem cw_dictD {p : Addr} {kvs : List (Key × T)} {k : T → Sto → Prop} (hp : Rdb F S (p, .dk kvs)) (hk : ∀ q, q ∉ feet S → k (.ref q) ((q, .dk kvs) :: S)) : cw F X (.type "dict") [.ref p] r S k :=
  cw_of call_dictD fun σ H xs Q ok trs cc => by
    obtain ⟨v, rfl, tr⟩ := trs.one
    obtain ⟨vs, rd, pk⟩ := ok.toOkH.read hp
    exact ⟨p, vs, by rw [tr.ref_inv], rd, fun z hz => cc _ _ _ _ (.put hz rfl) (ok.put (.dk _) hz rfl ⟨_, upd_same, pk.keep (.new hz)⟩) (.ref z) (hk z (ok.toOkH.fresh hz))⟩
theorem PKV.keysT {K : PySem.W.Frag} {H : Hp} : ∀ {vs : List (Key × V)} {ts : List (Key × T)}, PKV K H vs ts → TRs K H (vs.map fun kv => kV kv.1) (ts.map fun kv => kT kv.1)
  | _, _, .nil => .nil
  | _, _, .cons h q => .cons (by show TR K H (kV _) (kT _); rw [show _ = _ from h.1]; exact tr_kV _) (PKV.keysT q)
theorem cw_listD {p : Addr} {kvs : List (Key × T)} {k : T → Sto → Prop} (hc : X.calm = true) (hp : Rdb F S (p, .dk kvs)) (hk : ∀ q, q ∉ feet S → k (.ref q) ((q, .lst (kvs.map fun kv => kT kv.1)) :: S)) : cw F X (.type "list") [.ref p] r S k :=
  cw_of (call_listD hc) fun σ H xs Q ok trs cc => by
    obtain ⟨v, rfl, tr⟩ := trs.one
    obtain ⟨vs, rd, pk⟩ := ok.toOkH.read hp
    exact ⟨p, vs, by rw [tr.ref_inv], rd, fun z hz => cc _ _ _ _ (.put hz rfl) (ok.put (.lst _) hz rfl ⟨_, upd_same, pk.keysT.keep (.new hz)⟩) (.ref z) (hk z (ok.toOkH.fresh hz))⟩
/-! ### for a, b in zip(t, u) -/
theorem iw_zipT {elts : List Expr} {kk : Nat} {tpos p : Pos} {e2 : Expr} {k : List T → (Sto → Prop) → Sto → Prop} (hm : X.mg "zip" = none) (h : aw F X [e, e2] r S fun us S1 => ∃ ts us', us = [.tup ts, .tup us'] ∧ k ((ts.zip us').map fun x => .tup [x.1, x.2]) (fun _ => True) S1) (hg : Gl X "zip" := by rfl)
    (hs : starEach [e, e2] X.env = (false, eval e X.env) :: starEach [e2] X.env := by rfl) (hpl : (backTo pos (starEach [e2] X.env)).any (·.1) = false := by rfl) : iw F X (.Tuple elts kk tpos) (.Call (.Name "zip" p) [e, e2] [] pos) r S k := by
  refine ⟨_, RZ.pi_zipA hg hm paW hs hpl, fun σ H R ok cc => ?_⟩
  refine h σ H _ ok fun vs H1 us S1 k1 ok1 trs q => ?_
  obtain ⟨ts, us', rfl, q⟩ := q
  obtain ⟨v1, v2, rfl, t1, t2⟩ := trs.two
  obtain ⟨a, xs, rfl, sa, ra⟩ := t1.tup_inv
  obtain ⟨b, ys, rfl, sb, rb⟩ := t2.tup_inv
  have la := ra.length
  have lb := rb.length
  refine ⟨a, b, xs, ys, rfl, .inr ⟨sa, sb, cc _ H1 _ (fun _ => True) S1 (fun H2 => SqT X.K H2 a xs ∧ SqT X.K H2 b ys ∧ TRs X.K H2 xs ts ∧ TRs X.K H2 ys us') k1 ok1 ⟨fun n H2 h2 hn => ?_, fun n H2 x H' h2 hn y => ?_, fun n H2 h2 hn => ?_⟩ (fun H2 S2 ok2 kp _ => ⟨sqt_keep kp sa, sqt_keep kp sb, ra.keep kp, rb.keep kp⟩) q⟩⟩
  · rw [List.length_map, List.length_zip] at hn
    exact ⟨xs, ys, xs[n]'(by omega), ys[n]'(by omega), h2.1, h2.2.1, List.getElem?_eq_getElem _, List.getElem?_eq_getElem _⟩
  · obtain ⟨Tt, x1, y1, rfl, hT, rfl, g1, g2⟩ := y
    have e1 := g1 _ h2.1
    have e2 := g2 _ h2.2.1
    obtain ⟨t1, f1, r1⟩ := h2.2.2.1.get' e1
    obtain ⟨t2, f2, r2⟩ := h2.2.2.2.get' e2
    have kp : KeepI H2 (upd H2 Tt (.tup [x1, y1])) := .new hT
    refine ⟨⟨fun b o e => by rw [upd_ne (ne_of_none e hT)]; exact e⟩, .tup [t1, t2], ?_, .tup (.inl (.inl upd_same)) (.cons (r1.keep kp) (.cons (r2.keep kp) .nil))⟩
    rw [List.getElem?_map, List.getElem?_zip_eq_some (z := (t1, t2)) |>.mpr ⟨f1, f2⟩]
    rfl
  · rw [List.length_map, List.length_zip] at hn
    exact ⟨xs, ys, h2.1, h2.2.1, by omega⟩
end
end PT
set_option Elab.async false
set_option linter.all false
set_option maxRecDepth 100000
set_option maxHeartbeats 2000000
set_option autoImplicit false
/-! list(zip(t, u)) -/
namespace PT
open PySem
open PySem.Sem (wp)
theorem zip_no_len : typeLookup (.type "zip") "__len__" = pure none := by rw [typeLookup_type, builtinLookup_eq_fast]; kernel_rfl
theorem zip_no_hint : typeLookup (.type "zip") "__length_hint__" = pure none := by rw [typeLookup_type, builtinLookup_eq_fast]; kernel_rfl
section
variable {prog : Program} {w : World} {A : Around} {E : Value → Shared → Prop} {s : Shared} {z TI TO T i1 i2 l1 l2 : Addr} {f : Bool} {oT : Obj} {k1 k2 : Nat} {xs ys : Array Value}
/-- the next pair while the last one is out -/
theorem zipT_out {x y : Value} {Q : Option Value → Shared → Prop} (D : ZipApart z TI TO i1 i2 l1 l2) (hz : PySem.IsZipHeld s.heap z TI TO T f) (hT : s.heap.get? T = some oT) (hTI : IsPair s.heap TI (.ref i1) (.ref i2))
    (h1 : s.heap.IsTupleIter i1 l1 k1) (h2 : s.heap.IsTupleIter i2 l2 k2) (hl1 : s.heap.IsTuple l1 xs) (hl2 : s.heap.IsTuple l2 ys) (hx : xs[k1]? = some x) (hy : ys[k2]? = some y)
    (hQ : ∀ h', PySem.IsZipHeld h' z TI TO T true → h'.IsTupleIter i1 l1 (k1 + 1) → h'.IsTupleIter i2 l2 (k2 + 1) → IsPair h' s.heap.objs.size x y → h'.objs.size = s.heap.objs.size + 1 →
      (∀ c o, c ≠ z → c ≠ i1 → c ≠ i2 → s.heap.get? c = some o → h'.get? c = some o) → Q (some (.ref s.heap.objs.size)) { s with heap := h' }) : wpAny (model prog w) A (pyNext (.ref z)) Q E s := by
  have ty : s.TypeIs (.ref z) "zip" := ⟨_, hz, rfl⟩
  unfold pyNext
  refine wpAny_bind (wpAny_attempt (wpAny_callSpecial?_slot (name := Str.ofString "__next__") ty F.slot_zip_next (wpAny_call_entry F.slot_zip_next ty F.entry_zip_next ?_ (F.args_zip_next_1 _))))
  show wpAny _ _ (field (.ref z) 2 >>= _) _ _ s
  apply wpAny_bind; refine wpAny_field hz rfl (x := Value.bool false) rfl ?_
  show wpAny _ _ (field (.ref z) 3 >>= fun its => seqItems? its >>= _) _ _ s
  apply wpAny_bind; refine wpAny_field hz rfl (x := Value.ref TI) rfl (wpAny_bind (wpAny_seqItems hTI rfl ?_))
  refine wpAny_bind (PySem.wpAny_tupleHeld_zip hz hT fun h₁ hz₁ hs₁ => ?_)
  simp only [Bool.false_eq_true, if_false]
  refine wpAny_bind ?_
  rw [← Array.forIn_toList]
  simp only [List.forIn_cons, List.forIn_nil]
  refine wpAny_bind (wpAny_bind (wpAny_holding ?_))
  show wpAny _ _ (Builtin.SmallTypes.nextOf (.ref i1) >>= _) _ _ _
  refine wpAny_bind (RZ.nextOf_tuple_item (s := { s with heap := h₁ }) (h1.extBut hs₁.extBut D.i1z) (hl1.extBut hs₁.extBut D.l1z) hx fun h₂ h1₂ hs₂ => wpAny_pure (wpAny_pure (wpAny_bind (wpAny_bind (wpAny_holding ?_)))))
  show wpAny _ _ (Builtin.SmallTypes.nextOf (.ref i2) >>= _) _ _ _
  refine wpAny_bind (RZ.nextOf_tuple_item (s := { s with heap := h₂ }) ((h2.extBut hs₁.extBut D.i2z).extBut hs₂.extBut D.i12.symm) ((hl2.extBut hs₁.extBut D.l2z).extBut hs₂.extBut D.l2i1) hy fun h₃ h2₃ hs₃ => wpAny_pure (wpAny_pure (wpAny_pure ?_)))
  show wpAny _ _ (newTuple [x, y] >>= _) _ _ _
  refine wpAny_bind (wpAny_newTuple ?_)
  have sz : h₃.objs.size = s.heap.objs.size := by rw [hs₃.1, hs₂.1, hs₁.1]
  have hz₃ : PySem.IsZipHeld h₃ z TI TO T true := hs₃.extBut _ _ D.i2z.symm (hs₂.extBut _ _ D.i1z.symm hz₁)
  have up : ∀ c o, c ≠ z → c ≠ i1 → c ≠ i2 → s.heap.get? c = some o → h₃.get? c = some o := fun c o c1 c2 c3 e => hs₃.extBut c o c3 (hs₂.extBut c o c2 (hs₁.extBut c o c1 e))
  have it1 : h₃.IsTupleIter i1 l1 (k1 + 1) := h1₂.extBut hs₃.extBut D.i12
  have np : IsPair (h₃.push { cls := .type "tuple", data := .seq #[x, y] }) h₃.objs.size x y := Heap.get?_push_size _ rfl
  have nz : (h₃.push { cls := .type "tuple", data := .seq #[x, y] }).objs.size = h₃.objs.size + 1 := Heap.size_push ..
  refine wpAny_pure ⟨_, rfl, wpAny_pure ?_⟩
  show Q (some (.ref h₃.objs.size)) _
  rw [sz] at np nz ⊢
  exact hQ _ (Heap.get?_push_of_some _ hz₃) (it1.at fun o e => Heap.get?_push_of_some _ e) (h2₃.at fun o e => Heap.get?_push_of_some _ e) np nz fun c o c1 c2 c3 e => Heap.get?_push_of_some _ (up c o c1 c2 c3 e)
theorem zipT_outEnd {Q : Option Value → Shared → Prop} (hh : A.handled = none) (D : ZipApart z TI TO i1 i2 l1 l2) (hz : PySem.IsZipHeld s.heap z TI TO T f) (hT : s.heap.get? T = some oT) (hTI : IsPair s.heap TI (.ref i1) (.ref i2))
    (h1 : s.heap.IsTupleIter i1 l1 k1) (h2 : s.heap.IsTupleIter i2 l2 k2) (hl1 : s.heap.IsTuple l1 xs) (hl2 : s.heap.IsTuple l2 ys) (hend : xs[k1]? = none ∨ ys[k2]? = none)
    (hQ : ∀ h', (∀ c o, c ≠ z → c ≠ i1 → c ≠ i2 → s.heap.get? c = some o → h'.get? c = some o) → Q none { s with heap := h' }) : wpAny (model prog w) A (pyNext (.ref z)) Q E s := by
  have ty : s.TypeIs (.ref z) "zip" := ⟨_, hz, rfl⟩
  have fin : ∀ (h : Heap) (e : Addr), (∀ c o, c ≠ z → c ≠ i1 → c ≠ i2 → s.heap.get? c = some o → h.get? c = some o) → (∃ o, h.get? e = some o ∧ o.cls = .type "StopIteration") →
      wpAny (model prog w) A (do if ← isInstance (.ref e) (.type "StopIteration") then pure none else throw (.ref e)) Q E { s with heap := h } := fun h e hk ⟨o, ho, hc⟩ =>
    wpAny_bind (wpAny_isInstance (T := "StopIteration") (b := true) ⟨o, ho, hc⟩ isSubtype_stop (wpAny_pure (hQ _ hk)))
  unfold pyNext
  refine wpAny_bind (wpAny_attempt (wpAny_callSpecial?_slot (name := Str.ofString "__next__") ty F.slot_zip_next (wpAny_call_entry F.slot_zip_next ty F.entry_zip_next ?_ (F.args_zip_next_1 _))))
  show wpAny _ _ (field (.ref z) 2 >>= _) _ _ s
  apply wpAny_bind; refine wpAny_field hz rfl (x := Value.bool false) rfl ?_
  show wpAny _ _ (field (.ref z) 3 >>= fun its => seqItems? its >>= _) _ _ s
  apply wpAny_bind; refine wpAny_field hz rfl (x := Value.ref TI) rfl (wpAny_bind (wpAny_seqItems hTI rfl ?_))
  refine wpAny_bind (PySem.wpAny_tupleHeld_zip hz hT fun h₁ hz₁ hs₁ => ?_)
  simp only [Bool.false_eq_true, if_false]
  refine wpAny_bind ?_
  rw [← Array.forIn_toList]
  simp only [List.forIn_cons, List.forIn_nil]
  refine wpAny_bind (wpAny_bind (wpAny_holding ?_))
  show wpAny _ _ (Builtin.SmallTypes.nextOf (.ref i1) >>= _) _ _ _
  cases hx : xs[k1]? with
  | none =>
    refine wpAny_bind (RZ.nextOf_tuple_end (s := { s with heap := h₁ }) hh (h1.extBut hs₁.extBut D.i1z) (hl1.extBut hs₁.extBut D.l1z) hx fun h₂ e hs₂ he => ?_)
    exact fin h₂ e (fun c o c1 c2 _ q => hs₂ c o c2 (hs₁.extBut c o c1 q)) he
  | some x =>
    have hy : ys[k2]? = none := by rcases hend with h | h; rw [hx] at h; cases h; exact h
    refine wpAny_bind (RZ.nextOf_tuple_item (s := { s with heap := h₁ }) (h1.extBut hs₁.extBut D.i1z) (hl1.extBut hs₁.extBut D.l1z) hx fun h₂ h1₂ hs₂ => wpAny_pure (wpAny_pure (wpAny_bind (wpAny_bind (wpAny_holding ?_)))))
    show wpAny _ _ (Builtin.SmallTypes.nextOf (.ref i2) >>= _) _ _ _
    refine wpAny_bind (RZ.nextOf_tuple_end (s := { s with heap := h₂ }) hh ((h2.extBut hs₁.extBut D.i2z).extBut hs₂.extBut D.i12.symm) ((hl2.extBut hs₁.extBut D.l2z).extBut hs₂.extBut D.l2i1) hy fun h₃ e hs₃ he => ?_)
    exact fin h₃ e (fun c o c1 c2 c3 q => hs₃ c o c3 (hs₂.extBut c o c2 (hs₁.extBut c o c1 q))) he
/-- a zip of two tuples behind i turns; S: where the list stands -/
structure ZSt (h : Heap) (z TI TO i1 i2 l1 l2 : Addr) (xs ys : Array Value) (S i : Nat) : Prop where
  ti : IsPair h TI (.ref i1) (.ref i2)
  it1 : h.IsTupleIter i1 l1 i
  it2 : h.IsTupleIter i2 l2 i
  t1 : h.IsTuple l1 xs
  t2 : h.IsTuple l2 ys
  zip : (IsZip h z TI TO .none ∧ ∃ a b, IsPair h TO a b) ∨ ∃ T f oT, PySem.IsZipHeld h z TI TO T f ∧ h.get? T = some oT ∧ T ≠ z ∧ T ≠ TO ∧ T ≠ i1 ∧ T ≠ i2 ∧ T ≠ S
theorem ZSt.step {h h' : Heap} {S i : Nat} (c : ZSt h z TI TO i1 i2 l1 l2 xs ys S i) (k : ∀ b o, b ≠ S → h.get? b = some o → h'.get? b = some o) (nS : ∀ b ∈ [z, TI, TO, i1, i2, l1, l2], b ≠ S) : ZSt h' z TI TO i1 i2 l1 l2 xs ys S i := by
  simp only [List.mem_cons, List.not_mem_nil, or_false, forall_eq_or_imp, forall_eq] at nS
  obtain ⟨n1, n2, n3, n4, n5, n6, n7⟩ := nS
  refine ⟨k _ _ n2 c.ti, c.it1.at fun o e => k _ o n4 e, c.it2.at fun o e => k _ o n5 e, ?_, ?_, ?_⟩
  · obtain ⟨o, ho, r⟩ := c.t1; exact ⟨o, k _ _ n6 ho, r⟩
  · obtain ⟨o, ho, r⟩ := c.t2; exact ⟨o, k _ _ n7 ho, r⟩
  · rcases c.zip with ⟨g, a, b, p⟩ | ⟨T, f, oT, g, gT, r⟩
    · exact .inl ⟨k _ _ n1 g, a, b, k _ _ n3 p⟩
    · exact .inr ⟨T, f, oT, k _ _ n1 g, k _ _ r.2.2.2.2 gT, r⟩
theorem zst_item {S i : Nat} {x y : Value} {Q : Option Value → Shared → Prop} (D : ZipApart z TI TO i1 i2 l1 l2) (c : ZSt s.heap z TI TO i1 i2 l1 l2 xs ys S i) (hS : S < s.heap.objs.size) (hx : xs[i]? = some x) (hy : ys[i]? = some y)
    (hQ : ∀ h', ZSt h' z TI TO i1 i2 l1 l2 xs ys S (i + 1) → IsPair h' s.heap.objs.size x y → h'.objs.size = s.heap.objs.size + 1 → (∀ c o, c ≠ z → c ≠ TO → c ≠ i1 → c ≠ i2 → s.heap.get? c = some o → h'.get? c = some o) → Q (some (.ref s.heap.objs.size)) { s with heap := h' }) :
    wpAny (model prog w) A (pyNext (.ref z)) Q E s := by
  have lt : ∀ {b : Addr} {o : Obj}, s.heap.get? b = some o → s.heap.objs.size ≠ b := fun e => Nat.ne_of_gt (Heap.lt_size e)
  obtain ⟨oi1, e1, _⟩ := id c.it1
  obtain ⟨oi2, e2, _⟩ := id c.it2
  have tup : ∀ {l : Addr} {ws : Array Value} {h' : Heap}, s.heap.IsTuple l ws → l ≠ z → l ≠ TO → l ≠ i1 → l ≠ i2 → (∀ c o, c ≠ z → c ≠ TO → c ≠ i1 → c ≠ i2 → s.heap.get? c = some o → h'.get? c = some o) → h'.IsTuple l ws :=
    fun ⟨o, ho, r⟩ a1 a2 a3 a4 k => ⟨o, k _ o a1 a2 a3 a4 ho, r⟩
  rcases c.zip with ⟨g, a, b, p⟩ | ⟨T, f, oT, g, gT, r1, r2, r3, r4, r5⟩
  · refine RZ.pyNext_zipT_item D g c.ti p c.it1 c.it2 c.t1 c.t2 hx hy fun h' b1 b2 b3 b4 b5 b6 b7 => hQ h' ⟨b7 _ _ D.TIz D.TITO D.TIi1 D.TIi2 c.ti, b3, b4, tup c.t1 D.l1z D.l1TO D.l1i1 D.l1i2 b7, tup c.t2 D.l2z D.l2TO D.l2i1 D.l2i2 b7, .inr ⟨_, false, _, b1, b5, lt g, lt p, lt e1, lt e2, Nat.ne_of_gt hS⟩⟩ b5 b6 b7
  · refine zipT_out D g gT c.ti c.it1 c.it2 c.t1 c.t2 hx hy fun h' b1 b3 b4 b5 b6 b7 => ?_
    have b8 : ∀ c o, c ≠ z → c ≠ TO → c ≠ i1 → c ≠ i2 → s.heap.get? c = some o → h'.get? c = some o := fun c o c1 _ c3 c4 e => b7 c o c1 c3 c4 e
    exact hQ h' ⟨b7 _ _ D.TIz D.TIi1 D.TIi2 c.ti, b3, b4, tup c.t1 D.l1z D.l1TO D.l1i1 D.l1i2 b8, tup c.t2 D.l2z D.l2TO D.l2i1 D.l2i2 b8, .inr ⟨T, true, oT, b1, b7 _ _ r1 r3 r4 gT, r1, r2, r3, r4, r5⟩⟩ b5 b6 b8
theorem zst_done {S i : Nat} {Q : Option Value → Shared → Prop} (hh : A.handled = none) (D : ZipApart z TI TO i1 i2 l1 l2) (c : ZSt s.heap z TI TO i1 i2 l1 l2 xs ys S i) (he : xs[i]? = none ∨ ys[i]? = none)
    (hQ : ∀ h', (∀ c o, c ≠ z → c ≠ TO → c ≠ i1 → c ≠ i2 → s.heap.get? c = some o → h'.get? c = some o) → Q none { s with heap := h' }) : wpAny (model prog w) A (pyNext (.ref z)) Q E s := by
  rcases c.zip with ⟨g, a, b, p⟩ | ⟨T, f, oT, g, gT, _⟩
  · exact RZ.pyNext_zipT_end hh D g c.ti p c.it1 c.it2 c.t1 c.t2 he hQ
  · exact zipT_outEnd hh D g gT c.ti c.it1 c.it2 c.t1 c.t2 he fun h' k => hQ h' fun c o c1 _ c3 c4 e => k c o c1 c3 c4 e
end
end PT
set_option Elab.async false
set_option linter.all false
set_option maxRecDepth 100000
set_option maxHeartbeats 2000000
set_option autoImplicit false
namespace PT
open PySem PySem.Spec PyProof.Rows L2
/-- the pairs at their addresses, in a row behind lo -/
structure ZG (ps : List (Value × Value)) (lo : Addr) (h : Heap) (as : List Addr) : Prop where
  rise : as.Pairwise (· < ·)
  above : ∀ a ∈ as, lo < a
  pairs : ∀ (j : Nat) (a : Addr), as[j]? = some a → ∃ p, ps[j]? = some p ∧ IsPair h a p.1 p.2
theorem ZG.there {ps : List (Value × Value)} {lo : Addr} {h : Heap} {as : List Addr} (g : ZG ps lo h as) {a : Addr} (ha : a ∈ as) : a < h.objs.size := by
  obtain ⟨j, hj⟩ := List.mem_iff_getElem?.mp ha
  obtain ⟨p, _, e⟩ := g.pairs j a hj
  exact Heap.lt_size e
theorem ZG.nil {ps : List (Value × Value)} {lo : Addr} {h : Heap} : ZG ps lo h [] := ⟨.nil, (fun _ ha => nomatch ha), fun j a hj => by simp at hj⟩
theorem ZG.more {ps : List (Value × Value)} {lo : Addr} {h h' : Heap} {as : List Addr} {p : Value × Value} (g : ZG ps lo h as) (hp : ps[as.length]? = some p) (k : ∀ b o, lo < b → h.get? b = some o → h'.get? b = some o) (hlo : lo < h.objs.size) (new : IsPair h' h.objs.size p.1 p.2) : ZG ps lo h' (as ++ [h.objs.size]) := by
  refine ⟨List.pairwise_append.mpr ⟨g.rise, List.pairwise_singleton _ _, fun a ha b hb => by rw [List.mem_singleton.mp hb]; exact g.there ha⟩, fun a ha => ?_, fun j b hj => ?_⟩
  · rcases List.mem_append.mp ha with ha | ha
    · exact g.above a ha
    · rw [List.mem_singleton.mp ha]; exact hlo
  · rcases Nat.lt_trichotomy j as.length with h1 | h1 | h1
    · rw [List.getElem?_append_left h1] at hj
      obtain ⟨q, e1, e2⟩ := g.pairs j b hj
      exact ⟨q, e1, k _ _ (g.above b (List.mem_of_getElem? hj)) e2⟩
    · subst h1
      rw [List.getElem?_append_right (Nat.le_refl _)] at hj
      simp at hj
      subst hj
      exact ⟨p, hp, new⟩
    · rw [List.getElem?_eq_none (by simp; omega)] at hj; cases hj
section
variable {prog : Program} {w : World} {A : Around} {s : Shared} {R : Result → Shared → Prop} {z TI TO i1 i2 l1 l2 : Addr} {xs ys : Array Value} {S : Addr}
/-- list.extend over the zip -/
theorem zloop (hh : A.handled = none) (D : ZipApart z TI TO i1 i2 l1 l2) (low : ∀ b ∈ [z, TI, TO, i1, i2, l1, l2], b < S) (res : Value) {h₁ : Heap} (hn : xs.size ≤ sizeLine)
    (hR : ∀ h' tk acc c as, (∀ b o, b ∉ [S, z, TO, i1, i2] → h₁.get? b = some o → h'.get? b = some o) → h'.get? S = some { cls := .type "list", dict := none, data := .seq acc c, slots := #[] } → as.length = min xs.size ys.size → ZG (xs.toList.zip ys.toList) S h' as →
      acc.toList = as.map Value.ref → R (.ok (.ret res)) { s with heap := h', toks := tk }) :
    ∀ (k i : Nat) (h : Heap) (tk c : Nat) (acc : Array Value) (as : List Addr), min xs.size ys.size - i = k → i ≤ min xs.size ys.size → ZSt h z TI TO i1 i2 l1 l2 xs ys S i → (∀ b o, b ∉ [S, z, TO, i1, i2] → h₁.get? b = some o → h.get? b = some o) →
      h.get? S = some { cls := .type "list", dict := none, data := .seq acc c, slots := #[] } → acc.toList = as.map Value.ref → as.length = i → ZG (xs.toList.zip ys.toList) S h as →
      codeAny (model prog w) A (.builtin "list.extend.loop" ⟨[.ref S, .ref z, res], []⟩) R { s with heap := h, toks := tk } := by
  have ne : ∀ b ∈ [z, TI, TO, i1, i2, l1, l2], b ≠ S := fun b hb => Nat.ne_of_lt (low b hb)
  have nz : z ≠ S := ne z (by simp)
  have nTO : TO ≠ S := ne TO (by simp)
  have n1 : i1 ≠ S := ne i1 (by simp)
  have n2 : i2 ≠ S := ne i2 (by simp)
  have lz := low z (by simp)
  have lTO := low TO (by simp)
  have li1 := low i1 (by simp)
  have li2 := low i2 (by simp)
  have far : ∀ b, S < b → b ≠ z ∧ b ≠ TO ∧ b ≠ i1 ∧ b ≠ i2 := fun b hb => ⟨Nat.ne_of_gt (Nat.lt_trans lz hb), Nat.ne_of_gt (Nat.lt_trans lTO hb), Nat.ne_of_gt (Nat.lt_trans li1 hb), Nat.ne_of_gt (Nat.lt_trans li2 hb)⟩
  intro k
  induction k with
  | zero =>
    intro i h tk c acc as hk hi st keep hS hacc hal hG
    refine codeAny_builtin PySem.F.entry_extend_loop ?_
    rw [Around.under_plainId PySem.F.plain_extend_loop _]
    show wpAny _ A.in1 (pyNext (.ref z) >>= _) _ _ _
    refine wpAny_bind (zst_done (s := { s with heap := h, toks := tk }) (A := A.in1) hh D st ?_ fun h' he => ?_)
    · rcases Nat.lt_or_ge i xs.size with q | q
      · exact .inr (Array.getElem?_eq_none (by omega))
      · exact .inl (Array.getElem?_eq_none (by omega))
    refine wpAny_pure (hR h' tk acc c as (fun b o hb e => ?_) (he S _ nz.symm nTO.symm n1.symm n2.symm hS) (by omega) ⟨hG.rise, hG.above, fun j a hj => ?_⟩ hacc)
    · simp only [List.mem_cons, List.not_mem_nil, or_false, not_or] at hb
      exact he b o hb.2.1 hb.2.2.1 hb.2.2.2.1 hb.2.2.2.2 (keep b o (by simp [hb]) e)
    · obtain ⟨p, e1, e2⟩ := hG.pairs j a hj
      obtain ⟨f1, f2, f3, f4⟩ := far a (hG.above a (List.mem_of_getElem? hj))
      exact ⟨p, e1, he a _ f1 f2 f3 f4 e2⟩
  | succ k ih =>
    intro i h tk c acc as hk hi st keep hS hacc hal hG
    have hx : xs[i]? = some xs[i] := Array.getElem?_eq_getElem (by omega)
    have hy : ys[i]? = some ys[i] := Array.getElem?_eq_getElem (by omega)
    have hsz : acc.size = i := by rw [← Array.length_toList, hacc, List.length_map, hal]
    have lS : S < h.objs.size := Heap.lt_size hS
    refine codeAny_builtin PySem.F.entry_extend_loop ?_
    rw [Around.under_plainId PySem.F.plain_extend_loop _]
    show wpAny _ A.in1 (pyNext (.ref z) >>= _) _ _ _
    refine wpAny_bind (zst_item (s := { s with heap := h, toks := tk }) D st lS hx hy fun h' st' ht hz kp => ?_)
    dsimp only at ht hz kp ⊢
    have hS' := kp S _ nz.symm nTO.symm n1.symm n2.symm hS
    have up : ∀ b o, b ≠ S → h'.get? b = some o → (h'.update S (Obj.mapSeq (·.push (Value.ref h.objs.size)))).get? b = some o := fun b o hb e => (Heap.get?_update_other _ _ (Ne.symm hb)).trans e
    have zp : (xs.toList.zip ys.toList)[as.length]? = some (xs[i], ys[i]) := by
      rw [hal]
      exact List.getElem?_zip_eq_some.mpr ⟨by rw [Array.getElem?_toList]; exact hx, by rw [Array.getElem?_toList]; exact hy⟩
    show wpAny _ A.in1 (updateSeq S (·.push (Value.ref h.objs.size)) >>= _) _ _ _
    refine wpAny_bind (wpAny_updateSeq hS' rfl (wpAny_pure ⟨plainId_quiet PySem.F.plain_extend_loop _, ih (i + 1) _ tk _ (acc.push (Value.ref h.objs.size)) (as ++ [h.objs.size]) (by omega) (by omega) (st'.step up ne) (fun b o hb e => ?_)
      (Heap.get?_update_self _ hS' rfl) (by rw [Array.toList_push, hacc, List.map_append]; rfl) (by rw [List.length_append, hal]; rfl) (hG.more zp (fun b o hb e => ?_) lS (up _ _ (Nat.ne_of_gt lS) ht))⟩) (by rw [hsz]; omega) (by show (acc.push (Value.ref h.objs.size)).size ≤ sizeLine + 1; rw [Array.size_push, hsz]; omega))
    · have hb' := hb
      simp only [List.mem_cons, List.not_mem_nil, or_false, not_or] at hb
      exact up b o hb.1 (kp b o hb.2.1 hb.2.2.1 hb.2.2.2.1 hb.2.2.2.2 (keep b o hb' e))
    · obtain ⟨f1, f2, f3, f4⟩ := far b hb
      exact up b o (Nat.ne_of_gt hb) (kp b o f1 f2 f3 f4 e)
end
section
variable {prog : Program} {w : World} {A : Around} {E : Value → Shared → Prop} {s : Shared} {z TI TO i1 i2 l1 l2 : Addr} {xs ys : Array Value}
theorem ZSt.up {h h' : Heap} {S S' i : Nat} (c : ZSt h z TI TO i1 i2 l1 l2 xs ys S i) (k : ∀ b o, h.get? b = some o → h'.get? b = some o) (hf : IsZip h z TI TO .none) (hp : ∃ a b, IsPair h TO a b) : ZSt h' z TI TO i1 i2 l1 l2 xs ys S' i := by
  obtain ⟨a, b, p⟩ := hp
  refine ⟨k _ _ c.ti, c.it1.at fun o e => k _ o e, c.it2.at fun o e => k _ o e, ?_, ?_, .inl ⟨k _ _ hf, a, b, k _ _ p⟩⟩
  · obtain ⟨o, ho, r⟩ := c.t1; exact ⟨o, k _ _ ho, r⟩
  · obtain ⟨o, ho, r⟩ := c.t2; exact ⟨o, k _ _ ho, r⟩
/-- list(the zip) -/
theorem list_zip {Q : Value → Shared → Prop} (hh : A.handled = none) (D : ZipApart z TI TO i1 i2 l1 l2) (c : ZSt s.heap z TI TO i1 i2 l1 l2 xs ys s.heap.objs.size 0) (hf : IsZip s.heap z TI TO .none) (hp : ∃ a b, IsPair s.heap TO a b) (low : ∀ b ∈ [z, TI, TO, i1, i2, l1, l2], b < s.heap.objs.size) (hn : xs.size ≤ sizeLine)
    (hQ : ∀ h' tk acc c as, (∀ b o, b ∉ [z, TO, i1, i2] → s.heap.get? b = some o → h'.get? b = some o) → h'.get? s.heap.objs.size = some { cls := .type "list", dict := none, data := .seq acc c, slots := #[] } → as.length = min xs.size ys.size → ZG (xs.toList.zip ys.toList) s.heap.objs.size h' as →
      acc.toList = as.map Value.ref → Q (.ref s.heap.objs.size) { s with heap := h', toks := tk }) : wpAny (model prog w) A (call (.type "list") [.ref z]) Q E s := by
  refine callType_codes (Q₁ := fun obj s₁ => obj = .ref s.heap.objs.size ∧ s₁ = { s with heap := s.heap.push { cls := .type "list", data := .seq #[] } }) PySem.F.called_list (PySem.F.typeCall_list_1 _) PySem.F.entry_list_init (code_list_new _ ⟨rfl, rfl⟩) fun obj s₁ h₁ => ?_
  obtain ⟨rfl, rfl⟩ := h₁
  generalize hSz : s.heap.objs.size = S at *
  have hS : (s.heap.push { cls := .type "list", data := .seq #[] }).get? S = some { cls := .type "list", data := .seq #[] } := by rw [← hSz]; exact Heap.get?_push_size _ rfl
  have old : ∀ b o, s.heap.get? b = some o → (s.heap.push { cls := .type "list", data := .seq #[] }).get? b = some o := fun b o e => Heap.get?_push_of_some _ e
  have nS : ∀ b o, s.heap.get? b = some o → b ≠ S := fun b o e => by rw [← hSz]; exact Nat.ne_of_lt (Heap.lt_size e)
  have ty : ∀ h : Heap, IsZip h z TI TO .none → Shared.TypeIs { s with heap := h } (.ref z) "zip" := fun h e => ⟨_, e, rfl⟩
  -- from any heap in which the list is empty
  have key : ∀ (h : Heap) (c₁ tk : Nat), (∀ b o, b ≠ S → s.heap.get? b = some o → h.get? b = some o) → h.get? S = some { cls := .type "list", data := .seq #[] c₁ } →
      codeAny (model prog w) A.in1 (.builtin "list.extend.loop" ⟨[.ref S, .ref z, .none], []⟩) (wants (fun r s₂ => r = .none ∧ Q (.ref S) s₂) E) { s with heap := h, toks := tk } := fun h c₁ tk k e =>
    zloop (s := s) (A := A.in1) (h₁ := s.heap) hh D low .none hn (fun h' tk' acc c' as k' e' l g a => ⟨rfl, hQ h' tk' acc c' as (fun b o hb q => k' b o (by simp only [List.mem_cons, List.not_mem_nil, or_false, not_or] at hb ⊢; exact ⟨nS b o q, hb⟩) q) e' l g a⟩)
      (min xs.size ys.size) 0 h tk c₁ #[] [] (by omega) (Nat.zero_le _) (c.up (h' := h) (S' := S) (fun b o q => k b o (nS b o q) q) hf hp) (fun b o _ q => k b o (nS b o q) q) e rfl rfl .nil
  refine ⟨⟨_, hS, rfl⟩, PySem.F.args_list_init_2 _ _, ?_⟩
  show wpAny _ A.in1.in1 (do let old ← Builtin.List.listItems (.ref S); Builtin.List.listUpdate (.ref S) (fun _ => #[]); letGo old.toList.reverse; Builtin.List.listExtendWith (.ref S) (.ref z) .none) _ _ _
  refine wpAny_bind ?_
  unfold Builtin.List.listItems
  refine wpAny_bind (wpAny_seqItems hS rfl (wpAny_pure ?_))
  show wpAny _ A.in1.in1 (updateSeq S (fun _ => #[]) >>= fun _ => letGo (#[] : Array Value).toList.reverse >>= fun _ => Builtin.List.listExtendWith (.ref S) (.ref z) .none) _ _ _
  refine wpAny_bind (wpAny_updateSeq hS rfl ?_)
  have hS₂ := Heap.get?_update_self (Obj.mapSeq (fun _ => (#[] : Array Value))) hS rfl
  have k2 : ∀ b o, b ≠ S → s.heap.get? b = some o → ((s.heap.push { cls := .type "list", data := .seq #[] }).update S (Obj.mapSeq (fun _ => (#[] : Array Value)))).get? b = some o := fun b o hb e => (Heap.get?_update_other _ _ (Ne.symm hb)).trans (old b o e)
  refine wpAny_bind (wpAny_letGo ?_)
  generalize (s.heap.push { cls := .type "list", data := .seq #[] }).update S (Obj.mapSeq (fun _ => (#[] : Array Value))) = h2 at *
  have zf := k2 _ _ (nS _ _ hf) hf
  unfold Builtin.List.listExtendWith
  refine wpAny_bind (wpAny_typeOf (ty h2 zf) ?_)
  have g1 : Builtin.List.listSameRef (.ref S) (.ref z) = false := by simp [Builtin.List.listSameRef, (nS _ _ hf).symm]
  have g2 : (Value.type "zip" == Value.type "list") = false := by decide
  have g3 : (Value.type "zip" == Value.type "tuple") = false := by decide
  simp only [g1, g2, g3, Bool.or_false, Bool.false_eq_true, if_false]
  refine wpAny_bind (wpAny_pyIter_zip (s := { s with heap := h2 }) zf (wpAny_bind (wpAny_holding ?_)))
  unfold Builtin.List.listLengthHint
  refine wpAny_bind (wpAny_specialOf (ty h2 zf) zip_no_len ?_)
  show wpAny _ A.in1.in1 (specialOf (Value.ref z) (Str.ofString "__length_hint__") >>= _) _ _ _
  refine wpAny_bind (wpAny_specialOf (ty h2 zf) zip_no_hint (wpAny_pure ?_))
  show wpAny _ A.in1.in1 (rule "list.extend.makes-room" >>= fun _ => Builtin.List.listTouch (.ref S) >>= fun _ => again (.builtin "list.extend.loop" ⟨[.ref S, .ref z, .none], []⟩)) _ _ _
  refine wpAny_bind (wpAny_rule (wpAny_bind ?_))
  show wpAny _ A.in1.in1 (updateSeq S (·.push .none) >>= fun _ => updateSeq S (·.pop)) _ _ _
  refine wpAny_bind (wpAny_updateSeq hS₂ rfl ?_)
  have hS₃ := Heap.get?_update_self (Obj.mapSeq (·.push Value.none)) hS₂ rfl
  refine wpAny_updateSeq (hz := by seq_fits) hS₃ rfl ?_
  have hS₄ := Heap.get?_update_self (Obj.mapSeq (·.pop)) hS₃ rfl
  exact wpAny_pure ⟨plainId_quiet PySem.F.plain_extend_loop _, key _ _ _ (fun b o hb e => (Heap.get?_update_other _ _ (Ne.symm hb)).trans ((Heap.get?_update_other _ _ (Ne.symm hb)).trans (k2 b o hb e))) hS₄⟩
end
end PT
set_option Elab.async false
set_option linter.all false
set_option maxRecDepth 100000
set_option maxHeartbeats 2000000
set_option autoImplicit false
namespace PT
open PySem PySem.Spec PyProof.Rows L2
/-- pairs, tracked at their addresses -/
def putZ : Hp → List Addr → List (V × V) → Hp
  | G, a :: as, q :: ps => putZ (upd G a (.tup [q.1, q.2])) as ps
  | G, _, _ => G
theorem putZ_off {b : Addr} : ∀ (as : List Addr) (ps : List (V × V)) (G : Hp), b ∉ as → putZ G as ps b = G b
  | [], _, _, _ => rfl
  | _ :: _, [], _, _ => rfl
  | a :: as, q :: ps, G, h => by
    rw [List.mem_cons, not_or] at h
    show putZ (upd G a (.tup [q.1, q.2])) as ps b = G b
    rw [putZ_off as ps _ h.2, upd_ne h.1]
theorem putZ_at : ∀ (as : List Addr) (ps : List (V × V)) (G : Hp), as.length = ps.length → as.Nodup → ∀ (j : Nat) (a : Addr), as[j]? = some a → ∃ q, ps[j]? = some q ∧ putZ G as ps a = some (.tup [q.1, q.2])
  | [], _, _, _, _, j, a, e => by simp at e
  | _ :: _, [], _, h, _, _, _, _ => by cases h
  | c :: as, q :: ps, G, h, hn, j, a, e => by
    have hn' := List.nodup_cons.mp hn
    cases j with
    | zero =>
      simp at e
      subst e
      refine ⟨q, rfl, ?_⟩
      show putZ (upd G c (.tup [q.1, q.2])) as ps c = _
      rw [putZ_off as ps _ hn'.1, upd_same]
    | succ j => exact putZ_at as ps (upd G c (.tup [q.1, q.2])) (Nat.succ.inj h) hn'.2 j a (by simpa using e)
section
variable {X : Cx}
theorem zip_laid {pins : List (Addr × Obj)} {σ : L2.St} {H : Hp} {s : Shared} {h' : Heap} {tk : Nat} {xs ys : List V} {us ws : List Value} {acc : Array Value} {c S : Nat} {as : List Addr} (I : Inv X pins σ H s) (hz : xs.length ≤ sizeLine) (vx : Vals xs us) (vy : Vals ys ws)
    (keep : ∀ b o, s.heap.get? b = some o → h'.get? b = some o) (lS : s.heap.objs.size ≤ S) (hS : h'.get? S = some { cls := .type "list", dict := none, data := .seq acc c, slots := #[] }) (hl : as.length = min us.length ws.length) (hG : ZG (us.zip ws) S h' as) (hacc : acc.toList = as.map Value.ref) :
    ∃ H' : Hp, (∀ b o, H b = some o → H' b = some o) ∧ H S = none ∧ H' S = some (.lst (as.map V.ref)) ∧ (∀ (j : Nat) (a : Addr), as[j]? = some a → ∃ q, (xs.zip ys)[j]? = some q ∧ H' a = some (.tup [q.1, q.2])) ∧ Inv X pins σ H' { s with heap := h', toks := tk } := by
  have l1 := vx.length
  have l2 := vy.length
  have lp : as.length = (xs.zip ys).length := by rw [List.length_zip]; omega
  have hSn : S ∉ as := fun z => Nat.lt_irrefl _ (hG.above _ z)
  have nd : as.Nodup := List.Pairwise.imp (fun {a b} (h : a < b) => Nat.ne_of_lt h) hG.rise
  have fresh : ∀ t ∈ as, H t = none := fun t ht => I.hok.fresh (Nat.le_trans lS (Nat.le_of_lt (hG.above t ht)))
  have freshS : H S = none := I.hok.fresh lS
  have stands := putZ_at as (xs.zip ys) (upd H S (.lst (as.map V.ref))) lp nd
  have off : ∀ b, b ∉ as → b ≠ S → putZ (upd H S (.lst (as.map V.ref))) as (xs.zip ys) b = H b := fun b h1 h2 => by rw [putZ_off as _ _ h1, upd_ne h2]
  have low : ∀ b o, s.heap.get? b = some o → b ∉ as ∧ b ≠ S := fun b o e => by
    have lt := Heap.lt_size e
    exact ⟨fun z => absurd (Nat.lt_trans (Nat.lt_of_lt_of_le lt lS) (hG.above b z)) (Nat.lt_irrefl _), Nat.ne_of_lt (Nat.lt_of_lt_of_le lt lS)⟩
  have kp : ∀ b u, H b = some u → (putZ (upd H S (.lst (as.map V.ref))) as (xs.zip ys)) b = some u := fun b u e => by
    rw [off b (fun z => by rw [fresh b z] at e; cases e) (fun z => by rw [z, freshS] at e; cases e)]
    exact e
  have eS : putZ (upd H S (.lst (as.map V.ref))) as (xs.zip ys) S = some (.lst (as.map V.ref)) := by rw [putZ_off as _ _ hSn, upd_same]
  refine ⟨_, kp, freshS, eS, stands, ?_⟩
  refine I.call' (ch := []) rfl ⟨fun b o q _ _ _ => keep b o q, fun b o q _ _ _ => ⟨o.slots, keep b o q⟩, fun b o q n _ => by obtain ⟨z1, z2⟩ := low b o q; rw [off b z1 z2]; exact n, fun b o q _ => ⟨o, keep b o q⟩, fun b zs q => kp b _ q, fun b o u q => kp b _ q, fun b ps q => ⟨#[], by rw [kp b _ q]; simp⟩⟩ (fun b u q => ?_) I.bare fun b z => by simp at z
  by_cases hb : b ∈ as
  · obtain ⟨j, hj⟩ := List.mem_iff_getElem?.mp hb
    obtain ⟨qv, g1, g2⟩ := stands j b hj
    rw [g2] at q
    cases q
    obtain ⟨qw, f1, f2⟩ := hG.pairs j b hj
    obtain ⟨gx, gy⟩ := List.getElem?_zip_eq_some.mp g1
    obtain ⟨fx, fy⟩ := List.getElem?_zip_eq_some.mp f1
    have get : ∀ {vs : List V} {us : List Value}, Vals vs us → ∀ {j : Nat} {v : V} {u : Value}, vs[j]? = some v → us[j]? = some u → RelV v u := by
      intro vs us h
      induction h with
      | nil => intro j v u e; simp at e
      | cons r _ ih =>
        intro j v u e1 e2
        cases j with
        | zero => simp at e1 e2; subst e1 e2; exact r
        | succ j => exact ih (by simpa using e1) (by simpa using e2)
    exact ⟨by show 2 ≤ sizeLine; decide, [qw.1, qw.2], .cons (get vx gx fx) (.cons (get vy gy fy) .nil), ⟨_, f2, rfl, _, rfl⟩⟩
  · by_cases hb2 : b = S
    · rw [hb2] at q ⊢
      rw [eS] at q
      cases q
      refine ⟨by rw [List.length_map]; omega, acc.toList, c, by rw [hacc]; exact LiI.vals_refs as, ?_⟩
      rw [Array.toArray_toList]
      exact hS
    · rw [off b hb hb2] at q
      exact (I.hok b u q).stay (fun d v _ y => keep d v y) (fun d y => kp d _ y) fun d xs y => kp d _ y
end
section
variable {F : Sto} {X : Cx} {r : Rho} {S : Sto} {pos cpos : Pos} {e e2 : Expr}
/-- list(zip(t, u)), tuples -/
theorem ew_listZip {p pz : Pos} {k : T → Sto → Prop} (hc : X.calm = true) (hm : X.mg "list" = none) (hm2 : X.mg "zip" = none)
    (h : aw F X [e, e2] r S fun us S1 => ∃ ts ws, us = [.tup ts, .tup ws] ∧ ∀ q, q ∉ feet S1 → k (.ref q) ((q, .lst ((ts.zip ws).map fun x => .tup [x.1, x.2])) :: S1))
    (hg : Gl X "list" := by rfl) (hg2 : Gl X "zip" := by rfl) (hs : starEach [e, e2] X.env = (false, eval e X.env) :: starEach [e2] X.env := by rfl) (hpl : (backTo cpos (starEach [e2] X.env)).any (·.1) = false := by rfl)
    (hso : starEach [.Call (.Name "zip" pz) [e, e2] [] cpos] X.env = (false, eval (.Call (.Name "zip" pz) [e, e2] [] cpos) X.env) :: starEach [] X.env := by rfl) :
    ew F X (.Call (.Name "list" p) [.Call (.Name "zip" pz) [e, e2] [] cpos] [] pos) r S k := by
  intro σ H Q ok cc pins s I
  refine wpAny_Call_Name_kw (ld_blt I hg hm boot_list ?_)
  refine PyProof.Rows.callWith_type1 ?_ hso rfl
  rw [hso]
  show wpAny _ _ (spliced ((false, eval (.Call (.Name "zip" pz) [e, e2] [] cpos) X.env) :: backTo pos (starEach [] X.env))) _ _ s
  refine Calls.spliced_cons ?_
  refine wpAny_Call_Name_kw (ld_blt I hg2 hm2 boot_zip ?_)
  refine PyProof.Rows.callWith_type1 (thn (h σ H (fun vs H1 => ∃ us S1, TRs X.K H1 vs us ∧ Stp H S H1 S1 ∧ Ok X.K F σ H1 r S1 ∧ ∃ ts ws, us = [.tup ts, .tup ws] ∧ ∀ q, q ∉ feet S1 → k (.ref q) ((q, .lst ((ts.zip ws).map fun x => .tup [x.1, x.2])) :: S1)) ok (fun vs H1 us S1 k1 ok1 trs q => ⟨us, S1, trs, k1, ok1, q⟩) cpos pins s I) fun us0 s1 ⟨vs, H1, I1, r1, us, S1, trs, k1, ok1, ts, ws, eu, q⟩ => ?_) hs hpl
  subst eu
  obtain ⟨v1, v2, rfl, t1, t2⟩ := trs.two
  obtain ⟨a, xs, rfl, sa, ra⟩ := t1.tup_inv
  obtain ⟨b, ys, rfl, sb, rb⟩ := t2.tup_inv
  obtain ⟨u1, u2, rfl, rl1, rl2⟩ := r1.two
  cases rl1
  cases rl2
  obtain ⟨ia, va, pa, za⟩ := I1.tuple sa
  obtain ⟨ib, vb, pb, zb⟩ := I1.tuple sb
  have lva := va.length
  have lvb := vb.length
  have lta := ra.length
  have ltb := rb.length
  obtain ⟨oa, hoa, _⟩ := id pa
  obtain ⟨ob, hob, _⟩ := id pb
  have la := Heap.lt_size hoa
  have lb := Heap.lt_size hob
  refine RZ.call_zipT (show s1.heap.IsTuple a ia.toArray from pa) (show s1.heap.IsTuple b ib.toArray from pb) fun h' hz hTI hTO h1 h2 hsz hk => ?_
  refine Calls.spliced_nil ?_
  have D := PySem.W.ktu_apart s1.heap.objs.size a b la lb
  generalize hN : s1.heap.objs.size = N at *
  have T1 : h'.IsTuple a ia.toArray := ⟨oa, hk _ _ hoa, by obtain ⟨o, ho, r⟩ := pa; rw [hoa] at ho; cases ho; exact r⟩
  have T2 : h'.IsTuple b ib.toArray := ⟨ob, hk _ _ hob, by obtain ⟨o, ho, r⟩ := pb; rw [hob] at ho; cases ho; exact r⟩
  refine list_zip (s := { s1 with heap := h' }) (I1.ok.hd hc) D ⟨hTI, h1, h2, T1, T2, .inl ⟨hz, _, _, hTO⟩⟩ hz ⟨_, _, hTO⟩ (fun c hcm => ?_) (by rw [List.size_toArray]; omega) fun h2 tk acc c as hk2 hS hl hG hacc => ?_
  · show c < h'.objs.size
    have la' : (a : Nat) < N := la
    have lb' : (b : Nat) < N := lb
    rw [hsz]
    simp only [List.mem_cons, List.not_mem_nil, or_false] at hcm
    rcases hcm with e | e | e | e | e | e | e
    · rw [e]; exact Nat.lt_succ_self _
    · rw [e]; exact Nat.add_lt_add_left (by decide) _
    · rw [e]; exact Nat.add_lt_add_left (by decide) _
    · rw [e]; exact Nat.lt_add_of_pos_right (by decide)
    · rw [e]; exact Nat.add_lt_add_left (by decide) _
    · rw [e]; exact Nat.lt_trans la' (Nat.lt_add_of_pos_right (by decide))
    · rw [e]; exact Nat.lt_trans lb' (Nat.lt_add_of_pos_right (by decide))
  · have keep : ∀ c o, s1.heap.get? c = some o → h2.get? c = some o := fun c o e => by
      have lt : c < N := by rw [← hN]; exact Heap.lt_size e
      refine hk2 c o (fun hm => ?_) (hk c o e)
      simp only [List.mem_cons, List.not_mem_nil, or_false] at hm
      rcases hm with e | e | e | e
      · rw [e] at lt; exact absurd lt (Nat.not_lt.mpr (Nat.le_add_right _ _))
      · rw [e] at lt; exact absurd lt (Nat.not_lt.mpr (Nat.le_add_right _ _))
      · rw [e] at lt; exact absurd lt (Nat.lt_irrefl _)
      · rw [e] at lt; exact absurd lt (Nat.not_lt.mpr (Nat.le_add_right _ _))
    obtain ⟨H', g1, g2, g3, g4, J⟩ := zip_laid (tk := tk) I1 za va vb keep (S := h'.objs.size) (by rw [hsz, hN]; exact Nat.le_add_right _ _) hS (by rw [hl]; simp) (by simpa using hG) hacc
    have gw : Grw H1 H' := ⟨g1⟩
    have hzs := ok1.toOkH.fresh g2
    have kp : KeepI H1 H' := fun a o _ e => g1 a o e
    have rs : TRs X.K H' (as.map V.ref) ((ts.zip ws).map fun x => .tup [x.1, x.2]) := by
      have key : ∀ (as : List Addr) (xs ys : List V) (ts ws : List T), TRs X.K H' xs ts → TRs X.K H' ys ws → as.length = (xs.zip ys).length → (∀ (j : Nat) (a : Addr), as[j]? = some a → ∃ q, (xs.zip ys)[j]? = some q ∧ H' a = some (.tup [q.1, q.2])) →
          TRs X.K H' (as.map V.ref) ((ts.zip ws).map fun x => .tup [x.1, x.2]) := by
        intro as
        induction as with
        | nil =>
          intro xs ys ts ws r1 r2 l _
          cases r1 with
          | nil => exact .nil
          | cons a1 b1 =>
            cases r2 with
            | nil => rw [List.zip_nil_right]; exact .nil
            | cons a2 b2 => simp at l
        | cons c as ih =>
          intro xs ys ts ws r1 r2 l g
          cases r1 with
          | nil => simp at l
          | cons a1 b1 =>
            cases r2 with
            | nil => simp at l
            | cons a2 b2 =>
              obtain ⟨q, e1, e2⟩ := g 0 c rfl
              simp at e1
              subst e1
              refine .cons (.tup (.inl (.inl e2)) (.cons a1 (.cons a2 .nil))) (ih _ _ _ _ b1 b2 (by simpa using l) fun j a e => ?_)
              obtain ⟨q, f1, f2⟩ := g (j + 1) a (by simpa using e)
              exact ⟨q, by simpa using f1, f2⟩
      refine key as xs ys ts ws (ra.keep kp) (rb.keep kp) ?_ g4
      rw [hl, List.length_zip]; simp; omega
    refine ⟨.ref h'.objs.size, H', J, rfl, ?_⟩
    have st : Stp H1 S1 H' ((h'.objs.size, .lst ((ts.zip ws).map fun x => .tup [x.1, x.2])) :: S1) := ⟨fun a o _ e => g1 a o e, fun a e => gw.fre e, fun a ha => by
      rcases List.mem_cons.mp (show a ∈ h'.objs.size :: feet S1 from ha) with rfl | ha
      · exact .inr g2
      · exact .inl ha⟩
    exact cc _ H' (.ref _) _ (k1.trans st) ((ok1.grw gw).add ⟨_, g3, rs⟩ rfl hzs (ok1.toOkH.offF g2)) (.ref _) (q _ hzs)
end
end PT
set_option Elab.async false
set_option linter.all false
set_option maxRecDepth 100000
set_option maxHeartbeats 2000000
set_option autoImplicit false
namespace PT
open PySem PySem.Spec PyProof.Rows L2
/-- dicts of data that are equal -/
structure EqD (ks ls : List (Key × T)) : Prop where
  len : ks.length = ls.length
  val : ∀ p ∈ ks, ∃ u d e, valT ls p.1 = some u ∧ T.py p.2 = some d ∧ T.py u = some e ∧ SeqAt.shaped d = true ∧ SeqAt.shaped e = true ∧ PyData.eqv d e = true
section
variable {F : Sto} {X : Cx} {r : Rho} {S : Sto}
theorem hits_data {pins : List (Addr × Obj)} {σ : L2.St} {H : Hp} {s : Shared} {A : Around} (I : Inv X pins σ H s) (hu : A.units + 64 < cLine) {vls : List (Key × V)} {vb : List (Key × Value)} (rb : KV vls vb) {ls : List (Key × T)} (pl : PKV X.K H vls ls) :
    ∀ {vks : List (Key × V)} {va : List (Key × Value)} {ks : List (Key × T)}, KV vks va → PKV X.K H vks ks → (∀ p ∈ ks, ∃ u d e, valT ls p.1 = some u ∧ T.py p.2 = some d ∧ T.py u = some e ∧ SeqAt.shaped d = true ∧ SeqAt.shaped e = true ∧ PyData.eqv d e = true) → PySem.W.KeqHits A s vb va true := by
  intro vks va ks ra pk
  unfold KV at ra
  induction ra generalizing ks with
  | nil => intro _; exact .nil
  | @cons p q ps qs h t ih =>
    intro hp
    obtain ⟨h1, h2⟩ := h
    cases pk with
    | @cons _ p' _ ks' g gs =>
      obtain ⟨g1, g2⟩ := g
      obtain ⟨u, d, e, e1, e2, e3, e4, e5, e6⟩ := hp p' List.mem_cons_self
      have pv := pl.val p'.1
      rw [e1] at pv
      obtain ⟨w, ew, tw⟩ := pv
      have rr : RelO (some w) (valueAt vb p'.1) := by rw [← ew]; exact rb.val p'.1
      obtain ⟨y, hy, ry⟩ := rr.some_of
      obtain ⟨key, v⟩ := q
      have h1' : p.1 = key := h1
      have g1' : p.1 = p'.1 := g1
      rw [← g1', h1'] at hy
      obtain ⟨as, r1⟩ := Dp.reads I d p.2 v (g2.dp e2) h2
      obtain ⟨bs, r2⟩ := Dp.reads I e w y (tw.dp e3) ry
      have q := SeqAt.eqAt_reads d e A s v y as bs r1 r2 (SeqAt.canLay_of_shaped e4) (SeqAt.canLay_of_shaped e5) (SeqAt.room_of_shaped e4 hu)
      rw [e6] at q
      show PySem.W.KeqHits A s vb ((key, v) :: qs) (true && true)
      exact .hit hy q (ih gs fun p'' hm => hp p'' (List.mem_cons_of_mem _ hm))
theorem bw_neDk {p q : Addr} {ks ls : List (Key × T)} {k : T → Sto → Prop} (hu : X.A.units + 66 < cLine) (hp : Rdb F S (p, .dk ks)) (hq : Rdb F S (q, .dk ls)) (h : EqD ks ls) (hk : k (.bl false) S) : bw F X (compareOp .NotEq) (.ref p) (.ref q) r S k := by
  intro σ H x y Q ok ha hb cc pins s v u I rv ru
  obtain ⟨vks, rd1, pk⟩ := ok.toOkH.read hp
  obtain ⟨vls, rd2, pl⟩ := ok.toOkH.read hq
  rw [ha.ref_inv] at rv
  rw [hb.ref_inv] at ru
  obtain rfl : v = Value.ref p := rv
  obtain rfl : u = Value.ref q := ru
  obtain ⟨_, ya, va, ra, da⟩ := dk_rd I.hok rd1
  obtain ⟨_, yb, vb, rb, db⟩ := dk_rd I.hok rd2
  have hl : va.length = vb.length := by rw [← ra.length, ← rb.length, pk.length, pl.length]; exact h.len
  refine PySem.W.keq_ne (knd := mixKind X.prog X.w) (r := true) ya yb da db (by omega) (fun _ => hits_data (A := X.A.in1) I (by show X.A.units + 1 + 64 < cLine; omega) rb pl ra pk h.val) ?_
  rw [hl]
  exact ⟨.bl _, H, I, by simp; rfl, cc _ H _ S (.refl H S) ok (.bl _) hk⟩
end
end PT
set_option Elab.async false
set_option linter.all false
set_option maxRecDepth 100000
set_option maxHeartbeats 2000000
set_option autoImplicit false
namespace PT
open PySem PySem.Spec PyProof.Rows L2
section
variable {F : Sto} {X : Cx} {r : Rho} {S : Sto} {apos cpos : Pos} {e o : Expr} {es : List Expr}
/-- xs.extend(e), e a tuple or a list -/
theorem ew_ext {k : T → Sto → Prop}
    (h : ew F X o r S fun t S1 => ∃ p ts0, t = .ref p ∧ Rdb F S1 (p, .lst ts0) ∧ aw F X (e :: es) r S1 fun us S2 => mw F X (rExtendA X.K) p us r S2 k)
    (hbase : attributeBase o "extend" X.env (eval o X.env) = eval o X.env)
    (hfew : ((backTo cpos (starEach (e :: es) X.env)).all (fun x => !x.1) && (backToKw cpos (keywordEach [] X.env)).all (fun x => x.1.isSome) && decide ((e :: es).length + ([] : List Keyword).length + (if ([] : List Keyword).isEmpty then 0 else 1) < 30)) = true)
    (hline : (apos.endLine == cpos.line) = true) (hs : starEach (e :: es) X.env = (false, eval e X.env) :: starEach es X.env) (hplain : (backTo cpos (starEach es X.env)).any (·.1) = false) :
    ew F X (.Call (.Attribute o "extend" apos) (e :: es) [] cpos) r S k :=
  ew_mth (name := "extend") (id := "list.extend") (rr := rExtendA X.K) PySem.F.slot_list_extend PySem.F.type_list_extend mt_extendA h hbase hfew hline hs hplain
end
end PT
set_option Elab.async false
set_option linter.all false
set_option maxRecDepth 100000
set_option maxHeartbeats 2000000
set_option autoImplicit false
namespace PT
open PySem L2 PySem.Spec PyProof.Rows
section
variable {F : Sto} {X : Cx} {r : Rho} {S : Sto} {pos apos cpos p2 : Pos} {e o f tg iter : Expr}
/-- list(xs) of a list -/
theorem cw_listL {p : Addr} {ts : List T} {k : T → Sto → Prop} (hp : Rdb F S (p, .lst ts)) (hk : ∀ q, q ∉ feet S → k (.ref q) ((q, .lst ts) :: S)) : cw F X (.type "list") [.ref p] r S k :=
  cw_of call_list_of fun σ H xs Q ok trs cc => by
    obtain ⟨v, rfl, tr⟩ := trs.one
    obtain ⟨vs, rd, rs⟩ := ok.toOkH.read hp
    exact ⟨p, vs, by rw [tr.ref_inv], .inl (.inl rd), fun z hz => cc _ _ _ _ (.put hz rfl) (ok.put (.lst _) hz rfl ⟨_, upd_same, rs.keep (.new hz)⟩) (.ref z) (hk z (ok.toOkH.fresh hz))⟩
theorem s1_cont {k : KE} (h : k.ct r S) : s1w F X (.Continue pos) r S k := fun σ H D ok cc => ws1_of ps_continue (cc.ct σ H r S (.refl H S) ok h)
end
end PT
set_option Elab.async false
set_option linter.all false
set_option maxRecDepth 100000
set_option maxHeartbeats 2000000
set_option autoImplicit false
/-! a, b, c = e, f, g -/
namespace PT
open PySem L2 PySem.Spec PyProof.Rows
section
variable {F : Sto} {X : Cx} {r : Rho} {S : Sto} {pos : Pos} {a b c : Expr}
theorem TRs.three {K : PySem.W.Frag} {H : Hp} {vs : List V} {a b c : T} (h : TRs K H vs [a, b, c]) : ∃ v1 v2 v3, vs = [v1, v2, v3] ∧ TR K H v1 a ∧ TR K H v2 b ∧ TR K H v3 c := by
  cases h with
  | cons h1 h => cases h with
    | cons h2 h => cases h with
      | cons h3 h => cases h with
        | nil => exact ⟨_, _, _, rfl, h1, h2, h3⟩
/-- a, b, c = e, e a tuple of three -/
theorem s1_three {i j l : Nat} {x y z : Str} {px py pz pt : Pos} {kt} {e : Expr} {k : KE} (hc : X.calm = true) (hN : X.N.Nodup) (hi : X.N[i]? = some x) (hj : X.N[j]? = some y) (hl : X.N[l]? = some z)
    (h : ew F X e r S fun t S1 => ∃ t1 t2 t3, t = .tup [t1, t2, t3] ∧ k.nx (((r.set i (some t1)).set j (some t2)).set l (some t3)) S1)
    (hx : Loc X.env.scope x := by first | exact .inl rfl | exact .inr rfl) (hy : Loc X.env.scope y := by first | exact .inl rfl | exact .inr rfl) (hz : Loc X.env.scope z := by first | exact .inl rfl | exact .inr rfl)
    (hfx : X.fn x = true ∨ X.env.scope.names.lookup x = some .local := by first | exact .inl rfl | exact .inr rfl) (hfy : X.fn y = true ∨ X.env.scope.names.lookup y = some .local := by first | exact .inl rfl | exact .inr rfl) (hfz : X.fn z = true ∨ X.env.scope.names.lookup z = some .local := by first | exact .inl rfl | exact .inr rfl)
    (hs : swapsWithSole [.Tuple [.Name x px, .Name y py, .Name z pz] kt pt] e pos.line X.env = pure false := by rfl) (hw : swappedStores [.Tuple [.Name x px, .Name y py, .Name z pz] kt pt] e X.env = pure none := by rfl)
    (h1 : (assignEach [.Tuple [.Name x px, .Name y py, .Name z pz] kt pt] X.env).map (·.2) = [assign (.Tuple [.Name x px, .Name y py, .Name z pz] kt pt) X.env] := by rfl)
    (hn : (assignEach [.Name x px, .Name y py, .Name z pz] X.env).length = 3 := by rfl) (hst : (assignEach [.Name x px, .Name y py, .Name z pz] X.env).findIdx? (·.1) = none := by rfl)
    (g1 : (assignEach [.Name x px, .Name y py, .Name z pz] X.env).map (·.2) = assign (.Name x px) X.env :: (assignEach [.Name y py, .Name z pz] X.env).map (·.2) := by rfl) (g2 : (assignEach [.Name y py, .Name z pz] X.env).map (·.2) = assign (.Name y py) X.env :: (assignEach [.Name z pz] X.env).map (·.2) := by rfl) (g3 : (assignEach [.Name z pz] X.env).map (·.2) = assign (.Name z pz) X.env :: (assignEach [] X.env).map (·.2) := by rfl) :
    s1w F X (.Assign [.Tuple [.Name x px, .Name y py, .Name z pz] kt pt] e pos) r S k := by
  intro σ H D ok cc
  refine ws1_of (ps_asg peW (pg_tup hc (pgs_cons (pg_name hN hi hx hfx) (pgs_cons (pg_name hN hj hy hfy) (pgs_cons (pg_name hN hl hz hfz) pgs_nil g3) g2) g1) hn hst) hs hw h1) ?_
  refine h σ H _ ok fun v H1 t S1 k1 ok1 tr q => ?_
  obtain ⟨t1, t2, t3, rfl, q⟩ := q
  obtain ⟨p, vs, rfl, sq, rs⟩ := tr.tup_inv
  obtain ⟨v1, v2, v3, rfl, r1, r2, r3⟩ := rs.three
  exact ⟨p, _, rfl, sq, rfl, v1, _, rfl, v2, _, rfl, v3, _, rfl, rfl, cc.nx _ H1 _ S1 k1 (((ok1.set r1).set r2).set r3) q⟩
end
end PT
set_option Elab.async false
set_option linter.all false
set_option maxRecDepth 100000
set_option maxHeartbeats 4000000
set_option autoImplicit false
/-! the end of a law over the layer -/
namespace PT
open PySem L2 PySem.Spec PyProof.Rows
section
variable {P : Program} {w : World} {K : PySem.W.Frag} {mg : Str → Option Value} {base : Heap} {n : Nat}
theorem fn_of {x : Str} {st : Stmt} {N ps : List Str} {f : Addr} {fd : FuncData} {c : Con} (G : Fun K x x st f fd) (S : FnScope N ps (defScope st)) (hlen : ∀ ts F S k, c ts F S k → ts.length = ps.length)
    (h : ∀ a : BA, Room n (bx P w K mg base N x st a).A → ∀ ts F S k, c ts F S k → sw F (bx P w K mg base N x st a) (defBody st) (slots N ts) S { nx := fun _ S' => k .non S', rt := k }) : FnOk P w K mg base CX0 (n + 1) f fd ps (spOf K c) := by
  refine G.ok S (fun vs H Q E ⟨ts, F, S, k, trs, _, hc, _⟩ => by rw [trs.length]; exact hlen ts F S k hc) (fun cdv A outer s H vs Q E hr ⟨ts, F, S1, k, trs, ok, hc, post⟩ => ?_)
  refine ⟨_, psW, ?_⟩
  have q := h ⟨f, cdv, A, outer, s, H, E⟩ hr ts F S1 k hc (L2.start N vs) H { nx := fun _ H' => Q .non H', rt := Q } (slots_ok trs ok)
  refine q ⟨fun σ' H' r' S' s2 ok2 hk => post .non H' .non S' s2 ok2.toOkH .non hk, fun v H' t S' s2 ok2 tr hk => post v H' t S' s2 ok2 tr hk, fun _ _ _ _ _ _ z => z.elim, fun _ _ _ _ _ _ z => z.elim⟩
theorem fn_zero {pre : List T → Sto → (T → Prop) → Prop} (h : ∀ ts F q, ¬ pre ts F q) : ∀ ts F S k, ¬ Fn pre ts F S k := fun ts F S k z => h ts F _ z.2
/-- no list among the module's own objects -/
def noLists (K : PySem.W.Frag) : Bool := K.all fun p => match p.2.cls with | .type n => !(n == "list") | _ => true
theorem noLists_at : ∀ {K : PySem.W.Frag} {a : Addr} {o : Obj}, noLists K = true → K.lookup a = some o → o.cls ≠ .type "list"
  | [], _, _, _, e => by simp at e
  | (b, u) :: K, a, o, h, e => by
    unfold noLists at h
    rw [List.all_cons, Bool.and_eq_true] at h
    rw [List.lookup_cons] at e
    split at e
    · cases e
      intro z
      have h1 := h.1
      simp only [z] at h1
      exact absurd h1 (by decide)
    · exact noLists_at (K := K) h.2 e
/-- what a law over a script of whole numbers promises -/
def pLaw (m n : Nat) : Con := fun ts F S k => m ≤ n ∧ ∃ (sc : Addr) (is : List Int), ts = [.ref sc] ∧ S = [] ∧ (sc, .lst (is.map T.int)) ∈ F ∧ is.length ≤ 63 ∧ ∀ S', k (.bl true) S'
def spLaw (m n : Nat) (K : PySem.W.Frag) : Sp := fun vs H Q E => noLists K = true → spOf K (pLaw m n) vs H Q E
theorem sp_law {m n : Nat} (hmn : m ≤ n) {H : Hp} {a : Addr} {ns : List Int} (hl : ns.length ≤ 63) (h : SqL K H a (ns.map V.int)) : spLaw m n K [.ref a] H (fun v _ => v = .bl true) fun _ _ _ => False := by
  intro nl
  have rd : Rd H a (.lst (ns.map V.int)) := by
    rcases h with h | ⟨o, _, _, h1, h2, _⟩
    · exact h
    · exact absurd h2 (noLists_at nl h1)
  refine ⟨[.ref a], [(a, .lst (ns.map T.int))], [], fun t _ => t = .bl true, .cons (.ref a) .nil, ⟨fun p hp => (by cases hp), List.nodup_nil, fun p hp => ?_⟩, ⟨hmn, a, ns, rfl, rfl, .head _, hl, fun _ => rfl⟩, fun v H' t S' _ _ tr e => ?_⟩
  · rw [List.mem_singleton.mp hp]
    exact ⟨⟨_, rd, TRs.ofInts ns⟩, fun x _ hx => (by cases hx)⟩
  · subst e
    exact tr.bl_inv
theorem df_mk {x : Str} {st : Stmt} {ps : List Str} {h : Heap} (X : K.In h) (G : h.Ns mainGlobals mg) {f : Addr} {od an : Option Addr} {sl : Array (Option Value)} {oc kV dc pm cd ct : Value}
    (a : PySem.W.nsIn K mainGlobals x = some (some (.ref f))) (l : K.lookup f = some ⟨oc, od, .func (PySem.W.fnOf x x (defArgs st) (defBody st) (defScope st) .none kV dc pm an cd ct), sl⟩) (e : PySem.W.codeIn K cd x = true) (k : PySem.W.keepIn K (.ref f) = true)
    (b : ∀ fd, Fun K x x st f fd → Binds K fd ps []) : Df K mg x st ps :=
  ⟨⟨f, _, fun_mk l e k, PySem.W.mg_of X G a, b _ (fun_mk l e k)⟩⟩
end
theorem walk {m k : Nat} {l : PySem.W.OpenLaw} {q : Program} {loose : List Str} {XP : (Str → Option Value) → Heap → Prop} {YP : World → Heap → Prop} {d : DefRec} {K : Params → PySem.W.Frag} (hmk : m ≤ k) (hk : k ≤ 231) (hn : l.most = some 63) (hdf : d.params.defaults = [])
    (hY : ∀ (w : World) (h : Heap), YP w h → (K w.params).In h)
    (F : ∀ (w : World) (mg : Str → Option Value) (fa : Addr) (h : Heap), (K w.params).In h → h.Ns mainGlobals mg → mg d.name = some (.ref fa) →
      ∃ fd : FuncData, (∀ (s : Shared) (u : Value), BindsTo s fd ⟨[u], []⟩ [("script", u)]) ∧ ∀ base : Heap, (K w.params).In base → base.Ns mainGlobals mg → FnOk l.prog w (K w.params) mg base CX0 k fa fd ["script"] (spLaw m k (K w.params))) :
    PySem.W.WalkO q loose XP YP l.row.toRowW d [] (fun f vs => PySem.call f vs) := by
  refine L2.walk_of (n := 63) (k := k) (x := "script") (CX := fun _ => CX0) (sp := fun w => spLaw m k (K w.params)) hn (by decide) hdf ?_ hY F (fun _ _ a ns hl _ hS => sp_law hmk hl hS) fun _ _ _ _ _ z => z
  have h0 : Room 231 callerA := ⟨rfl, by decide, by decide⟩
  obtain ⟨h1, h2, h3⟩ := h0
  exact ⟨h1, by omega, by omega⟩
end PT
set_option Elab.async false
set_option linter.all false
set_option maxRecDepth 100000
set_option maxHeartbeats 2000000
set_option autoImplicit false
namespace B02
open PT PySem L2 PySem.Spec PyProof.Rows
def top (i : Nat) : Stmt := PySem.Challenge.pw_briefproof_k02_whole_likeness_and_instan.main.body.getD i (.Pass ⟨0, 0, 0, 0⟩)
/-! ### sayings -/
/-- a text that may stand in data -/
structure Nm where
  s : Str
  ok : (PyData.str s).canLay0 = true
deriving DecidableEq
def nm (x : String) (h : (PyData.str (Str.ofString x)).canLay0 = true := by decide +kernel) : Nm := ⟨Str.ofString x, h⟩
theorem Nm.inj {a b : Nm} : a.s = b.s ↔ a = b := ⟨fun h => by cases a; cases b; simp_all, fun h => by rw [h]⟩
/-- the words that join two sayings -/
inductive Bw where
  | thn | and | or
deriving DecidableEq
def Bw.s : Bw → Str
  | .thn => "then"
  | .and => "and"
  | .or => "or"
theorem Bw.s_eq (w v : Bw) : (w.s == v.s) = decide (w = v) := by cases w <;> cases v <;> decide +kernel
theorem Bw.lay (w : Bw) : (PyData.str w.s).canLay0 = true := by cases w <;> decide +kernel
inductive Say where
  | atom (x : Nm) | fls | bin (w : Bw) (a b : Say)
deriving DecidableEq
def Say.t : Say → T
  | .atom x => .tup [.str "atom", .str x.s]
  | .fls => .tup [.str "false"]
  | .bin w a b => .tup [.str w.s, a.t, b.t]
def Say.dep : Say → Nat
  | .atom _ => 1
  | .fls => 1
  | .bin _ a b => max a.dep b.dep + 1
theorem Say.dep1 : ∀ s : Say, 1 ≤ s.dep
  | .atom _ => Nat.le_refl _
  | .fls => Nat.le_refl _
  | .bin _ a b => Nat.le_add_left _ _
/-! as data that may be compared -/
def Say.d : Say → PyData
  | .atom x => .tuple [.str "atom", .str x.s]
  | .fls => .tuple [.str "false"]
  | .bin w a b => .tuple [.str w.s, a.d, b.d]
theorem Say.py : ∀ s : Say, T.py s.t = some s.d
  | .atom x => rfl
  | .fls => rfl
  | .bin w a b => by simp only [Say.t, T.py, T.pys, Say.py a, Say.py b]; rfl
theorem Say.lay : ∀ s : Say, s.d.canLay0 = true
  | .atom x => by simp only [Say.d, PyData.canLay0, PyData.canLayAll0, Bool.and_eq_true]; exact ⟨by decide +kernel, x.ok, trivial⟩
  | .fls => by decide +kernel
  | .bin w a b => by simp only [Say.d, PyData.canLay0, PyData.canLayAll0, Bool.and_eq_true, Say.lay a, Say.lay b]; exact ⟨w.lay, trivial, trivial, trivial⟩
theorem Say.deep : ∀ s : Say, s.d.depth ≤ s.dep
  | .atom x => by simp [Say.d, PyData.depth, PyData.depthAll, Say.dep]
  | .fls => by simp [Say.d, PyData.depth, PyData.depthAll, Say.dep]
  | .bin w a b => by have := Say.deep a; have := Say.deep b; simp only [Say.d, PyData.depth, PyData.depthAll, Say.dep]; omega
theorem neq_head {a b : Str} {xs ys : List PyData} (h : (a == b) = false) : PyData.eqv (.tuple (.str a :: xs)) (.tuple (.str b :: ys)) = false := by
  rw [PyData.eqv, PyData.eqvAll, PyData.eqv, h, Bool.false_and]
theorem Say.eqv : ∀ s u : Say, PyData.eqv s.d u.d = decide (s = u)
  | .atom x, .atom y => by
    simp only [Say.d, PyData.eqv, PyData.eqvAll, beq_self_eq_true, Bool.true_and, Bool.and_true, Say.atom.injEq]
    by_cases h : x = y
    · subst h; simp
    · have : x.s ≠ y.s := fun e => h (Nm.inj.mp e)
      simp [h, this]
  | .fls, .fls => by simp [Say.d, PyData.eqv, PyData.eqvAll]
  | .bin w a b, .bin v c d => by
    simp only [Say.d, PyData.eqv, PyData.eqvAll, Bool.and_true, Say.bin.injEq, Say.eqv a c, Say.eqv b d, Bw.s_eq]
    by_cases h1 : w = v <;> by_cases h2 : a = c <;> by_cases h3 : b = d <;> simp [h1, h2, h3]
  | .atom x, .fls => by rw [Say.d, Say.d, neq_head (by decide +kernel)]; simp
  | .atom x, .bin v c d => by rw [Say.d, Say.d, neq_head (by cases v <;> decide +kernel)]; simp
  | .fls, .atom y => by rw [Say.d, Say.d, neq_head (by decide +kernel)]; simp
  | .fls, .bin v c d => by rw [Say.d, Say.d, neq_head (by cases v <;> decide +kernel)]; simp
  | .bin w a b, .atom y => by rw [Say.d, Say.d, neq_head (by cases w <;> decide +kernel)]; simp
  | .bin w a b, .fls => by rw [Say.d, Say.d, neq_head (by cases w <;> decide +kernel)]; simp
theorem Say.shp {s : Say} (h : s.dep ≤ 64) : SeqAt.shaped s.d = true := by
  unfold SeqAt.shaped
  rw [Bool.and_eq_true, decide_eq_true_eq]
  exact ⟨s.lay, Nat.le_trans s.deep h⟩
theorem Say.eqT {s u : Say} (h : s.dep ≤ 64) (h2 : u.dep ≤ 64) : EqT s.t u.t (decide (s = u)) := by
  have q := eqT_fit s.py u.py s.lay u.lay (Nat.le_trans s.deep h) (Nat.le_trans u.deep h2)
  rw [Say.eqv] at q
  exact q
/-! tables of sayings -/
abbrev Tab := List (Nm × Say)
def Tab.t (g : Tab) : List (Key × T) := g.map fun p => (.inr p.1.s, p.2.t)
def Tab.get (g : Tab) (x : Nm) : Option Say := (g.find? fun p => decide (p.1 = x)).map (·.2)
theorem Tab.val (g : Tab) (x : Nm) : valT g.t (.inr x.s) = (g.get x).map Say.t := by
  unfold valT Tab.get Tab.t
  rw [List.find?_map]
  have e : ((fun kv : Key × T => decide (kv.1 = Sum.inr x.s)) ∘ fun p : Nm × Say => ((Sum.inr p.1.s, p.2.t) : Key × T)) = fun p : Nm × Say => decide (p.1 = x) := by
    funext p
    show decide ((Sum.inr p.1.s : Key) = Sum.inr x.s) = decide (p.1 = x)
    by_cases h : p.1 = x
    · simp [h]
    · have : p.1.s ≠ x.s := fun e => h (Nm.inj.mp e)
      simp [h, this]
  rw [e]
  cases List.find? (fun p : Nm × Say => decide (p.1 = x)) g <;> rfl
theorem Tab.get_none {g : Tab} {x : Nm} : g.get x = none ↔ x ∉ g.map (·.1) := by
  unfold Tab.get
  rw [Option.map_eq_none_iff, List.find?_eq_none]
  simp only [decide_eq_true_eq, List.mem_map, not_exists, not_and]
theorem Tab.get_mem {g : Tab} {x : Nm} {s : Say} (h : g.get x = some s) : (x, s) ∈ g := by
  unfold Tab.get at h
  obtain ⟨p, h1, h2⟩ := Option.map_eq_some_iff.mp h
  have e := List.find?_some h1
  have m := List.mem_of_find?_eq_some h1
  simp at e
  subst e; subst h2
  exact m
theorem Tab.get_of {g : Tab} (nd : (g.map (·.1)).Nodup) {p : Nm × Say} (h : p ∈ g) : g.get p.1 = some p.2 := by
  induction g with
  | nil => cases h
  | cons q g ih =>
    rw [List.map_cons, List.nodup_cons] at nd
    unfold Tab.get
    rcases List.mem_cons.mp h with rfl | h
    · simp
    · have ne : q.1 ≠ p.1 := fun e => nd.1 (by rw [e]; exact List.mem_map_of_mem h)
      rw [List.find?_cons_of_neg (by simpa using ne)]
      exact ih nd.2 h
theorem Tab.put_new {g : Tab} {x : Nm} {s : Say} (h : x ∉ g.map (·.1)) : putT g.t (.inr x.s) s.t = Tab.t (g ++ [(x, s)]) := by
  unfold putT
  rw [if_neg]
  · unfold Tab.t; rw [List.map_append]; rfl
  · intro ha
    obtain ⟨p, hp, e⟩ := List.any_eq_true.mp ha
    unfold Tab.t at hp
    obtain ⟨q, hq, rfl⟩ := List.mem_map.mp hp
    have : q.1 = x := Nm.inj.mp (by simpa using e)
    exact h (by rw [← this]; exact List.mem_map_of_mem hq)
theorem Tab.t_length (g : Tab) : g.t.length = g.length := List.length_map _
end B02
set_option Elab.async false
set_option linter.all false
set_option maxRecDepth 100000
set_option maxHeartbeats 2000000
set_option autoImplicit false
namespace B02
/-! ### sayings put in for atoms -/
def Say.sub (f : Nm → Say) : Say → Say
  | .atom x => f x
  | .fls => .fls
  | .bin w a b => .bin w (a.sub f) (b.sub f)
def Say.atoms : Say → List Nm
  | .atom x => [x]
  | .fls => []
  | .bin _ a b => a.atoms ++ b.atoms
def Say.size : Say → Nat
  | .atom _ => 1
  | .fls => 1
  | .bin _ a b => a.size + b.size + 1
theorem Say.size1 : ∀ s : Say, 1 ≤ s.size
  | .atom _ => Nat.le_refl _
  | .fls => Nat.le_refl _
  | .bin _ a b => Nat.le_add_left _ _
theorem sub_sub {f g : Nm → Say} : ∀ s : Say, (s.sub f).sub g = s.sub fun x => (f x).sub g
  | .atom _ => rfl
  | .fls => rfl
  | .bin w a b => by simp only [Say.sub, sub_sub a, sub_sub b]
theorem sub_congr {f g : Nm → Say} : ∀ {s : Say}, (∀ x ∈ s.atoms, f x = g x) → s.sub f = s.sub g
  | .atom x, h => h x (by simp [Say.atoms])
  | .fls, _ => rfl
  | .bin w a b, h => by simp only [Say.sub, sub_congr (s := a) fun x hx => h x (by simp [Say.atoms, hx]), sub_congr (s := b) fun x hx => h x (by simp [Say.atoms, hx])]
theorem sub_inj {f g : Nm → Say} : ∀ {s : Say}, s.sub f = s.sub g → ∀ x ∈ s.atoms, f x = g x
  | .atom x, h, y, hy => by simp [Say.atoms] at hy; subst hy; exact h
  | .fls, _, y, hy => by simp [Say.atoms] at hy
  | .bin w a b, h, y, hy => by
    simp only [Say.sub, Say.bin.injEq, true_and] at h
    simp only [Say.atoms, List.mem_append] at hy
    exact hy.elim (fun q => sub_inj h.1 y q) fun q => sub_inj h.2 y q
theorem sub_id : ∀ s : Say, s.sub .atom = s
  | .atom _ => rfl
  | .fls => rfl
  | .bin w a b => by simp only [Say.sub, sub_id a, sub_id b]
theorem atoms_sub {f : Nm → Say} {z : Nm} : ∀ {s : Say}, z ∈ (s.sub f).atoms ↔ ∃ y ∈ s.atoms, z ∈ (f y).atoms
  | .atom x => by simp [Say.sub, Say.atoms]
  | .fls => by simp [Say.sub, Say.atoms]
  | .bin w a b => by
    simp only [Say.sub, Say.atoms, List.mem_append, atoms_sub (s := a), atoms_sub (s := b)]
    constructor
    · rintro (⟨y, h1, h2⟩ | ⟨y, h1, h2⟩)
      · exact ⟨y, .inl h1, h2⟩
      · exact ⟨y, .inr h1, h2⟩
    · rintro ⟨y, h1 | h1, h2⟩
      · exact .inl ⟨y, h1, h2⟩
      · exact .inr ⟨y, h1, h2⟩
/-- an atom of a saying is not greater than the saying -/
theorem size_at {f : Nm → Say} {x : Nm} : ∀ {s : Say}, x ∈ s.atoms → (f x).size ≤ (s.sub f).size
  | .atom y, h => by simp [Say.atoms] at h; subst h; exact Nat.le_refl _
  | .fls, h => by simp [Say.atoms] at h
  | .bin w a b, h => by
    simp only [Say.atoms, List.mem_append] at h
    simp only [Say.sub, Say.size]
    rcases h with h | h
    · have := size_at (f := f) (s := a) h; omega
    · have := size_at (f := f) (s := b) h; omega
/-- nothing is a part of itself -/
theorem no_loop {f : Nm → Say} {x : Nm} {w : Bw} {a b : Say} (h : x ∈ (Say.bin w a b).atoms) : f x ≠ (Say.bin w a b).sub f := fun e => by
  have q : (f x).size + 1 ≤ ((Say.bin w a b).sub f).size := by
    simp only [Say.atoms, List.mem_append] at h
    simp only [Say.sub, Say.size]
    rcases h with h | h
    · have := size_at (f := f) h; omega
    · have := size_at (f := f) h; omega
  rw [e] at q
  omega
theorem dep_sub {f : Nm → Say} {m : Nat} : ∀ {s : Say}, (∀ x ∈ s.atoms, (f x).dep ≤ 1 + m) → (s.sub f).dep ≤ s.dep + m
  | .atom x, h => by have := h x (by simp [Say.atoms]); simp only [Say.sub, Say.dep]; omega
  | .fls, _ => by simp only [Say.sub, Say.dep]; omega
  | .bin w a b, h => by
    have h1 := dep_sub (f := f) (m := m) (s := a) fun x hx => h x (by simp [Say.atoms, hx])
    have h2 := dep_sub (f := f) (m := m) (s := b) fun x hx => h x (by simp [Say.atoms, hx])
    simp only [Say.sub, Say.dep]; omega
/-! ### tables made by joining -/
def sg (x : Nm) (u : Say) : Nm → Say := fun y => if y = x then u else .atom y
abbrev dom (g : Tab) : List Nm := g.map (·.1)
def Sat (θ : Nm → Say) (g : Tab) : Prop := ∀ p ∈ g, θ p.1 = p.2.sub θ
/-- a table whose entries were put in one after another, none within itself; what it makes of each atom -/
inductive Tri : Tab → (Nm → Say) → Prop
  | nil : Tri [] .atom
  | snoc {g : Tab} {ρ : Nm → Say} {x : Nm} {t : Say} : Tri g ρ → x ∉ dom g → x ∉ (t.sub ρ).atoms → Tri (g ++ [(x, t)]) fun y => (ρ y).sub (sg x (t.sub ρ))
theorem mem_dom {g : Tab} {x y : Nm} {t : Say} : y ∈ dom (g ++ [(x, t)]) ↔ y ∈ dom g ∨ y = x := by simp [dom]
theorem tri_nd {g : Tab} {ρ : Nm → Say} (h : Tri g ρ) : (dom g).Nodup := by
  induction h with
  | nil => exact List.nodup_nil
  | @snoc g ρ x t h hx ht ih =>
    show ((g ++ [(x, t)]).map (·.1)).Nodup
    rw [List.map_append]
    exact List.nodup_append.mpr ⟨ih, by simp, fun a ha b hb e => by simp at hb; subst hb; subst e; exact hx ha⟩
theorem tri_out {g : Tab} {ρ : Nm → Say} (h : Tri g ρ) : ∀ y, y ∉ dom g → ρ y = .atom y := by
  induction h with
  | nil => intro y _; rfl
  | @snoc g ρ x t h hx ht ih =>
    intro y hy
    rw [mem_dom, not_or] at hy
    show (ρ y).sub _ = _
    rw [ih y hy.1]
    simp [Say.sub, sg, hy.2]
theorem sg_sub {s u : Say} {x : Nm} (h : x ∉ s.atoms) : s.sub (sg x u) = s := by
  conv => rhs; rw [← sub_id s]
  exact sub_congr fun y hy => by simp only [sg]; rw [if_neg (fun e => h (by rw [← e]; exact hy))]
theorem tri_rng {g : Tab} {ρ : Nm → Say} (h : Tri g ρ) : ∀ y, ∀ z ∈ (ρ y).atoms, z ∉ dom g := by
  induction h with
  | nil => intro y z hz; simp [dom]
  | @snoc g ρ x t h hx ht ih =>
    intro y z hz
    rw [mem_dom, not_or]
    obtain ⟨v, hv, hz⟩ := atoms_sub.mp hz
    unfold sg at hz
    split at hz
    · obtain ⟨u, hu, hz2⟩ := atoms_sub.mp hz
      exact ⟨ih u z hz2, fun e => ht (by rw [← e]; exact hz)⟩
    · rename_i ne
      simp [Say.atoms] at hz
      subst hz
      exact ⟨ih y z hv, ne⟩
theorem tri_sat {g : Tab} {ρ : Nm → Say} (h : Tri g ρ) : Sat ρ g := by
  induction h with
  | nil => intro p hp; cases hp
  | @snoc g ρ x t h hx ht ih =>
    intro p hp
    rcases List.mem_append.mp hp with hp | hp
    · show (ρ p.1).sub _ = p.2.sub _
      rw [ih p hp, sub_sub]
    · rw [List.mem_singleton.mp hp]
      show (ρ x).sub _ = t.sub fun y => (ρ y).sub (sg x (t.sub ρ))
      rw [tri_out h x hx, ← sub_sub, sg_sub ht]
      simp [Say.sub, sg]
theorem tri_mg {g : Tab} {ρ θ : Nm → Say} (h : Tri g ρ) : Sat θ g → ∀ y, (ρ y).sub θ = θ y := by
  induction h with
  | nil => intro _ y; rfl
  | @snoc g ρ x t h hx ht ih =>
    intro st y
    have st0 : Sat θ g := fun p hp => st p (List.mem_append.mpr (.inl hp))
    have ex : θ x = t.sub θ := st (x, t) (by simp)
    have e1 : (t.sub ρ).sub θ = t.sub θ := by rw [sub_sub]; exact sub_congr fun z _ => ih st0 z
    show ((ρ y).sub _).sub θ = θ y
    rw [sub_sub, ← ih st0 y]
    apply sub_congr
    intro z _
    unfold sg
    split
    · rename_i e; rw [e1, e, ex]
    · rfl
theorem tri_mgs {g : Tab} {ρ θ : Nm → Say} (h : Tri g ρ) (st : Sat θ g) (s : Say) : (s.sub ρ).sub θ = s.sub θ := by
  rw [sub_sub]; exact sub_congr fun z _ => tri_mg h st z
theorem tri_idem {g : Tab} {ρ : Nm → Say} (h : Tri g ρ) (s : Say) : (s.sub ρ).sub ρ = s.sub ρ := tri_mgs h (tri_sat h) s
theorem Sat.snoc {θ : Nm → Say} {g : Tab} {x : Nm} {t : Say} : Sat θ (g ++ [(x, t)]) ↔ Sat θ g ∧ θ x = t.sub θ := by
  constructor
  · exact fun h => ⟨fun p hp => h p (List.mem_append.mpr (.inl hp)), h (x, t) (by simp)⟩
  · rintro ⟨h1, h2⟩ p hp
    rcases List.mem_append.mp hp with hp | hp
    · exact h1 p hp
    · rw [List.mem_singleton.mp hp]; exact h2
/-! ### how deep tables lead -/
def maxOf (h : Nm → Nat) : List Nm → Nat
  | [] => 0
  | x :: xs => max (h x) (maxOf h xs)
theorem le_max {h : Nm → Nat} {x : Nm} : ∀ {xs : List Nm}, x ∈ xs → h x ≤ maxOf h xs
  | y :: ys, hx => by
    unfold maxOf
    rcases List.mem_cons.mp hx with rfl | hx
    · omega
    · have := le_max (h := h) hx; omega
def Rank (h : Nm → Nat) (g : Tab) : Prop := ∀ p ∈ g, ∀ y ∈ p.2.atoms, h y < h p.1
theorem tri_rank {g : Tab} {ρ : Nm → Say} (h : Tri g ρ) : ∃ r, Rank r g := by
  induction h with
  | nil => exact ⟨fun _ => 0, fun p hp => (by cases hp)⟩
  | @snoc g ρ x t h hx ht ih =>
    obtain ⟨r, hr⟩ := ih
    refine ⟨fun z => if x ∈ (ρ z).atoms then r z + maxOf r t.atoms + 1 else r z, fun p hp y hy => ?_⟩
    rcases List.mem_append.mp hp with hp | hp
    · have lt := hr p hp y hy
      have st := tri_sat h p hp
      have up : x ∈ (ρ y).atoms → x ∈ (ρ p.1).atoms := fun q => by rw [st]; exact atoms_sub.mpr ⟨y, hy, q⟩
      show (if x ∈ (ρ y).atoms then _ else _ : Nat) < if x ∈ (ρ p.1).atoms then _ else _
      by_cases q : x ∈ (ρ y).atoms
      · rw [if_pos q, if_pos (up q)]; omega
      · rw [if_neg q]
        split <;> omega
    · rw [List.mem_singleton.mp hp] at hy ⊢
      have q : x ∉ (ρ y).atoms := fun q => ht (atoms_sub.mpr ⟨y, hy, q⟩)
      have q2 : x ∈ (ρ x).atoms := by rw [tri_out h x hx]; simp [Say.atoms]
      have lm := le_max (h := r) hy
      show (if x ∈ (ρ y).atoms then _ else _ : Nat) < if x ∈ (ρ x).atoms then _ else _
      rw [if_neg q, if_pos q2]
      have lm' : r y ≤ maxOf r t.atoms := lm
      omega
/-- how many entries stand below c -/
def cnt (r : Nm → Nat) (c : Nat) (g : Tab) : Nat := (g.filter fun p => decide (r p.1 < c)).length
theorem cnt_le {r : Nm → Nat} {c : Nat} {g : Tab} : cnt r c g ≤ g.length := List.length_filter_le _ _
theorem cnt_mono {r : Nm → Nat} {c e : Nat} (h : c ≤ e) : ∀ {g : Tab}, cnt r c g ≤ cnt r e g
  | [] => Nat.le_refl _
  | p :: g => by
    have ih := cnt_mono (r := r) h (g := g)
    unfold cnt at ih ⊢
    rw [List.filter_cons, List.filter_cons]
    by_cases q : r p.1 < c
    · rw [if_pos (by simpa using q), if_pos (by simp; omega)]; simp only [List.length_cons]; omega
    · rw [if_neg (by simpa using q)]
      split
      · simp only [List.length_cons]; omega
      · exact ih
theorem cnt_step {r : Nm → Nat} {p : Nm × Say} : ∀ {g : Tab}, p ∈ g → cnt r (r p.1) g + 1 ≤ cnt r (r p.1 + 1) g
  | q :: g, h => by
    have mono := cnt_mono (r := r) (g := g) (show r p.1 ≤ r p.1 + 1 from Nat.le_succ (r p.1))
    unfold cnt at mono ⊢
    rw [List.filter_cons, List.filter_cons]
    rcases List.mem_cons.mp h with e | h
    · subst e
      rw [if_neg (by simp), if_pos (by simp)]
      simp only [List.length_cons]; omega
    · have ih := cnt_step (r := r) h
      unfold cnt at ih
      by_cases z : r q.1 < r p.1
      · rw [if_pos (by simpa using z), if_pos (by simp; omega)]; simp only [List.length_cons]; omega
      · rw [if_neg (by simpa using z)]
        split
        · simp only [List.length_cons]; omega
        · exact ih
theorem mem_tab {g : Tab} {y : Nm} (h : y ∈ dom g) : ∃ t, (y, t) ∈ g := by
  obtain ⟨p, hp, e⟩ := List.mem_map.mp h
  exact ⟨p.2, by rw [← e]; exact hp⟩
theorem dep_rho {g : Tab} {ρ : Nm → Say} {r : Nm → Nat} {d : Nat} (h : Tri g ρ) (hr : Rank r g) (hd : ∀ p ∈ g, p.2.dep ≤ d) : ∀ (n : Nat) (y : Nm), r y < n → (ρ y).dep ≤ 1 + cnt r (r y + 1) g * d
  | 0, y, hn => absurd hn (Nat.not_lt_zero _)
  | n + 1, y, hn => by
    by_cases hy : y ∈ dom g
    · obtain ⟨t, ht⟩ := mem_tab hy
      have e := tri_sat h (y, t) ht
      have e' : ρ y = t.sub ρ := e
      rw [e']
      have q := dep_sub (f := ρ) (m := cnt r (r y) g * d) (s := t) fun z hz => by
        have lt : r z < r y := hr (y, t) ht z hz
        have := dep_rho h hr hd n z (by omega)
        have m := Nat.mul_le_mul_right d (cnt_mono (r := r) (g := g) (show r z + 1 ≤ r y by omega))
        omega
      have c : cnt r (r y) g + 1 ≤ cnt r (r y + 1) g := cnt_step (p := (y, t)) ht
      have m := Nat.mul_le_mul_right d c
      have dt := hd _ ht
      have dt' : t.dep ≤ d := dt
      rw [Nat.add_mul, Nat.one_mul] at m
      omega
    · rw [tri_out h y hy]
      simp only [Say.dep]; omega
theorem dep_res {g : Tab} {ρ : Nm → Say} {d : Nat} (h : Tri g ρ) (hd : ∀ p ∈ g, p.2.dep ≤ d) (s : Say) : (s.sub ρ).dep ≤ s.dep + g.length * d := by
  obtain ⟨r, hr⟩ := tri_rank h
  refine dep_sub fun x _ => ?_
  have q := dep_rho h hr hd (r x + 1) x (Nat.lt_succ_self _)
  have := Nat.mul_le_mul_right d (cnt_le (r := r) (c := r x + 1) (g := g))
  omega
/-! the levels that reading out takes -/
def lv (N : Nm → Nat) : Say → Nat
  | .atom x => N x
  | .fls => 1
  | .bin _ a b => max (lv N a) (lv N b) + 1
structure LvOk (N : Nm → Nat) (g : Tab) : Prop where
  one : ∀ y, 1 ≤ N y
  ent : ∀ p ∈ g, lv N p.2 + 1 ≤ N p.1
theorem lv_le {N : Nm → Nat} {ρ : Nm → Say} {c : Nat} : ∀ {s : Say}, (∀ y ∈ s.atoms, N y ≤ (ρ y).dep + c) → lv N s ≤ (s.sub ρ).dep + c
  | .atom x, h => h x (by simp [Say.atoms])
  | .fls, _ => by simp only [lv, Say.sub, Say.dep]; omega
  | .bin w a b, h => by
    have h1 := lv_le (N := N) (ρ := ρ) (c := c) (s := a) fun x hx => h x (by simp [Say.atoms, hx])
    have h2 := lv_le (N := N) (ρ := ρ) (c := c) (s := b) fun x hx => h x (by simp [Say.atoms, hx])
    simp only [lv, Say.sub, Say.dep]; omega
theorem tri_lv {g : Tab} {ρ : Nm → Say} (h : Tri g ρ) : ∃ N, LvOk N g ∧ ∀ s, lv N s ≤ (s.sub ρ).dep + g.length := by
  obtain ⟨r, hr⟩ := tri_rank h
  refine ⟨fun y => (ρ y).dep + cnt r (r y + 1) g, ⟨fun y => ?_, fun p hp => ?_⟩, fun s => lv_le fun y _ => ?_⟩
  · have := (ρ y).dep1; show 1 ≤ (ρ y).dep + _; omega
  · have q := lv_le (N := fun y => (ρ y).dep + cnt r (r y + 1) g) (ρ := ρ) (c := cnt r (r p.1) g) (s := p.2) fun y hy => by
      have := hr p hp y hy
      have := cnt_mono (r := r) (g := g) (show r y + 1 ≤ r p.1 by omega)
      show (ρ y).dep + _ ≤ _
      omega
    have c := cnt_step (r := r) hp
    have e := tri_sat h p hp
    show _ ≤ (ρ p.1).dep + cnt r (r p.1 + 1) g
    rw [e]
    omega
  · have := cnt_le (r := r) (c := r y + 1) (g := g)
    show (ρ y).dep + _ ≤ _
    omega
/-! weights, for walks along a table -/
def wsum (W : Nm → Nat) : Say → Nat
  | .atom x => W x
  | .fls => 1
  | .bin _ a b => wsum W a + wsum W b + 1
theorem wsum_congr {W U : Nm → Nat} : ∀ {s : Say}, (∀ x ∈ s.atoms, W x = U x) → wsum W s = wsum U s
  | .atom x, h => h x (by simp [Say.atoms])
  | .fls, _ => rfl
  | .bin w a b, h => by simp only [wsum, wsum_congr (s := a) fun x hx => h x (by simp [Say.atoms, hx]), wsum_congr (s := b) fun x hx => h x (by simp [Say.atoms, hx])]
theorem tri_weight {g : Tab} {ρ : Nm → Say} (h : Tri g ρ) : ∃ W : Nm → Nat, (∀ y, 1 ≤ W y) ∧ ∀ p ∈ g, wsum W p.2 + 1 ≤ W p.1 := by
  obtain ⟨r, hr⟩ := tri_rank h
  have nd := tri_nd h
  have key : ∀ c, ∃ W : Nm → Nat, (∀ y, 1 ≤ W y) ∧ ∀ p ∈ g, r p.1 < c → wsum W p.2 + 1 ≤ W p.1 := by
    intro c
    induction c with
    | zero => exact ⟨fun _ => 1, fun _ => Nat.le_refl _, fun p _ z => absurd z (Nat.not_lt_zero _)⟩
    | succ c ih =>
      obtain ⟨W, w1, w2⟩ := ih
      refine ⟨fun y => if r y = c then (match g.get y with | some t => wsum W t + 1 | none => 1) else W y, fun y => ?_, fun p hp hc => ?_⟩
      · show 1 ≤ if r y = c then _ else _
        split
        · split <;> omega
        · exact w1 y
      · have same : ∀ y ∈ p.2.atoms, (if r y = c then (match g.get y with | some t => wsum W t + 1 | none => 1) else W y) = W y := fun y hy => by
          have := hr p hp y hy
          rw [if_neg (by omega)]
        rw [wsum_congr (U := W) same]
        show _ ≤ if r p.1 = c then _ else _
        by_cases q : r p.1 = c
        · rw [if_pos q, Tab.get_of nd hp]; exact Nat.le_refl _
        · rw [if_neg q]
          exact w2 p hp (by omega)
  obtain ⟨W, w1, w2⟩ := key (maxOf r (dom g) + 1)
  exact ⟨W, w1, fun p hp => w2 p hp (Nat.lt_succ_of_le (le_max (List.mem_map_of_mem hp)))⟩
end B02
set_option Elab.async false
set_option linter.all false
set_option maxRecDepth 100000
set_option maxHeartbeats 2000000
set_option autoImplicit false
namespace B02
/-! ### reading out, with levels -/
def resF : Nat → Tab → Say → Say
  | 0, _, s => s
  | n + 1, g, .atom x => match g.get x with
    | some t => resF n g t
    | none => .atom x
  | _ + 1, _, .fls => .fls
  | n + 1, g, .bin w a b => .bin w (resF n g a) (resF n g b)
theorem resF_eq {g : Tab} {ρ : Nm → Say} {N : Nm → Nat} (h : Tri g ρ) (L : LvOk N g) : ∀ (n : Nat) (s : Say), lv N s ≤ n → resF n g s = s.sub ρ
  | 0, .atom x, hn => by have := L.one x; simp only [lv] at hn; omega
  | 0, .fls, hn => by simp only [lv] at hn; omega
  | 0, .bin w a b, hn => by simp only [lv] at hn; omega
  | n + 1, .atom x, hn => by
    simp only [lv] at hn
    rw [resF]
    cases e : g.get x with
    | none => rw [Tab.get_none] at e; exact (tri_out h x e).symm
    | some t =>
      have m := Tab.get_mem e
      have q : N x ≤ n + 1 := hn
      have q2 : lv N t + 1 ≤ N x := L.ent _ m
      show resF n g t = ρ x
      rw [resF_eq h L n t (by omega)]
      exact (tri_sat h (x, t) m).symm
  | n + 1, .fls, _ => rfl
  | n + 1, .bin w a b, hn => by
    simp only [lv] at hn
    rw [resF, resF_eq h L n a (by omega), resF_eq h L n b (by omega)]
    rfl
/-- along the table to what is no bound atom -/
def walkF : Nat → Tab → Say → Say
  | n + 1, g, .atom x => match g.get x with
    | some t => walkF n g t
    | none => .atom x
  | _, _, s => s
structure Walked (g : Tab) (ρ : Nm → Say) (s u : Say) : Prop where
  sub : u.sub ρ = s.sub ρ
  free : ∀ x, u = .atom x → x ∉ dom g
  from_ : u = s ∨ ∃ p ∈ g, u = p.2
theorem walkF_ok {g : Tab} {ρ : Nm → Say} {N : Nm → Nat} (h : Tri g ρ) (L : LvOk N g) : ∀ (n : Nat) (s : Say), lv N s ≤ n → Walked g ρ s (walkF n g s)
  | 0, .atom x, hn => by have := L.one x; simp only [lv] at hn; omega
  | 0, .fls, hn => by simp only [lv] at hn; omega
  | 0, .bin w a b, hn => by simp only [lv] at hn; omega
  | n + 1, .atom x, hn => by
    simp only [lv] at hn
    rw [walkF]
    cases e : g.get x with
    | none =>
      rw [Tab.get_none] at e
      exact ⟨rfl, fun y hy => by cases hy; exact e, .inl rfl⟩
    | some t =>
      have m := Tab.get_mem e
      have q2 : lv N t + 1 ≤ N x := L.ent _ m
      have q : N x ≤ n + 1 := hn
      have ih := walkF_ok h L n t (by omega)
      refine ⟨by show (walkF n g t).sub ρ = ρ x; rw [ih.sub]; exact (tri_sat h (x, t) m).symm, ih.free, .inr ?_⟩
      rcases ih.from_ with e | ⟨p, hp, e⟩
      · exact ⟨(x, t), m, e⟩
      · exact ⟨p, hp, e⟩
  | n + 1, .fls, _ => ⟨rfl, fun x e => (by cases e), .inl rfl⟩
  | n + 1, .bin w a b, _ => ⟨rfl, fun x e => (by cases e), .inl rfl⟩
abbrev walk (g : Tab) (s : Say) : Say := walkF 100 g s
abbrev res (g : Tab) (s : Say) : Say := resF 100 g s
def occ (g : Tab) (x : Nm) (s : Say) : Bool := decide (x ∈ (res g s).atoms)
/-- a table of names V, of sayings not deeper than d -/
structure Good (V : List Nm) (d : Nat) (g : Tab) (ρ : Nm → Say) : Prop where
  tri : Tri g ρ
  dom : dom g ⊆ V
  dep : ∀ p ∈ g, p.2.dep ≤ d
  at_ : ∀ p ∈ g, p.2.atoms ⊆ V
/-- a saying of names V, not deeper than d -/
def Fits (V : List Nm) (d : Nat) (s : Say) : Prop := s.dep ≤ d ∧ s.atoms ⊆ V
theorem Good.len {V : List Nm} {d : Nat} {g : Tab} {ρ : Nm → Say} (h : Good V d g ρ) : g.length ≤ V.length := by
  have q := (tri_nd h.tri).length_le_of_subset h.dom
  simpa [B02.dom] using q
/-- the bound under which all is read -/
def Small (V : List Nm) (d : Nat) : Prop := d + V.length * d + V.length ≤ 100
theorem Good.lv {V : List Nm} {d : Nat} {g : Tab} {ρ : Nm → Say} (h : Good V d g ρ) : ∃ N, LvOk N g ∧ ∀ s, lv N s ≤ s.dep + V.length * d + V.length := by
  obtain ⟨N, l1, l2⟩ := tri_lv h.tri
  refine ⟨N, l1, fun s => ?_⟩
  have := l2 s
  have := dep_res h.tri h.dep s
  have := h.len
  have := Nat.mul_le_mul_right d h.len
  omega
theorem Good.res {V : List Nm} {d : Nat} {g : Tab} {ρ : Nm → Say} (h : Good V d g ρ) (hs : Small V d) {s : Say} (hd : s.dep ≤ d) : B02.res g s = s.sub ρ := by
  obtain ⟨N, l1, l2⟩ := h.lv
  have := l2 s
  exact resF_eq h.tri l1 100 s (by unfold Small at hs; omega)
theorem Good.walk {V : List Nm} {d : Nat} {g : Tab} {ρ : Nm → Say} (h : Good V d g ρ) (hs : Small V d) {s : Say} (hf : Fits V d s) : Walked g ρ s (B02.walk g s) ∧ Fits V d (B02.walk g s) := by
  obtain ⟨N, l1, l2⟩ := h.lv
  have := l2 s
  have w := walkF_ok h.tri l1 100 s (by unfold Small at hs; have := hf.1; omega)
  refine ⟨w, ?_⟩
  rcases w.from_ with e | ⟨p, hp, e⟩
  · show Fits V d (walkF 100 g s); rw [e]; exact hf
  · show Fits V d (walkF 100 g s); rw [e]; exact ⟨h.dep p hp, h.at_ p hp⟩
theorem Good.snoc {V : List Nm} {d : Nat} {g : Tab} {ρ : Nm → Say} (h : Good V d g ρ) {x : Nm} {t : Say} (hx : x ∉ B02.dom g) (ht : x ∉ (t.sub ρ).atoms) (hV : x ∈ V) (hf : Fits V d t) : Good V d (g ++ [(x, t)]) fun y => (ρ y).sub (sg x (t.sub ρ)) := by
  refine ⟨.snoc h.tri hx ht, fun y hy => ?_, fun p hp => ?_, fun p hp => ?_⟩
  · rcases mem_dom.mp hy with q | q
    · exact h.dom q
    · rw [q]; exact hV
  · rcases List.mem_append.mp hp with q | q
    · exact h.dep p q
    · rw [List.mem_singleton.mp q]; exact hf.1
  · rcases List.mem_append.mp hp with q | q
    · exact h.at_ p q
    · rw [List.mem_singleton.mp q]; exact hf.2
/-- a walked saying, no atom of its own, holds an atom: then nothing makes them the same -/
theorem no_same {g : Tab} {ρ θ : Nm → Say} (h : Tri g ρ) (st : Sat θ g) {x : Nm} {e : Say} (hx : x ∉ dom g) (fe : ∀ y, e = .atom y → y ∉ dom g) (ne : Say.atom x ≠ e) (ho : x ∈ (e.sub ρ).atoms) : θ x ≠ e.sub θ := fun q => by
  cases e with
  | atom y =>
    have hy := fe y rfl
    have : (Say.atom y).sub ρ = .atom y := tri_out h y hy
    rw [this] at ho
    simp [Say.atoms] at ho
    exact ne (by rw [ho])
  | fls => simp [Say.sub, Say.atoms] at ho
  | bin w a b =>
    rw [← tri_mgs h st] at q
    exact no_loop (f := θ) (x := x) (w := w) (a := a.sub ρ) (b := b.sub ρ) ho q
/-! ### joining pairs -/
def joinF : Nat → Tab → List (Say × Say) → Option (Option Tab)
  | 0, _, _ => none
  | _ + 1, g, [] => some (some g)
  | n + 1, g, (a, b) :: ps =>
    if walk g a = walk g b then joinF n g ps else
    match walk g a, walk g b with
    | .atom x, e => if occ g x e then some none else joinF n (g ++ [(x, e)]) ps
    | c, .atom y => if occ g y c then some none else joinF n (g ++ [(y, c)]) ps
    | .bin w a1 b1, .bin v a2 b2 => if w = v then joinF n g ((a1, a2) :: (b1, b2) :: ps) else some none
    | _, _ => some none
def Sol (θ : Nm → Say) (ps : List (Say × Say)) : Prop := ∀ p ∈ ps, p.1.sub θ = p.2.sub θ
theorem Sol.cons {θ : Nm → Say} {a b : Say} {ps : List (Say × Say)} : Sol θ ((a, b) :: ps) ↔ a.sub θ = b.sub θ ∧ Sol θ ps := by simp [Sol]
/-- what joining tells -/
def Joined (V : List Nm) (d : Nat) (S : (Nm → Say) → Prop) : Option Tab → Prop
  | none => ∀ θ, ¬ S θ
  | some g => ∃ ρ, Good V d g ρ ∧ ∀ θ, Sat θ g ↔ S θ
theorem Joined.iff {V : List Nm} {d : Nat} {S S' : (Nm → Say) → Prop} (h : ∀ θ, S θ ↔ S' θ) : ∀ {r : Option Tab}, Joined V d S r → Joined V d S' r
  | none, q => fun θ z => q θ ((h θ).mpr z)
  | some g, ⟨ρ, q1, q2⟩ => ⟨ρ, q1, fun θ => (q2 θ).trans (h θ)⟩
def FitsP (V : List Nm) (d : Nat) (ps : List (Say × Say)) : Prop := ∀ p ∈ ps, Fits V d p.1 ∧ Fits V d p.2
theorem Fits.bin {V : List Nm} {d : Nat} {w : Bw} {a b : Say} (h : Fits V d (.bin w a b)) : Fits V d a ∧ Fits V d b := by
  obtain ⟨h1, h2⟩ := h
  simp only [Say.dep] at h1
  simp only [Say.atoms] at h2
  exact ⟨⟨by omega, fun x hx => h2 (List.mem_append.mpr (.inl hx))⟩, ⟨by omega, fun x hx => h2 (List.mem_append.mpr (.inr hx))⟩⟩
/-- one pair, walked -/
structure Pair (V : List Nm) (d : Nat) (g : Tab) (ρ : Nm → Say) (a b c e : Say) : Prop where
  wa : Walked g ρ a c
  wb : Walked g ρ b e
  fa : Fits V d c
  fb : Fits V d e
theorem Pair.same {V : List Nm} {d : Nat} {g : Tab} {ρ θ : Nm → Say} {a b c e : Say} (p : Pair V d g ρ a b c e) (h : Tri g ρ) (st : Sat θ g) : a.sub θ = b.sub θ ↔ c.sub θ = e.sub θ := by
  rw [← tri_mgs h st a, ← tri_mgs h st b, ← p.wa.sub, ← p.wb.sub, tri_mgs h st, tri_mgs h st]
theorem Good.occ {V : List Nm} {d : Nat} {g : Tab} {ρ : Nm → Say} (h : Good V d g ρ) (hs : Small V d) {x : Nm} {e : Say} (hf : Fits V d e) : B02.occ g x e = decide (x ∈ (e.sub ρ).atoms) := by
  unfold B02.occ
  rw [h.res hs hf.1]
theorem bin_sub {θ : Nm → Say} {w v : Bw} {a b c e : Say} : (Say.bin w a b).sub θ = (Say.bin v c e).sub θ ↔ w = v ∧ a.sub θ = c.sub θ ∧ b.sub θ = e.sub θ := by simp [Say.sub]
theorem joinF_ok {V : List Nm} {d : Nat} (hs : Small V d) : ∀ (n : Nat) (g : Tab) (ρ : Nm → Say) (ps : List (Say × Say)) (r : Option Tab), Good V d g ρ → FitsP V d ps → joinF n g ps = some r → Joined V d (fun θ => Sat θ g ∧ Sol θ ps) r
  | 0, _, _, _, _, _, _, e => by cases e
  | n + 1, g, ρ, [], r, hg, _, e => by
    cases e
    exact ⟨ρ, hg, fun θ => ⟨fun q => ⟨q, fun p hp => (by cases hp)⟩, fun q => q.1⟩⟩
  | n + 1, g, ρ, (a, b) :: ps, r, hg, hf, e => by
    have fp := hf (a, b) (by simp)
    have fps : FitsP V d ps := fun p hp => hf p (by simp [hp])
    obtain ⟨wa, fa⟩ := hg.walk hs fp.1
    obtain ⟨wb, fb⟩ := hg.walk hs fp.2
    have pr : Pair V d g ρ a b (walk g a) (walk g b) := ⟨wa, wb, fa, fb⟩
    rw [joinF] at e
    generalize walk g a = c at *
    generalize walk g b = u at *
    by_cases q : c = u
    · rw [if_pos q] at e
      refine (joinF_ok hs n g ρ ps r hg fps e).iff fun θ => ?_
      rw [Sol.cons]
      exact ⟨fun ⟨z1, z2⟩ => ⟨z1, (pr.same hg.tri z1).mpr (by rw [q]), z2⟩, fun ⟨z1, _, z2⟩ => ⟨z1, z2⟩⟩
    · rw [if_neg q] at e
      -- an atom to be bound
      have bind : ∀ (x : Nm) (t : Say), x ∉ dom g → x ∈ V → Fits V d t → (∀ y, t = .atom y → y ∉ dom g) → Say.atom x ≠ t → (∀ θ, Sat θ g → (a.sub θ = b.sub θ ↔ θ x = t.sub θ)) → (if occ g x t = true then some none else joinF n (g ++ [(x, t)]) ps) = some r → Joined V d (fun θ => Sat θ g ∧ Sol θ ((a, b) :: ps)) r := by
        intro x t hx hV ft free ne same e
        rw [hg.occ hs ft] at e
        by_cases o : x ∈ (t.sub ρ).atoms
        · rw [if_pos (by simpa using o)] at e
          cases e
          intro θ ⟨z1, z2⟩
          rw [Sol.cons] at z2
          exact no_same hg.tri z1 hx free ne o ((same θ z1).mp z2.1)
        · rw [if_neg (by simpa using o)] at e
          refine (joinF_ok hs n _ _ ps r (hg.snoc hx o hV ft) fps e).iff fun θ => ?_
          rw [Sat.snoc, Sol.cons]
          exact ⟨fun ⟨⟨z1, z2⟩, z3⟩ => ⟨z1, (same θ z1).mpr z2, z3⟩, fun ⟨z1, z2, z3⟩ => ⟨⟨z1, (same θ z1).mp z2⟩, z3⟩⟩
      cases c with
      | atom x => exact bind x u (wa.free x rfl) (fa.2 (by simp [Say.atoms])) fb wb.free q (fun θ st => pr.same hg.tri st) e
      | fls =>
        cases u with
        | atom y => exact bind y .fls (wb.free y rfl) (fb.2 (by simp [Say.atoms])) fa (fun y e => (by cases e)) (fun z => q z.symm) (fun θ st => (pr.same hg.tri st).trans eq_comm) e
        | fls => exact absurd rfl q
        | bin v a2 b2 =>
          cases e
          intro θ ⟨z1, z2⟩
          rw [Sol.cons] at z2
          have := (pr.same hg.tri z1).mp z2.1
          simp [Say.sub] at this
      | bin w a1 b1 =>
        cases u with
        | atom y => exact bind y (.bin w a1 b1) (wb.free y rfl) (fb.2 (by simp [Say.atoms])) fa (fun y e => (by cases e)) (fun z => q z.symm) (fun θ st => (pr.same hg.tri st).trans eq_comm) e
        | fls =>
          cases e
          intro θ ⟨z1, z2⟩
          rw [Sol.cons] at z2
          have := (pr.same hg.tri z1).mp z2.1
          simp [Say.sub] at this
        | bin v a2 b2 =>
          by_cases hw : w = v
          · replace e : (if w = v then joinF n g ((a1, a2) :: (b1, b2) :: ps) else some none) = some r := e
            rw [if_pos hw] at e
            obtain ⟨f1, f2⟩ := fa.bin
            obtain ⟨f3, f4⟩ := fb.bin
            refine (joinF_ok hs n g ρ _ r hg (fun p hp => ?_) e).iff fun θ => ?_
            · rcases List.mem_cons.mp hp with rfl | hp
              · exact ⟨f1, f3⟩
              · rcases List.mem_cons.mp hp with rfl | hp
                · exact ⟨f2, f4⟩
                · exact fps p hp
            · rw [Sol.cons, Sol.cons, Sol.cons]
              constructor
              · rintro ⟨z1, z2, z3, z4⟩
                exact ⟨z1, (pr.same hg.tri z1).mpr (bin_sub.mpr ⟨hw, z2, z3⟩), z4⟩
              · rintro ⟨z1, z2, z3⟩
                obtain ⟨_, y1, y2⟩ := bin_sub.mp ((pr.same hg.tri z1).mp z2)
                exact ⟨z1, y1, y2, z3⟩
          · replace e : (if w = v then joinF n g ((a1, a2) :: (b1, b2) :: ps) else some none) = some r := e
            rw [if_neg hw] at e
            cases e
            intro θ ⟨z1, z2⟩
            rw [Sol.cons] at z2
            exact hw (bin_sub.mp ((pr.same hg.tri z1).mp z2.1)).1
/-- joining ends -/
theorem joinF_ends {V : List Nm} {d : Nat} (hs : Small V d) : ∀ (u : Nat) (g : Tab) (ρ : Nm → Say), V.length - g.length ≤ u → Good V d g ρ → ∀ (m : Nat) (ps : List (Say × Say)), FitsP V d ps → (ps.map fun p => (p.1.sub ρ).size).sum ≤ m → ∃ n r, joinF n g ps = some r := by
  intro u
  induction u with
  | zero =>
    intro g ρ hu hg m
    have full : ∀ x ∈ V, x ∈ dom g := by
      intro x hx
      refine Classical.byContradiction fun no => ?_
      have nd : (x :: dom g).Nodup := List.nodup_cons.mpr ⟨no, tri_nd hg.tri⟩
      have := nd.length_le_of_subset (l₂ := V) fun y hy => by
        rcases List.mem_cons.mp hy with rfl | hy
        · exact hx
        · exact hg.dom hy
      have l : (dom g).length = g.length := List.length_map _
      rw [List.length_cons, l] at this
      omega
    induction m with
    | zero =>
      intro ps _ hm
      cases ps with
      | nil => exact ⟨1, _, rfl⟩
      | cons p ps => have := (p.1.sub ρ).size1; simp at hm; omega
    | succ m ih =>
      intro ps hf hm
      cases ps with
      | nil => exact ⟨1, _, rfl⟩
      | cons p ps =>
        obtain ⟨a, b⟩ := p
        have fp := hf (a, b) (by simp)
        have fps : FitsP V d ps := fun p hp => hf p (by simp [hp])
        obtain ⟨wa, fa⟩ := hg.walk hs fp.1
        obtain ⟨wb, fb⟩ := hg.walk hs fp.2
        have s1 := (a.sub ρ).size1
        rw [List.map_cons, List.sum_cons] at hm
        have hm' : (a.sub ρ).size + (ps.map fun p => (p.1.sub ρ).size).sum ≤ m + 1 := hm
        obtain ⟨n0, r0, e0⟩ := ih ps fps (by omega)
        have no : ∀ x, x ∉ dom g → x ∈ V → False := fun x h1 h2 => h1 (full x h2)
        cases hc : walk g a with
        | atom x => rw [hc] at wa fa; exact absurd (fa.2 (by simp [Say.atoms])) fun z => no x (wa.free x rfl) z
        | fls =>
          cases hu : walk g b with
          | atom y => rw [hu] at wb fb; exact absurd (fb.2 (by simp [Say.atoms])) fun z => no y (wb.free y rfl) z
          | fls => exact ⟨n0 + 1, r0, by rw [joinF, hc, hu, if_pos rfl]; exact e0⟩
          | bin v a2 b2 => exact ⟨1, none, by rw [joinF, hc, hu, if_neg (by simp)]⟩
        | bin w a1 b1 =>
          cases hu : walk g b with
          | atom y => rw [hu] at wb fb; exact absurd (fb.2 (by simp [Say.atoms])) fun z => no y (wb.free y rfl) z
          | fls => exact ⟨1, none, by rw [joinF, hc, hu, if_neg (by simp)]⟩
          | bin v a2 b2 =>
            by_cases q : Say.bin w a1 b1 = Say.bin v a2 b2
            · exact ⟨n0 + 1, r0, by rw [joinF, hc, hu, if_pos q]; exact e0⟩
            · by_cases hw : w = v
              · rw [hc] at wa fa
                rw [hu] at wb fb
                obtain ⟨f1, f2⟩ := fa.bin
                obtain ⟨f3, f4⟩ := fb.bin
                have sz : (a.sub ρ).size = (a1.sub ρ).size + (b1.sub ρ).size + 1 := by rw [← wa.sub]; rfl
                obtain ⟨n1, r1, e1⟩ := ih ((a1, a2) :: (b1, b2) :: ps) (fun p hp => by
                  rcases List.mem_cons.mp hp with rfl | hp
                  · exact ⟨f1, f3⟩
                  · rcases List.mem_cons.mp hp with rfl | hp
                    · exact ⟨f2, f4⟩
                    · exact fps p hp) (by simp only [List.map_cons, List.sum_cons]; omega)
                exact ⟨n1 + 1, r1, by rw [joinF, hc, hu, if_neg q]; show (if w = v then _ else _) = _; rw [if_pos hw]; exact e1⟩
              · exact ⟨1, none, by rw [joinF, hc, hu, if_neg q]; show (if w = v then _ else _) = _; rw [if_neg hw]⟩
  | succ u ihu =>
    intro g ρ hu hg m
    induction m with
    | zero =>
      intro ps _ hm
      cases ps with
      | nil => exact ⟨1, _, rfl⟩
      | cons p ps => have := (p.1.sub ρ).size1; simp at hm; omega
    | succ m ih =>
      intro ps hf hm
      cases ps with
      | nil => exact ⟨1, _, rfl⟩
      | cons p ps =>
        obtain ⟨a, b⟩ := p
        have fp := hf (a, b) (by simp)
        have fps : FitsP V d ps := fun p hp => hf p (by simp [hp])
        obtain ⟨wa, fa⟩ := hg.walk hs fp.1
        obtain ⟨wb, fb⟩ := hg.walk hs fp.2
        have s1 := (a.sub ρ).size1
        rw [List.map_cons, List.sum_cons] at hm
        have hm' : (a.sub ρ).size + (ps.map fun p => (p.1.sub ρ).size).sum ≤ m + 1 := hm
        obtain ⟨n0, r0, e0⟩ := ih ps fps (by omega)
        have bind : ∀ (x : Nm) (t : Say), x ∉ dom g → x ∈ V → Fits V d t → ∃ n r, (if occ g x t = true then some none else joinF n (g ++ [(x, t)]) ps) = some r := by
          intro x t hx hV ft
          rw [hg.occ hs ft]
          by_cases o : x ∈ (t.sub ρ).atoms
          · exact ⟨0, none, by rw [if_pos (by simpa using o)]⟩
          · have hl : V.length - (g ++ [(x, t)]).length ≤ u := by rw [List.length_append]; simp; omega
            obtain ⟨n, r, e⟩ := ihu _ _ hl (hg.snoc hx o hV ft) _ ps fps (Nat.le_refl _)
            exact ⟨n, r, by rw [if_neg (by simpa using o)]; exact e⟩
        cases hc : walk g a with
        | atom x =>
          rw [hc] at wa fa
          by_cases q : Say.atom x = walk g b
          · exact ⟨n0 + 1, r0, by rw [joinF, hc, if_pos q]; exact e0⟩
          · obtain ⟨n1, r1, e1⟩ := bind x (walk g b) (wa.free x rfl) (fa.2 (by simp [Say.atoms])) fb
            exact ⟨n1 + 1, r1, by rw [joinF, hc, if_neg q]; exact e1⟩
        | fls =>
          cases hu2 : walk g b with
          | atom y =>
            rw [hc] at fa
            rw [hu2] at wb fb
            obtain ⟨n1, r1, e1⟩ := bind y .fls (wb.free y rfl) (fb.2 (by simp [Say.atoms])) fa
            exact ⟨n1 + 1, r1, by rw [joinF, hc, hu2, if_neg (by simp)]; exact e1⟩
          | fls => exact ⟨n0 + 1, r0, by rw [joinF, hc, hu2, if_pos rfl]; exact e0⟩
          | bin v a2 b2 => exact ⟨1, none, by rw [joinF, hc, hu2, if_neg (by simp)]⟩
        | bin w a1 b1 =>
          cases hu2 : walk g b with
          | atom y =>
            rw [hc] at fa
            rw [hu2] at wb fb
            obtain ⟨n1, r1, e1⟩ := bind y (.bin w a1 b1) (wb.free y rfl) (fb.2 (by simp [Say.atoms])) fa
            exact ⟨n1 + 1, r1, by rw [joinF, hc, hu2, if_neg (by simp)]; exact e1⟩
          | fls => exact ⟨1, none, by rw [joinF, hc, hu2, if_neg (by simp)]⟩
          | bin v a2 b2 =>
            by_cases q : Say.bin w a1 b1 = Say.bin v a2 b2
            · exact ⟨n0 + 1, r0, by rw [joinF, hc, hu2, if_pos q]; exact e0⟩
            · by_cases hw : w = v
              · rw [hc] at wa fa
                rw [hu2] at wb fb
                obtain ⟨f1, f2⟩ := fa.bin
                obtain ⟨f3, f4⟩ := fb.bin
                have sz : (a.sub ρ).size = (a1.sub ρ).size + (b1.sub ρ).size + 1 := by rw [← wa.sub]; rfl
                obtain ⟨n1, r1, e1⟩ := ih ((a1, a2) :: (b1, b2) :: ps) (fun p hp => by
                  rcases List.mem_cons.mp hp with rfl | hp
                  · exact ⟨f1, f3⟩
                  · rcases List.mem_cons.mp hp with rfl | hp
                    · exact ⟨f2, f4⟩
                    · exact fps p hp) (by simp only [List.map_cons, List.sum_cons]; omega)
                exact ⟨n1 + 1, r1, by rw [joinF, hc, hu2, if_neg q]; show (if w = v then _ else _) = _; rw [if_pos hw]; exact e1⟩
              · exact ⟨1, none, by rw [joinF, hc, hu2, if_neg q]; show (if w = v then _ else _) = _; rw [if_neg hw]⟩
end B02
set_option Elab.async false
set_option linter.all false
set_option maxRecDepth 100000
set_option maxHeartbeats 2000000
set_option autoImplicit false
namespace B02
open PySem
/-! ### the law's own clash -/
def clashF : Nat → Say → Say → Tab → Option (Option Tab)
  | 0, _, _, _ => none
  | n + 1, a, b, g =>
    if walk g a = walk g b then some (some g) else
    match walk g a, walk g b with
    | .atom x, e => if occ g x e then some none else some (some (g ++ [(x, e)]))
    | c, .atom y => if occ g y c then some none else some (some (g ++ [(y, c)]))
    | .bin w a1 b1, .bin v a2 b2 => if w = v then (match clashF n a1 a2 g with
      | none => none
      | some none => some none
      | some (some g1) => clashF n b1 b2 g1) else some none
    | _, _ => some none
theorem clashF_ok {V : List Nm} {d : Nat} (hs : Small V d) : ∀ (n : Nat) (a b : Say) (g : Tab) (ρ : Nm → Say) (r : Option Tab), Good V d g ρ → Fits V d a → Fits V d b → clashF n a b g = some r → Joined V d (fun θ => Sat θ g ∧ a.sub θ = b.sub θ) r
  | 0, _, _, _, _, _, _, _, _, e => by cases e
  | n + 1, a, b, g, ρ, r, hg, ha, hb, e => by
    obtain ⟨wa, fa⟩ := hg.walk hs ha
    obtain ⟨wb, fb⟩ := hg.walk hs hb
    have pr : Pair V d g ρ a b (walk g a) (walk g b) := ⟨wa, wb, fa, fb⟩
    rw [clashF] at e
    generalize walk g a = c at *
    generalize walk g b = u at *
    by_cases q : c = u
    · rw [if_pos q] at e
      cases e
      exact ⟨ρ, hg, fun θ => ⟨fun z => ⟨z, (pr.same hg.tri z).mpr (by rw [q])⟩, fun z => z.1⟩⟩
    · rw [if_neg q] at e
      have bind : ∀ (x : Nm) (t : Say), x ∉ dom g → x ∈ V → Fits V d t → (∀ y, t = .atom y → y ∉ dom g) → Say.atom x ≠ t → (∀ θ, Sat θ g → (a.sub θ = b.sub θ ↔ θ x = t.sub θ)) → (if occ g x t = true then some none else some (some (g ++ [(x, t)]))) = some r → Joined V d (fun θ => Sat θ g ∧ a.sub θ = b.sub θ) r := by
        intro x t hx hV ft free ne same e
        rw [hg.occ hs ft] at e
        by_cases o : x ∈ (t.sub ρ).atoms
        · rw [if_pos (by simpa using o)] at e
          cases e
          intro θ ⟨z1, z2⟩
          exact no_same hg.tri z1 hx free ne o ((same θ z1).mp z2)
        · rw [if_neg (by simpa using o)] at e
          cases e
          refine ⟨_, hg.snoc hx o hV ft, fun θ => ?_⟩
          rw [Sat.snoc]
          exact ⟨fun ⟨z1, z2⟩ => ⟨z1, (same θ z1).mpr z2⟩, fun ⟨z1, z2⟩ => ⟨z1, (same θ z1).mp z2⟩⟩
      cases c with
      | atom x => exact bind x u (wa.free x rfl) (fa.2 (by simp [Say.atoms])) fb wb.free q (fun θ st => pr.same hg.tri st) e
      | fls =>
        cases u with
        | atom y => exact bind y .fls (wb.free y rfl) (fb.2 (by simp [Say.atoms])) fa (fun y e => (by cases e)) (fun z => q z.symm) (fun θ st => (pr.same hg.tri st).trans eq_comm) e
        | fls => exact absurd rfl q
        | bin v a2 b2 =>
          cases e
          intro θ ⟨z1, z2⟩
          have := (pr.same hg.tri z1).mp z2
          simp [Say.sub] at this
      | bin w a1 b1 =>
        cases u with
        | atom y => exact bind y (.bin w a1 b1) (wb.free y rfl) (fb.2 (by simp [Say.atoms])) fa (fun y e => (by cases e)) (fun z => q z.symm) (fun θ st => (pr.same hg.tri st).trans eq_comm) e
        | fls =>
          cases e
          intro θ ⟨z1, z2⟩
          have := (pr.same hg.tri z1).mp z2
          simp [Say.sub] at this
        | bin v a2 b2 =>
          replace e : (if w = v then (match clashF n a1 a2 g with | none => none | some none => some none | some (some g1) => clashF n b1 b2 g1) else some none) = some r := e
          obtain ⟨f1, f2⟩ := fa.bin
          obtain ⟨f3, f4⟩ := fb.bin
          by_cases hw : w = v
          · rw [if_pos hw] at e
            cases h1 : clashF n a1 a2 g with
            | none => rw [h1] at e; cases e
            | some r1 =>
              have j1 := clashF_ok hs n a1 a2 g ρ r1 hg f1 f3 h1
              rw [h1] at e
              cases r1 with
              | none =>
                cases e
                intro θ ⟨z1, z2⟩
                exact j1 θ ⟨z1, (bin_sub.mp ((pr.same hg.tri z1).mp z2)).2.1⟩
              | some g1 =>
                obtain ⟨ρ1, hg1, q1⟩ := j1
                refine (clashF_ok hs n b1 b2 g1 ρ1 r hg1 f2 f4 e).iff fun θ => ?_
                rw [q1 θ]
                constructor
                · rintro ⟨⟨z1, z2⟩, z3⟩
                  exact ⟨z1, (pr.same hg.tri z1).mpr (bin_sub.mpr ⟨hw, z2, z3⟩)⟩
                · rintro ⟨z1, z2⟩
                  obtain ⟨_, y1, y2⟩ := bin_sub.mp ((pr.same hg.tri z1).mp z2)
                  exact ⟨⟨z1, y1⟩, y2⟩
          · rw [if_neg hw] at e
            cases e
            intro θ ⟨z1, z2⟩
            exact hw (bin_sub.mp ((pr.same hg.tri z1).mp z2)).1
/-- how deep a saying is by any table that holds more -/
def Deep (V : List Nm) (d : Nat) (g : Tab) (s : Say) (n : Nat) : Prop := ∀ g' ρ', Good V d g' ρ' → Sat ρ' g → (s.sub ρ').dep ≤ n
theorem deep_all {V : List Nm} {d : Nat} {g : Tab} {s : Say} (h : s.dep ≤ d) : Deep V d g s (d + V.length * d) := fun g' ρ' hg _ => by
  have := dep_res hg.tri hg.dep s
  have := Nat.mul_le_mul_right d hg.len
  omega
theorem clashF_ends {V : List Nm} {d : Nat} (hs : Small V d) : ∀ (n : Nat) (a b : Say) (g : Tab) (ρ : Nm → Say), Good V d g ρ → Fits V d a → Fits V d b → Deep V d g a n → ∃ r, clashF n a b g = some r
  | 0, a, b, g, ρ, hg, _, _, hn => by have := hn g ρ hg (tri_sat hg.tri); have := (a.sub ρ).dep1; omega
  | n + 1, a, b, g, ρ, hg, ha, hb, hn => by
    obtain ⟨wa, fa⟩ := hg.walk hs ha
    obtain ⟨wb, fb⟩ := hg.walk hs hb
    rw [clashF]
    generalize walk g a = c at *
    generalize walk g b = u at *
    by_cases q : c = u
    · exact ⟨_, by rw [if_pos q]⟩
    · rw [if_neg q]
      have bind : ∀ (x : Nm) (t : Say), ∃ r, (if occ g x t = true then some none else some (some (g ++ [(x, t)]))) = some r := fun x t => by split <;> exact ⟨_, rfl⟩
      cases c with
      | atom x => exact bind x u
      | fls =>
        cases u with
        | atom y => exact bind y .fls
        | fls => exact ⟨_, rfl⟩
        | bin v a2 b2 => exact ⟨_, rfl⟩
      | bin w a1 b1 =>
        cases u with
        | atom y => exact bind y (.bin w a1 b1)
        | fls => exact ⟨_, rfl⟩
        | bin v a2 b2 =>
          obtain ⟨f1, f2⟩ := fa.bin
          obtain ⟨f3, f4⟩ := fb.bin
          have deep : ∀ g' ρ', Good V d g' ρ' → Sat ρ' g → (a1.sub ρ').dep ≤ n ∧ (b1.sub ρ').dep ≤ n := fun g' ρ' h1 h2 => by
            have := hn g' ρ' h1 h2
            rw [← tri_mgs hg.tri h2 a, ← wa.sub, tri_mgs hg.tri h2] at this
            simp only [Say.sub, Say.dep] at this
            omega
          show ∃ r, (if w = v then (match clashF n a1 a2 g with | none => none | some none => some none | some (some g1) => clashF n b1 b2 g1) else some none) = some r
          by_cases hw : w = v
          · obtain ⟨r1, e1⟩ := clashF_ends hs n a1 a2 g ρ hg f1 f3 fun g' ρ' h1 h2 => (deep g' ρ' h1 h2).1
            rw [if_pos hw, e1]
            cases r1 with
            | none => exact ⟨_, rfl⟩
            | some g1 =>
              obtain ⟨ρ1, hg1, q1⟩ := clashF_ok hs n a1 a2 g ρ _ hg f1 f3 e1
              exact clashF_ends hs n b1 b2 g1 ρ1 hg1 f2 f4 fun g' ρ' h1 h2 => (deep g' ρ' h1 ((q1 ρ').mp h2).1).2
          · exact ⟨_, by rw [if_neg hw]⟩
/-! ### names in order, letters -/
def nubA (acc : List Nm) : List Nm → List Nm
  | [] => acc
  | x :: xs => if x ∈ acc then nubA acc xs else nubA (acc ++ [x]) xs
def order : Say → List Nm
  | .atom x => [x]
  | .fls => []
  | .bin _ a b => order a ++ (order b).filter fun x => decide (x ∉ order a)
theorem nubA_app (acc : List Nm) : ∀ xs ys : List Nm, nubA acc (xs ++ ys) = nubA (nubA acc xs) ys
  | [], ys => rfl
  | x :: xs, ys => by
    show (if x ∈ acc then _ else _) = nubA (if x ∈ acc then _ else _) ys
    split
    · exact nubA_app acc xs ys
    · exact nubA_app (acc ++ [x]) xs ys
termination_by xs => xs.length
theorem nubA_order : ∀ (s : Say) (acc : List Nm), nubA acc s.atoms = acc ++ (order s).filter fun x => decide (x ∉ acc)
  | .atom x, acc => by
    show (if x ∈ acc then acc else acc ++ [x]) = _
    by_cases h : x ∈ acc <;> simp [h, order]
  | .fls, acc => by simp [Say.atoms, nubA, order]
  | .bin w a b, acc => by
    rw [Say.atoms, nubA_app, nubA_order a, nubA_order b, order, List.filter_append, List.filter_filter, List.append_assoc]
    congr 2
    apply List.filter_congr
    intro x _
    by_cases h1 : x ∈ acc <;> by_cases h2 : x ∈ order a <;> simp [h1, h2]
theorem order_nub (s : Say) : nubA [] s.atoms = order s := by rw [nubA_order]; simp
theorem mem_order {x : Nm} : ∀ {s : Say}, x ∈ order s ↔ x ∈ s.atoms
  | .atom y => by simp [order, Say.atoms]
  | .fls => by simp [order, Say.atoms]
  | .bin w a b => by
    simp only [order, Say.atoms, List.mem_append, List.mem_filter, mem_order (s := a), mem_order (s := b), decide_eq_true_eq]
    by_cases h : x ∈ a.atoms <;> simp [h]
theorem order_nd : ∀ s : Say, (order s).Nodup
  | .atom y => by simp [order]
  | .fls => by simp [order]
  | .bin w a b => List.nodup_append.mpr ⟨order_nd a, (order_nd b).filter _, fun x hx y hy e => by subst e; simp at hy; exact hy.2 hx⟩
/-- letters: a .. z, a1 .. -/
def ltS (k : Nat) : Str := ⟨#[97 + k % 26]⟩ ++ (if k / 26 > 0 then Str.ofString (toString (Int.ofNat (k / 26))) else "")
def ltr (k : Nat) : Nm := if h : (PyData.str (ltS k)).canLay0 = true then ⟨ltS k, h⟩ else nm "a"
theorem ltr_s : ∀ k < 60, (ltr k).s = ltS k := by decide +kernel
theorem ltr_inj : ∀ i < 60, ∀ j < 60, ltS i = ltS j → i = j := by decide +kernel
theorem ltr_ne {i j : Nat} (hi : i < 60) (hj : j < 60) (e : ltr i = ltr j) : i = j := ltr_inj i hi j hj (by rw [← ltr_s i hi, ← ltr_s j hj, e])
/-- the general form -/
def letters (os : List Nm) : Nm → Say := fun x => if x ∈ os then .atom (ltr (os.idxOf x)) else .atom x
def general (s : Say) : Say := s.sub (letters (order s))
theorem order_map {f : Nm → Nm} : ∀ {s : Say}, (∀ x ∈ s.atoms, ∀ y ∈ s.atoms, f x = f y → x = y) → order (s.sub fun x => .atom (f x)) = (order s).map f
  | .atom x, _ => rfl
  | .fls, _ => rfl
  | .bin w a b, h => by
    have ha := order_map (f := f) (s := a) fun x hx y hy => h x (by simp [Say.atoms, hx]) y (by simp [Say.atoms, hy])
    have hb := order_map (f := f) (s := b) fun x hx y hy => h x (by simp [Say.atoms, hx]) y (by simp [Say.atoms, hy])
    show order (Say.bin w _ _) = _
    rw [order, ha, hb, order, List.map_append, List.filter_map]
    congr 2
    apply List.filter_congr
    intro x hx
    show decide (f x ∉ (order a).map f) = decide (x ∉ order a)
    have hx' := mem_order.mp hx
    congr 1
    apply propext
    constructor
    · exact fun q z => q (List.mem_map_of_mem z)
    · intro q z
      obtain ⟨y, hy, e⟩ := List.mem_map.mp z
      have := h y (by simp [Say.atoms, mem_order.mp hy]) x (by simp [Say.atoms, hx']) e
      exact q (by rw [← this]; exact hy)
theorem idx_map {f : Nm → Nm} {x : Nm} : ∀ {os : List Nm}, (∀ y ∈ os, f y = f x → y = x) → (os.map f).idxOf (f x) = os.idxOf x
  | [], _ => rfl
  | y :: os, h => by
    rw [List.map_cons, List.idxOf_cons, List.idxOf_cons]
    by_cases e : y = x
    · subst e; simp
    · have e2 : ¬ f y = f x := fun z => e (h y (by simp) z)
      have b1 : (f y == f x) = false := by simpa using e2
      have b2 : (y == x) = false := by simpa using e
      rw [b1, b2, idx_map fun z hz => h z (by simp [hz])]
theorem general_ren {f : Nm → Nm} {u : Say} (h : ∀ x ∈ u.atoms, ∀ y ∈ u.atoms, f x = f y → x = y) : general (u.sub fun x => .atom (f x)) = general u := by
  unfold general
  rw [sub_sub, order_map h]
  apply sub_congr
  intro x hx
  show letters _ (f x) = letters _ x
  unfold letters
  rw [if_pos (List.mem_map_of_mem (mem_order.mpr hx)), if_pos (mem_order.mpr hx), idx_map fun y hy e => h y (mem_order.mp hy) x hx e]
/-- instances of one another are alike -/
theorem general_mut {s u : Say} {f h : Nm → Say} (e1 : s = u.sub f) (e2 : u = s.sub h) : general s = general u := by
  have key : ∀ x ∈ u.atoms, (f x).sub h = .atom x := fun x hx => by
    have : u.sub (fun x => (f x).sub h) = u.sub .atom := by rw [← sub_sub, ← e1, ← e2, sub_id]
    exact sub_inj this x hx
  have atom : ∀ x ∈ u.atoms, ∃ y, f x = .atom y ∧ h y = .atom x := fun x hx => by
    have q := key x hx
    cases hf : f x with
    | atom y => rw [hf] at q; exact ⟨y, rfl, q⟩
    | fls => rw [hf] at q; cases q
    | bin w a b => rw [hf] at q; cases q
  let f' : Nm → Nm := fun x => match f x with | .atom y => y | _ => x
  have ef : ∀ x ∈ u.atoms, f x = .atom (f' x) ∧ h (f' x) = .atom x := fun x hx => by
    obtain ⟨y, h1, h2⟩ := atom x hx
    have : f' x = y := by show (match f x with | .atom y => y | _ => x) = y; rw [h1]
    rw [this]; exact ⟨h1, h2⟩
  have : s = u.sub fun x => .atom (f' x) := by rw [e1]; exact sub_congr fun x hx => (ef x hx).1
  rw [this]
  apply general_ren
  intro x hx y hy e
  have h1 := (ef x hx).2
  have h2 := (ef y hy).2
  rw [e, h2] at h1
  cases h1
  rfl
end B02
set_option Elab.async false
set_option linter.all false
set_option maxRecDepth 100000
set_option maxHeartbeats 2000000
set_option autoImplicit false
namespace B02
open PySem PT L2
/-! ### tables put in -/
def Say.put (g : Tab) (s : Say) : Say := s.sub fun x => (g.get x).getD (.atom x)
def letFrom (k : Nat) : List Nm → Tab
  | [] => []
  | x :: xs => (x, .atom (ltr k)) :: letFrom (k + 1) xs
theorem letFrom_dom (k : Nat) : ∀ os : List Nm, dom (letFrom k os) = os
  | [] => rfl
  | x :: os => by show x :: dom (letFrom (k + 1) os) = _; rw [letFrom_dom]
theorem letFrom_get {x : Nm} : ∀ (k : Nat) (os : List Nm), (letFrom k os).get x = if x ∈ os then some (.atom (ltr (k + os.idxOf x))) else none
  | k, [] => rfl
  | k, y :: os => by
    unfold Tab.get
    show ((List.find? _ ((y, Say.atom (ltr k)) :: letFrom (k + 1) os)).map _) = _
    by_cases e : y = x
    · subst e
      rw [List.find?_cons_of_pos (by simp)]
      simp
    · rw [List.find?_cons_of_neg (by simpa using e)]
      have ih := letFrom_get (x := x) (k + 1) os
      unfold Tab.get at ih
      rw [ih, List.idxOf_cons]
      have b : (y == x) = false := by simpa using e
      rw [b]
      by_cases m : x ∈ os
      · rw [if_pos m, if_pos (List.mem_cons_of_mem _ m)]
        simp only [cond_false]
        rw [show k + 1 + os.idxOf x = k + (os.idxOf x + 1) from by omega]
      · rw [if_neg m, if_neg (by simp only [List.mem_cons, not_or]; exact ⟨fun z => e z.symm, m⟩)]
theorem letFrom_snoc : ∀ (k : Nat) (os : List Nm) (x : Nm), letFrom k (os ++ [x]) = letFrom k os ++ [(x, .atom (ltr (k + os.length)))]
  | k, [], x => rfl
  | k, y :: os, x => by
    show (y, _) :: letFrom (k + 1) (os ++ [x]) = _
    rw [letFrom_snoc (k + 1) os x]
    show _ = (y, _) :: (letFrom (k + 1) os ++ _)
    rw [List.length_cons, show k + 1 + os.length = k + (os.length + 1) from by omega]
theorem put_let (s : Say) : s.put (letFrom 0 (order s)) = general s := by
  unfold Say.put general
  apply sub_congr
  intro x hx
  rw [letFrom_get, letters]
  rw [if_pos (mem_order.mpr hx), if_pos (mem_order.mpr hx), Nat.zero_add]
  rfl
theorem idx_inj {x y : Nm} {os : List Nm} (hx : x ∈ os) (hy : y ∈ os) (h : os.idxOf x = os.idxOf y) : x = y := by
  have h1 := List.getElem_idxOf (List.idxOf_lt_length_iff.mpr hx)
  have h2 := List.getElem_idxOf (List.idxOf_lt_length_iff.mpr hy)
  rw [← h1, ← h2]
  congr 1
/-- a general form is the saying with letters -/
theorem general_ltr {s : Say} (hl : (order s).length ≤ 60) : ∃ f : Nm → Nm, general s = s.sub (fun x => .atom (f x)) ∧ ∀ x ∈ s.atoms, ∀ y ∈ s.atoms, f x = f y → x = y := by
  refine ⟨fun x => if x ∈ order s then ltr ((order s).idxOf x) else x, ?_, ?_⟩
  · unfold general
    apply sub_congr
    intro x hx
    show letters (order s) x = Say.atom (if x ∈ order s then ltr ((order s).idxOf x) else x)
    unfold letters
    rw [if_pos (mem_order.mpr hx), if_pos (mem_order.mpr hx)]
  · intro x hx y hy e
    have hx' := mem_order.mpr hx
    have hy' := mem_order.mpr hy
    replace e : (if x ∈ order s then ltr ((order s).idxOf x) else x) = if y ∈ order s then ltr ((order s).idxOf y) else y := e
    rw [if_pos hx', if_pos hy'] at e
    have l1 := List.idxOf_lt_length_iff.mpr hx'
    have l2 := List.idxOf_lt_length_iff.mpr hy'
    exact idx_inj hx' hy' (ltr_ne (by omega) (by omega) e)
theorem general_len {s : Say} (hl : (order s).length ≤ 60) : (order (general s)).length = (order s).length := by
  obtain ⟨f, e, inj⟩ := general_ltr hl
  rw [e, order_map inj, List.length_map]
theorem dep_ren {f : Nm → Nm} : ∀ s : Say, (s.sub fun x => .atom (f x)).dep = s.dep
  | .atom _ => rfl
  | .fls => rfl
  | .bin w a b => by simp only [Say.sub, Say.dep, dep_ren a, dep_ren b]
theorem letters_ren (os : List Nm) (s : Say) : s.sub (letters os) = s.sub fun x => .atom (if x ∈ os then ltr (os.idxOf x) else x) := sub_congr fun x _ => by unfold letters; split <;> rfl
theorem general_dep (s : Say) : (general s).dep = s.dep := by unfold general; rw [letters_ren, dep_ren]
/-- two atoms made alike: less names -/
theorem merged_ne {s : Say} {x0 x1 : Nm} (hl : (order s).length ≤ 60) (h0 : x0 ∈ s.atoms) (h1 : x1 ∈ s.atoms) (ne : x0 ≠ x1) : general s ≠ general (s.sub fun x => if x = x0 then .atom x1 else .atom x) := by
  intro e
  have sub : ∀ z ∈ order (s.sub fun x => if x = x0 then .atom x1 else .atom x), z ∈ order s ∧ z ≠ x0 := fun z hz => by
    obtain ⟨y, hy, hz⟩ := atoms_sub.mp (mem_order.mp hz)
    by_cases q : y = x0
    · rw [if_pos q] at hz; simp [Say.atoms] at hz; subst hz; exact ⟨mem_order.mpr h1, ne.symm⟩
    · rw [if_neg q] at hz; simp [Say.atoms] at hz; subst hz; exact ⟨mem_order.mpr hy, q⟩
  have nd : (x0 :: order (s.sub fun x => if x = x0 then .atom x1 else .atom x)).Nodup := List.nodup_cons.mpr ⟨fun z => (sub x0 z).2 rfl, order_nd _⟩
  have le := nd.length_le_of_subset (l₂ := order s) fun z hz => by
    rcases List.mem_cons.mp hz with rfl | hz
    · exact mem_order.mpr h0
    · exact (sub z hz).1
  rw [List.length_cons] at le
  have e1 := general_len hl
  rw [e, general_len (by omega)] at e1
  omega
/-! ### names of what is read out -/
theorem tri_at {V : List Nm} {g : Tab} {ρ : Nm → Say} (h : Tri g ρ) : (∀ p ∈ g, p.2.atoms ⊆ V) → ∀ y ∈ V, (ρ y).atoms ⊆ V := by
  induction h with
  | nil => intro _ y hy z hz; simp [Say.atoms] at hz; subst hz; exact hy
  | @snoc g ρ x t h hx ht ih =>
    intro hV y hy z hz
    have hV0 : ∀ p ∈ g, p.2.atoms ⊆ V := fun p hp => hV p (List.mem_append.mpr (.inl hp))
    have htV : t.atoms ⊆ V := hV (x, t) (by simp)
    obtain ⟨v, hv, hz⟩ := atoms_sub.mp hz
    unfold sg at hz
    split at hz
    · obtain ⟨u, hu, hz2⟩ := atoms_sub.mp hz
      exact ih hV0 u (htV hu) hz2
    · simp [Say.atoms] at hz; subst hz
      exact ih hV0 y hy hv
theorem Good.names {V : List Nm} {d : Nat} {g : Tab} {ρ : Nm → Say} (h : Good V d g ρ) {s : Say} (hs : s.atoms ⊆ V) : (s.sub ρ).atoms ⊆ V := fun z hz => by
  obtain ⟨y, hy, hz⟩ := atoms_sub.mp hz
  exact tri_at h.tri h.at_ y (hs hy) hz
theorem order_le {s : Say} {V : List Nm} (h : s.atoms ⊆ V) : (order s).length ≤ V.length := (order_nd s).length_le_of_subset fun z hz => h (mem_order.mp hz)
theorem Good.deep {V : List Nm} {d : Nat} {g : Tab} {ρ : Nm → Say} (h : Good V d g ρ) {s : Say} (hs : s.dep ≤ d) : (s.sub ρ).dep ≤ d + V.length * d := by
  have := dep_res h.tri h.dep s
  have := Nat.mul_le_mul_right d h.len
  omega
/-! ### instances -/
/-- a table tells just the sayings put in -/
def Tells (θ : Nm → Say) (g : Tab) : Prop := ∀ p ∈ g, θ p.1 = p.2
def SolI (θ : Nm → Say) (ps : List (Say × Say)) : Prop := ∀ p ∈ ps, p.1.sub θ = p.2
theorem SolI.cons {θ : Nm → Say} {a b : Say} {ps : List (Say × Say)} : SolI θ ((a, b) :: ps) ↔ a.sub θ = b ∧ SolI θ ps := by simp [SolI]
/-- what an instance tells -/
def Inst (S : (Nm → Say) → Prop) (D : Nm → Prop) : Option Tab → Prop
  | none => ∀ θ, ¬ S θ
  | some g => (dom g).Nodup ∧ (∀ θ, Tells θ g ↔ S θ) ∧ ∀ x, x ∈ dom g ↔ D x
theorem Inst.iff {S S' : (Nm → Say) → Prop} {D D' : Nm → Prop} (h : ∀ θ, S θ ↔ S' θ) (hd : ∀ x, D x ↔ D' x) : ∀ {r : Option Tab}, Inst S D r → Inst S' D' r
  | none, q => fun θ z => q θ ((h θ).mpr z)
  | some g, ⟨q1, q2, q3⟩ => ⟨q1, fun θ => (q2 θ).trans (h θ), fun x => (q3 x).trans (hd x)⟩
def atomsL (ps : List (Say × Say)) : List Nm := ps.flatMap fun p => p.1.atoms
/-- an instance of a saying -/
abbrev InstOf (s u : Say) : Option Tab → Prop := Inst (fun θ => s.sub θ = u) (fun x => x ∈ s.atoms)
/-- two tables that tell the same are equal as dicts -/
theorem inst_eqD {s u : Say} {g h : Tab} (hg : InstOf s u (some g)) (hh : InstOf s u (some h)) (dp : ∀ p ∈ g, p.2.dep ≤ 64) : EqD g.t h.t := by
  obtain ⟨n1, t1, d1⟩ := hg
  obtain ⟨n2, t2, d2⟩ := hh
  refine ⟨?_, fun p hp => ?_⟩
  · rw [Tab.t_length, Tab.t_length]
    have l1 := n1.length_le_of_subset (l₂ := dom h) fun z hz => (d2 z).mpr ((d1 z).mp hz)
    have l2 := n2.length_le_of_subset (l₂ := dom g) fun z hz => (d1 z).mpr ((d2 z).mp hz)
    simp only [dom, List.length_map] at l1 l2
    omega
  · unfold Tab.t at hp
    obtain ⟨q, hq, rfl⟩ := List.mem_map.mp hp
    -- a θ that g tells
    have tg : Tells (fun x => (g.get x).getD .fls) g := fun p hp => by
      show (g.get p.1).getD .fls = p.2
      rw [Tab.get_of n1 hp]; rfl
    have th := (t2 _).mpr ((t1 _).mp tg)
    have hx : q.1 ∈ dom h := (d2 _).mpr ((d1 _).mp (List.mem_map_of_mem hq))
    obtain ⟨t, ht⟩ := mem_tab hx
    have e1 : (g.get q.1).getD .fls = t := th _ ht
    rw [Tab.get_of n1 hq] at e1
    have e1' : q.2 = t := e1
    have sh := Say.shp (dp q hq)
    refine ⟨q.2.t, q.2.d, q.2.d, ?_, q.2.py, q.2.py, sh, sh, by rw [Say.eqv]; simp⟩
    show valT (Tab.t h) (.inr q.1.s) = _
    rw [Tab.val, Tab.get_of n2 ht, e1']
    rfl
theorem inst_dep {s u : Say} {g : Tab} (hg : InstOf s u (some g)) : ∀ p ∈ g, p.2.dep ≤ u.dep := fun p hp => by
  obtain ⟨n1, t1, d1⟩ := hg
  have tg : Tells (fun x => (g.get x).getD .fls) g := fun p hp => by
    show (g.get p.1).getD .fls = p.2
    rw [Tab.get_of n1 hp]; rfl
  have e : s.sub (fun x => (g.get x).getD .fls) = u := (t1 _).mp tg
  have hx : p.1 ∈ s.atoms := (d1 _).mp (List.mem_map_of_mem hp)
  have q : ∀ {s : Say} {x : Nm} {f : Nm → Say}, x ∈ s.atoms → (f x).dep ≤ (s.sub f).dep := by
    intro s
    induction s with
    | atom y => intro x f h; simp [Say.atoms] at h; subst h; exact Nat.le_refl _
    | fls => intro x f h; simp [Say.atoms] at h
    | bin w a b iha ihb =>
      intro x f h
      simp only [Say.atoms, List.mem_append] at h
      simp only [Say.sub, Say.dep]
      rcases h with h | h
      · have := iha (f := f) h; omega
      · have := ihb (f := f) h; omega
  have := q (f := fun x => (g.get x).getD .fls) hx
  rw [e] at this
  have e2 : (g.get p.1).getD .fls = p.2 := tg p hp
  rw [← e2]
  exact this
end B02
set_option Elab.async false
set_option linter.all false
set_option maxRecDepth 100000
set_option maxHeartbeats 2000000
set_option autoImplicit false
namespace B02
open PySem PT L2
/-! ### renamings -/
/-- atoms' names changed: none of T is left, the others stay, unlike ones stay unlike -/
structure Ren (T : List Nm) (s : Say) (r : Nm → Nm) : Prop where
  inj : ∀ x ∈ s.atoms, ∀ y ∈ s.atoms, r x = r y → x = y
  out : ∀ x ∈ s.atoms, r x ∉ T
  stay : ∀ x ∈ s.atoms, x ∉ T → r x = x
/-- atoms' names changed: none of T is left, unlike ones stay unlike -/
structure RenA (T : List Nm) (s : Say) (r : Nm → Nm) : Prop where
  inj : ∀ x ∈ s.atoms, ∀ y ∈ s.atoms, r x = r y → x = y
  out : ∀ x ∈ s.atoms, r x ∉ T
theorem Ren.toA {T : List Nm} {s : Say} {r : Nm → Nm} (h : Ren T s r) : RenA T s r := ⟨h.inj, h.out⟩
abbrev Say.ren (s : Say) (r : Nm → Nm) : Say := s.sub fun x => .atom (r x)
theorem atoms_ren {s : Say} {r : Nm → Nm} {z : Nm} : z ∈ (s.ren r).atoms ↔ ∃ y ∈ s.atoms, z = r y := by
  rw [Say.ren, atoms_sub]
  simp [Say.atoms]
/-- what makes two sayings the same makes them the same when the other one's names are others -/
theorem transfer {a b : Say} {r v : Nm → Nm} {θ : Nm → Say} (hv : ∀ x ∈ b.atoms, ∀ y ∈ b.atoms, v x = v y → x = y) (ho : ∀ x ∈ b.atoms, v x ∉ a.atoms) (h : a.sub θ = (b.ren r).sub θ) : ∃ θ', a.sub θ' = a.sub θ ∧ a.sub θ' = (b.ren v).sub θ' := by
  classical
  let θ' : Nm → Say := fun z => if z ∈ a.atoms then θ z else if h : ∃ y, y ∈ b.atoms ∧ v y = z then θ (r h.choose) else .atom z
  have e1 : a.sub θ' = a.sub θ := sub_congr fun x hx => if_pos hx
  refine ⟨θ', e1, ?_⟩
  rw [e1, h, Say.ren, Say.ren, sub_sub, sub_sub]
  apply sub_congr
  intro y hy
  show θ (r y) = θ' (v y)
  have q : ∃ y', y' ∈ b.atoms ∧ v y' = v y := ⟨y, hy, rfl⟩
  have e2 : θ' (v y) = θ (r q.choose) := by
    show (if v y ∈ a.atoms then θ (v y) else if h : ∃ y', y' ∈ b.atoms ∧ v y' = v y then θ (r h.choose) else .atom (v y)) = _
    rw [if_neg (ho y hy), dif_pos q]
  rw [e2, hv _ q.choose_spec.1 y hy q.choose_spec.2]
/-- a most general table for a wish -/
structure Mgu (S : (Nm → Say) → Prop) (ρ : Nm → Say) : Prop where
  sol : S ρ
  mg : ∀ θ, S θ → ∀ s : Say, (s.sub ρ).sub θ = s.sub θ
theorem Good.mgu {V : List Nm} {d : Nat} {g : Tab} {ρ : Nm → Say} {S : (Nm → Say) → Prop} (h : Good V d g ρ) (q : ∀ θ, Sat θ g ↔ S θ) : Mgu S ρ := ⟨(q ρ).mp (tri_sat h.tri), fun θ hθ s => tri_mgs h.tri ((q θ).mpr hθ) s⟩
theorem mgu_alike {S : (Nm → Say) → Prop} {ρ1 ρ2 : Nm → Say} (h1 : Mgu S ρ1) (h2 : Mgu S ρ2) (s : Say) : general (s.sub ρ1) = general (s.sub ρ2) :=
  general_mut (f := ρ1) (h := ρ2) (h2.mg ρ1 h1.sol s).symm (h1.mg ρ2 h2.sol s).symm
/-- pairs set apart in two ways -/
theorem apart_alike {a b : Say} {r v : Nm → Nm} {ρ1 ρ2 : Nm → Say} (hr : RenA a.atoms b r) (hv : RenA a.atoms b v) (h1 : Mgu (fun θ => a.sub θ = (b.ren r).sub θ) ρ1) (h2 : Mgu (fun θ => a.sub θ = (b.ren v).sub θ) ρ2) : general (a.sub ρ1) = general (a.sub ρ2) := by
  obtain ⟨θ1, e1, e2⟩ := transfer hv.inj hv.out h1.sol
  obtain ⟨θ2, e3, e4⟩ := transfer hr.inj hr.out h2.sol
  exact general_mut (f := θ1) (h := θ2) (by rw [h2.mg θ1 e2, e1]) (by rw [h1.mg θ2 e4, e3])
/-- a saying and an instance of it can be made the same, set apart -/
theorem apart_inst {a b : Say} {r : Nm → Nm} {τ : Nm → Say} (hr : RenA a.atoms b r) (e : a.sub τ = b) : ∃ θ, a.sub θ = (b.ren r).sub θ := by
  refine ⟨fun z => if z ∈ a.atoms then (τ z).ren r else .atom z, ?_⟩
  have e1 : a.sub (fun z => if z ∈ a.atoms then (τ z).ren r else .atom z) = b.ren r := by
    rw [← e, Say.ren, sub_sub]
    exact sub_congr fun x hx => if_pos hx
  rw [e1]
  conv => lhs; rw [← sub_id (b.ren r)]
  apply sub_congr
  intro z hz
  obtain ⟨y, hy, rfl⟩ := atoms_ren.mp hz
  exact (if_neg (hr.out y hy)).symm
/-- general forms of what is made the same are instances of both -/
theorem form_inst {a : Say} {ρ : Nm → Say} : ∃ θ, a.sub θ = general (a.sub ρ) := ⟨fun x => (ρ x).sub (letters (order (a.sub ρ))), by unfold general; rw [sub_sub]⟩
theorem form_inst2 {a b : Say} {r : Nm → Nm} {ρ : Nm → Say} (h : a.sub ρ = (b.ren r).sub ρ) : ∃ θ, b.sub θ = general (a.sub ρ) :=
  ⟨fun x => ((Say.atom (r x)).sub ρ).sub (letters (order (a.sub ρ))), by unfold general; rw [← sub_sub, ← sub_sub, ← h]⟩
/-! ### beginnings -/
theorem good_nil {V : List Nm} {d : Nat} : Good V d [] Say.atom := ⟨.nil, by simp [dom], fun p hp => (by cases hp), fun p hp => (by cases hp)⟩
theorem sat_nil {θ : Nm → Say} : Sat θ [] := fun p hp => (by cases hp)
theorem sol_one {θ : Nm → Say} {a b : Say} : Sol θ [(a, b)] ↔ a.sub θ = b.sub θ := by simp [Sol]
theorem sol_nil {θ : Nm → Say} {a b : Say} : (Sat θ [] ∧ Sol θ [(a, b)]) ↔ a.sub θ = b.sub θ := by rw [sol_one]; exact ⟨fun h => h.2, fun h => ⟨sat_nil, h⟩⟩
/-- a table of one entry -/
def ρ1 (x : Nm) (t : Say) : Nm → Say := fun y => (Say.atom y).sub (sg x (t.sub Say.atom))
theorem good_one {V : List Nm} {d : Nat} {x : Nm} {t : Say} (hx : x ∈ V) (ht : Fits V d t) (no : x ∉ t.atoms) : Good V d [(x, t)] (ρ1 x t) := by
  have := good_nil (V := V) (d := d).snoc (x := x) (t := t) (by simp [dom]) (by rw [sub_id]; exact no) hx ht
  exact this
theorem ρ1_at {x : Nm} {t : Say} {s : Say} : s.sub (ρ1 x t) = s.sub fun y => if y = x then t else .atom y := sub_congr fun y _ => by
  show sg x (t.sub Say.atom) y = _
  rw [sub_id]; rfl
/-! ### more pairs: w, z fresh -/
theorem more_none {a b : Say} {w z : Nm} {ρ : Nm → Say} (hz : z ∉ a.atoms ∧ z ∉ b.atoms) (hw : w ∉ a.atoms ∧ w ∉ b.atoms) (h : a.sub ρ = b.sub ρ) : ∃ θ, Sat θ [(w, .atom z)] ∧ Sol θ [(a, b), (.atom z, .bin .thn a b)] := by
  have key : ∀ s : Say, z ∉ s.atoms → w ∉ s.atoms → s.sub (fun y => if y = z ∨ y = w then (Say.bin .thn a b).sub ρ else ρ y) = s.sub ρ := fun s h1 h2 => sub_congr fun y hy => if_neg fun q => q.elim (fun e => h1 (by rw [← e]; exact hy)) fun e => h2 (by rw [← e]; exact hy)
  refine ⟨fun y => if y = z ∨ y = w then (Say.bin .thn a b).sub ρ else ρ y, fun p hp => ?_, ?_⟩
  · rw [List.mem_singleton.mp hp]
    show (if w = z ∨ w = w then _ else _) = if z = z ∨ z = w then _ else _
    rw [if_pos (.inr rfl), if_pos (.inl rfl)]
  · rw [Sol.cons, sol_one]
    refine ⟨by rw [key a hz.1 hw.1, key b hz.2 hw.2]; exact h, ?_⟩
    show (if z = z ∨ z = w then _ else _) = (Say.bin .thn a b).sub _
    rw [if_pos (.inl rfl)]
    show Say.bin .thn _ _ = Say.bin .thn _ _
    rw [key a hz.1 hw.1, key b hz.2 hw.2]
theorem self_none {a : Nm} {s : Say} : ∀ θ : Nm → Say, ¬ (Say.atom a).sub θ = (Say.bin .thn (.atom a) s).sub θ := fun θ e => no_loop (f := θ) (x := a) (w := .thn) (a := .atom a) (b := s) (by simp [Say.atoms]) e
end B02
set_option Elab.async false
set_option linter.all false
set_option maxRecDepth 100000
set_option maxHeartbeats 2000000
set_option autoImplicit false
namespace B02
open PT PySem L2 PySem.Spec PyProof.Rows
/-! ### what the defs promise -/
abbrev Pre := List T → Sto → (T → Prop) → Prop
theorem fc0 {F S : Sto} {pre : Pre} {ts : List T} {q : T → Prop} (h : pre ts [] q) : ∃ Fc : Sto, (∀ p ∈ Fc, p ∈ F ∨ p ∈ S) ∧ pre ts Fc q := ⟨[], by simp, h⟩
theorem fc1 {F S : Sto} {pre : Pre} {ts : List T} {q : T → Prop} (p : Addr × MO) (hp : Rdb F S p) (h : pre ts [p] q) : ∃ Fc : Sto, (∀ p ∈ Fc, p ∈ F ∨ p ∈ S) ∧ pre ts Fc q := ⟨[p], by simpa using hp.symm, h⟩
theorem fresh_i {S : Sto} {A : Addr → Prop} (h : ∀ p, p ∉ feet S → A p) : ∀ p, p ∉ feet S → A p := h
abbrev nmT (xs : List Nm) : List T := xs.map fun x => .str x.s
abbrev nmD (xs : List Nm) : List (Key × T) := xs.map fun x => (.inr x.s, .bl true)
def pairS (p : Say × Say) : T := .tup [p.1.t, p.2.t]
def Say.parts : Say → List Say
  | .bin _ a b => [a, b]
  | _ => []
/-- None, or a new dict -/
def Told (k : T → Sto → Prop) : Option Tab → Prop
  | none => ∀ S', k .non S'
  | some g => ∀ p S', (p, MO.dk g.t) ∈ S' → k (.ref p) S'
def pAtom (n : Nat) : Pre := fun ts F q => 1 ≤ n ∧ ∃ a, ts = [a] ∧ q (.tup [.str "atom", a])
def pParts (n : Nat) : Pre := fun ts F q => 1 ≤ n ∧ ∃ s : Say, ts = [s.t] ∧ q (.tup (s.parts.map Say.t))
def pPut (n : Nat) : Pre := fun ts F q => ∃ (s : Say) (d : Addr) (g : Tab), ts = [s.t, .ref d] ∧ (d, .dk g.t) ∈ F ∧ s.dep ≤ n ∧ q (s.put g).t
def pLetter (n : Nat) : Pre := fun ts F q => 1 ≤ n ∧ ∃ i : Nat, i < 60 ∧ ts = [.int i] ∧ q (.str (ltr i).s)
def cNames (n : Nat) : Con := fun ts F S k => 2 ≤ n ∧ ∃ s : Say, ts = [s.t] ∧ S = [] ∧ s.dep ≤ 60 ∧ (order s).length ≤ 60 ∧ ∀ p, k (.ref p) [(p, .lst (nmT (order s)))]
def pGeneral (n : Nat) : Pre := fun ts F q => 63 ≤ n ∧ ∃ s : Say, ts = [s.t] ∧ s.dep ≤ 60 ∧ (order s).length ≤ 59 ∧ q (general s).t
def pAlike (n : Nat) : Pre := fun ts F q => 64 ≤ n ∧ ∃ a b : Say, ts = [a.t, b.t] ∧ a.dep ≤ 60 ∧ b.dep ≤ 60 ∧ (order a).length ≤ 59 ∧ (order b).length ≤ 59 ∧ q (.bl (decide (general a = general b)))
def cInst (n : Nat) : Con := fun ts F S k => 3 ≤ n ∧ ∃ s u : Say, ts = [s.t, u.t] ∧ S = [] ∧ s.dep ≤ 60 ∧ u.dep ≤ 60 ∧ (order s).length ≤ 60 ∧ ∀ r, InstOf s u r → Told k r
def cApart (n : Nat) : Con := fun ts F S k => 64 ≤ n ∧ ∃ (s : Say) (d : Addr) (xs : List Nm), ts = [s.t, .ref d] ∧ S = [] ∧ (d, .dk (nmD xs)) ∈ F ∧ s.dep ≤ 60 ∧ xs.length + (order s).length ≤ 25 ∧ xs.Nodup ∧
  ∀ r p S' (tb : List (Key × T)), Ren xs s r → (p, .dk tb) ∈ S' → tb.map (·.1) = ((order s).filter fun x => decide (x ∈ xs)).map (fun x => .inr x.s) → k (.tup [(s.ren r).t, .ref p]) S'
/-- a table that may be read out from s with n levels -/
structure ResOk (n : Nat) (s : Say) (g : Tab) (ρ : Nm → Say) : Prop where
  tri : Tri g ρ
  lv : ∃ N, LvOk N g ∧ lv N s ≤ n
  sd : s.dep ≤ 60
  gd : ∀ p ∈ g, p.2.dep ≤ 60
def pRes (n : Nat) : Pre := fun ts F q => ∃ (s : Say) (d : Addr) (g : Tab) (ρ : Nm → Say) (m : Nat), ts = [s.t, .ref d] ∧ (d, .dk g.t) ∈ F ∧ ResOk m s g ρ ∧ m + 1 ≤ n ∧ q (s.sub ρ).t
def pStands (n : Nat) : Pre := fun ts F q => 2 ≤ n ∧ ∃ (x : Nm) (s : Say) (d : Addr) (g : Tab) (ρ : Nm → Say), ts = [.str x.s, s.t, .ref d] ∧ (d, .dk g.t) ∈ F ∧ ResOk 100 s g ρ ∧ x ∉ dom g ∧ q (.bl (decide (x ∈ (s.sub ρ).atoms)))
def cJoined (n : Nat) : Con := fun ts F S k => 4 ≤ n ∧ ∃ (p d : Addr) (ps : List (Say × Say)) (g : Tab) (ρ : Nm → Say) (V : List Nm) (dd : Nat), ts = [.ref p, .ref d] ∧ S = [] ∧ (p, .lst (ps.map pairS)) ∈ F ∧ (d, .dk g.t) ∈ F ∧ Good V dd g ρ ∧ Small V dd ∧ dd ≤ 60 ∧ FitsP V dd ps ∧ ps.length ≤ 1000 ∧
  ∀ r, Joined V dd (fun θ => Sat θ g ∧ Sol θ ps) r → Told k r
def pCommon (n : Nat) : Pre := fun ts F q => 130 ≤ n ∧ ∃ (a b : Say) (r : Nm → Nm), ts = [a.t, b.t] ∧ a.dep ≤ 6 ∧ b.dep ≤ 6 ∧ (order a).length + (order b).length ≤ 8 ∧ RenA a.atoms b r ∧
  ((∀ θ, ¬ a.sub θ = (b.ren r).sub θ) → q .non) ∧ ∀ ρ, Mgu (fun θ => a.sub θ = (b.ren r).sub θ) ρ → q (general (a.sub ρ)).t
/-! the law's own -/
def tapeS (a b : Addr) (seed : Int) (ns : List Int) : Sto := [(a, .lst [.ref b, .int seed]), (b, .lst (ns.map T.int))]
structure TapeOk (seed : Int) (ns : List Int) : Prop where
  (nn : ∀ n ∈ ns, 0 ≤ n) (s0 : 0 ≤ seed) (s1 : seed < 2147483647) (len : ns.length ≤ 63)
def cTape (n : Nat) : Con := fun ts F S k => 1 ≤ n ∧ ∃ (sc : Addr) (is : List Int), ts = [.ref sc] ∧ S = [] ∧ (sc, .lst (is.map T.int)) ∈ F ∧ is.length ≤ 63 ∧ ∀ a b seed ns, TapeOk seed ns → k (.ref a) (tapeS a b seed ns)
def cDraw (n : Nat) : Con := fun ts F S k => 1 ≤ n ∧ ∃ (a b : Addr) (seed : Int) (ns : List Int) (many : Int), ts = [.ref a, .int many] ∧ S = tapeS a b seed ns ∧ TapeOk seed ns ∧ 0 < many ∧ many ≤ 1000 ∧ ∀ i seed' ns', 0 ≤ i → i < many → TapeOk seed' ns' → k (.int i) (tapeS a b seed' ns')
def cPick (n : Nat) : Con := fun ts F S k => 2 ≤ n ∧ ∃ (a b row : Addr) (seed : Int) (ns : List Int) (us : List T), ts = [.ref a, .ref row] ∧ S = tapeS a b seed ns ∧ TapeOk seed ns ∧ (row, .lst us) ∈ F ∧ us ≠ [] ∧ us.length ≤ 1000 ∧ ∀ t seed' ns', t ∈ us → TapeOk seed' ns' → k t (tapeS a b seed' ns')
def cSaying (n : Nat) : Con := fun ts F S k => ∃ (a b nz : Addr) (seed : Int) (ns : List Int) (d : Nat) (xs : List Nm), ts = [.ref a, .int d, .ref nz] ∧ S = tapeS a b seed ns ∧ TapeOk seed ns ∧ (nz, .lst (nmT xs)) ∈ F ∧ xs ≠ [] ∧ xs.length ≤ 1000 ∧ d + 3 ≤ n ∧ ∀ (s : Say) seed' ns', s.dep ≤ d + 1 → s.atoms ⊆ xs → TapeOk seed' ns' → k s.t (tapeS a b seed' ns')
/-- a saying or a text -/
inductive Sx where
  | s (x : Say) | w (x : Str)
deriving DecidableEq
def Sx.t : Sx → T
  | .s x => x.t
  | .w x => .str x
def Sx.lvl : Sx → Nat
  | .s x => x.dep + 1
  | .w _ => 1
def pSame (n : Nat) : Pre := fun ts F q => ∃ x y : Sx, ts = [x.t, y.t] ∧ x.lvl ≤ n ∧ q (.bl (decide (x = y)))
def cAtoms (n : Nat) : Con := fun ts F S k => ∃ (s : Say) (L : List Nm), ts = [s.t] ∧ S = [] ∧ s.dep ≤ n ∧ s.atoms ⊆ L ∧ L.length ≤ 30 ∧ ∀ p (ys : List Nm), ys.Nodup → (∀ z, z ∈ ys ↔ z ∈ s.atoms) → k (.ref p) [(p, .lst (nmT ys))]
def cOrder (n : Nat) : Con := fun ts F S k => ∃ s : Say, ts = [s.t] ∧ S = [] ∧ s.dep ≤ n ∧ (order s).length ≤ 60 ∧ ∀ p, k (.ref p) [(p, .lst (nmT (order s)))]
def cClash (n : Nat) : Con := fun ts F S k => ∃ (a b : Say) (d : Addr) (g : Tab) (ρ : Nm → Say) (V : List Nm) (dd m : Nat) (r : Option Tab), ts = [a.t, b.t, .ref d] ∧ S = [(d, .dk g.t)] ∧ Good V dd g ρ ∧ Small V dd ∧ dd ≤ 60 ∧ V.length ≤ 30 ∧ Fits V dd a ∧ Fits V dd b ∧ m + 110 ≤ n ∧ clashF m a b g = some r ∧ Told k r
/-- all of them at one level -/
structure All (P : Program) (w : World) (K : PySem.W.Frag) (mg : Str → Option Value) (base : Heap) (n : Nat) : Prop where
  c_atom : Cl P w K mg base n "atom" (Fn (pAtom n))
  c_parts_of : Cl P w K mg base n "parts_of" (Fn (pParts n))
  c_put_in : Cl P w K mg base n "put_in" (Fn (pPut n))
  c_letter_name : Cl P w K mg base n "letter_name" (Fn (pLetter n))
  c_names_in_order : Cl P w K mg base n "names_in_order" (cNames n)
  c_general : Cl P w K mg base n "general" (Fn (pGeneral n))
  c_are_like : Cl P w K mg base n "are_like" (Fn (pAlike n))
  c_instance_of : Cl P w K mg base n "instance_of" (cInst n)
  c_renamed_apart : Cl P w K mg base n "renamed_apart" (cApart n)
  c_resolved : Cl P w K mg base n "resolved" (Fn (pRes n))
  c_stands_in : Cl P w K mg base n "stands_in" (Fn (pStands n))
  c_joined : Cl P w K mg base n "joined" (cJoined n)
  c_common_form : Cl P w K mg base n "common_form" (Fn (pCommon n))
  c_law_tape : Cl P w K mg base n "_law_tape" (cTape n)
  c_law_draw : Cl P w K mg base n "_law_draw" (cDraw n)
  c_law_pick : Cl P w K mg base n "_law_pick" (cPick n)
  c_law_same : Cl P w K mg base n "_law_same" (Fn (pSame n))
  c_law_saying : Cl P w K mg base n "_law_saying" (cSaying n)
  c_law_atoms : Cl P w K mg base n "_law_atoms" (cAtoms n)
  c_law_put : Cl P w K mg base n "_law_put" (Fn (pPut n))
  c_law_order : Cl P w K mg base n "_law_order" (cOrder n)
  c_law_letter : Cl P w K mg base n "_law_letter" (Fn (pLetter n))
  c_law_clash : Cl P w K mg base n "_law_clash" (cClash n)
  c_law_full : Cl P w K mg base n "_law_full" (Fn (pRes n))
  c_law_instance : Cl P w K mg base n "_law_instance" (cInst n)
end B02
set_option Elab.async false
set_option linter.all false
set_option maxRecDepth 100000
set_option maxHeartbeats 4000000
set_option autoImplicit false
set_option pp.maxSteps 600
namespace B02
open PT PySem L2 PySem.Spec PyProof.Rows
local macro_rules | `(tactic| walk_at "pt rdb") => `(tactic| first
  | (apply Or.inl; exact List.Mem.head _)
  | (apply Or.inl; apply List.Mem.tail; exact List.Mem.head _)
  | (apply Or.inl; apply List.Mem.tail; apply List.Mem.tail; exact List.Mem.head _)
  | (apply Or.inl; apply List.Mem.tail; apply List.Mem.tail; apply List.Mem.tail; exact List.Mem.head _)
  | (apply Or.inl; apply List.Mem.tail; apply List.Mem.tail; apply List.Mem.tail; apply List.Mem.tail; exact List.Mem.head _)
  | (apply Or.inl; apply List.Mem.tail; apply List.Mem.tail; apply List.Mem.tail; apply List.Mem.tail; apply List.Mem.tail; exact List.Mem.head _)
  | (apply Or.inl; apply List.Mem.tail; apply List.Mem.tail; apply List.Mem.tail; apply List.Mem.tail; apply List.Mem.tail; apply List.Mem.tail; exact List.Mem.head _)
  | (apply Or.inl; apply List.Mem.tail; apply List.Mem.tail; apply List.Mem.tail; apply List.Mem.tail; apply List.Mem.tail; apply List.Mem.tail; apply List.Mem.tail; exact List.Mem.head _)
  | (apply Or.inl; apply List.Mem.tail; apply List.Mem.tail; apply List.Mem.tail; apply List.Mem.tail; apply List.Mem.tail; apply List.Mem.tail; apply List.Mem.tail; apply List.Mem.tail; exact List.Mem.head _)
  | (apply Or.inl; apply List.Mem.tail; apply List.Mem.tail; apply List.Mem.tail; apply List.Mem.tail; apply List.Mem.tail; apply List.Mem.tail; apply List.Mem.tail; apply List.Mem.tail; apply List.Mem.tail; exact List.Mem.head _)
  | (apply Or.inr; assumption) | (apply Or.inr; exact List.Mem.head _) | (apply Or.inr; apply List.Mem.tail; exact List.Mem.head _) | fail)
def LET : Str := "abcdefghijklmnopqrstuvwxyz"
/-- the module's constants -/
structure Gm (mg : Str → Option Value) : Prop where
  lets : ∃ tk, mg "LETTER_NAMES" = some (.str LET tk)
theorem let_at : ∀ j < 26, atI LET.cps.toList ((j : Nat) : Int) = some (97 + j) := by decide +kernel
theorem put_atom (g : Tab) (x : Nm) : ((valT g.t (.inr x.s)).getD (Say.atom x).t) = (Say.put g (.atom x)).t := by
  rw [Tab.val, Say.put]
  show ((g.get x).map Say.t).getD _ = ((g.get x).getD (.atom x)).t
  cases g.get x <;> rfl
section
variable {P : Program} {w : World} {K : PySem.W.Frag} {mg : Str → Option Value} {base : Heap} {n : Nat}
section
theorem scAtom : FnScope ["name"] ["name"] (defScope (top 1)) := ⟨rfl, rfl, rfl, by decide +kernel, rfl, by decide +kernel, by decide +kernel⟩
local macro_rules | `(tactic| walk_at "pt 1") => `(tactic| first
  | ((with_reducible refine aw_cons (hs := ?hs) (h := ?_)); (case hs => exact rfl))
  | ((with_reducible refine aw_nil (hk := ?_)))
  | ((with_reducible refine ew_var (x := "name") (i := 0) (t := ?t) ?hi ?_ ?hN ?hv ?hd ?hc); (case hi => exact rfl); (case hN => exact rfl); (case hv => first | exact Or.inl rfl | exact Or.inr (Or.inl rfl) | exact Or.inr (Or.inr rfl)); (case hd => decide); (case hc => decide))
  | ((with_reducible refine ew_str (hk := ?_)))
  | ((with_reducible refine ew_tup (h := ?_)))
  | ((with_reducible refine tw_call (h := ?_)))
  | ((with_reducible refine tw_name (h := ?_)))
  | ((with_reducible refine sw_cons (h := ?_)))
  | ((with_reducible refine sw_nil (h := ?_)))
  | ((with_reducible refine s1_ret0 (h := ?_)))
  | ((with_reducible refine And.intro ?hx ?_); (case hx => exact Nat.le_of_ble_eq_true rfl))
  | (with_reducible refine Exists.intro _ (And.intro rfl ?_))
  | (refine tst_t (by decide +kernel) ?_)
  | (refine tst_f (by decide +kernel) ?_)
  | (refine Exists.intro _ (Exists.intro _ (And.intro rfl (And.intro (by walk_at "pt rdb") ?_))))
  | fail)
theorem ok_atom (D : Df K mg "atom" (top 1) ["name"]) (C : All P w K mg base n) : Cl P w K mg base (n + 1) "atom" (Fn (pAtom (n + 1))) := by
  refine cl_of D scAtom (fun ts F S k h => ?_) (fun a hr ts F S k h => ?_)
  · obtain ⟨_, _, a, rfl, _⟩ := h; rfl
  obtain ⟨rfl, hn, x, rfl, q⟩ := h
  refine sw_cons ?_
  repeat' (walk_at "pt 1")
  exact q
end
section
theorem scParts : FnScope ["saying"] ["saying"] (defScope (top 2)) := ⟨rfl, rfl, rfl, by decide +kernel, rfl, by decide +kernel, by decide +kernel⟩
local macro_rules | `(tactic| walk_at "pt 1") => `(tactic| first
  | ((with_reducible refine aw_cons (hs := ?hs) (h := ?_)); (case hs => exact rfl))
  | ((with_reducible refine aw_nil (hk := ?_)))
  | ((with_reducible refine ew_var (x := "saying") (i := 0) (t := ?t) ?hi ?_ ?hN ?hv ?hd ?hc); (case hi => exact rfl); (case hN => exact rfl); (case hv => first | exact Or.inl rfl | exact Or.inr (Or.inl rfl) | exact Or.inr (Or.inr rfl)); (case hd => decide); (case hc => decide))
  | ((with_reducible refine ew_slice (h := ?_)))
  | ((with_reducible refine ew_sub (h := ?_)))
  | ((with_reducible refine ew_str (hk := ?_)))
  | ((with_reducible refine ew_int (hk := ?_)))
  | ((with_reducible refine ew_tup (h := ?_)))
  | ((with_reducible refine tw_cmp (hm := ?hm) (h := ?_)); (case hm => exact rfl))
  | ((with_reducible refine ew_cmp (hm := ?hm) (h := ?_)); (case hm => exact rfl))
  | ((with_reducible refine ew_ifExp (h := ?_)))
  | ((with_reducible refine tw_call (h := ?_)))
  | ((with_reducible refine tw_name (h := ?_)))
  | ((with_reducible refine sw_cons (h := ?_)))
  | ((with_reducible refine sw_nil (h := ?_)))
  | ((with_reducible refine s1_ret0 (h := ?_)))
  | ((with_reducible refine bw_inT (hx := ?hx) (hf := ?hf) (hk := ?_)); (case hx => exact rfl); (case hf => exact rfl))
  | ((with_reducible refine bw_inL (xs := ?xs) (hp := ?hp) (hx := ?hx) (hf := ?hf) (hk := ?_)); (case hp => walk_at "pt rdb"); (case hx => exact rfl); (case hf => exact rfl))
  | ((with_reducible refine xw_tup (t := ?t) (he := ?he) (hs := ?hs) (hk := ?_)); (case he => first | exact rfl | exact atT0 | exact atT1); (case hs => exact fun _ _ => rfl))
  | ((with_reducible refine xw_lst (ts := ?ts) (t := ?t) (hp := ?hp) (he := ?he) (hs := ?hs) (hk := ?_)); (case hp => walk_at "pt rdb"); (case he => first | exact rfl | exact atT0 | exact atT1); (case hs => exact fun _ _ => rfl))
  | ((with_reducible refine ow_none (hk := ?_)))
  | ((with_reducible refine ow_some (h := ?_)))
  | ((with_reducible refine lw_tup (hk := ?_)))
  | ((with_reducible refine And.intro ?hx ?_); (case hx => exact Nat.le_of_ble_eq_true rfl))
  | (with_reducible refine Exists.intro _ (And.intro rfl ?_))
  | (refine tst_t (by decide +kernel) ?_)
  | (refine tst_f (by decide +kernel) ?_)
  | (refine Exists.intro _ (Exists.intro _ (And.intro rfl (And.intro (by walk_at "pt rdb") ?_))))
  | fail)
theorem ok_parts_of (D : Df K mg "parts_of" (top 2) ["saying"]) (C : All P w K mg base n) : Cl P w K mg base (n + 1) "parts_of" (Fn (pParts (n + 1))) := by
  refine cl_of D scParts (fun ts F S k h => ?_) (fun a hr ts F S k h => ?_)
  · obtain ⟨_, _, a, rfl, _⟩ := h; rfl
  obtain ⟨rfl, hn, s, rfl, q⟩ := h
  cases s with
  | atom x =>
    simp only [Say.t]
    refine sw_cons ?_
    repeat' (walk_at "pt 1")
    exact q
  | fls =>
    simp only [Say.t]
    refine sw_cons ?_
    repeat' (walk_at "pt 1")
    exact q
  | bin v x y =>
    cases v <;>
    · simp only [Say.t, Bw.s]
      refine sw_cons ?_
      repeat' (walk_at "pt 1")
      rw [cutT1]
      exact q
end
section
theorem scPut : FnScope ["saying", "table"] ["saying", "table"] (defScope (top 3)) := ⟨rfl, rfl, rfl, by decide +kernel, rfl, by decide +kernel, by decide +kernel⟩
local macro_rules | `(tactic| walk_at "pt 1") => `(tactic| first
  | ((with_reducible refine aw_cons (hs := ?hs) (h := ?_)); (case hs => exact rfl))
  | ((with_reducible refine aw_nil (hk := ?_)))
  | ((with_reducible refine ew_var (x := "saying") (i := 0) (t := ?t) ?hi ?_ ?hN ?hv ?hd ?hc); (case hi => exact rfl); (case hN => exact rfl); (case hv => first | exact Or.inl rfl | exact Or.inr (Or.inl rfl) | exact Or.inr (Or.inr rfl)); (case hd => decide); (case hc => decide))
  | ((with_reducible refine ew_var (x := "table") (i := 1) (t := ?t) ?hi ?_ ?hN ?hv ?hd ?hc); (case hi => exact rfl); (case hN => exact rfl); (case hv => first | exact Or.inl rfl | exact Or.inr (Or.inl rfl) | exact Or.inr (Or.inr rfl)); (case hd => decide); (case hc => decide))
  | ((with_reducible refine ew_sub (h := ?_)))
  | ((with_reducible refine ew_str (hk := ?_)))
  | ((with_reducible refine ew_int (hk := ?_)))
  | ((with_reducible refine ew_tup (h := ?_)))
  | ((with_reducible refine tw_cmp (hm := ?hm) (h := ?_)); (case hm => exact rfl))
  | ((with_reducible refine ew_cmp (hm := ?hm) (h := ?_)); (case hm => exact rfl))
  | ((with_reducible refine ew_callF (x := "put_in") (n := ?n) (pre := ?pre) (C := ?C) (hr := ?hr) (hg := ?hg) (hdb := ?hdb) (he := ?he) (hpl := ?hpl) (h := ?_)); (case C => exact All.c_put_in (by assumption)); (case hr => assumption); (case hg => exact rfl); (case hdb => decide); (case he => exact rfl); (case hpl => exact rfl))
  | ((with_reducible refine ew_dget2 (hu := ?hu) (m := ?m) (h := ?_)); (case hu => exact hu_of (by assumption)); (case m => exact ⟨rfl, rfl, rfl, rfl⟩))
  | ((with_reducible refine tw_call (h := ?_)))
  | ((with_reducible refine tw_name (h := ?_)))
  | ((with_reducible refine sw_cons (h := ?_)))
  | ((with_reducible refine sw_nil (h := ?_)))
  | ((with_reducible refine s1_ret0 (h := ?_)))
  | ((with_reducible refine s1_if (h := ?_)))
  | ((with_reducible refine bw_eqs (h := ?h) (hk := ?_)); (case h => exact rfl))
  | ((with_reducible refine xw_tup (t := ?t) (he := ?he) (hs := ?hs) (hk := ?_)); (case he => first | exact rfl | exact atT0 | exact atT1); (case hs => exact fun _ _ => rfl))
  | ((with_reducible refine xw_lst (ts := ?ts) (t := ?t) (hp := ?hp) (he := ?he) (hs := ?hs) (hk := ?_)); (case hp => walk_at "pt rdb"); (case he => first | exact rfl | exact atT0 | exact atT1); (case hs => exact fun _ _ => rfl))
  | ((with_reducible refine And.intro ?hx ?_); (case hx => exact Nat.le_of_ble_eq_true rfl))
  | (with_reducible refine Exists.intro _ (And.intro rfl ?_))
  | (refine tst_t (by decide +kernel) ?_)
  | (refine tst_f (by decide +kernel) ?_)
  | (refine Exists.intro _ (Exists.intro _ (And.intro rfl (And.intro (by walk_at "pt rdb") ?_))))
  | fail)
theorem ok_put (D : Df K mg "put_in" (top 3) ["saying", "table"]) (C : All P w K mg base n) : Cl P w K mg base (n + 1) "put_in" (Fn (pPut (n + 1))) := by
  refine cl_of D scPut (fun ts F S k h => ?_) (fun a hr ts F S k h => ?_)
  · obtain ⟨_, a, b, _, rfl, _⟩ := h; rfl
  obtain ⟨rfl, s, d, g, rfl, hd, hn, q⟩ := h
  cases s with
  | atom x =>
    simp only [Say.t]
    refine sw_cons ?_
    repeat' (walk_at "pt 1")
    refine ⟨g.t, .inr x.s, rfl, .inr hd, ?_⟩
    rw [← Say.t, put_atom]
    exact q
  | fls =>
    simp only [Say.t]
    refine sw_cons ?_
    repeat' (walk_at "pt 1")
    exact q
  | bin v x y =>
    have h1 : x.dep ≤ n := by simp only [Say.dep] at hn; omega
    have h2 : y.dep ≤ n := by simp only [Say.dep] at hn; omega
    cases v <;>
    · simp only [Say.t, Bw.s]
      refine sw_cons ?_
      repeat' (walk_at "pt 1")
      refine fc1 (d, .dk g.t) (.inr hd) ⟨x, d, g, rfl, List.mem_singleton_self _, h1, ?_⟩
      repeat' (walk_at "pt 1")
      refine fc1 (d, .dk g.t) (.inr hd) ⟨y, d, g, rfl, List.mem_singleton_self _, h2, ?_⟩
      repeat' (walk_at "pt 1")
      exact q
end
section
theorem scLPut : FnScope ["saying", "table"] ["saying", "table"] (defScope (top 29)) := ⟨rfl, rfl, rfl, by decide +kernel, rfl, by decide +kernel, by decide +kernel⟩
local macro_rules | `(tactic| walk_at "pt 1") => `(tactic| first
  | ((with_reducible refine aw_cons (hs := ?hs) (h := ?_)); (case hs => exact rfl))
  | ((with_reducible refine aw_nil (hk := ?_)))
  | ((with_reducible refine ew_var (x := "saying") (i := 0) (t := ?t) ?hi ?_ ?hN ?hv ?hd ?hc); (case hi => exact rfl); (case hN => exact rfl); (case hv => first | exact Or.inl rfl | exact Or.inr (Or.inl rfl) | exact Or.inr (Or.inr rfl)); (case hd => decide); (case hc => decide))
  | ((with_reducible refine ew_var (x := "table") (i := 1) (t := ?t) ?hi ?_ ?hN ?hv ?hd ?hc); (case hi => exact rfl); (case hN => exact rfl); (case hv => first | exact Or.inl rfl | exact Or.inr (Or.inl rfl) | exact Or.inr (Or.inr rfl)); (case hd => decide); (case hc => decide))
  | ((with_reducible refine ew_sub (h := ?_)))
  | ((with_reducible refine ew_str (hk := ?_)))
  | ((with_reducible refine ew_int (hk := ?_)))
  | ((with_reducible refine ew_tup (h := ?_)))
  | ((with_reducible refine tw_cmp (hm := ?hm) (h := ?_)); (case hm => exact rfl))
  | ((with_reducible refine ew_cmp (hm := ?hm) (h := ?_)); (case hm => exact rfl))
  | ((with_reducible refine ew_callF (x := "_law_put") (n := ?n) (pre := ?pre) (C := ?C) (hr := ?hr) (hg := ?hg) (hdb := ?hdb) (he := ?he) (hpl := ?hpl) (h := ?_)); (case C => exact All.c_law_put (by assumption)); (case hr => assumption); (case hg => exact rfl); (case hdb => decide); (case he => exact rfl); (case hpl => exact rfl))
  | ((with_reducible refine ew_dget2 (hu := ?hu) (m := ?m) (h := ?_)); (case hu => exact hu_of (by assumption)); (case m => exact ⟨rfl, rfl, rfl, rfl⟩))
  | ((with_reducible refine tw_call (h := ?_)))
  | ((with_reducible refine tw_name (h := ?_)))
  | ((with_reducible refine sw_cons (h := ?_)))
  | ((with_reducible refine sw_nil (h := ?_)))
  | ((with_reducible refine s1_ret0 (h := ?_)))
  | ((with_reducible refine s1_if (h := ?_)))
  | ((with_reducible refine bw_eqs (h := ?h) (hk := ?_)); (case h => exact rfl))
  | ((with_reducible refine xw_tup (t := ?t) (he := ?he) (hs := ?hs) (hk := ?_)); (case he => first | exact rfl | exact atT0 | exact atT1); (case hs => exact fun _ _ => rfl))
  | ((with_reducible refine xw_lst (ts := ?ts) (t := ?t) (hp := ?hp) (he := ?he) (hs := ?hs) (hk := ?_)); (case hp => walk_at "pt rdb"); (case he => first | exact rfl | exact atT0 | exact atT1); (case hs => exact fun _ _ => rfl))
  | ((with_reducible refine And.intro ?hx ?_); (case hx => exact Nat.le_of_ble_eq_true rfl))
  | (with_reducible refine Exists.intro _ (And.intro rfl ?_))
  | (refine tst_t (by decide +kernel) ?_)
  | (refine tst_f (by decide +kernel) ?_)
  | (refine Exists.intro _ (Exists.intro _ (And.intro rfl (And.intro (by walk_at "pt rdb") ?_))))
  | fail)
theorem ok_law_put (D : Df K mg "_law_put" (top 29) ["saying", "table"]) (C : All P w K mg base n) : Cl P w K mg base (n + 1) "_law_put" (Fn (pPut (n + 1))) := by
  refine cl_of D scLPut (fun ts F S k h => ?_) (fun a hr ts F S k h => ?_)
  · obtain ⟨_, a, b, _, rfl, _⟩ := h; rfl
  obtain ⟨rfl, s, d, g, rfl, hd, hn, q⟩ := h
  cases s with
  | atom x =>
    simp only [Say.t]
    refine sw_cons ?_
    repeat' (walk_at "pt 1")
    refine ⟨g.t, .inr x.s, rfl, .inr hd, ?_⟩
    rw [← Say.t, put_atom]
    exact q
  | fls =>
    simp only [Say.t]
    refine sw_cons ?_
    repeat' (walk_at "pt 1")
    exact q
  | bin v x y =>
    have h1 : x.dep ≤ n := by simp only [Say.dep] at hn; omega
    have h2 : y.dep ≤ n := by simp only [Say.dep] at hn; omega
    cases v <;>
    · simp only [Say.t, Bw.s]
      refine sw_cons ?_
      repeat' (walk_at "pt 1")
      refine fc1 (d, .dk g.t) (.inr hd) ⟨x, d, g, rfl, List.mem_singleton_self _, h1, ?_⟩
      repeat' (walk_at "pt 1")
      refine fc1 (d, .dk g.t) (.inr hd) ⟨y, d, g, rfl, List.mem_singleton_self _, h2, ?_⟩
      repeat' (walk_at "pt 1")
      exact q
end
theorem ltS_0 {i : Nat} (h : ¬ i / 26 > 0) : ltS i = ⟨#[97 + i % 26]⟩ ++ Str.ofString "" := by unfold ltS; rw [if_neg h]
theorem ltS_1 {i : Nat} (h : i / 26 > 0) : ltS i = ⟨#[97 + i % 26]⟩ ++ Str.ofString (toString (Int.ofNat (i / 26))) := by unfold ltS; rw [if_pos h]
theorem fdiv26 (i : Nat) : (i : Int).fdiv 26 = ((i / 26 : Nat) : Int) := by rw [Int.fdiv_eq_ediv_of_nonneg _ (by decide)]; rfl
theorem fmod26 (i : Nat) : (i : Int).fmod 26 = ((i % 26 : Nat) : Int) := by rw [Int.fmod_eq_emod_of_nonneg _ (by decide)]; rfl
section
theorem scLetter : FnScope ["number", "more"] ["number"] (defScope (top 6)) := ⟨rfl, rfl, rfl, by decide +kernel, rfl, by decide +kernel, by decide +kernel⟩
local macro_rules | `(tactic| walk_at "pt 1") => `(tactic| first
  | ((with_reducible refine aw_cons (hs := ?hs) (h := ?_)); (case hs => exact rfl))
  | ((with_reducible refine aw_nil (hk := ?_)))
  | ((with_reducible refine ew_var (x := "number") (i := 0) (t := ?t) ?hi ?_ ?hN ?hv ?hd ?hc); (case hi => exact rfl); (case hN => exact rfl); (case hv => first | exact Or.inl rfl | exact Or.inr (Or.inl rfl) | exact Or.inr (Or.inr rfl)); (case hd => decide); (case hc => decide))
  | ((with_reducible refine ew_var (x := "more") (i := 1) (t := ?t) ?hi ?_ ?hN ?hv ?hd ?hc); (case hi => exact rfl); (case hN => exact rfl); (case hv => first | exact Or.inl rfl | exact Or.inr (Or.inl rfl) | exact Or.inr (Or.inr rfl)); (case hd => decide); (case hc => decide))
  | ((with_reducible refine ew_sub (h := ?_)))
  | ((with_reducible refine ew_str (hk := ?_)))
  | ((with_reducible refine ew_int (hk := ?_)))
  | ((with_reducible refine tw_cmp (hm := ?hm) (h := ?_)); (case hm => exact rfl))
  | ((with_reducible refine ew_cmp (hm := ?hm) (h := ?_)); (case hm => exact rfl))
  | ((with_reducible refine ew_bin (h := ?_)))
  | ((with_reducible refine ew_callTy (x := "str") (T' := "str") (hm := ?hm) (hv := ?hv) (hg := ?hg) (hn := ?hn) (hdb := ?hdb) (he := ?he) (hpl := ?hpl) (h := ?_)); (case hm => exact Mg.str (by assumption)); (case hv => exact rfl); (case hg => exact rfl); (case hn => decide); (case hdb => decide); (case he => exact rfl); (case hpl => exact rfl))
  | ((with_reducible refine ew_ifExp (h := ?_)))
  | ((with_reducible refine tw_call (h := ?_)))
  | ((with_reducible refine tw_name (h := ?_)))
  | ((with_reducible refine sw_cons (h := ?_)))
  | ((with_reducible refine sw_nil (h := ?_)))
  | ((with_reducible refine s1_ret0 (h := ?_)))
  | ((with_reducible refine s1_set (x := "more") (i := 1) ?hN ?hi ?_ ?hx ?hs ?hf); (case hN => exact (scLetter).nd); (case hi => exact rfl); (case hx => first | exact Or.inl rfl | exact Or.inr rfl); (case hs => exact rfl); (case hf => first | exact Or.inr rfl | exact Or.inl rfl))
  | ((with_reducible refine bw_add (hk := ?_)))
  | ((with_reducible refine bw_gt (hk := ?_)))
  | ((with_reducible refine xw_tup (t := ?t) (he := ?he) (hs := ?hs) (hk := ?_)); (case he => first | exact rfl | exact atT0 | exact atT1); (case hs => exact fun _ _ => rfl))
  | ((with_reducible refine xw_lst (ts := ?ts) (t := ?t) (hp := ?hp) (he := ?he) (hs := ?hs) (hk := ?_)); (case hp => walk_at "pt rdb"); (case he => first | exact rfl | exact atT0 | exact atT1); (case hs => exact fun _ _ => rfl))
  | ((with_reducible refine And.intro ?hx ?_); (case hx => exact Nat.le_of_ble_eq_true rfl))
  | (with_reducible refine Exists.intro _ (And.intro rfl ?_))
  | (refine tst_t (by decide +kernel) ?_)
  | (refine tst_f (by decide +kernel) ?_)
  | (refine Exists.intro _ (Exists.intro _ (And.intro rfl (And.intro (by walk_at "pt rdb") ?_))))
  | fail)
theorem ok_letter (M : Mg mg) (G : Gm mg) (D : Df K mg "letter_name" (top 6) ["number"]) (C : All P w K mg base n) : Cl P w K mg base (n + 1) "letter_name" (Fn (pLetter (n + 1))) := by
  refine cl_of D scLetter (fun ts F S k h => ?_) (fun a hr ts F S k h => ?_)
  · obtain ⟨_, _, a, _, rfl, _⟩ := h; rfl
  obtain ⟨rfl, hn, i, hi, rfl, q⟩ := h
  have q' : k (.str (ltS i)) [] := by rw [← ltr_s i hi]; exact q
  obtain ⟨tk, hL⟩ := G.lets
  have lt := Nat.mod_lt i (show 0 < 26 by decide)
  refine sw_cons ?_
  repeat' (walk_at "pt 1")
  refine bw_fdiv (by decide) ?_
  repeat' (walk_at "pt 1")
  refine ew_glob (v := .str LET) (t := .str LET) rfl hL ⟨tk, rfl⟩ (fun _ => .str _) ?_
  repeat' (walk_at "pt 1")
  refine bw_mod (by decide) ?_
  rw [fmod26, fdiv26]
  refine xw_str (by decide +kernel) (let_at _ lt) ?_
  by_cases hm : i / 26 > 0
  · repeat' (walk_at "pt 1")
    refine tst_t (decide_eq_true (by omega)) ?_
    repeat' (walk_at "pt 1")
    refine cw_strI (by have : i / 26 < 3 := by omega
                       have e : ((i / 26 : Nat) : Int).natAbs = i / 26 := rfl
                       rw [e]; exact Nat.lt_of_le_of_lt (Nat.log2_le_self _) (by omega)) ?_
    refine bw_cats ?_ ?_
    · have : ∀ j < 3, (Str.ofString (toString ((j : Nat) : Int))).length ≤ 10 := by decide +kernel
      have := this (i / 26) (by omega)
      show 1 + _ ≤ _
      omega
    · rw [ltS_1 hm] at q'
      exact q'
  · repeat' (walk_at "pt 1")
    refine tst_f (decide_eq_false (by omega)) ?_
    repeat' (walk_at "pt 1")
    refine bw_cats (by show 1 + 0 ≤ 100000; omega) ?_
    rw [ltS_0 hm] at q'
    exact q'
end
section
theorem scLLetter : FnScope ["k"] ["k"] (defScope (top 33)) := ⟨rfl, rfl, rfl, by decide +kernel, rfl, by decide +kernel, by decide +kernel⟩
local macro_rules | `(tactic| walk_at "pt 1") => `(tactic| first
  | ((with_reducible refine aw_cons (hs := ?hs) (h := ?_)); (case hs => exact rfl))
  | ((with_reducible refine aw_nil (hk := ?_)))
  | ((with_reducible refine ew_var (x := "k") (i := 0) (t := ?t) ?hi ?_ ?hN ?hv ?hd ?hc); (case hi => exact rfl); (case hN => exact rfl); (case hv => first | exact Or.inl rfl | exact Or.inr (Or.inl rfl) | exact Or.inr (Or.inr rfl)); (case hd => decide); (case hc => decide))
  | ((with_reducible refine ew_sub (h := ?_)))
  | ((with_reducible refine ew_str (hk := ?_)))
  | ((with_reducible refine ew_int (hk := ?_)))
  | ((with_reducible refine tw_cmp (hm := ?hm) (h := ?_)); (case hm => exact rfl))
  | ((with_reducible refine ew_cmp (hm := ?hm) (h := ?_)); (case hm => exact rfl))
  | ((with_reducible refine ew_bin (h := ?_)))
  | ((with_reducible refine ew_callTy (x := "str") (T' := "str") (hm := ?hm) (hv := ?hv) (hg := ?hg) (hn := ?hn) (hdb := ?hdb) (he := ?he) (hpl := ?hpl) (h := ?_)); (case hm => exact Mg.str (by assumption)); (case hv => exact rfl); (case hg => exact rfl); (case hn => decide); (case hdb => decide); (case he => exact rfl); (case hpl => exact rfl))
  | ((with_reducible refine ew_ifExp (h := ?_)))
  | ((with_reducible refine tw_call (h := ?_)))
  | ((with_reducible refine tw_name (h := ?_)))
  | ((with_reducible refine sw_cons (h := ?_)))
  | ((with_reducible refine sw_nil (h := ?_)))
  | ((with_reducible refine s1_ret0 (h := ?_)))
  | ((with_reducible refine bw_add (hk := ?_)))
  | ((with_reducible refine bw_gt (hk := ?_)))
  | ((with_reducible refine xw_tup (t := ?t) (he := ?he) (hs := ?hs) (hk := ?_)); (case he => first | exact rfl | exact atT0 | exact atT1); (case hs => exact fun _ _ => rfl))
  | ((with_reducible refine xw_lst (ts := ?ts) (t := ?t) (hp := ?hp) (he := ?he) (hs := ?hs) (hk := ?_)); (case hp => walk_at "pt rdb"); (case he => first | exact rfl | exact atT0 | exact atT1); (case hs => exact fun _ _ => rfl))
  | ((with_reducible refine And.intro ?hx ?_); (case hx => exact Nat.le_of_ble_eq_true rfl))
  | (with_reducible refine Exists.intro _ (And.intro rfl ?_))
  | (refine tst_t (by decide +kernel) ?_)
  | (refine tst_f (by decide +kernel) ?_)
  | (refine Exists.intro _ (Exists.intro _ (And.intro rfl (And.intro (by walk_at "pt rdb") ?_))))
  | fail)
theorem ok_law_letter (M : Mg mg) (D : Df K mg "_law_letter" (top 33) ["k"]) (C : All P w K mg base n) : Cl P w K mg base (n + 1) "_law_letter" (Fn (pLetter (n + 1))) := by
  refine cl_of D scLLetter (fun ts F S k h => ?_) (fun a hr ts F S k h => ?_)
  · obtain ⟨_, _, a, _, rfl, _⟩ := h; rfl
  obtain ⟨rfl, hn, i, hi, rfl, q⟩ := h
  have q' : k (.str (ltS i)) [] := by rw [← ltr_s i hi]; exact q
  have lt := Nat.mod_lt i (show 0 < 26 by decide)
  refine sw_cons ?_
  repeat' (walk_at "pt 1")
  refine bw_mod (by decide) ?_
  rw [fmod26]
  refine xw_str (x := LET) (by decide +kernel) (let_at _ lt) ?_
  by_cases hm : i / 26 > 0
  · repeat' (walk_at "pt 1")
    refine tst_t (decide_eq_true (by omega)) ?_
    repeat' (walk_at "pt 1")
    refine bw_fdiv (by decide) ?_
    rw [fdiv26]
    repeat' (walk_at "pt 1")
    refine cw_strI (by have : i / 26 < 3 := by omega
                       have e : ((i / 26 : Nat) : Int).natAbs = i / 26 := rfl
                       rw [e]; exact Nat.lt_of_le_of_lt (Nat.log2_le_self _) (by omega)) ?_
    refine bw_cats ?_ ?_
    · have : ∀ j < 3, (Str.ofString (toString ((j : Nat) : Int))).length ≤ 10 := by decide +kernel
      have := this (i / 26) (by omega)
      show 1 + _ ≤ _
      omega
    · rw [ltS_1 hm] at q'
      exact q'
  · repeat' (walk_at "pt 1")
    refine tst_f (decide_eq_false (by omega)) ?_
    repeat' (walk_at "pt 1")
    refine bw_cats (by show 1 + 0 ≤ 100000; omega) ?_
    rw [ltS_0 hm] at q'
    exact q'
end
end
set_option Elab.async false
set_option linter.all false
set_option maxRecDepth 100000
set_option maxHeartbeats 4000000
set_option autoImplicit false
set_option pp.maxSteps 600
section
variable {P : Program} {w : World} {K : PySem.W.Frag} {mg : Str → Option Value} {base : Heap} {n : Nat}
/-! ### the tape -/
section
theorem scTape : FnScope ["script", "seed", "cell"] ["script"] (defScope (top 17)) := ⟨rfl, rfl, rfl, by decide +kernel, rfl, by decide +kernel, by decide +kernel⟩
local macro_rules | `(tactic| walk_at "pt 1") => `(tactic| first
  | ((with_reducible refine aw_cons (hs := ?hs) (h := ?_)); (case hs => exact rfl))
  | ((with_reducible refine aw_nil (hk := ?_)))
  | ((with_reducible refine ew_var (x := "script") (i := 0) (t := ?t) ?hi ?_ ?hN ?hv ?hd ?hc); (case hi => exact rfl); (case hN => exact rfl); (case hv => first | exact Or.inl rfl | exact Or.inr (Or.inl rfl) | exact Or.inr (Or.inr rfl)); (case hd => decide); (case hc => decide))
  | ((with_reducible refine ew_var (x := "seed") (i := 1) (t := ?t) ?hi ?_ ?hN ?hv ?hd ?hc); (case hi => exact rfl); (case hN => exact rfl); (case hv => first | exact Or.inl rfl | exact Or.inr (Or.inl rfl) | exact Or.inr (Or.inr rfl)); (case hd => decide); (case hc => decide))
  | ((with_reducible refine ew_var (x := "cell") (i := 2) (t := ?t) ?hi ?_ ?hN ?hv ?hd ?hc); (case hi => exact rfl); (case hN => exact rfl); (case hv => first | exact Or.inl rfl | exact Or.inr (Or.inl rfl) | exact Or.inr (Or.inr rfl)); (case hd => decide); (case hc => decide))
  | ((with_reducible refine ew_int (hk := ?_)))
  | ((with_reducible refine ew_bin (h := ?_)))
  | ((with_reducible refine ew_lst (h := ?_)))
  | ((with_reducible refine ew_callB (x := "abs") (id := "abs") (hm := ?hm) (hv := ?hv) (hg := ?hg) (hn := ?hn) (hdb := ?hdb) (he := ?he) (hpl := ?hpl) (h := ?_)); (case hm => exact Mg.abs (by assumption)); (case hv => exact rfl); (case hg => exact rfl); (case hn => decide); (case hdb => decide); (case he => exact rfl); (case hpl => exact rfl))
  | ((with_reducible refine ew_callTy (x := "int") (T' := "int") (hm := ?hm) (hv := ?hv) (hg := ?hg) (hn := ?hn) (hdb := ?hdb) (he := ?he) (hpl := ?hpl) (h := ?_)); (case hm => exact Mg.int (by assumption)); (case hv => exact rfl); (case hg => exact rfl); (case hn => decide); (case hdb => decide); (case he => exact rfl); (case hpl => exact rfl))
  | ((with_reducible refine tw_call (h := ?_)))
  | ((with_reducible refine tw_name (h := ?_)))
  | ((with_reducible refine sw_cons (h := ?_)))
  | ((with_reducible refine sw_nil (h := ?_)))
  | ((with_reducible refine s1_set (x := "seed") (i := 1) ?hN ?hi ?_ ?hx ?hs ?hf); (case hN => exact (scTape).nd); (case hi => exact rfl); (case hx => first | exact Or.inl rfl | exact Or.inr rfl); (case hs => exact rfl); (case hf => first | exact Or.inr rfl | exact Or.inl rfl))
  | ((with_reducible refine s1_set (x := "cell") (i := 2) ?hN ?hi ?_ ?hx ?hs ?hf); (case hN => exact (scTape).nd); (case hi => exact rfl); (case hx => first | exact Or.inl rfl | exact Or.inr rfl); (case hs => exact rfl); (case hf => first | exact Or.inr rfl | exact Or.inl rfl))
  | ((with_reducible refine bw_mul (h := ?h) (hk := ?_)); (case h => decide))
  | ((with_reducible refine bw_add (hk := ?_)))
  | ((with_reducible refine And.intro ?hx ?_); (case hx => exact Nat.le_of_ble_eq_true rfl))
  | (with_reducible refine Exists.intro _ (And.intro rfl ?_))
  | (refine tst_t (by decide +kernel) ?_)
  | (refine tst_f (by decide +kernel) ?_)
  | (refine Exists.intro _ (Exists.intro _ (And.intro rfl (And.intro (by walk_at "pt rdb") ?_))))
  | fail)
theorem ok_law_tape (M : Mg mg) (D : Df K mg "_law_tape" (top 17) ["script"]) (C : All P w K mg base n) : Cl P w K mg base (n + 1) "_law_tape" (cTape (n + 1)) := by
  refine cl_of D scTape (fun ts F S k h => ?_) (fun a hr ts F S k h => ?_)
  · obtain ⟨_, _, _, rfl, _⟩ := h; rfl
  obtain ⟨hn, sc, is, rfl, rfl, hs, hl, q⟩ := h
  refine sw_cons ?_
  repeat' (walk_at "pt 1")
  refine s1_for (g := _) (up := up1 2) (vs := [2]) PassesOwn.never rfl (pg_name (i := 2) scTape.nd rfl (.inl rfl)) (tgt1 (by simp)) ?_
  refine iw_lst ?_
  repeat' (walk_at "pt 1")
  refine ⟨fun i r1 S1 => S1 = [] ∧ ∃ sd o, r1 = [some (.ref sc), some (.int sd), o] ∧ 0 ≤ sd ∧ sd < 1000003, ⟨rfl, 7, none, rfl, by decide, by decide⟩, fun i r1 S1 _ => .inr hs, ?_, ?_⟩
  · rintro i u r1 S2 hu ⟨rfl, sd, o, rfl, h0, h1⟩
    rw [List.getElem?_map] at hu
    obtain ⟨z, hz, rfl⟩ := Option.map_eq_some_iff.mp hu
    refine ⟨_, rfl, ?_⟩
    refine sw_cons ?_
    repeat' (walk_at "pt 1")
    refine bw_mul (.inl ⟨by omega, by omega⟩) ?_
    repeat' (walk_at "pt 1")
    refine cw_int ?_
    repeat' (walk_at "pt 1")
    refine bw_mod (by decide) ?_
    repeat' (walk_at "pt 1")
    exact ⟨rfl, _, _, rfl, Int.fmod_nonneg_of_pos _ (by decide), Int.fmod_lt_of_pos _ (by decide)⟩
  · rintro r1 S2 ⟨rfl, sd, o, rfl, h0, h1⟩
    repeat' (walk_at "pt 1")
    refine s1_retD ?_
    repeat' (walk_at "pt 1")
    refine ew_lc (own := [("cell", 2)]) (g := gName 2) (up := up1 2) rfl scTape.nd ?_ (fun s1 H1 C1 cl1 fp1 => pg_name scTape.nd rfl (.inl rfl)) (tgt1 (by simp)) ?_
    · show BlkOk ["script", "seed", "cell"] (defScope (top 17)) _ _
      exact ⟨rfl, by decide +kernel, by decide +kernel, by decide +kernel, by decide +kernel⟩
    refine iw_lst ?_
    repeat' (walk_at "pt 1")
    refine ⟨fun i acc S1 => acc = ((is.take i).map fun z => if z < 0 then -z else z).map T.int ∧ S1 = [], ⟨rfl, rfl⟩, fun i acc S1 _ => .inr hs, ?_, ?_⟩
    · rintro i u acc S2 hu ⟨rfl, rfl⟩
      rw [List.getElem?_map] at hu
      obtain ⟨z, hz, rfl⟩ := Option.map_eq_some_iff.mp hu
      refine ⟨by simp only [List.length_map, List.length_take]; omega, _, rfl, fun s1 H1 C1 cl1 fp1 => tsw_nil (tst_t rfl fun s2 H2 C2 cl2 fp2 => ?_)⟩
      repeat' (walk_at "pt 1")
      refine cw_int ?_
      repeat' (walk_at "pt 1")
      refine cw_abs ?_
      refine ⟨?_, rfl⟩
      rw [List.take_add_one, hz, List.map_append, List.map_append]; rfl
    · rintro acc S2 ⟨rfl, rfl⟩ b hb
      rw [List.length_map, List.take_length]
      repeat' (walk_at "pt 1")
      intro c hc
      refine ⟨_, List.Sublist.refl _, q c b (sd + 1) (is.map fun z => if z < 0 then -z else z) ⟨fun z hz => ?_, by omega, by omega, by rw [List.length_map]; exact hl⟩⟩
      obtain ⟨y, _, rfl⟩ := List.mem_map.mp hz
      split <;> omega
end
section
theorem scDraw : FnScope ["tape", "many", "cells", "number"] ["tape", "many"] (defScope (top 18)) := ⟨rfl, rfl, rfl, by decide +kernel, rfl, by decide +kernel, by decide +kernel⟩
local macro_rules | `(tactic| walk_at "pt v") => `(tactic| first
  | ((with_reducible refine ew_var (x := "tape") (i := 0) (t := ?t) ?hi ?_ ?hN ?hv ?hd ?hc); (case hi => exact rfl); (case hN => exact rfl); (case hv => first | exact Or.inl rfl | exact Or.inr (Or.inl rfl) | exact Or.inr (Or.inr rfl)); (case hd => decide); (case hc => decide))
  | ((with_reducible refine ew_var (x := "many") (i := 1) (t := ?t) ?hi ?_ ?hN ?hv ?hd ?hc); (case hi => exact rfl); (case hN => exact rfl); (case hv => first | exact Or.inl rfl | exact Or.inr (Or.inl rfl) | exact Or.inr (Or.inr rfl)); (case hd => decide); (case hc => decide))
  | ((with_reducible refine ew_var (x := "cells") (i := 2) (t := ?t) ?hi ?_ ?hN ?hv ?hd ?hc); (case hi => exact rfl); (case hN => exact rfl); (case hv => first | exact Or.inl rfl | exact Or.inr (Or.inl rfl) | exact Or.inr (Or.inr rfl)); (case hd => decide); (case hc => decide))
  | ((with_reducible refine ew_var (x := "number") (i := 3) (t := ?t) ?hi ?_ ?hN ?hv ?hd ?hc); (case hi => exact rfl); (case hN => exact rfl); (case hv => first | exact Or.inl rfl | exact Or.inr (Or.inl rfl) | exact Or.inr (Or.inr rfl)); (case hd => decide); (case hc => decide))
  | ((with_reducible refine s1_set (x := "cells") (i := 2) ?hN ?hi ?_ ?hx ?hs ?hf); (case hN => exact (scDraw).nd); (case hi => exact rfl); (case hx => first | exact Or.inl rfl | exact Or.inr rfl); (case hs => exact rfl); (case hf => first | exact Or.inr rfl | exact Or.inl rfl))
  | ((with_reducible refine s1_set (x := "number") (i := 3) ?hN ?hi ?_ ?hx ?hs ?hf); (case hN => exact (scDraw).nd); (case hi => exact rfl); (case hx => first | exact Or.inl rfl | exact Or.inr rfl); (case hs => exact rfl); (case hf => first | exact Or.inr rfl | exact Or.inl rfl))
  | fail)
local macro_rules | `(tactic| walk_at "pt 1") => `(tactic| first
  | ((with_reducible refine aw_cons (hs := ?hs) (h := ?_)); (case hs => exact rfl))
  | ((with_reducible refine aw_nil (hk := ?_)))
  | ((with_reducible refine ew_sub (h := ?_)))
  | ((with_reducible refine ew_int (hk := ?_)))
  | ((with_reducible refine tw_cmp (hm := ?hm) (h := ?_)); (case hm => exact rfl))
  | ((with_reducible refine ew_cmp (hm := ?hm) (h := ?_)); (case hm => exact rfl))
  | ((with_reducible refine ew_bin (h := ?_)))
  | ((with_reducible refine ew_callTy (x := "int") (T' := "int") (hm := ?hm) (hv := ?hv) (hg := ?hg) (hn := ?hn) (hdb := ?hdb) (he := ?he) (hpl := ?hpl) (h := ?_)); (case hm => exact Mg.int (by assumption)); (case hv => exact rfl); (case hg => exact rfl); (case hn => decide); (case hdb => decide); (case he => exact rfl); (case hpl => exact rfl))
  | ((with_reducible refine ew_callB (x := "len") (id := "len") (hm := ?hm) (hv := ?hv) (hg := ?hg) (hn := ?hn) (hdb := ?hdb) (he := ?he) (hpl := ?hpl) (h := ?_)); (case hm => exact Mg.len (by assumption)); (case hv => exact rfl); (case hg => exact rfl); (case hn => decide); (case hdb => decide); (case he => exact rfl); (case hpl => exact rfl))
  | ((with_reducible refine ew_mth (name := "pop") (id := "list.pop") (rr := rPopAt) (slot := ?slot) (hty := ?hty) (hm := ?hm) (hbase := ?hbase) (hfew := ?hfew) (hline := ?hline) (hs := ?hs) (hplain := ?hplain) (h := ?_)); (case slot => exact PySem.F.slot_list_pop); (case hty => exact PySem.F.type_list_pop); (case hm => exact mt_popAt); (case hbase => exact rfl); (case hfew => exact rfl); (case hline => exact rfl); (case hs => exact rfl); (case hplain => exact rfl))
  | ((with_reducible refine tw_bool (h := ?_)))
  | ((with_reducible refine ww_and (h := ?_)))
  | ((with_reducible refine ww_or (h := ?_)))
  | ((with_reducible refine ww_and1 (h := ?_)))
  | ((with_reducible refine ww_or1 (h := ?_)))
  | ((with_reducible refine ew_and (h := ?_)))
  | ((with_reducible refine ew_or (h := ?_)))
  | ((with_reducible refine ew_one (h := ?_)))
  | ((with_reducible refine tw_call (h := ?_)))
  | ((with_reducible refine tw_name (h := ?_)))
  | ((with_reducible refine sw_cons (h := ?_)))
  | ((with_reducible refine sw_nil (h := ?_)))
  | ((with_reducible refine s1_if (h := ?_)))
  | ((with_reducible refine s1_expr (hs := ?hs) (h := ?_)); (case hs => exact rfl))
  | ((with_reducible refine bw_eqs (h := ?h) (hk := ?_)); (case h => exact rfl))
  | ((with_reducible refine bw_mul (h := ?h) (hk := ?_)); (case h => decide))
  | ((with_reducible refine bw_add (hk := ?_)))
  | ((with_reducible refine bw_gt (hk := ?_)))
  | ((with_reducible refine xw_tup (t := ?t) (he := ?he) (hs := ?hs) (hk := ?_)); (case he => first | exact rfl | exact atT0 | exact atT1); (case hs => exact fun _ _ => rfl))
  | ((with_reducible refine xw_lst (ts := ?ts) (t := ?t) (hp := ?hp) (he := ?he) (hs := ?hs) (hk := ?_)); (case hp => walk_at "pt rdb"); (case he => first | exact rfl | exact atT0 | exact atT1); (case hs => exact fun _ _ => rfl))
  | ((with_reducible refine cw_lenT (hk := ?_)))
  | ((with_reducible refine And.intro ?hx ?_); (case hx => exact Nat.le_of_ble_eq_true rfl))
  | (with_reducible refine Exists.intro _ (And.intro rfl ?_))
  | (refine tst_t (by decide +kernel) ?_)
  | (refine tst_f (by decide +kernel) ?_)
  | (refine Exists.intro _ (Exists.intro _ (And.intro rfl (And.intro (by walk_at "pt rdb") ?_))))
  | walk_at "pt v"
  | fail)
theorem ok_law_draw (M : Mg mg) (D : Df K mg "_law_draw" (top 18) ["tape", "many"]) (C : All P w K mg base n) : Cl P w K mg base (n + 1) "_law_draw" (cDraw (n + 1)) := by
  refine cl_of D scDraw (fun ts F S k h => ?_) (fun a hr ts F S k h => ?_)
  · obtain ⟨_, _, _, _, _, _, rfl, _⟩ := h; rfl
  obtain ⟨hn, ta, tb, seed, ns, many, rfl, rfl, tk, hm0, hm1, q⟩ := h
  simp only [tapeS]
  refine sw_cut (fun r1 S1 => r1 = [some (.ref ta), some (.int many), some (.ref tb), none] ∧ S1 = [(ta, .lst [.ref tb, .int seed]), (tb, .lst (ns.map T.int))]) ?_ ?_
  · repeat' (walk_at "pt 1")
    exact ⟨rfl, rfl⟩
  rintro _ _ ⟨rfl, rfl⟩
  refine sw_cut (fun r1 S1 => r1 = [some (.ref ta), some (.int many), some (.ref tb), none] ∧ ∃ ms : List Int, TapeOk seed ms ∧ S1 = [(ta, .lst [.ref tb, .int seed]), (tb, .lst (ms.map T.int))]) ?_ ?_
  · refine s1_whileW [some (.ref ta), some (.int many), some (.ref tb), none] PassesOwn.never (fun m S => ∃ ms : List Int, TapeOk seed ms ∧ S = [(ta, .lst [.ref tb, .int seed]), (tb, .lst (ms.map T.int))] ∧ m = ms.length) (lessT.refl _) ⟨_, ns, tk, rfl, rfl⟩ ?_
    rintro m S1 ⟨ms, tm, rfl, rfl⟩
    cases ms with
    | nil =>
      repeat' (walk_at "pt 1")
      refine cw_lenL (.inl (.tail _ (.head _))) ?_
      repeat' (walk_at "pt 1")
      exact ⟨rfl, [], tm, rfl⟩
    | cons z zs =>
      have hz := tm.nn z (by simp)
      repeat' (walk_at "pt 1")
      refine cw_lenL (.inl (.tail _ (.head _))) ?_
      repeat' (walk_at "pt 1")
      refine tst_t (decide_eq_true (by first | (simp; done) | (simp; omega))) ?_
      simp only [List.map_cons]
      repeat' (walk_at "pt 1")
      refine ⟨fun hb => ?_, fun hb => ?_⟩
      · repeat' (walk_at "pt 1")
        refine mw_popAt (Sa := [(ta, _)]) (n := 0) (by decide) (by first | (simp [seqIndex?]; done) | (simp [seqIndex?]; omega)) rfl ?_
        repeat' (walk_at "pt 1")
        exact ⟨lessT.refl _, zs.length, by simp, zs, ⟨fun y hy => tm.nn y (by simp [hy]), tm.s0, tm.s1, by have := tm.len; simp at this; omega⟩, rfl, rfl⟩
      · exact ⟨trivial, z :: zs, tm, rfl⟩
  rintro _ _ ⟨rfl, ms, tm, rfl⟩
  cases ms with
  | nil =>
    refine sw_cons ?_
    repeat' (walk_at "pt 1")
    refine cw_lenL (.inl (.tail _ (.head _))) ?_
    repeat' (walk_at "pt 1")
    refine s1_setL ?_
    repeat' (walk_at "pt 1")
    refine bw_mul (.inr (by decide)) ?_
    repeat' (walk_at "pt 1")
    refine cw_int ?_
    repeat' (walk_at "pt 1")
    refine bw_mod (by decide) ?_
    repeat' (walk_at "pt 1")
    refine ⟨ta, [], [(tb, .lst [])], _, 1, 1, rfl, rfl, rfl, rfl, ?_⟩
    have s0 : 0 ≤ (seed * 48271 + 12345).fmod 2147483647 := Int.fmod_nonneg_of_pos _ (by decide)
    have s1 : (seed * 48271 + 12345).fmod 2147483647 < 2147483647 := Int.fmod_lt_of_pos _ (by decide)
    generalize (seed * 48271 + 12345).fmod 2147483647 = sd at *
    show sw _ _ _ _ [(ta, .lst [.ref tb, .int sd]), (tb, .lst [])] _
    repeat' (walk_at "pt 1")
    refine s1_retD ?_
    repeat' (walk_at "pt 1")
    refine bw_fdiv (by decide) ?_
    repeat' (walk_at "pt 1")
    refine cw_int ?_
    repeat' (walk_at "pt 1")
    refine bw_mod (by omega) ?_
    exact ⟨_, List.Sublist.refl _, q _ sd [] (Int.fmod_nonneg_of_pos _ hm0) (Int.fmod_lt_of_pos _ hm0) ⟨fun y hy => (by cases hy), s0, s1, by simp⟩⟩
  | cons z zs =>
    have hz := tm.nn z (by simp)
    refine sw_cons ?_
    repeat' (walk_at "pt 1")
    refine cw_lenL (.inl (.tail _ (.head _))) ?_
    repeat' (walk_at "pt 1")
    refine tst_t (decide_eq_true (by first | (simp; done) | (simp; omega))) ?_
    simp only [List.map_cons]
    refine sw_cons ?_
    repeat' (walk_at "pt 1")
    refine s1_setL ?_
    repeat' (walk_at "pt 1")
    refine bw_fdiv ⟨by omega, by omega⟩ ?_
    repeat' (walk_at "pt 1")
    refine ⟨tb, [(ta, _)], [], _, 0, 0, rfl, rfl, rfl, by simp [ixN], ?_⟩
    show sw _ _ _ _ [(ta, .lst [.ref tb, .int seed]), (tb, .lst (T.int (z.fdiv many) :: zs.map T.int))] _
    repeat' (walk_at "pt 1")
    refine s1_retD ?_
    repeat' (walk_at "pt 1")
    refine cw_int ?_
    repeat' (walk_at "pt 1")
    refine bw_mod (by omega) ?_
    refine ⟨_, List.Sublist.refl _, q _ seed (z.fdiv many :: zs) (Int.fmod_nonneg_of_pos _ hm0) (Int.fmod_lt_of_pos _ hm0) ⟨fun y hy => ?_, tm.s0, tm.s1, by have := tm.len; simpa using this⟩⟩
    rcases List.mem_cons.mp hy with rfl | hy
    · exact Int.fdiv_nonneg hz (by omega)
    · exact tm.nn y (by simp [hy])
end
section
theorem scPick : FnScope ["tape", "row"] ["tape", "row"] (defScope (top 19)) := ⟨rfl, rfl, rfl, by decide +kernel, rfl, by decide +kernel, by decide +kernel⟩
local macro_rules | `(tactic| walk_at "pt 1") => `(tactic| first
  | ((with_reducible refine aw_cons (hs := ?hs) (h := ?_)); (case hs => exact rfl))
  | ((with_reducible refine aw_nil (hk := ?_)))
  | ((with_reducible refine ew_var (x := "tape") (i := 0) (t := ?t) ?hi ?_ ?hN ?hv ?hd ?hc); (case hi => exact rfl); (case hN => exact rfl); (case hv => first | exact Or.inl rfl | exact Or.inr (Or.inl rfl) | exact Or.inr (Or.inr rfl)); (case hd => decide); (case hc => decide))
  | ((with_reducible refine ew_var (x := "row") (i := 1) (t := ?t) ?hi ?_ ?hN ?hv ?hd ?hc); (case hi => exact rfl); (case hN => exact rfl); (case hv => first | exact Or.inl rfl | exact Or.inr (Or.inl rfl) | exact Or.inr (Or.inr rfl)); (case hd => decide); (case hc => decide))
  | ((with_reducible refine ew_sub (h := ?_)))
  | ((with_reducible refine ew_call (x := "_law_draw") (n := ?n) (con := ?con) (C := ?C) (hr := ?hr) (hg := ?hg) (hdb := ?hdb) (he := ?he) (hpl := ?hpl) (h := ?_)); (case C => exact All.c_law_draw (by assumption)); (case hr => assumption); (case hg => exact rfl); (case hdb => decide); (case he => exact rfl); (case hpl => exact rfl))
  | ((with_reducible refine ew_callB (x := "len") (id := "len") (hm := ?hm) (hv := ?hv) (hg := ?hg) (hn := ?hn) (hdb := ?hdb) (he := ?he) (hpl := ?hpl) (h := ?_)); (case hm => exact Mg.len (by assumption)); (case hv => exact rfl); (case hg => exact rfl); (case hn => decide); (case hdb => decide); (case he => exact rfl); (case hpl => exact rfl))
  | ((with_reducible refine tw_call (h := ?_)))
  | ((with_reducible refine tw_name (h := ?_)))
  | ((with_reducible refine sw_cons (h := ?_)))
  | ((with_reducible refine sw_nil (h := ?_)))
  | ((with_reducible refine xw_tup (t := ?t) (he := ?he) (hs := ?hs) (hk := ?_)); (case he => first | exact rfl | exact atT0 | exact atT1); (case hs => exact fun _ _ => rfl))
  | ((with_reducible refine xw_lst (ts := ?ts) (t := ?t) (hp := ?hp) (he := ?he) (hs := ?hs) (hk := ?_)); (case hp => walk_at "pt rdb"); (case he => first | exact rfl | exact atT0 | exact atT1); (case hs => exact fun _ _ => rfl))
  | ((with_reducible refine cw_lenT (hk := ?_)))
  | ((with_reducible refine And.intro ?hx ?_); (case hx => exact Nat.le_of_ble_eq_true rfl))
  | (with_reducible refine Exists.intro _ (And.intro rfl ?_))
  | (refine tst_t (by decide +kernel) ?_)
  | (refine tst_f (by decide +kernel) ?_)
  | (refine Exists.intro _ (Exists.intro _ (And.intro rfl (And.intro (by walk_at "pt rdb") ?_))))
  | fail)
theorem ok_law_pick (M : Mg mg) (D : Df K mg "_law_pick" (top 19) ["tape", "row"]) (C : All P w K mg base n) : Cl P w K mg base (n + 1) "_law_pick" (cPick (n + 1)) := by
  refine cl_of D scPick (fun ts F S k h => ?_) (fun a hr ts F S k h => ?_)
  · obtain ⟨_, _, _, _, _, _, _, rfl, _⟩ := h; rfl
  obtain ⟨hn, ta, tb, row, seed, ns, us, rfl, rfl, tk, hrow, hne, hl, q⟩ := h
  have hpos : 0 < us.length := List.length_pos_iff.mpr hne
  refine sw_cons ?_
  repeat' (walk_at "pt 1")
  refine s1_retD ?_
  repeat' (walk_at "pt 1")
  refine cw_lenL (.inr hrow) ?_
  repeat' (walk_at "pt 1")
  refine ⟨[], tapeS ta tb seed ns, [], [], by simp, by simp, by omega, ta, tb, seed, ns, us.length, rfl, rfl, tk, by omega, by omega, fun i seed' ns' h0 h1 tk' => ?_⟩
  have hi : i.toNat < us.length := by omega
  have ei : i = ((i.toNat : Nat) : Int) := by omega
  have hat : atI us i = some us[i.toNat] := by
    have h := atI_nat (xs := us) (j := i.toNat) (List.getElem?_eq_getElem hi)
    rw [← ei] at h
    exact h
  refine xw_lst (.inr hrow) hat ⟨tapeS ta tb seed' ns', by simp, q _ seed' ns' (List.getElem_mem hi) tk'⟩
end
section
theorem scSaying : FnScope ["tape", "depth", "names", "kind", "word"] ["tape", "depth", "names"] (defScope (top 21)) := ⟨rfl, rfl, rfl, by decide +kernel, rfl, by decide +kernel, by decide +kernel⟩
local macro_rules | `(tactic| walk_at "pt v") => `(tactic| first
  | ((with_reducible refine ew_var (x := "tape") (i := 0) (t := ?t) ?hi ?_ ?hN ?hv ?hd ?hc); (case hi => exact rfl); (case hN => exact rfl); (case hv => first | exact Or.inl rfl | exact Or.inr (Or.inl rfl) | exact Or.inr (Or.inr rfl)); (case hd => decide); (case hc => decide))
  | ((with_reducible refine ew_var (x := "depth") (i := 1) (t := ?t) ?hi ?_ ?hN ?hv ?hd ?hc); (case hi => exact rfl); (case hN => exact rfl); (case hv => first | exact Or.inl rfl | exact Or.inr (Or.inl rfl) | exact Or.inr (Or.inr rfl)); (case hd => decide); (case hc => decide))
  | ((with_reducible refine ew_var (x := "names") (i := 2) (t := ?t) ?hi ?_ ?hN ?hv ?hd ?hc); (case hi => exact rfl); (case hN => exact rfl); (case hv => first | exact Or.inl rfl | exact Or.inr (Or.inl rfl) | exact Or.inr (Or.inr rfl)); (case hd => decide); (case hc => decide))
  | ((with_reducible refine ew_var (x := "kind") (i := 3) (t := ?t) ?hi ?_ ?hN ?hv ?hd ?hc); (case hi => exact rfl); (case hN => exact rfl); (case hv => first | exact Or.inl rfl | exact Or.inr (Or.inl rfl) | exact Or.inr (Or.inr rfl)); (case hd => decide); (case hc => decide))
  | ((with_reducible refine ew_var (x := "word") (i := 4) (t := ?t) ?hi ?_ ?hN ?hv ?hd ?hc); (case hi => exact rfl); (case hN => exact rfl); (case hv => first | exact Or.inl rfl | exact Or.inr (Or.inl rfl) | exact Or.inr (Or.inr rfl)); (case hd => decide); (case hc => decide))
  | ((with_reducible refine s1_set (x := "kind") (i := 3) ?hN ?hi ?_ ?hx ?hs ?hf); (case hN => exact (scSaying).nd); (case hi => exact rfl); (case hx => first | exact Or.inl rfl | exact Or.inr rfl); (case hs => exact rfl); (case hf => first | exact Or.inr rfl | exact Or.inl rfl))
  | ((with_reducible refine s1_set (x := "word") (i := 4) ?hN ?hi ?_ ?hx ?hs ?hf); (case hN => exact (scSaying).nd); (case hi => exact rfl); (case hx => first | exact Or.inl rfl | exact Or.inr rfl); (case hs => exact rfl); (case hf => first | exact Or.inr rfl | exact Or.inl rfl))
  | fail)
local macro_rules | `(tactic| walk_at "pt 1") => `(tactic| first
  | ((with_reducible refine aw_cons (hs := ?hs) (h := ?_)); (case hs => exact rfl))
  | ((with_reducible refine aw_nil (hk := ?_)))
  | ((with_reducible refine ew_sub (h := ?_)))
  | ((with_reducible refine ew_str (hk := ?_)))
  | ((with_reducible refine ew_int (hk := ?_)))
  | ((with_reducible refine ew_tup (h := ?_)))
  | ((with_reducible refine tw_cmp (hm := ?hm) (h := ?_)); (case hm => exact rfl))
  | ((with_reducible refine ew_cmp (hm := ?hm) (h := ?_)); (case hm => exact rfl))
  | ((with_reducible refine ew_bin (h := ?_)))
  | ((with_reducible refine ew_lst (h := ?_)))
  | ((with_reducible refine ew_call (x := "_law_draw") (n := ?n) (con := ?con) (C := ?C) (hr := ?hr) (hg := ?hg) (hdb := ?hdb) (he := ?he) (hpl := ?hpl) (h := ?_)); (case C => exact All.c_law_draw (by assumption)); (case hr => assumption); (case hg => exact rfl); (case hdb => decide); (case he => exact rfl); (case hpl => exact rfl))
  | ((with_reducible refine ew_call (x := "_law_pick") (n := ?n) (con := ?con) (C := ?C) (hr := ?hr) (hg := ?hg) (hdb := ?hdb) (he := ?he) (hpl := ?hpl) (h := ?_)); (case C => exact All.c_law_pick (by assumption)); (case hr => assumption); (case hg => exact rfl); (case hdb => decide); (case he => exact rfl); (case hpl => exact rfl))
  | ((with_reducible refine ew_call (x := "_law_saying") (n := ?n) (con := ?con) (C := ?C) (hr := ?hr) (hg := ?hg) (hdb := ?hdb) (he := ?he) (hpl := ?hpl) (h := ?_)); (case C => exact All.c_law_saying (by assumption)); (case hr => assumption); (case hg => exact rfl); (case hdb => decide); (case he => exact rfl); (case hpl => exact rfl))
  | ((with_reducible refine ew_ifExp (h := ?_)))
  | ((with_reducible refine tw_bool (h := ?_)))
  | ((with_reducible refine ww_and (h := ?_)))
  | ((with_reducible refine ww_or (h := ?_)))
  | ((with_reducible refine ww_and1 (h := ?_)))
  | ((with_reducible refine ww_or1 (h := ?_)))
  | ((with_reducible refine ew_and (h := ?_)))
  | ((with_reducible refine ew_or (h := ?_)))
  | ((with_reducible refine ew_one (h := ?_)))
  | ((with_reducible refine tw_call (h := ?_)))
  | ((with_reducible refine tw_name (h := ?_)))
  | ((with_reducible refine sw_cons (h := ?_)))
  | ((with_reducible refine sw_nil (h := ?_)))
  | ((with_reducible refine s1_if (h := ?_)))
  | ((with_reducible refine bw_eqs (h := ?h) (hk := ?_)); (case h => exact rfl))
  | ((with_reducible refine bw_sub (hk := ?_)))
  | ((with_reducible refine bw_lt (hk := ?_)))
  | ((with_reducible refine bw_gt (hk := ?_)))
  | ((with_reducible refine xw_tup (t := ?t) (he := ?he) (hs := ?hs) (hk := ?_)); (case he => first | exact rfl | exact atT0 | exact atT1); (case hs => exact fun _ _ => rfl))
  | ((with_reducible refine xw_lst (ts := ?ts) (t := ?t) (hp := ?hp) (he := ?he) (hs := ?hs) (hk := ?_)); (case hp => walk_at "pt rdb"); (case he => first | exact rfl | exact atT0 | exact atT1); (case hs => exact fun _ _ => rfl))
  | (with_reducible refine fresh_i fun _ _ => ?_)
  | ((with_reducible refine And.intro ?hx ?_); (case hx => exact Nat.le_of_ble_eq_true rfl))
  | (with_reducible refine Exists.intro _ (And.intro rfl ?_))
  | (refine tst_t (by decide +kernel) ?_)
  | (refine tst_f (by decide +kernel) ?_)
  | (refine Exists.intro _ (Exists.intro _ (And.intro rfl (And.intro (by walk_at "pt rdb") ?_))))
  | walk_at "pt v"
  | fail)
theorem saying_rest (C : All P w K mg base n) (a : BA) (hr : Room n (bx P w K mg base ["tape", "depth", "names", "kind", "word"] "_law_saying" (top 21) a).A) (F : Sto) (k : T → Sto → Prop) (ta tb nz : Addr) (seed : Int) (ns : List Int) (d : Nat) (xs : List Nm) (kd : Int)
    (tk : TapeOk seed ns) (hnz : (nz, .lst (xs.map fun x => .str x.s)) ∈ F) (hne : xs ≠ []) (hxl : xs.length ≤ 1000) (hn : d + 3 ≤ n + 1) (h0 : 0 ≤ kd) (h1 : d = 0 → kd < 2)
    (q : ∀ (s : Say) seed' ns', s.dep ≤ d + 1 → s.atoms ⊆ xs → TapeOk seed' ns' → k s.t (tapeS ta tb seed' ns')) :
    sw F (bx P w K mg base ["tape", "depth", "names", "kind", "word"] "_law_saying" (top 21) a) ((defBody (top 21)).drop 1) [some (.ref ta), some (.int d), some (.ref nz), some (.int kd), none] (tapeS ta tb seed ns) { nx := fun _ S' => k .non S', rt := k } := by
  refine sw_cut (fun r1 S1 => r1 = [some (.ref ta), some (.int d), some (.ref nz), some (.int kd), none] ∧ ∃ sd ms, TapeOk sd ms ∧ S1 = tapeS ta tb sd ms) ?_ ?_
  · repeat' (walk_at "pt 1")
    refine ⟨fun hb => ?_, fun hb => ?_⟩
    · repeat' (walk_at "pt 1")
      refine ⟨[], tapeS ta tb seed ns, [], [], by simp, by simp, by omega, ta, tb, seed, ns, 4, rfl, rfl, tk, by decide, by decide, fun i seed' ns' i0 i1 tk' => ?_⟩
      simp only [List.nil_append, List.append_nil]
      repeat' (walk_at "pt 1")
      refine ⟨fun hb2 => ?_, fun hb2 => ?_⟩
      · repeat' (walk_at "pt 1")
        refine s1_retD ?_
        repeat' (walk_at "pt 1")
        exact ⟨_, List.Sublist.refl _, q .fls seed' ns' (by simp [Say.dep]) (by simp [Say.atoms]) tk'⟩
      · repeat' (walk_at "pt 1")
        exact ⟨rfl, seed', ns', tk', rfl⟩
    · repeat' (walk_at "pt 1")
      exact ⟨rfl, seed, ns, tk, rfl⟩
  rintro _ _ ⟨rfl, sd, ms, tm, rfl⟩
  refine sw_cons ?_
  repeat' (walk_at "pt 1")
  refine ⟨fun hb => ?_, fun hb => ?_⟩
  · repeat' (walk_at "pt 1")
    refine s1_retD ?_
    repeat' (walk_at "pt 1")
    refine ⟨[], tapeS ta tb sd ms, [], [(nz, .lst (xs.map fun x => .str x.s))], by simp, fun p hp => by rw [List.mem_singleton.mp hp]; exact .inl hnz, by omega, ta, tb, nz, sd, ms, xs.map fun x => .str x.s, rfl, rfl, tm, .head _, by simpa using hne, by simpa using hxl, fun t sd' ms' ht tk' => ?_⟩
    obtain ⟨x, hx, rfl⟩ := List.mem_map.mp ht
    simp only [List.nil_append, List.append_nil]
    repeat' (walk_at "pt 1")
    exact ⟨_, List.Sublist.refl _, q (.atom x) sd' ms' (by simp [Say.dep]) (by simp [Say.atoms, hx]) tk'⟩
  · have hk2 : ¬ kd < 2 := of_decide_eq_false hb
    obtain ⟨d', rfl⟩ : ∃ d', d = d' + 1 := ⟨d - 1, by by_cases e : d = 0; exact absurd (h1 e) hk2; omega⟩
    have ed : ((d' + 1 : Nat) : Int) - 1 = (d' : Int) := by omega
    repeat' (walk_at "pt 1")
    refine ⟨fun hb2 => ?_, fun hb2 => ?_⟩
    · repeat' (walk_at "pt 1")
      refine s1_retD ?_
      repeat' (walk_at "pt 1")
      rw [ed]
      repeat' (walk_at "pt 1")
      refine ⟨[], tapeS ta tb sd ms, [], [(nz, .lst (xs.map fun x => .str x.s))], by simp, fun p hp => by rw [List.mem_singleton.mp hp]; exact .inl hnz, ta, tb, nz, sd, ms, d', xs, by simp, rfl, tm, .head _, hne, hxl, by omega, fun u sd1 ms1 hd1 ha1 tk1 => ?_⟩
      simp only [List.nil_append, List.append_nil]
      repeat' (walk_at "pt 1")
      exact ⟨_, List.Sublist.refl _, q (.bin .thn u .fls) sd1 ms1 (by have := u.dep1; simp only [Say.dep]; omega) (by simpa [Say.atoms] using ha1) tk1⟩
    · repeat' (walk_at "pt 1")
      rename_i l hl
      refine ⟨[(l, .lst [.str "then", .str "and", .str "or"])], tapeS ta tb sd ms, [], [], by simp, by simp, by omega, ta, tb, sd, ms, 3, rfl, rfl, tm, by decide, by decide, fun i sd0 ms0 i0 i1 tk0 => ?_⟩
      simp only [List.cons_append, List.nil_append, List.append_nil]
      have hi : i = 0 ∨ i = 1 ∨ i = 2 := by omega
      rcases hi with rfl | rfl | rfl
      · refine xw_lst (.inl (.head _)) rfl ?_
        repeat' (walk_at "pt 1")
        refine s1_retD ?_
        repeat' (walk_at "pt 1")
        rw [ed]
        repeat' (walk_at "pt 1")
        refine ⟨[(l, .lst [.str "then", .str "and", .str "or"])], tapeS ta tb sd0 ms0, [], [(nz, .lst (xs.map fun x => .str x.s))], by simp, fun p hp => by rw [List.mem_singleton.mp hp]; exact .inl hnz, ta, tb, nz, sd0, ms0, d', xs, rfl, rfl, tk0, .head _, hne, hxl, by omega, fun u sd1 ms1 hd1 ha1 tk1 => ?_⟩
        simp only [List.cons_append, List.nil_append, List.append_nil]
        repeat' (walk_at "pt 1")
        rw [ed]
        repeat' (walk_at "pt 1")
        refine ⟨[(l, .lst [.str "then", .str "and", .str "or"])], tapeS ta tb sd1 ms1, [], [(nz, .lst (xs.map fun x => .str x.s))], by simp, fun p hp => by rw [List.mem_singleton.mp hp]; exact .inl hnz, ta, tb, nz, sd1, ms1, d', xs, rfl, rfl, tk1, .head _, hne, hxl, by omega, fun v sd2 ms2 hd2 ha2 tk2 => ?_⟩
        simp only [List.cons_append, List.nil_append, List.append_nil]
        repeat' (walk_at "pt 1")
        exact ⟨_, List.sublist_cons_self _ _, q (.bin .thn u v) sd2 ms2 (by simp only [Say.dep]; omega) (by simp only [Say.atoms]; exact List.append_subset.mpr ⟨ha1, ha2⟩) tk2⟩
      · refine xw_lst (.inl (.head _)) rfl ?_
        repeat' (walk_at "pt 1")
        refine s1_retD ?_
        repeat' (walk_at "pt 1")
        rw [ed]
        repeat' (walk_at "pt 1")
        refine ⟨[(l, .lst [.str "then", .str "and", .str "or"])], tapeS ta tb sd0 ms0, [], [(nz, .lst (xs.map fun x => .str x.s))], by simp, fun p hp => by rw [List.mem_singleton.mp hp]; exact .inl hnz, ta, tb, nz, sd0, ms0, d', xs, rfl, rfl, tk0, .head _, hne, hxl, by omega, fun u sd1 ms1 hd1 ha1 tk1 => ?_⟩
        simp only [List.cons_append, List.nil_append, List.append_nil]
        repeat' (walk_at "pt 1")
        rw [ed]
        repeat' (walk_at "pt 1")
        refine ⟨[(l, .lst [.str "then", .str "and", .str "or"])], tapeS ta tb sd1 ms1, [], [(nz, .lst (xs.map fun x => .str x.s))], by simp, fun p hp => by rw [List.mem_singleton.mp hp]; exact .inl hnz, ta, tb, nz, sd1, ms1, d', xs, rfl, rfl, tk1, .head _, hne, hxl, by omega, fun v sd2 ms2 hd2 ha2 tk2 => ?_⟩
        simp only [List.cons_append, List.nil_append, List.append_nil]
        repeat' (walk_at "pt 1")
        exact ⟨_, List.sublist_cons_self _ _, q (.bin .and u v) sd2 ms2 (by simp only [Say.dep]; omega) (by simp only [Say.atoms]; exact List.append_subset.mpr ⟨ha1, ha2⟩) tk2⟩
      · refine xw_lst (.inl (.head _)) rfl ?_
        repeat' (walk_at "pt 1")
        refine s1_retD ?_
        repeat' (walk_at "pt 1")
        rw [ed]
        repeat' (walk_at "pt 1")
        refine ⟨[(l, .lst [.str "then", .str "and", .str "or"])], tapeS ta tb sd0 ms0, [], [(nz, .lst (xs.map fun x => .str x.s))], by simp, fun p hp => by rw [List.mem_singleton.mp hp]; exact .inl hnz, ta, tb, nz, sd0, ms0, d', xs, rfl, rfl, tk0, .head _, hne, hxl, by omega, fun u sd1 ms1 hd1 ha1 tk1 => ?_⟩
        simp only [List.cons_append, List.nil_append, List.append_nil]
        repeat' (walk_at "pt 1")
        rw [ed]
        repeat' (walk_at "pt 1")
        refine ⟨[(l, .lst [.str "then", .str "and", .str "or"])], tapeS ta tb sd1 ms1, [], [(nz, .lst (xs.map fun x => .str x.s))], by simp, fun p hp => by rw [List.mem_singleton.mp hp]; exact .inl hnz, ta, tb, nz, sd1, ms1, d', xs, rfl, rfl, tk1, .head _, hne, hxl, by omega, fun v sd2 ms2 hd2 ha2 tk2 => ?_⟩
        simp only [List.cons_append, List.nil_append, List.append_nil]
        repeat' (walk_at "pt 1")
        exact ⟨_, List.sublist_cons_self _ _, q (.bin .or u v) sd2 ms2 (by simp only [Say.dep]; omega) (by simp only [Say.atoms]; exact List.append_subset.mpr ⟨ha1, ha2⟩) tk2⟩
theorem ok_law_saying (D : Df K mg "_law_saying" (top 21) ["tape", "depth", "names"]) (C : All P w K mg base n) : Cl P w K mg base (n + 1) "_law_saying" (cSaying (n + 1)) := by
  refine cl_of D scSaying (fun ts F S k h => ?_) (fun a hr ts F S k h => ?_)
  · obtain ⟨_, _, _, _, _, _, _, rfl, _⟩ := h; rfl
  obtain ⟨ta, tb, nz, seed, ns, d, xs, rfl, rfl, tk, hnz, hne, hxl, hn, q⟩ := h
  refine sw_cut (sts := (defBody (top 21)).drop 1) (fun r1 S1 => ∃ kd sd ms, r1 = [some (.ref ta), some (.int d), some (.ref nz), some (.int kd), none] ∧ 0 ≤ kd ∧ (d = 0 → kd < 2) ∧ TapeOk sd ms ∧ S1 = tapeS ta tb sd ms) ?_ ?_
  · repeat' (walk_at "pt 1")
    refine ⟨fun hb => ?_, fun hb => ?_⟩
    · have hd : (d : Int) > 0 := of_decide_eq_true hb
      repeat' (walk_at "pt 1")
      refine ⟨[], tapeS ta tb seed ns, [], [], by simp, by simp, by omega, ta, tb, seed, ns, 8, rfl, rfl, tk, by decide, by decide, fun i seed' ns' i0 i1 tk' => ?_⟩
      simp only [List.nil_append, List.append_nil]
      repeat' (walk_at "pt 1")
      exact ⟨i, seed', ns', rfl, i0, by omega, tk', rfl⟩
    · repeat' (walk_at "pt 1")
      refine ⟨[], tapeS ta tb seed ns, [], [], by simp, by simp, by omega, ta, tb, seed, ns, 2, rfl, rfl, tk, by decide, by decide, fun i seed' ns' i0 i1 tk' => ?_⟩
      simp only [List.nil_append, List.append_nil]
      repeat' (walk_at "pt 1")
      exact ⟨i, seed', ns', rfl, i0, fun _ => i1, tk', rfl⟩
  rintro _ _ ⟨kd, sd, ms, rfl, h0, h1, tm, rfl⟩
  exact saying_rest C a hr F k ta tb nz sd ms d xs kd tm hnz hne hxl hn h0 h1 q
end
end
set_option Elab.async false
set_option linter.all false
set_option maxRecDepth 100000
set_option maxHeartbeats 4000000
set_option autoImplicit false
set_option pp.maxSteps 600
section
variable {P : Program} {w : World} {K : PySem.W.Frag} {mg : Str → Option Value} {base : Heap} {n : Nat}
theorem valT_nmD (xs : List Nm) (x : Nm) : valT (nmD xs) (.inr x.s) = if x ∈ xs then some (.bl true) else none := by
  induction xs with
  | nil => rfl
  | cons y xs ih =>
    unfold valT at ih ⊢
    rw [nmD, List.map_cons]
    by_cases e : y = x
    · subst e; simp
    · have ne : ¬ (Sum.inr y.s : Key) = Sum.inr x.s := fun z => e (Nm.inj.mp (by simpa using z))
      rw [List.find?_cons_of_neg (by simpa using ne), ih]
      by_cases m : x ∈ xs
      · rw [if_pos m, if_pos (List.mem_cons_of_mem _ m)]
      · rw [if_neg m, if_neg (by simp only [List.mem_cons, not_or]; exact ⟨fun z => e z.symm, m⟩)]
theorem putD (xs : List Nm) (x : Nm) : putT (nmD xs) (.inr x.s) (.bl true) = nmD (if x ∈ xs then xs else xs ++ [x]) := by
  unfold putT
  have e : ((nmD xs).any fun kv => decide (kv.1 = (Sum.inr x.s : Key))) = decide (x ∈ xs) := by
    rw [nmD, List.any_map]
    rw [Bool.eq_iff_iff, List.any_eq_true, decide_eq_true_eq]
    constructor
    · rintro ⟨y, hy, e⟩
      have : y = x := Nm.inj.mp (by simpa using e)
      rw [← this]; exact hy
    · exact fun h => ⟨x, h, by simp⟩
  rw [e]
  by_cases m : x ∈ xs
  · rw [if_pos (by simpa using m), if_pos m]
    rw [nmD, List.map_map]
    apply List.map_congr_left
    intro y _
    show (if (Sum.inr y.s : Key) = Sum.inr x.s then ((Sum.inr y.s : Key), T.bl true) else (Sum.inr y.s, .bl true)) = _
    split <;> rfl
  · rw [if_neg (by simpa using m), if_neg m, nmD, nmD, List.map_append]
    rfl
theorem mergeD : ∀ (xs acc : List Nm), mergeT (nmD acc) (nmD xs) = nmD (nubA acc xs)
  | [], acc => rfl
  | x :: xs, acc => by
    show mergeT (putT (nmD acc) (.inr x.s) (.bl true)) (nmD xs) = nmD (if x ∈ acc then nubA acc xs else nubA (acc ++ [x]) xs)
    rw [putD, mergeD xs]
    split <;> rfl
theorem nubA_mem : ∀ (xs acc : List Nm) (z : Nm), z ∈ nubA acc xs ↔ z ∈ acc ∨ z ∈ xs
  | [], acc, z => by simp [nubA]
  | x :: xs, acc, z => by
    show z ∈ (if x ∈ acc then _ else _) ↔ _
    split
    · rename_i h
      rw [nubA_mem xs]
      simp only [List.mem_cons]
      exact ⟨fun q => q.elim .inl fun q => .inr (.inr q), fun q => q.elim .inl fun q => q.elim (fun e => .inl (by rw [e]; exact h)) .inr⟩
    · rw [nubA_mem xs]
      simp only [List.mem_append, List.mem_cons, List.not_mem_nil, or_false]
      exact or_assoc
theorem nubA_nd : ∀ (xs acc : List Nm), acc.Nodup → (nubA acc xs).Nodup
  | [], acc, h => h
  | x :: xs, acc, h => by
    show (if x ∈ acc then _ else _ : List Nm).Nodup
    split
    · exact nubA_nd xs acc h
    · rename_i m
      exact nubA_nd xs _ (List.nodup_append.mpr ⟨h, by simp, fun a ha b hb e => m (by simp at hb; rw [← hb, ← e]; exact ha)⟩)
def Say.items : Say → List Sx
  | .atom x => [.w "atom", .w x.s]
  | .fls => [.w "false"]
  | .bin v a b => [.w v.s, .s a, .s b]
theorem Say.form : ∀ s : Say, s.t = .tup (s.items.map Sx.t)
  | .atom _ => rfl
  | .fls => rfl
  | .bin _ _ _ => rfl
theorem Say.items_eq : ∀ {a b : Say}, a.items = b.items → a = b
  | .atom x, .atom y, h => by simp [Say.items] at h; rw [Nm.inj.mp h]
  | .fls, .fls, _ => rfl
  | .bin v a b, .bin u c d, h => by
    simp only [Say.items, List.cons.injEq, Sx.w.injEq, Sx.s.injEq, and_true] at h
    obtain ⟨h1, h2, h3⟩ := h
    have : v = u := by cases v <;> cases u <;> first | rfl | exact absurd h1 (by decide +kernel)
    rw [this, h2, h3]
  | .atom x, .fls, h => by simp [Say.items] at h
  | .atom x, .bin v c d, h => by simp [Say.items] at h
  | .fls, .atom x, h => by simp [Say.items] at h
  | .fls, .bin v c d, h => by simp [Say.items] at h
  | .bin v a b, .fls, h => by simp [Say.items] at h
  | .bin v a b, .atom x, h => by simp [Say.items] at h
theorem Say.items_lvl {s : Say} {x : Sx} (h : x ∈ s.items) : x.lvl + 1 ≤ s.dep + 1 := by
  cases s with
  | atom y => simp [Say.items] at h; rcases h with rfl | rfl <;> simp [Sx.lvl, Say.dep]
  | fls => simp [Say.items] at h; subst h; simp [Sx.lvl, Say.dep]
  | bin v a b =>
    have := a.dep1
    have := b.dep1
    simp [Say.items] at h
    rcases h with rfl | rfl | rfl <;> simp only [Sx.lvl, Say.dep] <;> omega
theorem Say.items_few (s : Say) : s.items.length ≤ 3 := by cases s <;> simp [Say.items]
theorem all_same {xs ys : List Sx} (hl : xs.length = ys.length) : ((List.range xs.length).map fun i => decide (xs[i]? = ys[i]?)).all id = decide (xs = ys) := by
  rw [List.all_map]
  by_cases h : xs = ys
  · subst h; simp
  · simp only [h, decide_false]
    rw [Bool.eq_false_iff]
    intro z
    apply h
    apply List.ext_getElem? 
    intro i
    by_cases hi : i < xs.length
    · have := List.all_eq_true.mp z i (by simpa using hi)
      simpa using this
    · rw [List.getElem?_eq_none (by omega), List.getElem?_eq_none (by omega)]
section
theorem scSame : FnScope ["one", "other", "k"] ["one", "other"] (defScope (top 20)) := ⟨rfl, rfl, rfl, by decide +kernel, rfl, by decide +kernel, by decide +kernel⟩
local macro_rules | `(tactic| walk_at "pt 1") => `(tactic| first
  | ((with_reducible refine aw_cons (hs := ?hs) (h := ?_)); (case hs => exact rfl))
  | ((with_reducible refine aw_nil (hk := ?_)))
  | ((with_reducible refine ew_var (x := "one") (i := 0) (t := ?t) ?hi ?_ ?hN ?hv ?hd ?hc); (case hi => exact rfl); (case hN => exact rfl); (case hv => first | exact Or.inl rfl | exact Or.inr (Or.inl rfl) | exact Or.inr (Or.inr rfl)); (case hd => decide); (case hc => decide))
  | ((with_reducible refine ew_var (x := "other") (i := 1) (t := ?t) ?hi ?_ ?hN ?hv ?hd ?hc); (case hi => exact rfl); (case hN => exact rfl); (case hv => first | exact Or.inl rfl | exact Or.inr (Or.inl rfl) | exact Or.inr (Or.inr rfl)); (case hd => decide); (case hc => decide))
  | ((with_reducible refine ew_var (x := "k") (i := 2) (t := ?t) ?hi ?_ ?hN ?hv ?hd ?hc); (case hi => exact rfl); (case hN => exact rfl); (case hv => first | exact Or.inl rfl | exact Or.inr (Or.inl rfl) | exact Or.inr (Or.inr rfl)); (case hd => decide); (case hc => decide))
  | ((with_reducible refine ew_sub (h := ?_)))
  | ((with_reducible refine ew_bl (hk := ?_)))
  | ((with_reducible refine tw_cmp (hm := ?hm) (h := ?_)); (case hm => exact rfl))
  | ((with_reducible refine ew_cmp (hm := ?hm) (h := ?_)); (case hm => exact rfl))
  | ((with_reducible refine ew_callF (x := "_law_same") (n := ?n) (pre := ?pre) (C := ?C) (hr := ?hr) (hg := ?hg) (hdb := ?hdb) (he := ?he) (hpl := ?hpl) (h := ?_)); (case C => exact All.c_law_same (by assumption)); (case hr => assumption); (case hg => exact rfl); (case hdb => decide); (case he => exact rfl); (case hpl => exact rfl))
  | ((with_reducible refine ew_callB (x := "all") (id := "all") (hm := ?hm) (hv := ?hv) (hg := ?hg) (hn := ?hn) (hdb := ?hdb) (he := ?he) (hpl := ?hpl) (h := ?_)); (case hm => exact Mg.all (by assumption)); (case hv => exact rfl); (case hg => exact rfl); (case hn => decide); (case hdb => decide); (case he => exact rfl); (case hpl => exact rfl))
  | ((with_reducible refine ew_callB (x := "isinstance") (id := "isinstance") (hm := ?hm) (hv := ?hv) (hg := ?hg) (hn := ?hn) (hdb := ?hdb) (he := ?he) (hpl := ?hpl) (h := ?_)); (case hm => exact Mg.isinstance (by assumption)); (case hv => exact rfl); (case hg => exact rfl); (case hn => decide); (case hdb => decide); (case he => exact rfl); (case hpl => exact rfl))
  | ((with_reducible refine ew_callB (x := "len") (id := "len") (hm := ?hm) (hv := ?hv) (hg := ?hg) (hn := ?hn) (hdb := ?hdb) (he := ?he) (hpl := ?hpl) (h := ?_)); (case hm => exact Mg.len (by assumption)); (case hv => exact rfl); (case hg => exact rfl); (case hn => decide); (case hdb => decide); (case he => exact rfl); (case hpl => exact rfl))
  | ((with_reducible refine tw_not (h := ?_)))
  | ((with_reducible refine ew_not (h := ?_)))
  | ((with_reducible refine tw_bool (h := ?_)))
  | ((with_reducible refine ww_and (h := ?_)))
  | ((with_reducible refine ww_or (h := ?_)))
  | ((with_reducible refine ww_and1 (h := ?_)))
  | ((with_reducible refine ww_or1 (h := ?_)))
  | ((with_reducible refine ew_and (h := ?_)))
  | ((with_reducible refine ew_or (h := ?_)))
  | ((with_reducible refine ew_one (h := ?_)))
  | ((with_reducible refine ew_bltTy (x := "str") (n := "str") (hm := ?hm) (hv := ?hv) (hg := ?hg) (hn := ?hn) (hd := ?hd) (hk := ?_)); (case hm => exact Mg.str (by assumption)); (case hv => exact rfl); (case hg => exact rfl); (case hn => decide); (case hd => decide))
  | ((with_reducible refine ew_bltTy (x := "tuple") (n := "tuple") (hm := ?hm) (hv := ?hv) (hg := ?hg) (hn := ?hn) (hd := ?hd) (hk := ?_)); (case hm => exact Mg.tuple (by assumption)); (case hv => exact rfl); (case hg => exact rfl); (case hn => decide); (case hd => decide))
  | ((with_reducible refine ew_bltTy (x := "int") (n := "int") (hm := ?hm) (hv := ?hv) (hg := ?hg) (hn := ?hn) (hd := ?hd) (hk := ?_)); (case hm => exact Mg.int (by assumption)); (case hv => exact rfl); (case hg => exact rfl); (case hn => decide); (case hd => decide))
  | ((with_reducible refine tw_call (h := ?_)))
  | ((with_reducible refine tw_name (h := ?_)))
  | ((with_reducible refine sw_cons (h := ?_)))
  | ((with_reducible refine sw_nil (h := ?_)))
  | ((with_reducible refine s1_ret0 (h := ?_)))
  | ((with_reducible refine s1_if (h := ?_)))
  | ((with_reducible refine s1_set (x := "k") (i := 2) ?hN ?hi ?_ ?hx ?hs ?hf); (case hN => exact (scSame).nd); (case hi => exact rfl); (case hx => first | exact Or.inl rfl | exact Or.inr rfl); (case hs => exact rfl); (case hf => first | exact Or.inr rfl | exact Or.inl rfl))
  | ((with_reducible refine bw_eqs (h := ?h) (hk := ?_)); (case h => exact rfl))
  | ((with_reducible refine bw_nes (h := ?h) (hk := ?_)); (case h => exact rfl))
  | ((with_reducible refine xw_tup (t := ?t) (he := ?he) (hs := ?hs) (hk := ?_)); (case he => first | exact rfl | exact atT0 | exact atT1); (case hs => exact fun _ _ => rfl))
  | ((with_reducible refine xw_lst (ts := ?ts) (t := ?t) (hp := ?hp) (he := ?he) (hs := ?hs) (hk := ?_)); (case hp => walk_at "pt rdb"); (case he => first | exact rfl | exact atT0 | exact atT1); (case hs => exact fun _ _ => rfl))
  | ((with_reducible refine cw_lenT (hk := ?_)))
  | ((with_reducible refine And.intro ?hx ?_); (case hx => exact Nat.le_of_ble_eq_true rfl))
  | (with_reducible refine Exists.intro _ (And.intro rfl ?_))
  | (refine tst_t (by decide +kernel) ?_)
  | (refine tst_f (by decide +kernel) ?_)
  | (refine Exists.intro _ (Exists.intro _ (And.intro rfl (And.intro (by walk_at "pt rdb") ?_))))
  | fail)
theorem ok_law_same (M : Mg mg) (D : Df K mg "_law_same" (top 20) ["one", "other"]) (C : All P w K mg base n) : Cl P w K mg base (n + 1) "_law_same" (Fn (pSame (n + 1))) := by
  refine cl_of D scSame (fun ts F S k h => ?_) (fun a hr ts F S k h => ?_)
  · obtain ⟨_, _, _, rfl, _⟩ := h; rfl
  obtain ⟨rfl, x, y, rfl, hl, q⟩ := h
  cases x with
  | s u =>
    cases y with
    | s v =>
      simp only [Sx.t]
      rw [u.form, v.form]
      refine sw_cons ?_
      repeat' (walk_at "pt 1")
      refine cw_isi (n := "tuple") (b := true) rfl rfl ?_
      repeat' (walk_at "pt 1")
      refine cw_isi (n := "tuple") (b := true) rfl rfl ?_
      repeat' (walk_at "pt 1")
      refine cw_isi (n := "tuple") (b := true) rfl rfl ?_
      repeat' (walk_at "pt 1")
      have hlen : u.items.length = v.items.length ∨ u.items.length ≠ v.items.length := Classical.em _
      simp only [List.length_map]
      refine ⟨fun hb => ?_, fun hb => ?_⟩
      · have ne : u ≠ v := fun e => by subst e; simp [T.sEq] at hb
        repeat' (walk_at "pt 1")
        have : decide (Sx.s u = Sx.s v) = false := by simpa using ne
        rw [this] at q
        exact q
      · have hle : u.items.length = v.items.length := by
          have : (u.items.length : Int) = v.items.length := by simpa [T.sEq] using hb
          omega
        repeat' (walk_at "pt 1")
        refine ew_lc (own := [("k", 2)]) (g := gName 2) (up := up1 2) rfl scSame.nd ?_ (fun s1 H1 C1 cl1 fp1 => pg_name scSame.nd rfl (.inl rfl)) (tgt1 (by simp)) ?_
        · show BlkOk ["one", "other", "k"] (defScope (top 20)) _ _
          exact ⟨rfl, by decide +kernel, by decide +kernel, by decide +kernel, by decide +kernel⟩
        refine iw_range1 (Mg.range (by assumption)) ?_
        repeat' (walk_at "pt 1")
        have few := u.items_few
        refine ⟨by rw [List.length_map]; omega, fun i acc S1 => acc = ((List.range i).map fun j => decide (u.items[j]? = v.items[j]?)).map T.bl ∧ S1 = [], ⟨rfl, rfl⟩, fun _ _ _ _ => trivial, ?_, ?_⟩
        · rintro i t acc S2 hu ⟨rfl, rfl⟩
          simp only [rng, List.length_map, Int.toNat_natCast] at hu
          rw [List.getElem?_map] at hu
          obtain ⟨j, hj, rfl⟩ := Option.map_eq_some_iff.mp hu
          obtain ⟨hi, hj'⟩ := List.getElem?_eq_some_iff.mp hj
          simp only [List.length_range] at hi
          rw [List.getElem_range] at hj'
          subst hj'
          have hi2 : i < v.items.length := by omega
          refine ⟨by simp; omega, _, rfl, fun s1 H1 C1 cl1 fp1 => tsw_nil (tst_t rfl fun s2 H2 C2 cl2 fp2 => ?_)⟩
          have e1 : atI (u.items.map Sx.t) (0 + ((i : Nat) : Int)) = some (u.items[i]).t := by rw [Int.zero_add]; exact atI_nat (by rw [List.getElem?_map, List.getElem?_eq_getElem hi]; rfl)
          have e2 : atI (v.items.map Sx.t) (0 + ((i : Nat) : Int)) = some (v.items[i]).t := by rw [Int.zero_add]; exact atI_nat (by rw [List.getElem?_map, List.getElem?_eq_getElem hi2]; rfl)
          repeat' (walk_at "pt 1")
          refine xw_tup e1 ?_
          repeat' (walk_at "pt 1")
          refine xw_tup e2 ?_
          repeat' (walk_at "pt 1")
          have lv := Say.items_lvl (List.getElem_mem hi)
          have hl' : u.dep + 1 ≤ n + 1 := hl
          refine fc0 ⟨u.items[i], v.items[i], rfl, by omega, ?_⟩
          refine ⟨?_, rfl⟩
          rw [List.range_succ, List.map_append, List.map_append, List.map_singleton, List.map_singleton, List.getElem?_eq_getElem hi, List.getElem?_eq_getElem hi2]
          simp
        · rintro acc S2 ⟨rfl, rfl⟩ c hc
          simp only [rng, List.length_map, Int.toNat_natCast, List.length_range]
          repeat' (walk_at "pt 1")
          refine cw_all rfl (.inl (.head _)) ?_
          rw [all_same hle]
          have : decide (u.items = v.items) = decide (Sx.s u = Sx.s v) := by
            by_cases e : u = v
            · subst e; simp
            · have : u.items ≠ v.items := fun z => e (Say.items_eq z)
              simp [e, this]
          rw [this]
          exact q
    | w v =>
      simp only [Sx.t]
      rw [u.form]
      refine sw_cons ?_
      repeat' (walk_at "pt 1")
      refine cw_isi (n := "tuple") (b := true) rfl rfl ?_
      repeat' (walk_at "pt 1")
      refine cw_isi (n := "tuple") (b := true) rfl rfl ?_
      repeat' (walk_at "pt 1")
      refine cw_isi (n := "str") (b := false) rfl rfl ?_
      repeat' (walk_at "pt 1")
      have : decide (Sx.s u = Sx.w v) = false := by simp
      rw [this] at q
      exact q
  | w u =>
    cases y with
    | s v =>
      simp only [Sx.t]
      rw [v.form]
      refine sw_cons ?_
      repeat' (walk_at "pt 1")
      refine cw_isi (n := "str") (b := false) rfl rfl ?_
      repeat' (walk_at "pt 1")
      refine cw_isi (n := "tuple") (b := true) rfl rfl ?_
      repeat' (walk_at "pt 1")
      refine cw_isi (n := "str") (b := false) rfl rfl ?_
      repeat' (walk_at "pt 1")
      have : decide (Sx.w u = Sx.s v) = false := by simp
      rw [this] at q
      exact q
    | w v =>
      simp only [Sx.t]
      refine sw_cons ?_
      repeat' (walk_at "pt 1")
      refine cw_isi (n := "str") (b := false) rfl rfl ?_
      repeat' (walk_at "pt 1")
      refine cw_isi (n := "str") (b := false) rfl rfl ?_
      repeat' (walk_at "pt 1")
      refine cw_isi (n := "str") (b := true) rfl rfl ?_
      repeat' (walk_at "pt 1")
      refine cw_isi (n := "str") (b := true) rfl rfl ?_
      repeat' (walk_at "pt 1")
      refine cw_isi (n := "str") (b := false) rfl rfl ?_
      repeat' (walk_at "pt 1")
      refine cw_isi (n := "str") (b := false) rfl rfl ?_
      repeat' (walk_at "pt 1")
      have : decide (Sx.w u = Sx.w v) = T.sEq (.str u) (.str v) := by simp [T.sEq]
      rw [this] at q
      exact q
end
end
set_option Elab.async false
set_option linter.all false
set_option maxRecDepth 100000
set_option maxHeartbeats 4000000
set_option autoImplicit false
set_option pp.maxSteps 600
section
variable {P : Program} {w : World} {K : PySem.W.Frag} {mg : Str → Option Value} {base : Heap} {n : Nat}
section
theorem scAtoms : FnScope ["saying", "name"] ["saying"] (defScope (top 23)) := ⟨rfl, rfl, rfl, by decide +kernel, rfl, by decide +kernel, by decide +kernel⟩
local macro_rules | `(tactic| walk_at "pt 1") => `(tactic| first
  | ((with_reducible refine aw_cons (hs := ?hs) (h := ?_)); (case hs => exact rfl))
  | ((with_reducible refine aw_nil (hk := ?_)))
  | ((with_reducible refine ew_var (x := "saying") (i := 0) (t := ?t) ?hi ?_ ?hN ?hv ?hd ?hc); (case hi => exact rfl); (case hN => exact rfl); (case hv => first | exact Or.inl rfl | exact Or.inr (Or.inl rfl) | exact Or.inr (Or.inr rfl)); (case hd => decide); (case hc => decide))
  | ((with_reducible refine ew_var (x := "name") (i := 1) (t := ?t) ?hi ?_ ?hN ?hv ?hd ?hc); (case hi => exact rfl); (case hN => exact rfl); (case hv => first | exact Or.inl rfl | exact Or.inr (Or.inl rfl) | exact Or.inr (Or.inr rfl)); (case hd => decide); (case hc => decide))
  | ((with_reducible refine ew_sub (h := ?_)))
  | ((with_reducible refine ew_str (hk := ?_)))
  | ((with_reducible refine ew_int (hk := ?_)))
  | ((with_reducible refine ew_bl (hk := ?_)))
  | ((with_reducible refine ew_tup (h := ?_)))
  | ((with_reducible refine tw_cmp (hm := ?hm) (h := ?_)); (case hm => exact rfl))
  | ((with_reducible refine ew_cmp (hm := ?hm) (h := ?_)); (case hm => exact rfl))
  | ((with_reducible refine ew_bin (h := ?_)))
  | ((with_reducible refine ew_lst (h := ?_)))
  | ((with_reducible refine ew_call (x := "_law_atoms") (n := ?n) (con := ?con) (C := ?C) (hr := ?hr) (hg := ?hg) (hdb := ?hdb) (he := ?he) (hpl := ?hpl) (h := ?_)); (case C => exact All.c_law_atoms (by assumption)); (case hr => assumption); (case hg => exact rfl); (case hdb => decide); (case he => exact rfl); (case hpl => exact rfl))
  | ((with_reducible refine ew_callTy (x := "dict") (T' := "dict") (hm := ?hm) (hv := ?hv) (hg := ?hg) (hn := ?hn) (hdb := ?hdb) (he := ?he) (hpl := ?hpl) (h := ?_)); (case hm => exact Mg.dict (by assumption)); (case hv => exact rfl); (case hg => exact rfl); (case hn => decide); (case hdb => decide); (case he => exact rfl); (case hpl => exact rfl))
  | ((with_reducible refine ew_callB (x := "sorted") (id := "sorted") (hm := ?hm) (hv := ?hv) (hg := ?hg) (hn := ?hn) (hdb := ?hdb) (he := ?he) (hpl := ?hpl) (h := ?_)); (case hm => exact Mg.sorted (by assumption)); (case hv => exact rfl); (case hg => exact rfl); (case hn => decide); (case hdb => decide); (case he => exact rfl); (case hpl => exact rfl))
  | ((with_reducible refine tw_call (h := ?_)))
  | ((with_reducible refine tw_name (h := ?_)))
  | ((with_reducible refine sw_cons (h := ?_)))
  | ((with_reducible refine sw_nil (h := ?_)))
  | ((with_reducible refine s1_if (h := ?_)))
  | ((with_reducible refine s1_set (x := "name") (i := 1) ?hN ?hi ?_ ?hx ?hs ?hf); (case hN => exact (scAtoms).nd); (case hi => exact rfl); (case hx => first | exact Or.inl rfl | exact Or.inr rfl); (case hs => exact rfl); (case hf => first | exact Or.inr rfl | exact Or.inl rfl))
  | ((with_reducible refine bw_eqs (h := ?h) (hk := ?_)); (case h => exact rfl))
  | ((with_reducible refine bw_add (hk := ?_)))
  | ((with_reducible refine xw_tup (t := ?t) (he := ?he) (hs := ?hs) (hk := ?_)); (case he => first | exact rfl | exact atT0 | exact atT1); (case hs => exact fun _ _ => rfl))
  | ((with_reducible refine xw_lst (ts := ?ts) (t := ?t) (hp := ?hp) (he := ?he) (hs := ?hs) (hk := ?_)); (case hp => walk_at "pt rdb"); (case he => first | exact rfl | exact atT0 | exact atT1); (case hs => exact fun _ _ => rfl))
  | ((with_reducible refine And.intro ?hx ?_); (case hx => exact Nat.le_of_ble_eq_true rfl))
  | (with_reducible refine Exists.intro _ (And.intro rfl ?_))
  | (refine tst_t (by decide +kernel) ?_)
  | (refine tst_f (by decide +kernel) ?_)
  | (refine Exists.intro _ (Exists.intro _ (And.intro rfl (And.intro (by walk_at "pt rdb") ?_))))
  | fail)
theorem pairsD (xs : List Nm) : (nmD xs).map pairT = xs.map fun x => T.tup [.str x.s, .bl true] := by
  rw [nmD, List.map_map]; rfl
theorem ok_law_atoms (M : Mg mg) (D : Df K mg "_law_atoms" (top 23) ["saying"]) (C : All P w K mg base n) : Cl P w K mg base (n + 1) "_law_atoms" (cAtoms (n + 1)) := by
  refine cl_of D scAtoms (fun ts F S k h => ?_) (fun a hr ts F S k h => ?_)
  · obtain ⟨_, _, rfl, _⟩ := h; rfl
  obtain ⟨s, L, rfl, rfl, hd, hL, hl, q⟩ := h
  cases s with
  | atom x =>
    simp only [Say.t]
    refine sw_cons ?_
    repeat' (walk_at "pt 1")
    refine s1_retD ?_
    repeat' (walk_at "pt 1")
    intro p hp
    exact ⟨_, List.Sublist.refl _, q p [x] (by simp) (by simp [Say.atoms])⟩
  | fls =>
    simp only [Say.t]
    refine sw_cons ?_
    repeat' (walk_at "pt 1")
    refine s1_retD ?_
    repeat' (walk_at "pt 1")
    intro p hp
    exact ⟨_, List.Sublist.refl _, q p [] (by simp) (by simp [Say.atoms])⟩
  | bin v x y =>
    have hx : x.dep ≤ n := by simp only [Say.dep] at hd; omega
    have hy : y.dep ≤ n := by simp only [Say.dep] at hd; omega
    have lx : x.atoms ⊆ L := fun z hz => hL (by simp [Say.atoms, hz])
    have ly : y.atoms ⊆ L := fun z hz => hL (by simp [Say.atoms, hz])
    cases v <;>
    · simp only [Say.t, Bw.s]
      refine sw_cons ?_
      repeat' (walk_at "pt 1")
      refine s1_retD ?_
      repeat' (walk_at "pt 1")
      refine ew_lc (own := [("name", 1)]) (g := gName 1) (up := up1 1) rfl scAtoms.nd ?_ (fun s1 H1 C1 cl1 fp1 => pg_name scAtoms.nd rfl (.inl rfl)) (tgt1 (by simp)) ?_
      · show BlkOk ["saying", "name"] (defScope (top 23)) _ _
        exact ⟨rfl, by decide +kernel, by decide +kernel, by decide +kernel, by decide +kernel⟩
      refine iw_lst ?_
      repeat' (walk_at "pt 1")
      refine ⟨[], [], _, [], rfl, by simp, x, L, rfl, rfl, hx, lx, hl, fun p1 ys1 nd1 m1 => ?_⟩
      simp only [List.nil_append]
      repeat' (walk_at "pt 1")
      refine ⟨[], [], _, [], rfl, by simp, y, L, rfl, rfl, hy, ly, hl, fun p2 ys2 nd2 m2 => ?_⟩
      simp only [List.nil_append, List.append_nil, List.cons_append]
      have l1 : ys1.length ≤ L.length := nd1.length_le_of_subset fun z hz => lx ((m1 z).mp hz)
      have l2 : ys2.length ≤ L.length := nd2.length_le_of_subset fun z hz => ly ((m2 z).mp hz)
      refine bw_catL (.tail _ (.head _)) (.head _) (by simp; omega) fun z hz => ?_
      rw [show nmT ys1 ++ nmT ys2 = nmT (ys1 ++ ys2) from by simp]
      refine ⟨z, _, rfl, .inl (.head _), fun i acc S1 => acc = ((ys1 ++ ys2).take i).map (fun x => T.tup [.str x.s, .bl true]) ∧ S1 = [(z, .lst (nmT (ys1 ++ ys2))), (p2, .lst (nmT ys2)), (p1, .lst (nmT ys1))], ⟨rfl, rfl⟩, ?_, ?_, ?_⟩
      · rintro i acc S1 ⟨_, rfl⟩
        exact .inl (.head _)
      · rintro i t acc S2 hu ⟨rfl, rfl⟩
        rw [List.getElem?_map] at hu
        obtain ⟨u, hu', rfl⟩ := Option.map_eq_some_iff.mp hu
        refine ⟨by rw [List.length_map, List.length_take, List.length_append]; omega, _, rfl, fun s1 H1 C1 cl1 fp1 => tsw_nil (tst_t rfl fun s2 H2 C2 cl2 fp2 => ?_)⟩
        repeat' (walk_at "pt 1")
        refine ⟨?_, rfl⟩
        rw [List.take_add_one, hu', List.map_append]
        rfl
      · rintro acc S2 ⟨rfl, rfl⟩ c hc
        rw [List.length_map, List.take_length]
        repeat' (walk_at "pt 1")
        refine cw_dictP (kvs := nmD (ys1 ++ ys2)) rfl (.inl (by rw [pairsD]; exact .head _)) fun g hg => ?_
        rw [show mergeT [] (nmD (ys1 ++ ys2)) = nmD (nubA [] (ys1 ++ ys2)) from mergeD _ []]
        have nd := nubA_nd (ys1 ++ ys2) [] List.nodup_nil
        have mem := nubA_mem (ys1 ++ ys2) []
        generalize nubA [] (ys1 ++ ys2) = zs at nd mem
        have lz : zs.length ≤ L.length := nd.length_le_of_subset fun z hz => by
          have := (mem z).mp hz
          simp only [List.not_mem_nil, false_or, List.mem_append] at this
          exact this.elim (fun h => lx ((m1 z).mp h)) fun h => ly ((m2 z).mp h)
        repeat' (walk_at "pt 1")
        refine cw_sortD (ks := zs.map (·.s)) rfl (.inl (.head _)) (by rw [nmD, List.map_map, List.map_map]; rfl) (by rw [List.length_map]; omega) fun ws qz hp hs hq => ?_
        obtain ⟨us, pu, rfl⟩ := perm_map hp zs rfl
        rw [List.map_map]
        refine ⟨[(qz, .lst (nmT us))], ?_, q qz us (pu.nodup_iff.mpr nd) fun z => ?_⟩
        · exact List.Sublist.cons₂ _ (List.nil_sublist _)
        · rw [pu.mem_iff, mem z]
          simp [Say.atoms, m1 z, m2 z]
end
end
set_option Elab.async false
set_option linter.all false
set_option maxRecDepth 100000
set_option maxHeartbeats 4000000
set_option autoImplicit false
set_option pp.maxSteps 600
section
variable {P : Program} {w : World} {K : PySem.W.Frag} {mg : Str → Option Value} {base : Heap} {n : Nat}
section
theorem scOrder : FnScope ["saying", "found", "one", "name"] ["saying"] (defScope (top 32)) := ⟨rfl, rfl, rfl, by decide +kernel, rfl, by decide +kernel, by decide +kernel⟩
local macro_rules | `(tactic| walk_at "pt v") => `(tactic| first
  | ((with_reducible refine ew_var (x := "saying") (i := 0) (t := ?t) ?hi ?_ ?hN ?hv ?hd ?hc); (case hi => exact rfl); (case hN => exact rfl); (case hv => first | exact Or.inl rfl | exact Or.inr (Or.inl rfl) | exact Or.inr (Or.inr rfl)); (case hd => decide); (case hc => decide))
  | ((with_reducible refine ew_var (x := "found") (i := 1) (t := ?t) ?hi ?_ ?hN ?hv ?hd ?hc); (case hi => exact rfl); (case hN => exact rfl); (case hv => first | exact Or.inl rfl | exact Or.inr (Or.inl rfl) | exact Or.inr (Or.inr rfl)); (case hd => decide); (case hc => decide))
  | ((with_reducible refine ew_var (x := "one") (i := 2) (t := ?t) ?hi ?_ ?hN ?hv ?hd ?hc); (case hi => exact rfl); (case hN => exact rfl); (case hv => first | exact Or.inl rfl | exact Or.inr (Or.inl rfl) | exact Or.inr (Or.inr rfl)); (case hd => decide); (case hc => decide))
  | ((with_reducible refine ew_var (x := "name") (i := 3) (t := ?t) ?hi ?_ ?hN ?hv ?hd ?hc); (case hi => exact rfl); (case hN => exact rfl); (case hv => first | exact Or.inl rfl | exact Or.inr (Or.inl rfl) | exact Or.inr (Or.inr rfl)); (case hd => decide); (case hc => decide))
  | ((with_reducible refine s1_set (x := "found") (i := 1) ?hN ?hi ?_ ?hx ?hs ?hf); (case hN => exact (scOrder).nd); (case hi => exact rfl); (case hx => first | exact Or.inl rfl | exact Or.inr rfl); (case hs => exact rfl); (case hf => first | exact Or.inr rfl | exact Or.inl rfl))
  | ((with_reducible refine s1_set (x := "one") (i := 2) ?hN ?hi ?_ ?hx ?hs ?hf); (case hN => exact (scOrder).nd); (case hi => exact rfl); (case hx => first | exact Or.inl rfl | exact Or.inr rfl); (case hs => exact rfl); (case hf => first | exact Or.inr rfl | exact Or.inl rfl))
  | ((with_reducible refine s1_set (x := "name") (i := 3) ?hN ?hi ?_ ?hx ?hs ?hf); (case hN => exact (scOrder).nd); (case hi => exact rfl); (case hx => first | exact Or.inl rfl | exact Or.inr rfl); (case hs => exact rfl); (case hf => first | exact Or.inr rfl | exact Or.inl rfl))
  | fail)
local macro_rules | `(tactic| walk_at "pt 1") => `(tactic| first
  | ((with_reducible refine aw_cons (hs := ?hs) (h := ?_)); (case hs => exact rfl))
  | ((with_reducible refine aw_nil (hk := ?_)))
  | ((with_reducible refine ew_slice (h := ?_)))
  | ((with_reducible refine ew_sub (h := ?_)))
  | ((with_reducible refine ew_str (hk := ?_)))
  | ((with_reducible refine ew_int (hk := ?_)))
  | ((with_reducible refine ew_tup (h := ?_)))
  | ((with_reducible refine tw_cmp (hm := ?hm) (h := ?_)); (case hm => exact rfl))
  | ((with_reducible refine ew_cmp (hm := ?hm) (h := ?_)); (case hm => exact rfl))
  | ((with_reducible refine ew_bin (h := ?_)))
  | ((with_reducible refine ew_lst (h := ?_)))
  | ((with_reducible refine ew_call (x := "_law_order") (n := ?n) (con := ?con) (C := ?C) (hr := ?hr) (hg := ?hg) (hdb := ?hdb) (he := ?he) (hpl := ?hpl) (h := ?_)); (case C => exact All.c_law_order (by assumption)); (case hr => assumption); (case hg => exact rfl); (case hdb => decide); (case he => exact rfl); (case hpl => exact rfl))
  | ((with_reducible refine ew_ifExp (h := ?_)))
  | ((with_reducible refine tw_call (h := ?_)))
  | ((with_reducible refine tw_name (h := ?_)))
  | ((with_reducible refine sw_cons (h := ?_)))
  | ((with_reducible refine sw_nil (h := ?_)))
  | ((with_reducible refine s1_if (h := ?_)))
  | ((with_reducible refine bw_eqs (h := ?h) (hk := ?_)); (case h => exact rfl))
  | ((with_reducible refine bw_nes (h := ?h) (hk := ?_)); (case h => exact rfl))
  | ((with_reducible refine bw_notinL (xs := ?xs) (hp := ?hp) (hx := ?hx) (hf := ?hf) (hk := ?_)); (case hp => walk_at "pt rdb"); (case hx => exact rfl); (case hf => exact rfl))
  | ((with_reducible refine bw_add (hk := ?_)))
  | ((with_reducible refine xw_tup (t := ?t) (he := ?he) (hs := ?hs) (hk := ?_)); (case he => first | exact rfl | exact atT0 | exact atT1); (case hs => exact fun _ _ => rfl))
  | ((with_reducible refine xw_lst (ts := ?ts) (t := ?t) (hp := ?hp) (he := ?he) (hs := ?hs) (hk := ?_)); (case hp => walk_at "pt rdb"); (case he => first | exact rfl | exact atT0 | exact atT1); (case hs => exact fun _ _ => rfl))
  | ((with_reducible refine ow_none (hk := ?_)))
  | ((with_reducible refine ow_some (h := ?_)))
  | ((with_reducible refine lw_tup (hk := ?_)))
  | ((with_reducible refine And.intro ?hx ?_); (case hx => exact Nat.le_of_ble_eq_true rfl))
  | (with_reducible refine Exists.intro _ (And.intro rfl ?_))
  | (refine tst_t (by decide +kernel) ?_)
  | (refine tst_f (by decide +kernel) ?_)
  | (refine Exists.intro _ (Exists.intro _ (And.intro rfl (And.intro (by walk_at "pt rdb") ?_))))
  | walk_at "pt v"
  | fail)
def ordL : List Say → List Nm
  | [] => []
  | [a] => order a
  | a :: b :: _ => order a ++ (order b).filter fun x => decide (x ∉ order a)
theorem inT_nm (x : Nm) (xs : List Nm) : T.inT (.str x.s) (nmT xs) = decide (x ∈ xs) := by
  unfold T.inT
  rw [List.any_map, Bool.eq_iff_iff, List.any_eq_true, decide_eq_true_eq]
  constructor
  · rintro ⟨y, hy, e⟩
    have : y = x := Nm.inj.mp (by simpa [T.sEq] using e)
    rw [← this]; exact hy
  · exact fun h => ⟨x, h, by simp [T.sEq]⟩
theorem clr_nm (x : Nm) (xs : List Nm) : (nmT xs).all (T.clr (.str x.s)) = true := by
  rw [List.all_eq_true]
  intro t ht
  obtain ⟨y, _, rfl⟩ := List.mem_map.mp ht
  rfl
theorem ordL_few {x y : Say} (hb : ∀ z ∈ [x, y], z.dep ≤ n ∧ (order z).length ≤ 60) (hl : (order x ++ (order y).filter fun u => decide (u ∉ order x)).length ≤ 60) : ∀ i, (ordL ([x, y].take i)).length ≤ 60
  | 0 => Nat.zero_le _
  | 1 => (hb x (by simp)).2
  | i + 2 => hl
theorem ordL_step {x y z : Say} : ∀ {i : Nat}, [x, y][i]? = some z → ordL ([x, y].take (i + 1)) = ordL ([x, y].take i) ++ (order z).filter fun u => decide (u ∉ ordL ([x, y].take i))
  | 0, h => by simp at h; subst h; simpa [ordL] using (List.filter_eq_self.mpr (by simp)).symm
  | 1, h => by simp at h; subst h; rfl
  | i + 2, h => by simp at h
theorem ok_law_order (M : Mg mg) (D : Df K mg "_law_order" (top 32) ["saying"]) (C : All P w K mg base n) : Cl P w K mg base (n + 1) "_law_order" (cOrder (n + 1)) := by
  refine cl_of D scOrder (fun ts F S k h => ?_) (fun a hr ts F S k h => ?_)
  · obtain ⟨_, rfl, _⟩ := h; rfl
  obtain ⟨s, rfl, rfl, hd, hl, q⟩ := h
  cases s with
  | atom x =>
    simp only [Say.t]
    refine sw_cons ?_
    repeat' (walk_at "pt 1")
    refine s1_retD ?_
    repeat' (walk_at "pt 1")
    intro p hp
    exact ⟨_, List.Sublist.refl _, q p⟩
  | fls =>
    simp only [Say.t]
    refine sw_cons ?_
    repeat' (walk_at "pt 1")
    intro pf hf
    repeat' (walk_at "pt 1")
    refine s1_for (g := _) (up := up1 2) (vs := [2]) PassesOwn.never rfl (pg_name (i := 2) scOrder.nd rfl (.inl rfl)) (tgt1 (by simp)) ?_
    refine iw_tup ?_
    repeat' (walk_at "pt 1")
    refine ⟨fun i r1 S1 => r1 = [some (T.tup [.str "false"]), some (.ref pf), none, none] ∧ S1 = [(pf, .lst [])], ⟨rfl, rfl⟩, fun _ _ _ _ => trivial, fun i t r2 S2 hu => (by simp at hu), ?_⟩
    rintro _ _ ⟨rfl, rfl⟩
    repeat' (walk_at "pt 1")
    refine s1_retD ?_
    repeat' (walk_at "pt 1")
    exact ⟨_, List.Sublist.refl _, q pf⟩
  | bin v x y =>
    have hx : x.dep ≤ n := by simp only [Say.dep] at hd; omega
    have hy : y.dep ≤ n := by simp only [Say.dep] at hd; omega
    have hb : ∀ z ∈ [x, y], z.dep ≤ n ∧ (order z).length ≤ 60 := fun z hz => by
      have lx : (order x).length ≤ 60 := by simp only [order, List.length_append] at hl; omega
      have ly : (order y).length ≤ 60 := by
        have := (order_nd y).length_le_of_subset (l₂ := order (.bin v x y)) fun u hu => mem_order.mpr (by simp [Say.atoms, mem_order.mp hu])
        omega
      simp at hz
      rcases hz with rfl | rfl
      · exact ⟨hx, lx⟩
      · exact ⟨hy, ly⟩
    cases v <;>
    · simp only [Say.t, Bw.s]
      refine sw_cons ?_
      repeat' (walk_at "pt 1")
      intro pf hf
      repeat' (walk_at "pt 1")
      refine s1_for (g := _) (up := up1 2) (vs := [2]) PassesOwn.never rfl (pg_name (i := 2) scOrder.nd rfl (.inl rfl)) (tgt1 (by simp)) ?_
      refine iw_tup ?_
      repeat' (walk_at "pt 1")
      rw [cutT1]
      refine ⟨fun i r1 S1 => ∃ w' o pf' R, r1 = [some (T.tup [.str w', x.t, y.t]), some (.ref pf'), o, none] ∧ S1 = (pf', .lst (nmT (ordL ([x, y].take i)))) :: R, ⟨_, none, _, _, rfl, rfl⟩, fun _ _ _ _ => trivial, ?_, ?_⟩
      · rintro i t r2 S2 hu ⟨w', o, pf', R, rfl, rfl⟩
        have hu' : ([x, y].map Say.t)[i]? = some t := hu
        rw [List.getElem?_map] at hu'
        obtain ⟨z, hz, rfl⟩ := Option.map_eq_some_iff.mp hu'
        obtain ⟨hdep, hlen⟩ := hb z (List.mem_of_getElem? hz)
        refine ⟨_, rfl, ?_⟩
        have l1 : (ordL ([x, y].take i)).length ≤ 60 := ordL_few hb (by simpa only [order] using hl) i
        have step := ordL_step hz
        have l2 := ordL_few hb (by simpa only [order] using hl) (i + 1)
        rw [step] at l2
        rw [List.length_append] at l2
        generalize ordL ([x, y].take i) = ys at l1 l2 step
        refine sw_cons ?_
        repeat' (walk_at "pt 1")
        refine ew_lc (own := [("name", 3)]) (g := gName 3) (up := up1 3) rfl scOrder.nd ?_ (fun s1 H1 C1 cl1 fp1 => pg_name scOrder.nd rfl (.inl rfl)) (tgt1 (by simp)) ?_
        · show BlkOk ["saying", "found", "one", "name"] (defScope (top 32)) _ _
          exact ⟨rfl, by decide +kernel, by decide +kernel, by decide +kernel, by decide +kernel⟩
        refine iw_lst ?_
        repeat' (walk_at "pt 1")
        refine ⟨[], _, _, [], rfl, by simp, z, rfl, rfl, hdep, hlen, fun p1 => ?_⟩
        simp only [List.nil_append, List.cons_append]
        refine ⟨p1, _, rfl, .inl (.head _), fun i acc S1 => acc = nmT (((order z).take i).filter fun u => decide (u ∉ ys)) ∧ S1 = (p1, .lst (nmT (order z))) :: (pf', .lst (nmT ys)) :: R, ⟨rfl, rfl⟩, ?_, ?_, ?_⟩
        · rintro i acc S1 ⟨_, rfl⟩
          exact .inl (.head _)
        · rintro i t acc S2 hu ⟨rfl, rfl⟩
          rw [List.getElem?_map] at hu
          obtain ⟨u, hu', rfl⟩ := Option.map_eq_some_iff.mp hu
          refine ⟨?_, _, rfl, fun s1 H1 C1 cl1 fp1 => tsw_one ?_⟩
          · have := List.length_filter_le (fun u => decide (u ∉ ys)) ((order z).take i)
            rw [List.length_map]
            rw [List.length_take] at this
            omega
          repeat' (walk_at "pt 1")
          refine bw_notinL (.inl (.tail _ (.head _))) rfl (clr_nm _ _) ?_
          rw [inT_nm]
          have htk : ((order z).take (i + 1)).filter (fun u => decide (u ∉ ys)) = ((order z).take i).filter (fun u => decide (u ∉ ys)) ++ if u ∈ ys then [] else [u] := by
            rw [List.take_add_one, hu', List.filter_append]
            by_cases hm : u ∈ ys <;> simp [hm]
          refine ⟨_, rfl, fun hb => ?_, fun hb => ?_⟩
          · intro s2 H2 C2 cl2 fp2
            repeat' (walk_at "pt 1")
            have hm : u ∉ ys := by simpa using hb
            refine ⟨?_, rfl⟩
            rw [htk, if_neg hm, nmT, nmT, List.map_append]
            rfl
          · have hm : u ∈ ys := by simpa using hb
            refine ⟨?_, rfl⟩
            rw [htk, if_pos hm, List.append_nil]
        · rintro acc S2 ⟨rfl, rfl⟩ c hc
          simp only [List.length_map, List.take_length]
          repeat' (walk_at "pt 1")
          refine bw_catL (.tail _ (.tail _ (.head _))) (.head _) (by rw [List.length_map, List.length_map]; omega) fun z1 hz1 => ?_
          exact sw_nil ⟨w', _, z1, _, rfl, by rw [step, show ∀ as bs : List Nm, nmT (as ++ bs) = nmT as ++ nmT bs from fun _ _ => List.map_append]⟩
      · rintro r2 S2 ⟨w', o, pf', R, rfl, rfl⟩
        repeat' (walk_at "pt 1")
        refine s1_retD ?_
        repeat' (walk_at "pt 1")
        exact ⟨[(pf', .lst (nmT (order (.bin _ x y))))], List.Sublist.cons₂ _ (List.nil_sublist _), q pf'⟩
end
end
set_option Elab.async false
set_option linter.all false
set_option maxRecDepth 100000
set_option maxHeartbeats 4000000
set_option autoImplicit false
set_option pp.maxSteps 600
section
variable {P : Program} {w : World} {K : PySem.W.Frag} {mg : Str → Option Value} {base : Heap} {n : Nat}
section
theorem scNames : FnScope ["saying", "found", "waiting", "now"] ["saying"] (defScope (top 7)) := ⟨rfl, rfl, rfl, by decide +kernel, rfl, by decide +kernel, by decide +kernel⟩
local macro_rules | `(tactic| walk_at "pt v") => `(tactic| first
  | ((with_reducible refine ew_var (x := "saying") (i := 0) (t := ?t) ?hi ?_ ?hN ?hv ?hd ?hc); (case hi => exact rfl); (case hN => exact rfl); (case hv => first | exact Or.inl rfl | exact Or.inr (Or.inl rfl) | exact Or.inr (Or.inr rfl)); (case hd => decide); (case hc => decide))
  | ((with_reducible refine ew_var (x := "found") (i := 1) (t := ?t) ?hi ?_ ?hN ?hv ?hd ?hc); (case hi => exact rfl); (case hN => exact rfl); (case hv => first | exact Or.inl rfl | exact Or.inr (Or.inl rfl) | exact Or.inr (Or.inr rfl)); (case hd => decide); (case hc => decide))
  | ((with_reducible refine ew_var (x := "waiting") (i := 2) (t := ?t) ?hi ?_ ?hN ?hv ?hd ?hc); (case hi => exact rfl); (case hN => exact rfl); (case hv => first | exact Or.inl rfl | exact Or.inr (Or.inl rfl) | exact Or.inr (Or.inr rfl)); (case hd => decide); (case hc => decide))
  | ((with_reducible refine ew_var (x := "now") (i := 3) (t := ?t) ?hi ?_ ?hN ?hv ?hd ?hc); (case hi => exact rfl); (case hN => exact rfl); (case hv => first | exact Or.inl rfl | exact Or.inr (Or.inl rfl) | exact Or.inr (Or.inr rfl)); (case hd => decide); (case hc => decide))
  | ((with_reducible refine s1_set (x := "found") (i := 1) ?hN ?hi ?_ ?hx ?hs ?hf); (case hN => exact (scNames).nd); (case hi => exact rfl); (case hx => first | exact Or.inl rfl | exact Or.inr rfl); (case hs => exact rfl); (case hf => first | exact Or.inr rfl | exact Or.inl rfl))
  | ((with_reducible refine s1_set (x := "waiting") (i := 2) ?hN ?hi ?_ ?hx ?hs ?hf); (case hN => exact (scNames).nd); (case hi => exact rfl); (case hx => first | exact Or.inl rfl | exact Or.inr rfl); (case hs => exact rfl); (case hf => first | exact Or.inr rfl | exact Or.inl rfl))
  | ((with_reducible refine s1_set (x := "now") (i := 3) ?hN ?hi ?_ ?hx ?hs ?hf); (case hN => exact (scNames).nd); (case hi => exact rfl); (case hx => first | exact Or.inl rfl | exact Or.inr rfl); (case hs => exact rfl); (case hf => first | exact Or.inr rfl | exact Or.inl rfl))
  | fail)
local macro_rules | `(tactic| walk_at "pt 1") => `(tactic| first
  | ((with_reducible refine aw_cons (hs := ?hs) (h := ?_)); (case hs => exact rfl))
  | ((with_reducible refine aw_nil (hk := ?_)))
  | ((with_reducible refine ew_revT (h := ?_)))
  | ((with_reducible refine ew_slice (h := ?_)))
  | ((with_reducible refine ew_sub (h := ?_)))
  | ((with_reducible refine ew_str (hk := ?_)))
  | ((with_reducible refine ew_int (hk := ?_)))
  | ((with_reducible refine ew_bl (hk := ?_)))
  | ((with_reducible refine ew_tup (h := ?_)))
  | ((with_reducible refine tw_cmp (hm := ?hm) (h := ?_)); (case hm => exact rfl))
  | ((with_reducible refine ew_cmp (hm := ?hm) (h := ?_)); (case hm => exact rfl))
  | ((with_reducible refine ew_lst (h := ?_)))
  | ((with_reducible refine ew_callTy (x := "list") (T' := "list") (hm := ?hm) (hv := ?hv) (hg := ?hg) (hn := ?hn) (hdb := ?hdb) (he := ?he) (hpl := ?hpl) (h := ?_)); (case hm => exact Mg.list (by assumption)); (case hv => exact rfl); (case hg => exact rfl); (case hn => decide); (case hdb => decide); (case he => exact rfl); (case hpl => exact rfl))
  | ((with_reducible refine ew_callF (x := "parts_of") (n := ?n) (pre := ?pre) (C := ?C) (hr := ?hr) (hg := ?hg) (hdb := ?hdb) (he := ?he) (hpl := ?hpl) (h := ?_)); (case C => exact All.c_parts_of (by assumption)); (case hr => assumption); (case hg => exact rfl); (case hdb => decide); (case he => exact rfl); (case hpl => exact rfl))
  | ((with_reducible refine ew_ext (hbase := ?hbase) (hfew := ?hfew) (hline := ?hline) (hs := ?hs) (hplain := ?hplain) (h := ?_)); (case hbase => exact rfl); (case hfew => exact rfl); (case hline => exact rfl); (case hs => exact rfl); (case hplain => exact rfl))
  | ((with_reducible refine ew_mth0 (name := "pop") (id := "list.pop") (rr := rPop) (slot := ?slot) (hty := ?hty) (hm := ?hm) (hbase := ?hbase) (hline := ?hline) (h := ?_)); (case slot => exact PySem.F.slot_list_pop); (case hty => exact PySem.F.type_list_pop); (case hm => exact mt_pop); (case hbase => exact rfl); (case hline => exact rfl))
  | ((with_reducible refine ew_dnewK (h := ?_)))
  | ((with_reducible refine ew_disp1 (h := ?_)))
  | ((with_reducible refine ew_spread (h := ?_)))
  | ((with_reducible refine tw_call (h := ?_)))
  | ((with_reducible refine tw_name (h := ?_)))
  | ((with_reducible refine sw_cons (h := ?_)))
  | ((with_reducible refine sw_nil (h := ?_)))
  | ((with_reducible refine s1_if (h := ?_)))
  | ((with_reducible refine s1_expr (hs := ?hs) (h := ?_)); (case hs => exact rfl))
  | ((with_reducible refine bw_eqs (h := ?h) (hk := ?_)); (case h => exact rfl))
  | ((with_reducible refine bw_nes (h := ?h) (hk := ?_)); (case h => exact rfl))
  | ((with_reducible refine xw_tup (t := ?t) (he := ?he) (hs := ?hs) (hk := ?_)); (case he => first | exact rfl | exact atT0 | exact atT1); (case hs => exact fun _ _ => rfl))
  | ((with_reducible refine xw_lst (ts := ?ts) (t := ?t) (hp := ?hp) (he := ?he) (hs := ?hs) (hk := ?_)); (case hp => walk_at "pt rdb"); (case he => first | exact rfl | exact atT0 | exact atT1); (case hs => exact fun _ _ => rfl))
  | ((with_reducible refine ow_none (hk := ?_)))
  | ((with_reducible refine ow_some (h := ?_)))
  | ((with_reducible refine lw_tup (hk := ?_)))
  | ((with_reducible refine And.intro ?hx ?_); (case hx => exact Nat.le_of_ble_eq_true rfl))
  | (with_reducible refine Exists.intro _ (And.intro rfl ?_))
  | (refine tst_t (by decide +kernel) ?_)
  | (refine tst_f (by decide +kernel) ?_)
  | (refine Exists.intro _ (Exists.intro _ (And.intro rfl (And.intro (by walk_at "pt rdb") ?_))))
  | walk_at "pt v"
  | fail)
/-- a stack whose height is kept low by the depths -/
def Stk (M : Nat) (ws : List Say) : Prop := ∀ (i : Nat) (x : Say), ws[i]? = some x → i + x.dep ≤ M
theorem Stk.len {M : Nat} {ws : List Say} (h : Stk M ws) : ws.length ≤ M := by
  cases hw : ws.length with
  | zero => exact Nat.zero_le _
  | succ k =>
    have hk : k < ws.length := by omega
    have := h k _ (List.getElem?_eq_getElem hk)
    have := ws[k].dep1
    omega
theorem parts_dep {x y : Say} (h : y ∈ x.parts) : y.dep + 1 ≤ x.dep := by
  cases x with
  | bin v a b => simp [Say.parts] at h; rcases h with rfl | rfl <;> simp only [Say.dep] <;> omega
  | _ => simp [Say.parts] at h
theorem Stk.step {M : Nat} {ws us : List Say} {x : Say} (h : Stk M (ws ++ [x])) (hu : ∀ y ∈ us, y.dep + 1 ≤ x.dep) (hl : us.length ≤ 2) : Stk M (ws ++ us) := by
  intro i y e
  by_cases hi : i < ws.length
  · rw [List.getElem?_append_left hi] at e
    exact h i y (by rw [List.getElem?_append_left hi]; exact e)
  · rw [List.getElem?_append_right (by omega)] at e
    have hx := h ws.length x (by simp)
    have hy := hu y (List.mem_of_getElem? e)
    have : i - ws.length < us.length := (List.getElem?_eq_some_iff.mp e).1
    omega
def szs (ws : List Say) : Nat := (ws.map Say.size).sum
def flat (ws : List Say) : List Nm := ws.reverse.flatMap Say.atoms
theorem flat_snoc (ws : List Say) (x : Say) : flat (ws ++ [x]) = x.atoms ++ flat ws := by simp [flat]
theorem flat_parts {ws : List Say} {x : Say} (h : ∀ z, x ≠ .atom z) : flat (ws ++ x.parts.reverse) = flat (ws ++ [x]) := by
  rw [flat_snoc]
  cases x with
  | atom z => exact absurd rfl (h z)
  | fls => simp [flat, Say.parts, Say.atoms]
  | bin v a b => simp [flat, Say.parts, Say.atoms]
theorem szs_parts {ws : List Say} {x : Say} : szs (ws ++ x.parts.reverse) < szs (ws ++ [x]) := by
  cases x <;> simp [szs, Say.parts, Say.size] <;> omega
theorem fit_say {x : Say} (h : x.dep ≤ 63) : Fit 63 x.t := ⟨x.d, x.py, x.lay, Nat.le_trans x.deep h⟩
theorem nubA_len : ∀ (xs acc : List Nm), acc.length ≤ (nubA acc xs).length
  | [], acc => Nat.le_refl _
  | x :: xs, acc => by
    show _ ≤ (if x ∈ acc then _ else _ : List Nm).length
    split
    · exact nubA_len xs acc
    · have := nubA_len xs (acc ++ [x])
      rw [List.length_append] at this
      omega
/-- what is found, and what waits -/
structure Nin (s : Say) (ws : List Say) (ks : List Nm) : Prop where
  (nub : nubA ks (flat ws) = order s) (stk : Stk 61 ws)
theorem ok_names (M : Mg mg) (D : Df K mg "names_in_order" (top 7) ["saying"]) (C : All P w K mg base n) : Cl P w K mg base (n + 1) "names_in_order" (cNames (n + 1)) := by
  refine cl_of D scNames (fun ts F S k h => ?_) (fun a hr ts F S k h => ?_)
  · obtain ⟨_, _, rfl, _⟩ := h; rfl
  obtain ⟨hn, s, rfl, rfl, hd, hl, q⟩ := h
  refine sw_cons (s1_par (i := 1) (j := 2) rfl scNames.nd rfl rfl (by decide) ?_)
  refine ew_dnewK fun pf hf => ?_
  repeat' (walk_at "pt 1")
  intro pw hpw
  refine sw_cons ?_
  refine s1_whileW [some s.t, some (.ref pf), some (.ref pw), none] PassesOwn.never
    (fun m S => ∃ ws ks, S = [(pw, .lst (ws.map Say.t)), (pf, .dk (nmD ks))] ∧ Nin s ws ks ∧ m = szs ws) ⟨rfl, rfl, rfl, trivial⟩ ⟨_, [s], [], rfl, ⟨by rw [show flat [s] = s.atoms from by simp [flat]]; exact order_nub s, fun i x e => ?_⟩, rfl⟩ ?_
  · cases i with
    | zero => simp at e; subst e; omega
    | succ i => simp at e
  rintro m S1 ⟨ws, ks, rfl, inv, rfl⟩
  repeat' (walk_at "pt 1")
  intro q0 hq0
  refine bw_neE hr.units (.inl (.tail _ (.head _))) (.inl (.head _)) (fun u hu => ?_) ⟨_, rfl, ?_⟩
  · obtain ⟨x, hx, rfl⟩ := List.mem_map.mp hu
    obtain ⟨i, hi, e⟩ := List.mem_iff_getElem.mp hx
    have := inv.stk i x (by rw [List.getElem?_eq_getElem hi, e])
    exact fit_say (by omega)
  refine ⟨fun hb => ?_, fun hb => ?_⟩
  · rcases List.eq_nil_or_concat ws with rfl | ⟨ws', x, rfl⟩
    · simp at hb
    refine sw_drop (List.sublist_cons_self _ _) ?_
    simp only [List.concat_eq_append, List.map_append, List.map_cons, List.map_nil] at inv ⊢
    have hdx : x.dep ≤ 61 := by
      have := inv.stk ws'.length x (by simp)
      omega
    refine sw_cut (fun r1 S1 => r1 = [some s.t, some (.ref pf), some (.ref pw), some x.t] ∧ S1 = [(pw, .lst (ws'.map Say.t)), (pf, .dk (nmD ks))]) ?_ ?_
    · repeat' (walk_at "pt 1")
      exact mw_pop (Sa := []) ⟨rfl, rfl⟩
    rintro _ _ ⟨rfl, rfl⟩
    refine sw_cut (fun r1 S1 => r1 = [some s.t, some (.ref pf), some (.ref pw), some x.t] ∧ ∃ ks', S1 = [(pw, .lst (ws'.map Say.t)), (pf, .dk (nmD ks'))] ∧ Nin s (ws' ++ x.parts.reverse) ks') ?_ ?_
    · cases x with
      | atom z =>
        simp only [Say.t]
        repeat' (walk_at "pt 1")
        refine s1_dput (hu_of hr) ?_
        repeat' (walk_at "pt 1")
        have n2 := inv.nub
        rw [flat_snoc] at n2
        replace n2 : (if z ∈ ks then nubA ks (flat ws') else nubA (ks ++ [z]) (flat ws')) = order s := n2
        have few : (ks.length ≤ 60) := by
          have := nubA_len (flat (ws' ++ [.atom z])) ks
          rw [inv.nub] at this
          omega
        refine ⟨pf, [(pw, .lst (ws'.map Say.t))], [], nmD ks, .inr z.s, rfl, rfl, rfl, by rw [nmD, List.length_map]; omega, sw_nil ⟨rfl, (if z ∈ ks then ks else ks ++ [z]), by rw [putD]; rfl, ?_⟩⟩
        refine ⟨?_, by simpa [Say.parts] using inv.stk.step (us := []) (by simp) (by simp)⟩
        simp only [Say.parts, List.reverse_nil, List.append_nil]
        split
        · rename_i h; rw [if_pos h] at n2; exact n2
        · rename_i h; rw [if_neg h] at n2; exact n2
      | fls =>
        simp only [Say.t]
        repeat' (walk_at "pt 1")
        refine ⟨rfl, ks, rfl, ⟨by rw [flat_parts (by simp)]; exact inv.nub, inv.stk.step (by simp [Say.parts]) (by simp [Say.parts])⟩⟩
      | bin v x1 x2 =>
        cases v <;>
        · simp only [Say.t, Bw.s]
          repeat' (walk_at "pt 1")
          refine ⟨rfl, ks, rfl, ⟨by rw [flat_parts (by simp)]; exact inv.nub, inv.stk.step (fun y hy => parts_dep (by simpa using hy)) (by simp [Say.parts])⟩⟩
    rintro _ _ ⟨rfl, ks', rfl, inv'⟩
    refine sw_cons ?_
    repeat' (walk_at "pt 1")
    refine fc0 ⟨by omega, x, rfl, ?_⟩
    repeat' (walk_at "pt 1")
    have lw := inv'.stk.len
    rw [List.length_append, List.length_reverse] at lw
    refine mw_extT (Sa := []) (ts := ws'.map Say.t) (by rw [List.length_map, List.length_reverse, List.length_map]; omega) ?_
    refine sw_nil ⟨⟨rfl, rfl, rfl, trivial⟩, szs (ws' ++ x.parts.reverse), szs_parts, ws' ++ x.parts.reverse, ks', ?_, inv', rfl⟩
    rw [List.map_append, List.map_reverse]
    rfl
  · have he : ws = [] := by
      cases ws with
      | nil => rfl
      | cons x ws => simp at hb
    subst he
    repeat' (walk_at "pt 1")
    refine s1_retD ?_
    repeat' (walk_at "pt 1")
    refine cw_listD rfl (.inl (.tail _ (.tail _ (.head _)))) fun z hz => ?_
    have e : ks = order s := inv.nub
    rw [e]
    refine ⟨[(z, .lst (nmT (order s)))], ?_, q z⟩
    rw [nmD, List.map_map]
    exact List.Sublist.cons₂ _ (List.nil_sublist _)
end
end
set_option Elab.async false
set_option linter.all false
set_option maxRecDepth 100000
set_option maxHeartbeats 4000000
set_option autoImplicit false
set_option pp.maxSteps 600
section
variable {P : Program} {w : World} {K : PySem.W.Frag} {mg : Str → Option Value} {base : Heap} {n : Nat}
section
theorem scRes : FnScope ["saying", "table"] ["saying", "table"] (defScope (top 12)) := ⟨rfl, rfl, rfl, by decide +kernel, rfl, by decide +kernel, by decide +kernel⟩
local macro_rules | `(tactic| walk_at "pt 1") => `(tactic| first
  | ((with_reducible refine aw_cons (hs := ?hs) (h := ?_)); (case hs => exact rfl))
  | ((with_reducible refine aw_nil (hk := ?_)))
  | ((with_reducible refine ew_var (x := "saying") (i := 0) (t := ?t) ?hi ?_ ?hN ?hv ?hd ?hc); (case hi => exact rfl); (case hN => exact rfl); (case hv => first | exact Or.inl rfl | exact Or.inr (Or.inl rfl) | exact Or.inr (Or.inr rfl)); (case hd => decide); (case hc => decide))
  | ((with_reducible refine ew_var (x := "table") (i := 1) (t := ?t) ?hi ?_ ?hN ?hv ?hd ?hc); (case hi => exact rfl); (case hN => exact rfl); (case hv => first | exact Or.inl rfl | exact Or.inr (Or.inl rfl) | exact Or.inr (Or.inr rfl)); (case hd => decide); (case hc => decide))
  | ((with_reducible refine ew_sub (h := ?_)))
  | ((with_reducible refine ew_str (hk := ?_)))
  | ((with_reducible refine ew_int (hk := ?_)))
  | ((with_reducible refine ew_tup (h := ?_)))
  | ((with_reducible refine tw_cmp (hm := ?hm) (h := ?_)); (case hm => exact rfl))
  | ((with_reducible refine ew_cmp (hm := ?hm) (h := ?_)); (case hm => exact rfl))
  | ((with_reducible refine ew_callF (x := "parts_of") (n := ?n) (pre := ?pre) (C := ?C) (hr := ?hr) (hg := ?hg) (hdb := ?hdb) (he := ?he) (hpl := ?hpl) (h := ?_)); (case C => exact All.c_parts_of (by assumption)); (case hr => assumption); (case hg => exact rfl); (case hdb => decide); (case he => exact rfl); (case hpl => exact rfl))
  | ((with_reducible refine ew_callF (x := "resolved") (n := ?n) (pre := ?pre) (C := ?C) (hr := ?hr) (hg := ?hg) (hdb := ?hdb) (he := ?he) (hpl := ?hpl) (h := ?_)); (case C => exact All.c_resolved (by assumption)); (case hr => assumption); (case hg => exact rfl); (case hdb => decide); (case he => exact rfl); (case hpl => exact rfl))
  | ((with_reducible refine ew_ifExp (h := ?_)))
  | ((with_reducible refine tw_call (h := ?_)))
  | ((with_reducible refine tw_name (h := ?_)))
  | ((with_reducible refine sw_cons (h := ?_)))
  | ((with_reducible refine sw_nil (h := ?_)))
  | ((with_reducible refine s1_ret0 (h := ?_)))
  | ((with_reducible refine s1_if (h := ?_)))
  | ((with_reducible refine bw_eqs (h := ?h) (hk := ?_)); (case h => exact rfl))
  | ((with_reducible refine bw_inT (hx := ?hx) (hf := ?hf) (hk := ?_)); (case hx => exact rfl); (case hf => exact rfl))
  | ((with_reducible refine bw_inL (xs := ?xs) (hp := ?hp) (hx := ?hx) (hf := ?hf) (hk := ?_)); (case hp => walk_at "pt rdb"); (case hx => exact rfl); (case hf => exact rfl))
  | ((with_reducible refine xw_tup (t := ?t) (he := ?he) (hs := ?hs) (hk := ?_)); (case he => first | exact rfl | exact atT0 | exact atT1); (case hs => exact fun _ _ => rfl))
  | ((with_reducible refine xw_lst (ts := ?ts) (t := ?t) (hp := ?hp) (he := ?he) (hs := ?hs) (hk := ?_)); (case hp => walk_at "pt rdb"); (case he => first | exact rfl | exact atT0 | exact atT1); (case hs => exact fun _ _ => rfl))
  | ((with_reducible refine And.intro ?hx ?_); (case hx => exact Nat.le_of_ble_eq_true rfl))
  | (with_reducible refine Exists.intro _ (And.intro rfl ?_))
  | (refine tst_t (by decide +kernel) ?_)
  | (refine tst_f (by decide +kernel) ?_)
  | (refine Exists.intro _ (Exists.intro _ (And.intro rfl (And.intro (by walk_at "pt rdb") ?_))))
  | fail)
theorem res_atom {m : Nat} {x : Nm} {t : Say} {g : Tab} {ρ : Nm → Say} (h : ResOk m (.atom x) g ρ) (e : g.get x = some t) : ∃ m', m = m' + 1 ∧ ResOk m' t g ρ ∧ t.sub ρ = ρ x := by
  obtain ⟨N, l1, l2⟩ := h.lv
  have q : lv N t + 1 ≤ N x := l1.ent _ (Tab.get_mem e)
  have l2' : N x ≤ m := l2
  exact ⟨m - 1, by omega, ⟨h.tri, ⟨N, l1, by omega⟩, h.gd _ (Tab.get_mem e), h.gd⟩, (tri_sat h.tri _ (Tab.get_mem e)).symm⟩
theorem res_bin {m : Nat} {v : Bw} {a b : Say} {g : Tab} {ρ : Nm → Say} (h : ResOk m (.bin v a b) g ρ) : ∃ m', m = m' + 1 ∧ ResOk m' a g ρ ∧ ResOk m' b g ρ := by
  obtain ⟨N, l1, l2⟩ := h.lv
  have l2' : max (lv N a) (lv N b) + 1 ≤ m := l2
  have sd := h.sd
  simp only [Say.dep] at sd
  exact ⟨m - 1, by omega, ⟨h.tri, ⟨N, l1, by omega⟩, by omega, h.gd⟩, ⟨h.tri, ⟨N, l1, by omega⟩, by omega, h.gd⟩⟩
theorem res_pos {m : Nat} {s : Say} {g : Tab} {ρ : Nm → Say} (h : ResOk m s g ρ) : 1 ≤ m := by
  obtain ⟨N, l1, l2⟩ := h.lv
  have : 1 ≤ lv N s := by cases s <;> simp only [lv] <;> first | exact l1.one _ | omega
  omega
theorem ok_resolved (D : Df K mg "resolved" (top 12) ["saying", "table"]) (C : All P w K mg base n) : Cl P w K mg base (n + 1) "resolved" (Fn (pRes (n + 1))) := by
  refine cl_of D scRes (fun ts F S k h => ?_) (fun a hr ts F S k h => ?_)
  · obtain ⟨_, _, _, _, _, _, rfl, _⟩ := h; rfl
  obtain ⟨rfl, s, d, g, ρ, m, rfl, hd, ok, hn, q⟩ := h
  have pos := res_pos ok
  cases s with
  | atom x =>
    simp only [Say.t]
    refine sw_cons ?_
    repeat' (walk_at "pt 1")
    refine bw_inD (kk := .inr x.s) (hu_of hr) (.inr hd) ?_
    rw [Tab.val]
    cases e : g.get x with
    | some t =>
      obtain ⟨m', rfl, ok', e2⟩ := res_atom ok e
      refine ⟨_, rfl, tst_t rfl ?_⟩
      repeat' (walk_at "pt 1")
      refine xw_dk (kk := .inr x.s) (t := t.t) (hu_of hr) (.inr hd) (by rw [Tab.val, e]; rfl) ?_
      repeat' (walk_at "pt 1")
      refine fc1 (d, .dk g.t) (.inr hd) ⟨t, d, g, ρ, m', rfl, List.mem_singleton_self _, ok', by omega, ?_⟩
      repeat' (walk_at "pt 1")
      rw [e2]
      exact q
    | none =>
      refine ⟨_, rfl, tst_f rfl ?_⟩
      repeat' (walk_at "pt 1")
      have e2 : (Say.atom x).sub ρ = .atom x := tri_out ok.tri x (Tab.get_none.mp e)
      rw [e2] at q
      exact q
  | fls =>
    simp only [Say.t]
    refine sw_cons ?_
    repeat' (walk_at "pt 1")
    refine fc0 ⟨by omega, .fls, rfl, ?_⟩
    repeat' (walk_at "pt 1")
    refine bw_eqd hr.units (b := true) ⟨.tuple [], .tuple [], rfl, rfl, by decide, by decide, rfl⟩ ?_
    repeat' (walk_at "pt 1")
    exact q
  | bin v x y =>
    obtain ⟨m', rfl, okx, oky⟩ := res_bin ok
    have sx := okx.sd
    have sy := oky.sd
    cases v <;>
    · simp only [Say.t, Bw.s]
      refine sw_cons ?_
      repeat' (walk_at "pt 1")
      first | refine fc0 ⟨by omega, .bin .thn x y, rfl, ?_⟩ | refine fc0 ⟨by omega, .bin .and x y, rfl, ?_⟩ | refine fc0 ⟨by omega, .bin .or x y, rfl, ?_⟩
      repeat' (walk_at "pt 1")
      refine bw_eqd hr.units (b := false) ⟨.tuple [x.d, y.d], .tuple [], by show T.py (.tup [x.t, y.t]) = _; simp only [T.py, T.pys, x.py, y.py]; rfl, rfl, ?_, by decide, rfl⟩ ?_
      · unfold SeqAt.shaped
        have := x.deep
        have := y.deep
        rw [Bool.and_eq_true, decide_eq_true_eq]
        exact ⟨by simp only [PyData.canLay0, PyData.canLayAll0, x.lay, y.lay]; rfl, by simp only [PyData.depth, PyData.depthAll]; omega⟩
      repeat' (walk_at "pt 1")
      refine fc1 (d, .dk g.t) (.inr hd) ⟨x, d, g, ρ, m', rfl, List.mem_singleton_self _, okx, by omega, ?_⟩
      repeat' (walk_at "pt 1")
      refine fc1 (d, .dk g.t) (.inr hd) ⟨y, d, g, ρ, m', rfl, List.mem_singleton_self _, oky, by omega, ?_⟩
      repeat' (walk_at "pt 1")
      exact q
end
section
theorem scFull : FnScope ["saying", "table"] ["saying", "table"] (defScope (top 35)) := ⟨rfl, rfl, rfl, by decide +kernel, rfl, by decide +kernel, by decide +kernel⟩
local macro_rules | `(tactic| walk_at "pt 1") => `(tactic| first
  | ((with_reducible refine aw_cons (hs := ?hs) (h := ?_)); (case hs => exact rfl))
  | ((with_reducible refine aw_nil (hk := ?_)))
  | ((with_reducible refine ew_var (x := "saying") (i := 0) (t := ?t) ?hi ?_ ?hN ?hv ?hd ?hc); (case hi => exact rfl); (case hN => exact rfl); (case hv => first | exact Or.inl rfl | exact Or.inr (Or.inl rfl) | exact Or.inr (Or.inr rfl)); (case hd => decide); (case hc => decide))
  | ((with_reducible refine ew_var (x := "table") (i := 1) (t := ?t) ?hi ?_ ?hN ?hv ?hd ?hc); (case hi => exact rfl); (case hN => exact rfl); (case hv => first | exact Or.inl rfl | exact Or.inr (Or.inl rfl) | exact Or.inr (Or.inr rfl)); (case hd => decide); (case hc => decide))
  | ((with_reducible refine ew_sub (h := ?_)))
  | ((with_reducible refine ew_str (hk := ?_)))
  | ((with_reducible refine ew_int (hk := ?_)))
  | ((with_reducible refine ew_tup (h := ?_)))
  | ((with_reducible refine tw_cmp (hm := ?hm) (h := ?_)); (case hm => exact rfl))
  | ((with_reducible refine ew_cmp (hm := ?hm) (h := ?_)); (case hm => exact rfl))
  | ((with_reducible refine ew_callF (x := "_law_full") (n := ?n) (pre := ?pre) (C := ?C) (hr := ?hr) (hg := ?hg) (hdb := ?hdb) (he := ?he) (hpl := ?hpl) (h := ?_)); (case C => exact All.c_law_full (by assumption)); (case hr => assumption); (case hg => exact rfl); (case hdb => decide); (case he => exact rfl); (case hpl => exact rfl))
  | ((with_reducible refine ew_ifExp (h := ?_)))
  | ((with_reducible refine tw_call (h := ?_)))
  | ((with_reducible refine tw_name (h := ?_)))
  | ((with_reducible refine sw_cons (h := ?_)))
  | ((with_reducible refine sw_nil (h := ?_)))
  | ((with_reducible refine s1_ret0 (h := ?_)))
  | ((with_reducible refine s1_if (h := ?_)))
  | ((with_reducible refine bw_eqs (h := ?h) (hk := ?_)); (case h => exact rfl))
  | ((with_reducible refine bw_inT (hx := ?hx) (hf := ?hf) (hk := ?_)); (case hx => exact rfl); (case hf => exact rfl))
  | ((with_reducible refine bw_inL (xs := ?xs) (hp := ?hp) (hx := ?hx) (hf := ?hf) (hk := ?_)); (case hp => walk_at "pt rdb"); (case hx => exact rfl); (case hf => exact rfl))
  | ((with_reducible refine xw_tup (t := ?t) (he := ?he) (hs := ?hs) (hk := ?_)); (case he => first | exact rfl | exact atT0 | exact atT1); (case hs => exact fun _ _ => rfl))
  | ((with_reducible refine xw_lst (ts := ?ts) (t := ?t) (hp := ?hp) (he := ?he) (hs := ?hs) (hk := ?_)); (case hp => walk_at "pt rdb"); (case he => first | exact rfl | exact atT0 | exact atT1); (case hs => exact fun _ _ => rfl))
  | ((with_reducible refine And.intro ?hx ?_); (case hx => exact Nat.le_of_ble_eq_true rfl))
  | (with_reducible refine Exists.intro _ (And.intro rfl ?_))
  | (refine tst_t (by decide +kernel) ?_)
  | (refine tst_f (by decide +kernel) ?_)
  | (refine Exists.intro _ (Exists.intro _ (And.intro rfl (And.intro (by walk_at "pt rdb") ?_))))
  | fail)
theorem ok_law_full (D : Df K mg "_law_full" (top 35) ["saying", "table"]) (C : All P w K mg base n) : Cl P w K mg base (n + 1) "_law_full" (Fn (pRes (n + 1))) := by
  refine cl_of D scFull (fun ts F S k h => ?_) (fun a hr ts F S k h => ?_)
  · obtain ⟨_, _, _, _, _, _, rfl, _⟩ := h; rfl
  obtain ⟨rfl, s, d, g, ρ, m, rfl, hd, ok, hn, q⟩ := h
  have pos := res_pos ok
  cases s with
  | atom x =>
    simp only [Say.t]
    refine sw_cons ?_
    repeat' (walk_at "pt 1")
    refine bw_inD (kk := .inr x.s) (hu_of hr) (.inr hd) ?_
    rw [Tab.val]
    cases e : g.get x with
    | some t =>
      obtain ⟨m', rfl, ok', e2⟩ := res_atom ok e
      refine ⟨_, rfl, tst_t rfl ?_⟩
      repeat' (walk_at "pt 1")
      refine xw_dk (kk := .inr x.s) (t := t.t) (hu_of hr) (.inr hd) (by rw [Tab.val, e]; rfl) ?_
      repeat' (walk_at "pt 1")
      refine fc1 (d, .dk g.t) (.inr hd) ⟨t, d, g, ρ, m', rfl, List.mem_singleton_self _, ok', by omega, ?_⟩
      repeat' (walk_at "pt 1")
      rw [e2]
      exact q
    | none =>
      refine ⟨_, rfl, tst_f rfl ?_⟩
      repeat' (walk_at "pt 1")
      have e2 : (Say.atom x).sub ρ = .atom x := tri_out ok.tri x (Tab.get_none.mp e)
      rw [e2] at q
      exact q
  | fls =>
    simp only [Say.t]
    refine sw_cons ?_
    repeat' (walk_at "pt 1")
    exact q
  | bin v x y =>
    obtain ⟨m', rfl, okx, oky⟩ := res_bin ok
    cases v <;>
    · simp only [Say.t, Bw.s]
      refine sw_cons ?_
      repeat' (walk_at "pt 1")
      refine fc1 (d, .dk g.t) (.inr hd) ⟨x, d, g, ρ, m', rfl, List.mem_singleton_self _, okx, by omega, ?_⟩
      repeat' (walk_at "pt 1")
      refine fc1 (d, .dk g.t) (.inr hd) ⟨y, d, g, ρ, m', rfl, List.mem_singleton_self _, oky, by omega, ?_⟩
      repeat' (walk_at "pt 1")
      exact q
end
end
set_option Elab.async false
set_option linter.all false
set_option maxRecDepth 100000
set_option maxHeartbeats 4000000
set_option autoImplicit false
set_option pp.maxSteps 600
section
variable {P : Program} {w : World} {K : PySem.W.Frag} {mg : Str → Option Value} {base : Heap} {n : Nat}
section
theorem scGen : FnScope ["saying", "names", "k"] ["saying"] (defScope (top 8)) := ⟨rfl, rfl, rfl, by decide +kernel, rfl, by decide +kernel, by decide +kernel⟩
local macro_rules | `(tactic| walk_at "pt 1") => `(tactic| first
  | ((with_reducible refine aw_cons (hs := ?hs) (h := ?_)); (case hs => exact rfl))
  | ((with_reducible refine aw_nil (hk := ?_)))
  | ((with_reducible refine ew_var (x := "saying") (i := 0) (t := ?t) ?hi ?_ ?hN ?hv ?hd ?hc); (case hi => exact rfl); (case hN => exact rfl); (case hv => first | exact Or.inl rfl | exact Or.inr (Or.inl rfl) | exact Or.inr (Or.inr rfl)); (case hd => decide); (case hc => decide))
  | ((with_reducible refine ew_var (x := "names") (i := 1) (t := ?t) ?hi ?_ ?hN ?hv ?hd ?hc); (case hi => exact rfl); (case hN => exact rfl); (case hv => first | exact Or.inl rfl | exact Or.inr (Or.inl rfl) | exact Or.inr (Or.inr rfl)); (case hd => decide); (case hc => decide))
  | ((with_reducible refine ew_var (x := "k") (i := 2) (t := ?t) ?hi ?_ ?hN ?hv ?hd ?hc); (case hi => exact rfl); (case hN => exact rfl); (case hv => first | exact Or.inl rfl | exact Or.inr (Or.inl rfl) | exact Or.inr (Or.inr rfl)); (case hd => decide); (case hc => decide))
  | ((with_reducible refine ew_sub (h := ?_)))
  | ((with_reducible refine ew_callF (x := "atom") (n := ?n) (pre := ?pre) (C := ?C) (hr := ?hr) (hg := ?hg) (hdb := ?hdb) (he := ?he) (hpl := ?hpl) (h := ?_)); (case C => exact All.c_atom (by assumption)); (case hr => assumption); (case hg => exact rfl); (case hdb => decide); (case he => exact rfl); (case hpl => exact rfl))
  | ((with_reducible refine ew_callB (x := "len") (id := "len") (hm := ?hm) (hv := ?hv) (hg := ?hg) (hn := ?hn) (hdb := ?hdb) (he := ?he) (hpl := ?hpl) (h := ?_)); (case hm => exact Mg.len (by assumption)); (case hv => exact rfl); (case hg => exact rfl); (case hn => decide); (case hdb => decide); (case he => exact rfl); (case hpl => exact rfl))
  | ((with_reducible refine ew_callF (x := "letter_name") (n := ?n) (pre := ?pre) (C := ?C) (hr := ?hr) (hg := ?hg) (hdb := ?hdb) (he := ?he) (hpl := ?hpl) (h := ?_)); (case C => exact All.c_letter_name (by assumption)); (case hr => assumption); (case hg => exact rfl); (case hdb => decide); (case he => exact rfl); (case hpl => exact rfl))
  | ((with_reducible refine ew_call (x := "names_in_order") (n := ?n) (con := ?con) (C := ?C) (hr := ?hr) (hg := ?hg) (hdb := ?hdb) (he := ?he) (hpl := ?hpl) (h := ?_)); (case C => exact All.c_names_in_order (by assumption)); (case hr => assumption); (case hg => exact rfl); (case hdb => decide); (case he => exact rfl); (case hpl => exact rfl))
  | ((with_reducible refine ew_callF (x := "put_in") (n := ?n) (pre := ?pre) (C := ?C) (hr := ?hr) (hg := ?hg) (hdb := ?hdb) (he := ?he) (hpl := ?hpl) (h := ?_)); (case C => exact All.c_put_in (by assumption)); (case hr => assumption); (case hg => exact rfl); (case hdb => decide); (case he => exact rfl); (case hpl => exact rfl))
  | ((with_reducible refine tw_call (h := ?_)))
  | ((with_reducible refine tw_name (h := ?_)))
  | ((with_reducible refine sw_cons (h := ?_)))
  | ((with_reducible refine sw_nil (h := ?_)))
  | ((with_reducible refine s1_ret0 (h := ?_)))
  | ((with_reducible refine s1_set (x := "names") (i := 1) ?hN ?hi ?_ ?hx ?hs ?hf); (case hN => exact (scGen).nd); (case hi => exact rfl); (case hx => first | exact Or.inl rfl | exact Or.inr rfl); (case hs => exact rfl); (case hf => first | exact Or.inr rfl | exact Or.inl rfl))
  | ((with_reducible refine s1_set (x := "k") (i := 2) ?hN ?hi ?_ ?hx ?hs ?hf); (case hN => exact (scGen).nd); (case hi => exact rfl); (case hx => first | exact Or.inl rfl | exact Or.inr rfl); (case hs => exact rfl); (case hf => first | exact Or.inr rfl | exact Or.inl rfl))
  | ((with_reducible refine xw_tup (t := ?t) (he := ?he) (hs := ?hs) (hk := ?_)); (case he => first | exact rfl | exact atT0 | exact atT1); (case hs => exact fun _ _ => rfl))
  | ((with_reducible refine xw_lst (ts := ?ts) (t := ?t) (hp := ?hp) (he := ?he) (hs := ?hs) (hk := ?_)); (case hp => walk_at "pt rdb"); (case he => first | exact rfl | exact atT0 | exact atT1); (case hs => exact fun _ _ => rfl))
  | ((with_reducible refine cw_lenT (hk := ?_)))
  | ((with_reducible refine And.intro ?hx ?_); (case hx => exact Nat.le_of_ble_eq_true rfl))
  | (with_reducible refine Exists.intro _ (And.intro rfl ?_))
  | (refine tst_t (by decide +kernel) ?_)
  | (refine tst_f (by decide +kernel) ?_)
  | (refine Exists.intro _ (Exists.intro _ (And.intro rfl (And.intro (by walk_at "pt rdb") ?_))))
  | fail)
theorem letFrom_len (k : Nat) (os : List Nm) : (letFrom k os).length = os.length := by
  have := congrArg List.length (letFrom_dom k os)
  rwa [dom, List.length_map] at this
theorem not_mem_take {α : Type} {xs : List α} (nd : xs.Nodup) {i : Nat} (hi : i < xs.length) : xs[i] ∉ xs.take i := fun h => by
  obtain ⟨j, hj, e⟩ := List.mem_take_iff_getElem.mp h
  exact List.pairwise_iff_getElem.mp nd j i (by omega) hi (by omega) e
theorem ok_general (M : Mg mg) (D : Df K mg "general" (top 8) ["saying"]) (C : All P w K mg base n) : Cl P w K mg base (n + 1) "general" (Fn (pGeneral (n + 1))) := by
  refine cl_of D scGen (fun ts F S k h => ?_) (fun a hr ts F S k h => ?_)
  · obtain ⟨_, _, _, rfl, _⟩ := h; rfl
  obtain ⟨rfl, hn, s, rfl, hd, hl, q⟩ := h
  refine sw_cons ?_
  repeat' (walk_at "pt 1")
  refine ⟨[], [], _, [], rfl, by simp, by omega, s, rfl, rfl, hd, by omega, fun pn => ?_⟩
  simp only [List.nil_append]
  repeat' (walk_at "pt 1")
  refine ew_dc1 (own := [("k", 2)]) (g := gName 2) (up := up1 2) rfl scGen.nd ?_ (fun s1 H1 C1 cl1 fp1 => pg_name scGen.nd rfl (.inl rfl)) (tgt1 (by simp)) ?_
  · show BlkOk ["saying", "names", "k"] (defScope (top 8)) _ _
    exact ⟨rfl, by decide +kernel, by decide +kernel, by decide +kernel, by decide +kernel⟩
  refine iw_range1 (Mg.range (by assumption)) ?_
  repeat' (walk_at "pt 1")
  refine cw_lenL (.inl (.head _)) ?_
  repeat' (walk_at "pt 1")
  rw [List.length_map]
  refine ⟨by omega, fun i acc S1 => acc = (letFrom 0 ((order s).take i)).t ∧ S1 = [(pn, .lst (nmT (order s)))], ⟨rfl, rfl⟩, fun _ _ _ _ => trivial, ?_, ?_⟩
  · rintro i t acc S2 hu ⟨rfl, rfl⟩
    simp only [rng, Int.toNat_natCast] at hu
    rw [List.getElem?_map] at hu
    obtain ⟨j, hj, rfl⟩ := Option.map_eq_some_iff.mp hu
    obtain ⟨hi, hj'⟩ := List.getElem?_eq_some_iff.mp hj
    simp only [List.length_range] at hi
    rw [List.getElem_range] at hj'
    subst hj'
    have lz : (letFrom 0 ((order s).take i)).t.length < 100000 := by rw [Tab.t_length, letFrom_len, List.length_take]; omega
    refine ⟨lz, _, rfl, fun s1 H1 C1 cl1 fp1 => tsw_nil (tst_t rfl fun s2 H2 C2 cl2 fp2 => ?_)⟩
    repeat' (walk_at "pt 1")
    refine xw_lst (.inl (.head _)) (t := .str (order s)[i].s) ?_ ?_
    · rw [Int.zero_add]; exact atI_nat (by rw [List.getElem?_map, List.getElem?_eq_getElem hi]; rfl)
    refine ⟨.inr (order s)[i].s, rfl, fun s3 H3 C3 cl3 fp3 => ?_⟩
    repeat' (walk_at "pt 1")
    refine fc0 ⟨by omega, i, by omega, by rw [Int.zero_add], ?_⟩
    repeat' (walk_at "pt 1")
    refine fc0 ⟨by omega, _, rfl, ?_⟩
    refine ⟨lz, ?_, rfl⟩
    rw [List.take_succ_eq_append_getElem hi, letFrom_snoc]
    have nd := order_nd s
    have nin : (order s)[i] ∉ (letFrom 0 ((order s).take i)).map (·.1) := by
      show _ ∉ dom _
      rw [letFrom_dom]
      exact not_mem_take nd hi
    rw [List.length_take, Nat.min_eq_left (by omega), Nat.zero_add]
    exact Tab.put_new (s := .atom (ltr i)) nin
  · rintro acc S2 ⟨rfl, rfl⟩ qd hq
    simp only [rng, List.length_map, Int.toNat_natCast, List.length_range, List.take_length]
    repeat' (walk_at "pt 1")
    refine fc1 (qd, .dk (letFrom 0 (order s)).t) (.inl (.head _)) ⟨s, qd, _, rfl, List.mem_singleton_self _, by omega, ?_⟩
    rw [put_let]
    exact q
end
section
theorem scLike : FnScope ["one", "other"] ["one", "other"] (defScope (top 9)) := ⟨rfl, rfl, rfl, by decide +kernel, rfl, by decide +kernel, by decide +kernel⟩
local macro_rules | `(tactic| walk_at "pt 1") => `(tactic| first
  | ((with_reducible refine aw_cons (hs := ?hs) (h := ?_)); (case hs => exact rfl))
  | ((with_reducible refine aw_nil (hk := ?_)))
  | ((with_reducible refine ew_var (x := "one") (i := 0) (t := ?t) ?hi ?_ ?hN ?hv ?hd ?hc); (case hi => exact rfl); (case hN => exact rfl); (case hv => first | exact Or.inl rfl | exact Or.inr (Or.inl rfl) | exact Or.inr (Or.inr rfl)); (case hd => decide); (case hc => decide))
  | ((with_reducible refine ew_var (x := "other") (i := 1) (t := ?t) ?hi ?_ ?hN ?hv ?hd ?hc); (case hi => exact rfl); (case hN => exact rfl); (case hv => first | exact Or.inl rfl | exact Or.inr (Or.inl rfl) | exact Or.inr (Or.inr rfl)); (case hd => decide); (case hc => decide))
  | ((with_reducible refine tw_cmp (hm := ?hm) (h := ?_)); (case hm => exact rfl))
  | ((with_reducible refine ew_cmp (hm := ?hm) (h := ?_)); (case hm => exact rfl))
  | ((with_reducible refine ew_callF (x := "general") (n := ?n) (pre := ?pre) (C := ?C) (hr := ?hr) (hg := ?hg) (hdb := ?hdb) (he := ?he) (hpl := ?hpl) (h := ?_)); (case C => exact All.c_general (by assumption)); (case hr => assumption); (case hg => exact rfl); (case hdb => decide); (case he => exact rfl); (case hpl => exact rfl))
  | ((with_reducible refine tw_call (h := ?_)))
  | ((with_reducible refine tw_name (h := ?_)))
  | ((with_reducible refine sw_cons (h := ?_)))
  | ((with_reducible refine sw_nil (h := ?_)))
  | ((with_reducible refine s1_ret0 (h := ?_)))
  | ((with_reducible refine bw_eqs (h := ?h) (hk := ?_)); (case h => exact rfl))
  | ((with_reducible refine And.intro ?hx ?_); (case hx => exact Nat.le_of_ble_eq_true rfl))
  | (with_reducible refine Exists.intro _ (And.intro rfl ?_))
  | (refine tst_t (by decide +kernel) ?_)
  | (refine tst_f (by decide +kernel) ?_)
  | (refine Exists.intro _ (Exists.intro _ (And.intro rfl (And.intro (by walk_at "pt rdb") ?_))))
  | fail)
theorem ok_alike (M : Mg mg) (D : Df K mg "are_like" (top 9) ["one", "other"]) (C : All P w K mg base n) : Cl P w K mg base (n + 1) "are_like" (Fn (pAlike (n + 1))) := by
  refine cl_of D scLike (fun ts F S k h => ?_) (fun a hr ts F S k h => ?_)
  · obtain ⟨_, _, _, _, rfl, _⟩ := h; rfl
  obtain ⟨rfl, hn, x, y, rfl, dx, dy, lx, ly, q⟩ := h
  refine sw_cons ?_
  repeat' (walk_at "pt 1")
  refine fc0 ⟨by omega, x, rfl, dx, lx, ?_⟩
  repeat' (walk_at "pt 1")
  refine fc0 ⟨by omega, y, rfl, dy, ly, ?_⟩
  repeat' (walk_at "pt 1")
  refine bw_eqd hr.units (Say.eqT (Nat.le_trans (Nat.le_of_eq (general_dep x)) (by omega)) (Nat.le_trans (Nat.le_of_eq (general_dep y)) (by omega))) ?_
  exact q
end
end
set_option Elab.async false
set_option linter.all false
set_option maxRecDepth 100000
set_option maxHeartbeats 4000000
set_option autoImplicit false
set_option pp.maxSteps 600
section
variable {P : Program} {w : World} {K : PySem.W.Frag} {mg : Str → Option Value} {base : Heap} {n : Nat}
section
theorem scStands : FnScope ["name", "saying", "table", "waiting", "now"] ["name", "saying", "table"] (defScope (top 13)) := ⟨rfl, rfl, rfl, by decide +kernel, rfl, by decide +kernel, by decide +kernel⟩
local macro_rules | `(tactic| walk_at "pt v") => `(tactic| first
  | ((with_reducible refine ew_var (x := "name") (i := 0) (t := ?t) ?hi ?_ ?hN ?hv ?hd ?hc); (case hi => exact rfl); (case hN => exact rfl); (case hv => first | exact Or.inl rfl | exact Or.inr (Or.inl rfl) | exact Or.inr (Or.inr rfl)); (case hd => decide); (case hc => decide))
  | ((with_reducible refine ew_var (x := "saying") (i := 1) (t := ?t) ?hi ?_ ?hN ?hv ?hd ?hc); (case hi => exact rfl); (case hN => exact rfl); (case hv => first | exact Or.inl rfl | exact Or.inr (Or.inl rfl) | exact Or.inr (Or.inr rfl)); (case hd => decide); (case hc => decide))
  | ((with_reducible refine ew_var (x := "table") (i := 2) (t := ?t) ?hi ?_ ?hN ?hv ?hd ?hc); (case hi => exact rfl); (case hN => exact rfl); (case hv => first | exact Or.inl rfl | exact Or.inr (Or.inl rfl) | exact Or.inr (Or.inr rfl)); (case hd => decide); (case hc => decide))
  | ((with_reducible refine ew_var (x := "waiting") (i := 3) (t := ?t) ?hi ?_ ?hN ?hv ?hd ?hc); (case hi => exact rfl); (case hN => exact rfl); (case hv => first | exact Or.inl rfl | exact Or.inr (Or.inl rfl) | exact Or.inr (Or.inr rfl)); (case hd => decide); (case hc => decide))
  | ((with_reducible refine ew_var (x := "now") (i := 4) (t := ?t) ?hi ?_ ?hN ?hv ?hd ?hc); (case hi => exact rfl); (case hN => exact rfl); (case hv => first | exact Or.inl rfl | exact Or.inr (Or.inl rfl) | exact Or.inr (Or.inr rfl)); (case hd => decide); (case hc => decide))
  | ((with_reducible refine s1_set (x := "waiting") (i := 3) ?hN ?hi ?_ ?hx ?hs ?hf); (case hN => exact (scStands).nd); (case hi => exact rfl); (case hx => first | exact Or.inl rfl | exact Or.inr rfl); (case hs => exact rfl); (case hf => first | exact Or.inr rfl | exact Or.inl rfl))
  | ((with_reducible refine s1_set (x := "now") (i := 4) ?hN ?hi ?_ ?hx ?hs ?hf); (case hN => exact (scStands).nd); (case hi => exact rfl); (case hx => first | exact Or.inl rfl | exact Or.inr rfl); (case hs => exact rfl); (case hf => first | exact Or.inr rfl | exact Or.inl rfl))
  | fail)
local macro_rules | `(tactic| walk_at "pt 1") => `(tactic| first
  | ((with_reducible refine aw_cons (hs := ?hs) (h := ?_)); (case hs => exact rfl))
  | ((with_reducible refine aw_nil (hk := ?_)))
  | ((with_reducible refine ew_sub (h := ?_)))
  | ((with_reducible refine ew_str (hk := ?_)))
  | ((with_reducible refine ew_int (hk := ?_)))
  | ((with_reducible refine ew_bl (hk := ?_)))
  | ((with_reducible refine tw_cmp (hm := ?hm) (h := ?_)); (case hm => exact rfl))
  | ((with_reducible refine ew_cmp (hm := ?hm) (h := ?_)); (case hm => exact rfl))
  | ((with_reducible refine ew_lst (h := ?_)))
  | ((with_reducible refine ew_callF (x := "parts_of") (n := ?n) (pre := ?pre) (C := ?C) (hr := ?hr) (hg := ?hg) (hdb := ?hdb) (he := ?he) (hpl := ?hpl) (h := ?_)); (case C => exact All.c_parts_of (by assumption)); (case hr => assumption); (case hg => exact rfl); (case hdb => decide); (case he => exact rfl); (case hpl => exact rfl))
  | ((with_reducible refine ew_mth (name := "append") (id := "list.append") (rr := rAppend) (slot := ?slot) (hty := ?hty) (hm := ?hm) (hbase := ?hbase) (hfew := ?hfew) (hline := ?hline) (hs := ?hs) (hplain := ?hplain) (h := ?_)); (case slot => exact PySem.F.slot_list_append); (case hty => exact PySem.F.type_list_append); (case hm => exact mt_append); (case hbase => exact rfl); (case hfew => exact rfl); (case hline => exact rfl); (case hs => exact rfl); (case hplain => exact rfl))
  | ((with_reducible refine ew_ext (hbase := ?hbase) (hfew := ?hfew) (hline := ?hline) (hs := ?hs) (hplain := ?hplain) (h := ?_)); (case hbase => exact rfl); (case hfew => exact rfl); (case hline => exact rfl); (case hs => exact rfl); (case hplain => exact rfl))
  | ((with_reducible refine ew_mth0 (name := "pop") (id := "list.pop") (rr := rPop) (slot := ?slot) (hty := ?hty) (hm := ?hm) (hbase := ?hbase) (hline := ?hline) (h := ?_)); (case slot => exact PySem.F.slot_list_pop); (case hty => exact PySem.F.type_list_pop); (case hm => exact mt_pop); (case hbase => exact rfl); (case hline => exact rfl))
  | ((with_reducible refine tw_call (h := ?_)))
  | ((with_reducible refine tw_name (h := ?_)))
  | ((with_reducible refine sw_cons (h := ?_)))
  | ((with_reducible refine sw_nil (h := ?_)))
  | ((with_reducible refine s1_ret0 (h := ?_)))
  | ((with_reducible refine s1_if (h := ?_)))
  | ((with_reducible refine s1_expr (hs := ?hs) (h := ?_)); (case hs => exact rfl))
  | ((with_reducible refine bw_eqs (h := ?h) (hk := ?_)); (case h => exact rfl))
  | ((with_reducible refine bw_nes (h := ?h) (hk := ?_)); (case h => exact rfl))
  | ((with_reducible refine bw_inT (hx := ?hx) (hf := ?hf) (hk := ?_)); (case hx => exact rfl); (case hf => exact rfl))
  | ((with_reducible refine bw_inL (xs := ?xs) (hp := ?hp) (hx := ?hx) (hf := ?hf) (hk := ?_)); (case hp => walk_at "pt rdb"); (case hx => exact rfl); (case hf => exact rfl))
  | ((with_reducible refine xw_tup (t := ?t) (he := ?he) (hs := ?hs) (hk := ?_)); (case he => first | exact rfl | exact atT0 | exact atT1); (case hs => exact fun _ _ => rfl))
  | ((with_reducible refine xw_lst (ts := ?ts) (t := ?t) (hp := ?hp) (he := ?he) (hs := ?hs) (hk := ?_)); (case hp => walk_at "pt rdb"); (case he => first | exact rfl | exact atT0 | exact atT1); (case hs => exact fun _ _ => rfl))
  | ((with_reducible refine And.intro ?hx ?_); (case hx => exact Nat.le_of_ble_eq_true rfl))
  | (with_reducible refine Exists.intro _ (And.intro rfl ?_))
  | (refine tst_t (by decide +kernel) ?_)
  | (refine tst_f (by decide +kernel) ?_)
  | (refine Exists.intro _ (Exists.intro _ (And.intro rfl (And.intro (by walk_at "pt rdb") ?_))))
  | walk_at "pt v"
  | fail)
/-- a stack whose height is kept low by the levels -/
def StkL (N : Nm → Nat) (M : Nat) (ws : List Say) : Prop := ∀ (i : Nat) (x : Say), ws[i]? = some x → i + lv N x ≤ M
theorem StkL.len {N : Nm → Nat} {M : Nat} {ws : List Say} (h : StkL N M ws) : ws.length ≤ M + 1 := by
  cases hw : ws.length with
  | zero => exact Nat.zero_le _
  | succ k =>
    have hk : k < ws.length := by omega
    have := h k _ (List.getElem?_eq_getElem hk)
    omega
theorem StkL.step {N : Nm → Nat} {M : Nat} {ws us : List Say} {x : Say} (h : StkL N M (ws ++ [x])) (hu : ∀ y ∈ us, lv N y + 1 ≤ lv N x) (hl : us.length ≤ 2) : StkL N M (ws ++ us) := by
  intro i y e
  by_cases hi : i < ws.length
  · rw [List.getElem?_append_left hi] at e
    exact h i y (by rw [List.getElem?_append_left hi]; exact e)
  · rw [List.getElem?_append_right (by omega)] at e
    have hx := h ws.length x (by simp)
    have hy := hu y (List.mem_of_getElem? e)
    have : i - ws.length < us.length := (List.getElem?_eq_some_iff.mp e).1
    omega
def wss (W : Nm → Nat) (ws : List Say) : Nat := (ws.map (wsum W)).sum
theorem wss_app {W : Nm → Nat} {ws us : List Say} : wss W (ws ++ us) = wss W ws + wss W us := by simp [wss]
/-- the search -/
structure Srch (N W : Nm → Nat) (ρ : Nm → Say) (x : Nm) (s : Say) (ws : List Say) : Prop where
  (at_ : x ∈ (s.sub ρ).atoms ↔ ∃ u ∈ ws, x ∈ (u.sub ρ).atoms) (stk : StkL N 100 ws) (dep : ∀ u ∈ ws, u.dep ≤ 60)
theorem Srch.step {N W : Nm → Nat} {ρ : Nm → Say} {x : Nm} {s u : Say} {ws us : List Say} (h : Srch N W ρ x s (ws ++ [u])) (hu : ∀ y ∈ us, lv N y + 1 ≤ lv N u) (hl : us.length ≤ 2) (hd : ∀ y ∈ us, y.dep ≤ 60) (he : x ∈ (u.sub ρ).atoms ↔ ∃ y ∈ us, x ∈ (y.sub ρ).atoms) : Srch N W ρ x s (ws ++ us) := by
  refine ⟨?_, h.stk.step hu hl, fun y hy => ?_⟩
  · rw [h.at_]
    constructor
    · rintro ⟨v, hv, q⟩
      rcases List.mem_append.mp hv with hv | hv
      · exact ⟨v, List.mem_append.mpr (.inl hv), q⟩
      · rw [List.mem_singleton.mp hv] at q
        obtain ⟨y, hy, q⟩ := he.mp q
        exact ⟨y, List.mem_append.mpr (.inr hy), q⟩
    · rintro ⟨v, hv, q⟩
      rcases List.mem_append.mp hv with hv | hv
      · exact ⟨v, List.mem_append.mpr (.inl hv), q⟩
      · exact ⟨u, by simp, he.mpr ⟨v, hv, q⟩⟩
  · rcases List.mem_append.mp hy with hy | hy
    · exact h.dep y (List.mem_append.mpr (.inl hy))
    · exact hd y hy
theorem ok_stands (M : Mg mg) (D : Df K mg "stands_in" (top 13) ["name", "saying", "table"]) (C : All P w K mg base n) : Cl P w K mg base (n + 1) "stands_in" (Fn (pStands (n + 1))) := by
  refine cl_of D scStands (fun ts F S k h => ?_) (fun a hr ts F S k h => ?_)
  · obtain ⟨_, _, _, _, _, _, _, rfl, _⟩ := h; rfl
  obtain ⟨rfl, hn, x, s, d, g, ρ, rfl, hd, ok, hx, q⟩ := h
  obtain ⟨N, l1, l2⟩ := ok.lv
  obtain ⟨W, w1, w2⟩ := tri_weight ok.tri
  refine sw_cons ?_
  repeat' (walk_at "pt 1")
  intro pw hpw
  refine sw_cons ?_
  refine s1_whileW [some (.str x.s), some s.t, some (.ref d), some (.ref pw), none] PassesOwn.never
    (fun m S => ∃ ws, S = [(pw, .lst (ws.map Say.t))] ∧ Srch N W ρ x s ws ∧ m = wss W ws) ⟨rfl, rfl, rfl, rfl, trivial⟩ ⟨_, [s], rfl, ⟨by simp, fun i y e => ?_, by simpa using ok.sd⟩, rfl⟩ ?_
  · cases i with
    | zero => simp at e; subst e; omega
    | succ i => simp at e
  rintro m S1 ⟨ws, rfl, inv, rfl⟩
  repeat' (walk_at "pt 1")
  intro q0 hq0
  refine bw_neE hr.units (.inl (.tail _ (.head _))) (.inl (.head _)) (fun u hu => ?_) ⟨_, rfl, ?_⟩
  · obtain ⟨y, hy, rfl⟩ := List.mem_map.mp hu
    have := inv.dep y hy
    exact fit_say (by omega)
  refine ⟨fun hb => ?_, fun hb => ?_⟩
  · rcases List.eq_nil_or_concat ws with rfl | ⟨ws', u, rfl⟩
    · simp at hb
    refine sw_drop (List.sublist_cons_self _ _) ?_
    simp only [List.concat_eq_append, List.map_append, List.map_cons, List.map_nil] at inv ⊢
    have hdu : u.dep ≤ 60 := inv.dep u (by simp)
    have lw := inv.stk.len
    rw [List.length_append, List.length_singleton] at lw
    refine sw_cut (fun r1 S1 => r1 = [some (.str x.s), some s.t, some (.ref d), some (.ref pw), some u.t] ∧ S1 = [(pw, .lst (ws'.map Say.t))]) ?_ ?_
    · repeat' (walk_at "pt 1")
      exact mw_pop (Sa := []) ⟨rfl, rfl⟩
    rintro _ _ ⟨rfl, rfl⟩
    cases u with
    | atom y =>
      simp only [Say.t]
      repeat' (walk_at "pt 1")
      refine ⟨fun hb => ?_, fun hb => ?_⟩
      · have e : y = x := Nm.inj.mp (by simpa [T.sEq] using hb)
        repeat' (walk_at "pt 1")
        have : decide (x ∈ (s.sub ρ).atoms) = true := by
          rw [decide_eq_true_eq, inv.at_]
          refine ⟨.atom y, by simp, ?_⟩
          rw [e, show (Say.atom x).sub ρ = .atom x from tri_out ok.tri x hx]
          simp [Say.atoms]
        rw [this] at q
        exact q
      have ne : y ≠ x := fun e => by rw [e] at hb; simp [T.sEq] at hb
      repeat' (walk_at "pt 1")
      refine bw_inD (kk := .inr y.s) (hu_of hr) (.inr hd) ?_
      rw [Tab.val]
      cases e : g.get y with
      | some t =>
        have m := Tab.get_mem e
        have q1 : lv N t + 1 ≤ N y := l1.ent _ m
        have q2 : wsum W t + 1 ≤ W y := w2 _ m
        have st := inv.step (us := [t]) (fun z hz => by simp at hz; subst hz; exact q1) (by simp) (fun z hz => by simp at hz; subst hz; exact ok.gd _ m) (by
          rw [show (Say.atom y).sub ρ = t.sub ρ from tri_sat ok.tri _ m]; simp)
        refine ⟨_, rfl, tst_t rfl ?_⟩
        repeat' (walk_at "pt 1")
        refine xw_dk (kk := .inr y.s) (t := t.t) (hu_of hr) (.inr hd) (by rw [Tab.val, e]; rfl) ?_
        repeat' (walk_at "pt 1")
        refine mw_append (Sa := []) (ts := ws'.map Say.t) (by rw [List.length_map]; omega) ?_
        repeat' (walk_at "pt 1")
        refine fc0 ⟨by omega, .atom y, rfl, ?_⟩
        repeat' (walk_at "pt 1")
        refine mw_extT (Sa := []) (ts := ws'.map Say.t ++ [t.t]) (by simp [Say.parts]; omega) ?_
        refine sw_nil ⟨⟨rfl, rfl, rfl, rfl, trivial⟩, wss W (ws' ++ [t]), by rw [wss_app, wss_app]; simp [wss, wsum]; omega, ws' ++ [t], by simp [Say.parts], st, rfl⟩
      | none =>
        have st := inv.step (us := []) (by simp) (by simp) (by simp) (by
          rw [show (Say.atom y).sub ρ = .atom y from tri_out ok.tri y (Tab.get_none.mp e)]
          simp [Say.atoms]
          exact fun z => ne z.symm)
        rw [List.append_nil] at st
        have := w1 y
        refine ⟨_, rfl, tst_f rfl ?_⟩
        repeat' (walk_at "pt 1")
        refine fc0 ⟨by omega, .atom y, rfl, ?_⟩
        repeat' (walk_at "pt 1")
        refine mw_extT (Sa := []) (ts := ws'.map Say.t) (by simp [Say.parts]; omega) ?_
        refine sw_nil ⟨⟨rfl, rfl, rfl, rfl, trivial⟩, wss W ws', by rw [wss_app]; simp [wss, wsum]; omega, ws', by simp [Say.parts], st, rfl⟩
    | fls =>
      simp only [Say.t]
      repeat' (walk_at "pt 1")
      refine fc0 ⟨by omega, .fls, rfl, ?_⟩
      repeat' (walk_at "pt 1")
      refine mw_extT (Sa := []) (ts := ws'.map Say.t) (by simp [Say.parts]; omega) ?_
      refine sw_nil ⟨⟨rfl, rfl, rfl, rfl, trivial⟩, wss W ws', by rw [wss_app]; simp [wss, wsum], ws', by simp [Say.parts], ?_, rfl⟩
      have := inv.step (us := []) (by simp) (by simp) (by simp) (by simp [Say.sub, Say.atoms])
      rwa [List.append_nil] at this
    | bin v a b =>
      have st := inv.step (us := [a, b]) (fun y hy => by simp at hy; rcases hy with rfl | rfl <;> simp only [lv] <;> omega) (by simp) (fun y hy => by simp only [Say.dep] at hdu; simp at hy; rcases hy with rfl | rfl <;> omega) (by simp [Say.sub, Say.atoms])
      cases v <;>
      · simp only [Say.t, Bw.s]
        repeat' (walk_at "pt 1")
        first | refine fc0 ⟨by omega, .bin .thn a b, rfl, ?_⟩ | refine fc0 ⟨by omega, .bin .and a b, rfl, ?_⟩ | refine fc0 ⟨by omega, .bin .or a b, rfl, ?_⟩
        repeat' (walk_at "pt 1")
        refine mw_extT (Sa := []) (ts := ws'.map Say.t) (by simp [Say.parts]; omega) ?_
        refine sw_nil ⟨⟨rfl, rfl, rfl, rfl, trivial⟩, wss W (ws' ++ [a, b]), by rw [wss_app, wss_app]; simp [wss, wsum], ws' ++ [a, b], by simp [Say.parts], st, rfl⟩
  · have he : ws = [] := by
      cases ws with
      | nil => rfl
      | cons x ws => simp at hb
    subst he
    repeat' (walk_at "pt 1")
    have : decide (x ∈ (s.sub ρ).atoms) = false := by simpa using inv.at_
    rw [this] at q
    exact q
end
end
set_option Elab.async false
set_option linter.all false
set_option maxRecDepth 100000
set_option maxHeartbeats 4000000
set_option autoImplicit false
set_option pp.maxSteps 600
section
variable {P : Program} {w : World} {K : PySem.W.Frag} {mg : Str → Option Value} {base : Heap} {n : Nat}
theorem fit_pair {p : Say × Say} (h1 : p.1.dep ≤ 62) (h2 : p.2.dep ≤ 62) : Fit 63 (pairS p) := by
  refine ⟨.tuple [p.1.d, p.2.d], by simp only [pairS, T.py, T.pys, p.1.py, p.2.py]; rfl, by simp only [PyData.canLay0, PyData.canLayAll0, p.1.lay, p.2.lay]; rfl, ?_⟩
  have := p.1.deep
  have := p.2.deep
  simp only [PyData.depth, PyData.depthAll]
  omega
/-- what is found and what waits, of an instance -/
structure Mi (s u : Say) (g : Tab) (ps : List (Say × Say)) : Prop where
  (nd : (dom g).Nodup) (sol : ∀ θ, Tells θ g ∧ SolI θ ps ↔ s.sub θ = u) (dm : ∀ x, x ∈ dom g ∨ x ∈ atomsL ps ↔ x ∈ s.atoms)
  (stk : Stk 61 (ps.map (·.1))) (d1 : ∀ p ∈ ps, p.1.dep ≤ 60 ∧ p.2.dep ≤ 60) (d2 : ∀ p ∈ g, p.2.dep ≤ 60)
theorem solI_app {θ : Nm → Say} {ps us : List (Say × Say)} : SolI θ (ps ++ us) ↔ SolI θ ps ∧ SolI θ us := by
  unfold SolI
  constructor
  · exact fun h => ⟨fun p hp => h p (List.mem_append.mpr (.inl hp)), fun p hp => h p (List.mem_append.mpr (.inr hp))⟩
  · rintro ⟨h1, h2⟩ p hp
    exact (List.mem_append.mp hp).elim (h1 p) (h2 p)
theorem atomsL_app {ps us : List (Say × Say)} : atomsL (ps ++ us) = atomsL ps ++ atomsL us := by simp [atomsL]
theorem Mi.few {s u : Say} {g : Tab} {ps : List (Say × Say)} (h : Mi s u g ps) (hl : (order s).length ≤ 60) : g.length ≤ 60 := by
  have := h.nd.length_le_of_subset (l₂ := order s) fun z hz => mem_order.mpr ((h.dm z).mp (.inl hz))
  simp only [dom, List.length_map] at this
  omega
theorem mi_nil {s u : Say} (h1 : s.dep ≤ 60) (h2 : u.dep ≤ 60) : Mi s u [] [(s, u)] := by
  refine ⟨List.nodup_nil, fun θ => ?_, fun x => by simp [dom, atomsL], fun i x e => ?_, by simpa using ⟨h1, h2⟩, fun p hp => (by cases hp)⟩
  · simp [SolI, Tells]
  · cases i with
    | zero => simp at e; subst e; omega
    | succ i => simp at e
theorem Mi.step {s u a b : Say} {g : Tab} {ps us : List (Say × Say)} (h : Mi s u g (ps ++ [(a, b)])) (hs : ∀ θ, a.sub θ = b ↔ SolI θ us) (ha : ∀ x, x ∈ a.atoms ↔ x ∈ atomsL us) (hd : ∀ p ∈ us, p.1.dep + 1 ≤ a.dep ∧ p.2.dep ≤ 60) (hl : us.length ≤ 2) : Mi s u g (ps ++ us) := by
  refine ⟨h.nd, fun θ => ?_, fun x => ?_, ?_, fun p hp => ?_, h.d2⟩
  · rw [← h.sol θ, solI_app, solI_app, ← hs θ, SolI.cons (ps := [])]
    simp [SolI]
  · rw [← h.dm x, atomsL_app, atomsL_app, List.mem_append, List.mem_append, ← ha x]
    simp [atomsL]
  · rw [List.map_append]
    refine Stk.step (x := a) (by have := h.stk; rwa [List.map_append] at this) (fun y hy => ?_) (by rwa [List.length_map])
    obtain ⟨p, hp, rfl⟩ := List.mem_map.mp hy
    exact (hd p hp).1
  · rcases List.mem_append.mp hp with hp | hp
    · exact h.d1 p (List.mem_append.mpr (.inl hp))
    · have := (h.d1 (a, b) (by simp)).1
      have := hd p hp
      simp only at *
      exact ⟨by omega, this.2⟩
theorem Mi.bind {s u b : Say} {x : Nm} {g : Tab} {ps : List (Say × Say)} (h : Mi s u g (ps ++ [(.atom x, b)])) (hg : g.get x = none) : Mi s u (g ++ [(x, b)]) ps := by
  have hx : x ∉ dom g := Tab.get_none.mp hg
  refine ⟨?_, fun θ => ?_, fun y => ?_, fun i z e => h.stk i z (by rw [List.map_append, List.getElem?_append_left (List.getElem?_eq_some_iff.mp e).1]; exact e), fun p hp => h.d1 p (List.mem_append.mpr (.inl hp)), fun p hp => ?_⟩
  · show ((g ++ [(x, b)]).map (·.1)).Nodup
    rw [List.map_append]
    exact List.nodup_append.mpr ⟨h.nd, by simp, fun a ha c hc z => by simp at hc; rw [z, hc] at ha; exact hx ha⟩
  · rw [← h.sol θ, solI_app, SolI.cons (ps := [])]
    have : Tells θ (g ++ [(x, b)]) ↔ Tells θ g ∧ θ x = b := by
      constructor
      · exact fun h => ⟨fun p hp => h p (List.mem_append.mpr (.inl hp)), h (x, b) (by simp)⟩
      · rintro ⟨h1, h2⟩ p hp
        rcases List.mem_append.mp hp with hp | hp
        · exact h1 p hp
        · rw [List.mem_singleton.mp hp]; exact h2
    rw [this]
    have e : (Say.atom x).sub θ = θ x := rfl
    rw [e]
    constructor
    · rintro ⟨⟨h1, h2⟩, h3⟩; exact ⟨h1, h3, h2, fun p hp => (by cases hp)⟩
    · rintro ⟨h1, h3, h2, _⟩; exact ⟨⟨h1, h2⟩, h3⟩
  · rw [← h.dm y, mem_dom, atomsL_app, List.mem_append]
    have e : y ∈ atomsL [((Say.atom x, b) : Say × Say)] ↔ y = x := by simp [atomsL, Say.atoms]
    rw [e]
    constructor
    · rintro ((z | z) | z)
      · exact .inl z
      · exact .inr (.inr z)
      · exact .inr (.inl z)
    · rintro (z | z | z)
      · exact .inl (.inl z)
      · exact .inr z
      · exact .inl (.inr z)
  · rcases List.mem_append.mp hp with hp | hp
    · exact h.d2 p hp
    · rw [List.mem_singleton.mp hp]; exact (h.d1 (.atom x, b) (by simp)).2
theorem Mi.bad {s u a b : Say} {g : Tab} {ps : List (Say × Say)} (h : Mi s u g (ps ++ [(a, b)])) (hs : ∀ θ, Tells θ g → a.sub θ ≠ b) : InstOf s u none := fun θ e => by
  obtain ⟨h1, h2⟩ := (h.sol θ).mpr e
  exact hs θ h1 ((solI_app.mp h2).2 (a, b) (by simp))
theorem Mi.done {s u : Say} {g : Tab} (h : Mi s u g []) : InstOf s u (some g) :=
  ⟨h.nd, fun θ => ⟨fun q => (h.sol θ).mp ⟨q, fun p hp => (by cases hp)⟩, fun q => ((h.sol θ).mpr q).1⟩, fun x => by show _ ↔ x ∈ s.atoms; rw [← h.dm x]; simp [atomsL]⟩
theorem Mi.same {s u b v : Say} {x : Nm} {g : Tab} {ps : List (Say × Say)} (h : Mi s u g (ps ++ [(.atom x, b)])) (hg : g.get x = some v) (e : v = b) : Mi s u g ps := by
  have m := Tab.get_mem hg
  subst e
  refine ⟨h.nd, fun θ => ?_, fun y => ?_, fun i z e => h.stk i z (by rw [List.map_append, List.getElem?_append_left (List.getElem?_eq_some_iff.mp e).1]; exact e), fun p hp => h.d1 p (List.mem_append.mpr (.inl hp)), h.d2⟩
  · rw [← h.sol θ, solI_app, SolI.cons (ps := [])]
    constructor
    · rintro ⟨h1, h2⟩; exact ⟨h1, h2, h1 _ m, fun p hp => (by cases hp)⟩
    · rintro ⟨h1, h2, _⟩; exact ⟨h1, h2⟩
  · rw [← h.dm y, atomsL_app, List.mem_append]
    have e : y ∈ atomsL [((Say.atom x, v) : Say × Say)] ↔ y = x := by simp [atomsL, Say.atoms]
    rw [e]
    constructor
    · rintro (z | z)
      · exact .inl z
      · exact .inr (.inl z)
    · rintro (z | z | z)
      · exact .inl z
      · exact .inr z
      · exact .inl (by rw [z]; exact List.mem_map_of_mem (f := (·.1)) m)
def szp (ps : List (Say × Say)) : Nat := (ps.map fun p => p.1.size).sum
theorem szp_app {ps us : List (Say × Say)} : szp (ps ++ us) = szp ps + szp us := by simp [szp]
section
theorem scInst : FnScope ["scheme", "saying", "found", "waiting", "one", "other"] ["scheme", "saying"] (defScope (top 10)) := ⟨rfl, rfl, rfl, by decide +kernel, rfl, by decide +kernel, by decide +kernel⟩
local macro_rules | `(tactic| walk_at "pt v") => `(tactic| first
  | ((with_reducible refine ew_var (x := "scheme") (i := 0) (t := ?t) ?hi ?_ ?hN ?hv ?hd ?hc); (case hi => exact rfl); (case hN => exact rfl); (case hv => first | exact Or.inl rfl | exact Or.inr (Or.inl rfl) | exact Or.inr (Or.inr rfl)); (case hd => decide); (case hc => decide))
  | ((with_reducible refine ew_var (x := "saying") (i := 1) (t := ?t) ?hi ?_ ?hN ?hv ?hd ?hc); (case hi => exact rfl); (case hN => exact rfl); (case hv => first | exact Or.inl rfl | exact Or.inr (Or.inl rfl) | exact Or.inr (Or.inr rfl)); (case hd => decide); (case hc => decide))
  | ((with_reducible refine ew_var (x := "found") (i := 2) (t := ?t) ?hi ?_ ?hN ?hv ?hd ?hc); (case hi => exact rfl); (case hN => exact rfl); (case hv => first | exact Or.inl rfl | exact Or.inr (Or.inl rfl) | exact Or.inr (Or.inr rfl)); (case hd => decide); (case hc => decide))
  | ((with_reducible refine ew_var (x := "waiting") (i := 3) (t := ?t) ?hi ?_ ?hN ?hv ?hd ?hc); (case hi => exact rfl); (case hN => exact rfl); (case hv => first | exact Or.inl rfl | exact Or.inr (Or.inl rfl) | exact Or.inr (Or.inr rfl)); (case hd => decide); (case hc => decide))
  | ((with_reducible refine ew_var (x := "one") (i := 4) (t := ?t) ?hi ?_ ?hN ?hv ?hd ?hc); (case hi => exact rfl); (case hN => exact rfl); (case hv => first | exact Or.inl rfl | exact Or.inr (Or.inl rfl) | exact Or.inr (Or.inr rfl)); (case hd => decide); (case hc => decide))
  | ((with_reducible refine ew_var (x := "other") (i := 5) (t := ?t) ?hi ?_ ?hN ?hv ?hd ?hc); (case hi => exact rfl); (case hN => exact rfl); (case hv => first | exact Or.inl rfl | exact Or.inr (Or.inl rfl) | exact Or.inr (Or.inr rfl)); (case hd => decide); (case hc => decide))
  | ((with_reducible refine s1_set (x := "found") (i := 2) ?hN ?hi ?_ ?hx ?hs ?hf); (case hN => exact (scInst).nd); (case hi => exact rfl); (case hx => first | exact Or.inl rfl | exact Or.inr rfl); (case hs => exact rfl); (case hf => first | exact Or.inr rfl | exact Or.inl rfl))
  | ((with_reducible refine s1_set (x := "waiting") (i := 3) ?hN ?hi ?_ ?hx ?hs ?hf); (case hN => exact (scInst).nd); (case hi => exact rfl); (case hx => first | exact Or.inl rfl | exact Or.inr rfl); (case hs => exact rfl); (case hf => first | exact Or.inr rfl | exact Or.inl rfl))
  | ((with_reducible refine s1_set (x := "one") (i := 4) ?hN ?hi ?_ ?hx ?hs ?hf); (case hN => exact (scInst).nd); (case hi => exact rfl); (case hx => first | exact Or.inl rfl | exact Or.inr rfl); (case hs => exact rfl); (case hf => first | exact Or.inr rfl | exact Or.inl rfl))
  | ((with_reducible refine s1_set (x := "other") (i := 5) ?hN ?hi ?_ ?hx ?hs ?hf); (case hN => exact (scInst).nd); (case hi => exact rfl); (case hx => first | exact Or.inl rfl | exact Or.inr rfl); (case hs => exact rfl); (case hf => first | exact Or.inr rfl | exact Or.inl rfl))
  | fail)
local macro_rules | `(tactic| walk_at "pt 1") => `(tactic| first
  | ((with_reducible refine aw_cons (hs := ?hs) (h := ?_)); (case hs => exact rfl))
  | ((with_reducible refine aw_nil (hk := ?_)))
  | ((with_reducible refine ew_revL (h := ?_)))
  | ((with_reducible refine ew_listZip (hc := ?hc) (hm := ?hm) (hm2 := ?hm2) (hg := ?hg) (hg2 := ?hg2) (hs := ?hs) (hpl := ?hpl) (hso := ?hso) (h := ?_)); (case hc => exact rfl); (case hm => exact Mg.list (by assumption)); (case hm2 => exact Mg.zip (by assumption)); (case hg => exact rfl); (case hg2 => exact rfl); (case hs => exact rfl); (case hpl => exact rfl); (case hso => exact rfl))
  | ((with_reducible refine ew_slice (h := ?_)))
  | ((with_reducible refine ew_sub (h := ?_)))
  | ((with_reducible refine ew_str (hk := ?_)))
  | ((with_reducible refine ew_int (hk := ?_)))
  | ((with_reducible refine ew_non (hk := ?_)))
  | ((with_reducible refine ew_tup (h := ?_)))
  | ((with_reducible refine tw_cmp (hm := ?hm) (h := ?_)); (case hm => exact rfl))
  | ((with_reducible refine ew_cmp (hm := ?hm) (h := ?_)); (case hm => exact rfl))
  | ((with_reducible refine ew_lst (h := ?_)))
  | ((with_reducible refine ew_callTy (x := "list") (T' := "list") (hm := ?hm) (hv := ?hv) (hg := ?hg) (hn := ?hn) (hdb := ?hdb) (he := ?he) (hpl := ?hpl) (h := ?_)); (case hm => exact Mg.list (by assumption)); (case hv => exact rfl); (case hg => exact rfl); (case hn => decide); (case hdb => decide); (case he => exact rfl); (case hpl => exact rfl))
  | ((with_reducible refine ew_callF (x := "parts_of") (n := ?n) (pre := ?pre) (C := ?C) (hr := ?hr) (hg := ?hg) (hdb := ?hdb) (he := ?he) (hpl := ?hpl) (h := ?_)); (case C => exact All.c_parts_of (by assumption)); (case hr => assumption); (case hg => exact rfl); (case hdb => decide); (case he => exact rfl); (case hpl => exact rfl))
  | ((with_reducible refine ew_ext (hbase := ?hbase) (hfew := ?hfew) (hline := ?hline) (hs := ?hs) (hplain := ?hplain) (h := ?_)); (case hbase => exact rfl); (case hfew => exact rfl); (case hline => exact rfl); (case hs => exact rfl); (case hplain => exact rfl))
  | ((with_reducible refine ew_mth0 (name := "pop") (id := "list.pop") (rr := rPop) (slot := ?slot) (hty := ?hty) (hm := ?hm) (hbase := ?hbase) (hline := ?hline) (h := ?_)); (case slot => exact PySem.F.slot_list_pop); (case hty => exact PySem.F.type_list_pop); (case hm => exact mt_pop); (case hbase => exact rfl); (case hline => exact rfl))
  | ((with_reducible refine ew_dnewK (h := ?_)))
  | ((with_reducible refine ew_disp1 (h := ?_)))
  | ((with_reducible refine ew_spread (h := ?_)))
  | ((with_reducible refine tw_call (h := ?_)))
  | ((with_reducible refine tw_name (h := ?_)))
  | ((with_reducible refine sw_cons (h := ?_)))
  | ((with_reducible refine sw_nil (h := ?_)))
  | ((with_reducible refine s1_if (h := ?_)))
  | ((with_reducible refine s1_expr (hs := ?hs) (h := ?_)); (case hs => exact rfl))
  | ((with_reducible refine bw_eqs (h := ?h) (hk := ?_)); (case h => exact rfl))
  | ((with_reducible refine bw_nes (h := ?h) (hk := ?_)); (case h => exact rfl))
  | ((with_reducible refine xw_tup (t := ?t) (he := ?he) (hs := ?hs) (hk := ?_)); (case he => first | exact rfl | exact atT0 | exact atT1); (case hs => exact fun _ _ => rfl))
  | ((with_reducible refine xw_lst (ts := ?ts) (t := ?t) (hp := ?hp) (he := ?he) (hs := ?hs) (hk := ?_)); (case hp => walk_at "pt rdb"); (case he => first | exact rfl | exact atT0 | exact atT1); (case hs => exact fun _ _ => rfl))
  | ((with_reducible refine ow_none (hk := ?_)))
  | ((with_reducible refine ow_some (h := ?_)))
  | ((with_reducible refine lw_tup (hk := ?_)))
  | ((with_reducible refine And.intro ?hx ?_); (case hx => exact Nat.le_of_ble_eq_true rfl))
  | (with_reducible refine Exists.intro _ (And.intro rfl ?_))
  | (refine tst_t (by decide +kernel) ?_)
  | (refine tst_f (by decide +kernel) ?_)
  | (refine Exists.intro _ (Exists.intro _ (And.intro rfl (And.intro (by walk_at "pt rdb") ?_))))
  | walk_at "pt v"
  | fail)
theorem ok_instance (M : Mg mg) (D : Df K mg "instance_of" (top 10) ["scheme", "saying"]) (C : All P w K mg base n) : Cl P w K mg base (n + 1) "instance_of" (cInst (n + 1)) := by
  refine cl_of D scInst (fun ts F S k h => ?_) (fun a hr ts F S k h => ?_)
  · obtain ⟨_, _, _, rfl, _⟩ := h; rfl
  obtain ⟨hn, s, u, rfl, rfl, ds, du, hl, q⟩ := h
  refine sw_cons (s1_par (i := 2) (j := 3) rfl scInst.nd rfl rfl (by decide) ?_)
  refine ew_dnewK fun pf hf => ?_
  repeat' (walk_at "pt 1")
  intro pw hpw
  refine sw_cons ?_
  refine s1_while PassesOwn.never
    (fun m r1 S => ∃ o1 o2 ps g, r1 = [some s.t, some u.t, some (.ref pf), some (.ref pw), o1, o2] ∧ S = [(pw, .lst (ps.map pairS)), (pf, .dk (Tab.t g))] ∧ Mi s u g ps ∧ m = szp ps) ⟨_, none, none, [(s, u)], [], rfl, rfl, mi_nil ds du, rfl⟩ ?_
  rintro m r1 S1 ⟨o1, o2, ps, g, rfl, rfl, inv, rfl⟩
  repeat' (walk_at "pt 1")
  intro q0 hq0
  refine bw_neE hr.units (.inl (.tail _ (.head _))) (.inl (.head _)) (fun z hz => ?_) ⟨_, rfl, ?_⟩
  · obtain ⟨y, hy, rfl⟩ := List.mem_map.mp hz
    have := inv.d1 y hy
    exact fit_pair (by omega) (by omega)
  refine ⟨fun hb => ?_, fun hb => ?_⟩
  · rcases List.eq_nil_or_concat ps with rfl | ⟨ps', ⟨x, y⟩, rfl⟩
    · simp at hb
    refine sw_drop (List.sublist_cons_self _ _) ?_
    simp only [List.concat_eq_append, List.map_append, List.map_cons, List.map_nil] at inv ⊢
    have dxy := inv.d1 (x, y) (by simp)
    have lw := inv.stk.len
    rw [List.length_map, List.length_append, List.length_singleton] at lw
    refine sw_cut (fun r1 S1 => r1 = [some s.t, some u.t, some (.ref pf), some (.ref pw), some x.t, some y.t] ∧ S1 = [(pw, .lst (ps'.map pairS)), (pf, .dk (Tab.t g))]) ?_ ?_
    · repeat' (walk_at "pt 1")
      refine s1_two (i := 4) (j := 5) rfl scInst.nd rfl rfl ?_
      repeat' (walk_at "pt 1")
      refine mw_pop (Sa := []) ?_
      exact ⟨_, _, rfl, rfl, rfl⟩
    rintro _ _ ⟨rfl, rfl⟩
    cases x with
    | atom z =>
      simp only [Say.t]
      repeat' (walk_at "pt 1")
      refine ew_setd ?_
      repeat' (walk_at "pt 1")
      refine ⟨⟨_, .tail _ (.head _)⟩, ?_⟩
      repeat' (walk_at "pt 1")
      have lg := inv.few hl
      refine ⟨[(pw, _)], [], Tab.t g, .inr z.s, rfl, rfl, by rw [Tab.t_length]; omega, fun t ht => ?_, fun ht => ?_⟩
      · rw [Tab.val] at ht
        obtain ⟨v, hv, rfl⟩ := Option.map_eq_some_iff.mp ht
        have dv := inv.d2 _ (Tab.get_mem hv)
        repeat' (walk_at "pt 1")
        refine bw_ned hr.units (Say.eqT (Nat.le_trans dv (by decide)) (Nat.le_trans dxy.2 (by decide))) ?_
        refine ⟨_, rfl, fun hc => ?_, fun hc => ?_⟩
        · have ne : v ≠ y := by simpa using hc
          repeat' (walk_at "pt 1")
          refine s1_retD ?_
          repeat' (walk_at "pt 1")
          exact ⟨[], List.nil_sublist _, q none (inv.bad fun θ st e => ne ((st _ (Tab.get_mem hv)).symm.trans e)) []⟩
        · have e : v = y := by simpa using hc
          repeat' (walk_at "pt 1")
          exact ⟨szp ps', by rw [szp_app]; simp [szp, Say.size], _, _, ps', g, rfl, rfl, inv.same hv e, rfl⟩
      · have hg : g.get z = none := by rw [Tab.val] at ht; exact Option.map_eq_none_iff.mp ht
        repeat' (walk_at "pt 1")
        refine bw_ned hr.units (Say.eqT (Nat.le_trans dxy.2 (by decide)) (Nat.le_trans dxy.2 (by decide))) ?_
        simp only [decide_true, Bool.not_true]
        repeat' (walk_at "pt 1")
        rw [Tab.put_new (Tab.get_none.mp hg)]
        exact ⟨szp ps', by rw [szp_app]; simp [szp, Say.size], _, _, ps', _, rfl, rfl, inv.bind hg, rfl⟩
    | fls =>
      cases y with
      | atom z =>
        simp only [Say.t]
        repeat' (walk_at "pt 1")
        refine s1_retD ?_
        repeat' (walk_at "pt 1")
        exact ⟨[], List.nil_sublist _, q none (inv.bad fun θ st e => by simp [Say.sub] at e) []⟩
      | fls =>
        simp only [Say.t]
        repeat' (walk_at "pt 1")
        refine fc0 ⟨by omega, .fls, rfl, ?_⟩
        repeat' (walk_at "pt 1")
        refine fc0 ⟨by omega, .fls, rfl, ?_⟩
        repeat' (walk_at "pt 1")
        refine ⟨_, _, rfl, fun z hz => ?_⟩
        refine ⟨z, _, rfl, .inl (.head _), fun z2 hz2 => ?_⟩
        repeat' (walk_at "pt 1")
        refine mw_extL (Sa := [_, _]) (ts := ps'.map pairS) (.head _) (by simp [Say.parts]; omega) ?_
        refine sw_drop (.trans (List.sublist_cons_self _ _) (List.sublist_cons_self _ _)) ?_
        repeat' (walk_at "pt 1")
        refine ⟨szp ps', by rw [szp_app]; simp [szp, Say.size], _, _, ps' ++ [], g, rfl, ?_, inv.step (us := []) (fun θ => ⟨fun _ p hp => (by cases hp), fun _ => rfl⟩) (fun x => by simp [Say.atoms, atomsL]) (fun p hp => (by cases hp)) (by simp), by rw [List.append_nil]⟩
        simp [Say.parts]
      | bin v c d =>
        cases v <;>
        · simp only [Say.t, Bw.s]
          repeat' (walk_at "pt 1")
          refine s1_retD ?_
          repeat' (walk_at "pt 1")
          exact ⟨[], List.nil_sublist _, q none (inv.bad fun θ st e => by simp [Say.sub] at e) []⟩
    | bin v c d =>
      cases y with
      | atom z =>
        cases v <;>
        · simp only [Say.t, Bw.s]
          repeat' (walk_at "pt 1")
          refine s1_retD ?_
          repeat' (walk_at "pt 1")
          exact ⟨[], List.nil_sublist _, q none (inv.bad fun θ st e => by simp [Say.sub] at e) []⟩
      | fls =>
        cases v <;>
        · simp only [Say.t, Bw.s]
          repeat' (walk_at "pt 1")
          refine s1_retD ?_
          repeat' (walk_at "pt 1")
          exact ⟨[], List.nil_sublist _, q none (inv.bad fun θ st e => by simp [Say.sub] at e) []⟩
      | bin v2 c2 d2 =>
        by_cases hv : v = v2
        · subst hv
          have dx : c.dep < 60 ∧ d.dep < 60 := by have := dxy.1; simp only [Say.dep] at this; omega
          have dy : c2.dep < 60 ∧ d2.dep < 60 := by have := dxy.2; simp only [Say.dep] at this; omega
          have st := inv.step (us := [(d, d2), (c, c2)]) (fun θ => by simp [Say.sub, SolI]; exact and_comm) (fun x => by simp [Say.atoms, atomsL]; exact or_comm) (fun p hp => by simp at hp; rcases hp with rfl | rfl <;> simp only [Say.dep] <;> omega) (by simp)
          cases v <;>
          · simp only [Say.t, Bw.s]
            repeat' (walk_at "pt 1")
            first | refine fc0 ⟨by omega, .bin .thn c d, rfl, ?_⟩ | refine fc0 ⟨by omega, .bin .and c d, rfl, ?_⟩ | refine fc0 ⟨by omega, .bin .or c d, rfl, ?_⟩
            repeat' (walk_at "pt 1")
            first | refine fc0 ⟨by omega, .bin .thn c2 d2, rfl, ?_⟩ | refine fc0 ⟨by omega, .bin .and c2 d2, rfl, ?_⟩ | refine fc0 ⟨by omega, .bin .or c2 d2, rfl, ?_⟩
            repeat' (walk_at "pt 1")
            refine ⟨_, _, rfl, fun z hz => ?_⟩
            refine ⟨z, _, rfl, .inl (.head _), fun z2 hz2 => ?_⟩
            repeat' (walk_at "pt 1")
            refine mw_extL (Sa := [_, _]) (ts := ps'.map pairS) (.head _) (by simp [Say.parts]; omega) ?_
            refine sw_drop (.trans (List.sublist_cons_self _ _) (List.sublist_cons_self _ _)) ?_
            repeat' (walk_at "pt 1")
            refine ⟨szp (ps' ++ [(d, d2), (c, c2)]), by rw [szp_app, szp_app]; simp [szp, Say.size]; omega, _, _, ps' ++ [(d, d2), (c, c2)], g, rfl, ?_, st, rfl⟩
            simp [Say.parts, pairS]
        · cases v <;> cases v2 <;> first
            | exact absurd rfl hv
            | simp only [Say.t, Bw.s]
              repeat' (walk_at "pt 1")
              refine s1_retD ?_
              repeat' (walk_at "pt 1")
              exact ⟨[], List.nil_sublist _, q none (inv.bad fun θ st e => by simp [Say.sub] at e) []⟩
  · have he : ps = [] := by
      cases ps with
      | nil => rfl
      | cons x ws => simp at hb
    subst he
    repeat' (walk_at "pt 1")
    refine s1_retD ?_
    repeat' (walk_at "pt 1")
    exact ⟨_, List.Sublist.refl _, q (some g) inv.done pf _ (.tail _ (.tail _ (.head _)))⟩
end
end
set_option Elab.async false
set_option linter.all false
set_option maxRecDepth 100000
set_option maxHeartbeats 4000000
set_option autoImplicit false
set_option pp.maxSteps 600
section
variable {P : Program} {w : World} {K : PySem.W.Frag} {mg : Str → Option Value} {base : Heap} {n : Nat}
section
theorem scLInst : FnScope ["scheme", "saying", "found", "waiting", "one", "other"] ["scheme", "saying"] (defScope (top 36)) := ⟨rfl, rfl, rfl, by decide +kernel, rfl, by decide +kernel, by decide +kernel⟩
local macro_rules | `(tactic| walk_at "pt v") => `(tactic| first
  | ((with_reducible refine ew_var (x := "scheme") (i := 0) (t := ?t) ?hi ?_ ?hN ?hv ?hd ?hc); (case hi => exact rfl); (case hN => exact rfl); (case hv => first | exact Or.inl rfl | exact Or.inr (Or.inl rfl) | exact Or.inr (Or.inr rfl)); (case hd => decide); (case hc => decide))
  | ((with_reducible refine ew_var (x := "saying") (i := 1) (t := ?t) ?hi ?_ ?hN ?hv ?hd ?hc); (case hi => exact rfl); (case hN => exact rfl); (case hv => first | exact Or.inl rfl | exact Or.inr (Or.inl rfl) | exact Or.inr (Or.inr rfl)); (case hd => decide); (case hc => decide))
  | ((with_reducible refine ew_var (x := "found") (i := 2) (t := ?t) ?hi ?_ ?hN ?hv ?hd ?hc); (case hi => exact rfl); (case hN => exact rfl); (case hv => first | exact Or.inl rfl | exact Or.inr (Or.inl rfl) | exact Or.inr (Or.inr rfl)); (case hd => decide); (case hc => decide))
  | ((with_reducible refine ew_var (x := "waiting") (i := 3) (t := ?t) ?hi ?_ ?hN ?hv ?hd ?hc); (case hi => exact rfl); (case hN => exact rfl); (case hv => first | exact Or.inl rfl | exact Or.inr (Or.inl rfl) | exact Or.inr (Or.inr rfl)); (case hd => decide); (case hc => decide))
  | ((with_reducible refine ew_var (x := "one") (i := 4) (t := ?t) ?hi ?_ ?hN ?hv ?hd ?hc); (case hi => exact rfl); (case hN => exact rfl); (case hv => first | exact Or.inl rfl | exact Or.inr (Or.inl rfl) | exact Or.inr (Or.inr rfl)); (case hd => decide); (case hc => decide))
  | ((with_reducible refine ew_var (x := "other") (i := 5) (t := ?t) ?hi ?_ ?hN ?hv ?hd ?hc); (case hi => exact rfl); (case hN => exact rfl); (case hv => first | exact Or.inl rfl | exact Or.inr (Or.inl rfl) | exact Or.inr (Or.inr rfl)); (case hd => decide); (case hc => decide))
  | ((with_reducible refine s1_set (x := "found") (i := 2) ?hN ?hi ?_ ?hx ?hs ?hf); (case hN => exact (scLInst).nd); (case hi => exact rfl); (case hx => first | exact Or.inl rfl | exact Or.inr rfl); (case hs => exact rfl); (case hf => first | exact Or.inr rfl | exact Or.inl rfl))
  | ((with_reducible refine s1_set (x := "waiting") (i := 3) ?hN ?hi ?_ ?hx ?hs ?hf); (case hN => exact (scLInst).nd); (case hi => exact rfl); (case hx => first | exact Or.inl rfl | exact Or.inr rfl); (case hs => exact rfl); (case hf => first | exact Or.inr rfl | exact Or.inl rfl))
  | ((with_reducible refine s1_set (x := "one") (i := 4) ?hN ?hi ?_ ?hx ?hs ?hf); (case hN => exact (scLInst).nd); (case hi => exact rfl); (case hx => first | exact Or.inl rfl | exact Or.inr rfl); (case hs => exact rfl); (case hf => first | exact Or.inr rfl | exact Or.inl rfl))
  | ((with_reducible refine s1_set (x := "other") (i := 5) ?hN ?hi ?_ ?hx ?hs ?hf); (case hN => exact (scLInst).nd); (case hi => exact rfl); (case hx => first | exact Or.inl rfl | exact Or.inr rfl); (case hs => exact rfl); (case hf => first | exact Or.inr rfl | exact Or.inl rfl))
  | fail)
local macro_rules | `(tactic| walk_at "pt 1") => `(tactic| first
  | ((with_reducible refine aw_cons (hs := ?hs) (h := ?_)); (case hs => exact rfl))
  | ((with_reducible refine aw_nil (hk := ?_)))
  | ((with_reducible refine ew_listZip (hc := ?hc) (hm := ?hm) (hm2 := ?hm2) (hg := ?hg) (hg2 := ?hg2) (hs := ?hs) (hpl := ?hpl) (hso := ?hso) (h := ?_)); (case hc => exact rfl); (case hm => exact Mg.list (by assumption)); (case hm2 => exact Mg.zip (by assumption)); (case hg => exact rfl); (case hg2 => exact rfl); (case hs => exact rfl); (case hpl => exact rfl); (case hso => exact rfl))
  | ((with_reducible refine ew_slice (h := ?_)))
  | ((with_reducible refine ew_sub (h := ?_)))
  | ((with_reducible refine ew_str (hk := ?_)))
  | ((with_reducible refine ew_int (hk := ?_)))
  | ((with_reducible refine ew_non (hk := ?_)))
  | ((with_reducible refine ew_tup (h := ?_)))
  | ((with_reducible refine tw_cmp (hm := ?hm) (h := ?_)); (case hm => exact rfl))
  | ((with_reducible refine ew_cmp (hm := ?hm) (h := ?_)); (case hm => exact rfl))
  | ((with_reducible refine ew_bin (h := ?_)))
  | ((with_reducible refine ew_lst (h := ?_)))
  | ((with_reducible refine ew_callTy (x := "list") (T' := "list") (hm := ?hm) (hv := ?hv) (hg := ?hg) (hn := ?hn) (hdb := ?hdb) (he := ?he) (hpl := ?hpl) (h := ?_)); (case hm => exact Mg.list (by assumption)); (case hv => exact rfl); (case hg => exact rfl); (case hn => decide); (case hdb => decide); (case he => exact rfl); (case hpl => exact rfl))
  | ((with_reducible refine ew_dget2 (hu := ?hu) (m := ?m) (h := ?_)); (case hu => exact hu_of (by assumption)); (case m => exact ⟨rfl, rfl, rfl, rfl⟩))
  | ((with_reducible refine ew_mth0 (name := "pop") (id := "list.pop") (rr := rPop) (slot := ?slot) (hty := ?hty) (hm := ?hm) (hbase := ?hbase) (hline := ?hline) (h := ?_)); (case slot => exact PySem.F.slot_list_pop); (case hty => exact PySem.F.type_list_pop); (case hm => exact mt_pop); (case hbase => exact rfl); (case hline => exact rfl))
  | ((with_reducible refine ew_dnewK (h := ?_)))
  | ((with_reducible refine ew_disp1 (h := ?_)))
  | ((with_reducible refine ew_spread (h := ?_)))
  | ((with_reducible refine tw_call (h := ?_)))
  | ((with_reducible refine tw_name (h := ?_)))
  | ((with_reducible refine sw_cons (h := ?_)))
  | ((with_reducible refine sw_nil (h := ?_)))
  | ((with_reducible refine s1_if (h := ?_)))
  | ((with_reducible refine bw_eqs (h := ?h) (hk := ?_)); (case h => exact rfl))
  | ((with_reducible refine bw_nes (h := ?h) (hk := ?_)); (case h => exact rfl))
  | ((with_reducible refine bw_add (hk := ?_)))
  | ((with_reducible refine xw_tup (t := ?t) (he := ?he) (hs := ?hs) (hk := ?_)); (case he => first | exact rfl | exact atT0 | exact atT1); (case hs => exact fun _ _ => rfl))
  | ((with_reducible refine xw_lst (ts := ?ts) (t := ?t) (hp := ?hp) (he := ?he) (hs := ?hs) (hk := ?_)); (case hp => walk_at "pt rdb"); (case he => first | exact rfl | exact atT0 | exact atT1); (case hs => exact fun _ _ => rfl))
  | ((with_reducible refine ow_none (hk := ?_)))
  | ((with_reducible refine ow_some (h := ?_)))
  | ((with_reducible refine lw_tup (hk := ?_)))
  | ((with_reducible refine And.intro ?hx ?_); (case hx => exact Nat.le_of_ble_eq_true rfl))
  | (with_reducible refine Exists.intro _ (And.intro rfl ?_))
  | (refine tst_t (by decide +kernel) ?_)
  | (refine tst_f (by decide +kernel) ?_)
  | (refine Exists.intro _ (Exists.intro _ (And.intro rfl (And.intro (by walk_at "pt rdb") ?_))))
  | walk_at "pt v"
  | fail)
theorem List.sublist_of_cut {α : Type} (a b c d : α) : List.Sublist [a, d] [a, b, c, d] := List.Sublist.cons₂ _ (.cons _ (.cons _ (List.Sublist.refl _)))
theorem Tab.put_same {g : Tab} {x : Nm} {s : Say} (nd : (dom g).Nodup) (h : g.get x = some s) : putT g.t (.inr x.s) s.t = g.t := by
  have m := Tab.get_mem h
  unfold putT
  rw [if_pos (List.any_eq_true.mpr ⟨(.inr x.s, s.t), List.mem_map_of_mem (f := fun p : Nm × Say => ((Sum.inr p.1.s : Key), p.2.t)) m, by simp⟩)]
  conv => rhs; rw [← List.map_id (Tab.t g)]
  refine List.map_congr_left fun q hq => ?_
  obtain ⟨p, hp, rfl⟩ := List.mem_map.mp hq
  by_cases e : p.1 = x
  · have : p.2 = s := by
      have h2 := Tab.get_of nd hp
      rw [e, h] at h2
      exact (Option.some.inj h2).symm
    simp [e, this]
  · have : p.1.s ≠ x.s := fun z => e (Nm.inj.mp z)
    simp [this]
theorem ok_law_instance (M : Mg mg) (D : Df K mg "_law_instance" (top 36) ["scheme", "saying"]) (C : All P w K mg base n) : Cl P w K mg base (n + 1) "_law_instance" (cInst (n + 1)) := by
  refine cl_of D scLInst (fun ts F S k h => ?_) (fun a hr ts F S k h => ?_)
  · obtain ⟨_, _, _, rfl, _⟩ := h; rfl
  obtain ⟨hn, s, u, rfl, rfl, ds, du, hl, q⟩ := h
  refine sw_cons (s1_par (i := 2) (j := 3) rfl scLInst.nd rfl rfl (by decide) ?_)
  refine ew_dnewK fun pf hf => ?_
  repeat' (walk_at "pt 1")
  intro pw hpw
  refine sw_cons ?_
  refine s1_while PassesOwn.never
    (fun m r1 S => ∃ pw o1 o2 ps g, r1 = [some s.t, some u.t, some (.ref pf), some (.ref pw), o1, o2] ∧ S = [(pw, .lst (ps.map pairS)), (pf, .dk (Tab.t g))] ∧ Mi s u g ps ∧ m = szp ps) ⟨_, _, none, none, [(s, u)], [], rfl, rfl, mi_nil ds du, rfl⟩ ?_
  rintro m r1 S1 ⟨pw, o1, o2, ps, g, rfl, rfl, inv, rfl⟩
  repeat' (walk_at "pt 1")
  intro q0 hq0
  refine bw_neE hr.units (.inl (.tail _ (.head _))) (.inl (.head _)) (fun z hz => ?_) ⟨_, rfl, ?_⟩
  · obtain ⟨y, hy, rfl⟩ := List.mem_map.mp hz
    have := inv.d1 y hy
    exact fit_pair (by omega) (by omega)
  refine ⟨fun hb => ?_, fun hb => ?_⟩
  · rcases List.eq_nil_or_concat ps with rfl | ⟨ps', ⟨x, y⟩, rfl⟩
    · simp at hb
    refine sw_drop (List.sublist_cons_self _ _) ?_
    simp only [List.concat_eq_append, List.map_append, List.map_cons, List.map_nil] at inv ⊢
    have dxy := inv.d1 (x, y) (by simp)
    have lw := inv.stk.len
    rw [List.length_map, List.length_append, List.length_singleton] at lw
    refine sw_cut (fun r1 S1 => r1 = [some s.t, some u.t, some (.ref pf), some (.ref pw), some x.t, some y.t] ∧ S1 = [(pw, .lst (ps'.map pairS)), (pf, .dk (Tab.t g))]) ?_ ?_
    · repeat' (walk_at "pt 1")
      refine s1_two (i := 4) (j := 5) rfl scLInst.nd rfl rfl ?_
      repeat' (walk_at "pt 1")
      refine mw_pop (Sa := []) ?_
      exact ⟨_, _, rfl, rfl, rfl⟩
    rintro _ _ ⟨rfl, rfl⟩
    cases x with
    | atom z =>
      simp only [Say.t]
      repeat' (walk_at "pt 1")
      have lg := inv.few hl
      refine ⟨g.t, .inr z.s, rfl, .inl (.tail _ (.head _)), ?_⟩
      rw [Tab.val]
      cases hg : g.get z with
      | some v =>
        have dv := inv.d2 _ (Tab.get_mem hg)
        repeat' (walk_at "pt 1")
        show bw _ _ _ v.t _ _ _ _
        refine bw_ned hr.units (Say.eqT (Nat.le_trans dv (by decide)) (Nat.le_trans dxy.2 (by decide))) ?_
        refine ⟨_, rfl, fun hc => ?_, fun hc => ?_⟩
        · have ne : v ≠ y := by simpa using hc
          repeat' (walk_at "pt 1")
          refine s1_retD ?_
          repeat' (walk_at "pt 1")
          exact ⟨[], List.nil_sublist _, q none (inv.bad fun θ st e => ne ((st _ (Tab.get_mem hg)).symm.trans e)) []⟩
        · have e : v = y := by simpa using hc
          repeat' (walk_at "pt 1")
          refine s1_dput (hu_of hr) ?_
          repeat' (walk_at "pt 1")
          refine ⟨pf, [(pw, .lst (ps'.map pairS))], [], Tab.t g, .inr z.s, rfl, rfl, rfl, by rw [Tab.t_length]; omega, ?_⟩
          rw [Tab.put_same inv.nd (by rw [← e]; exact hg)]
          repeat' (walk_at "pt 1")
          exact ⟨szp ps', by rw [szp_app]; simp [szp, Say.size], _, _, _, ps', g, rfl, rfl, inv.same hg e, rfl⟩
      | none =>
        repeat' (walk_at "pt 1")
        show bw _ _ _ y.t _ _ _ _
        refine bw_ned hr.units (Say.eqT (Nat.le_trans dxy.2 (by decide)) (Nat.le_trans dxy.2 (by decide))) ?_
        simp only [decide_true, Bool.not_true]
        repeat' (walk_at "pt 1")
        refine s1_dput (hu_of hr) ?_
        repeat' (walk_at "pt 1")
        refine ⟨pf, [(pw, .lst (ps'.map pairS))], [], Tab.t g, .inr z.s, rfl, rfl, rfl, by rw [Tab.t_length]; omega, ?_⟩
        rw [Tab.put_new (Tab.get_none.mp hg)]
        repeat' (walk_at "pt 1")
        exact ⟨szp ps', by rw [szp_app]; simp [szp, Say.size], _, _, _, ps', _, rfl, rfl, inv.bind hg, rfl⟩
    | fls =>
      cases y with
      | atom z =>
        simp only [Say.t]
        repeat' (walk_at "pt 1")
        refine s1_retD ?_
        repeat' (walk_at "pt 1")
        exact ⟨[], List.nil_sublist _, q none (inv.bad fun θ st e => by simp [Say.sub] at e) []⟩
      | fls =>
        simp only [Say.t]
        repeat' (walk_at "pt 1")
        refine ⟨[], [], rfl, fun z hz => ?_⟩
        refine bw_catL (.tail _ (.head _)) (.head _) (by simp; omega) fun z2 hz2 => ?_
        refine sw_drop (List.sublist_of_cut _ _ _ _) ?_
        repeat' (walk_at "pt 1")
        refine ⟨szp ps', by rw [szp_app]; simp [szp, Say.size], z2, _, _, ps' ++ [], g, rfl, ?_, inv.step (us := []) (fun θ => ⟨fun _ p hp => (by cases hp), fun _ => rfl⟩) (fun x => by simp [Say.atoms, atomsL]) (fun p hp => (by cases hp)) (by simp), by rw [List.append_nil]⟩
        simp
      | bin v c d =>
        cases v <;>
        · simp only [Say.t, Bw.s]
          repeat' (walk_at "pt 1")
          refine s1_retD ?_
          repeat' (walk_at "pt 1")
          exact ⟨[], List.nil_sublist _, q none (inv.bad fun θ st e => by simp [Say.sub] at e) []⟩
    | bin v c d =>
      cases y with
      | atom z =>
        cases v <;>
        · simp only [Say.t, Bw.s]
          repeat' (walk_at "pt 1")
          refine s1_retD ?_
          repeat' (walk_at "pt 1")
          exact ⟨[], List.nil_sublist _, q none (inv.bad fun θ st e => by simp [Say.sub] at e) []⟩
      | fls =>
        cases v <;>
        · simp only [Say.t, Bw.s]
          repeat' (walk_at "pt 1")
          refine s1_retD ?_
          repeat' (walk_at "pt 1")
          exact ⟨[], List.nil_sublist _, q none (inv.bad fun θ st e => by simp [Say.sub] at e) []⟩
      | bin v2 c2 d2 =>
        by_cases hv : v = v2
        · subst hv
          have dx : c.dep < 60 ∧ d.dep < 60 := by have := dxy.1; simp only [Say.dep] at this; omega
          have dy : c2.dep < 60 ∧ d2.dep < 60 := by have := dxy.2; simp only [Say.dep] at this; omega
          have st := inv.step (us := [(c, c2), (d, d2)]) (fun θ => by simp [Say.sub, SolI]) (fun x => by simp [Say.atoms, atomsL]) (fun p hp => by simp at hp; rcases hp with rfl | rfl <;> simp only [Say.dep] <;> omega) (by simp)
          cases v <;>
          · simp only [Say.t, Bw.s]
            repeat' (walk_at "pt 1")
            refine ⟨_, _, rfl, fun z hz => ?_⟩
            rw [cutT1, cutT1]
            refine bw_catL (.tail _ (.head _)) (.head _) (by simp; omega) fun z2 hz2 => ?_
            refine sw_drop (List.sublist_of_cut _ _ _ _) ?_
            repeat' (walk_at "pt 1")
            refine ⟨szp (ps' ++ [(c, c2), (d, d2)]), by rw [szp_app, szp_app]; simp [szp, Say.size], z2, _, _, ps' ++ [(c, c2), (d, d2)], g, rfl, ?_, st, rfl⟩
            simp [pairS]
        · cases v <;> cases v2 <;> first
            | exact absurd rfl hv
            | simp only [Say.t, Bw.s]
              repeat' (walk_at "pt 1")
              refine s1_retD ?_
              repeat' (walk_at "pt 1")
              exact ⟨[], List.nil_sublist _, q none (inv.bad fun θ st e => by simp [Say.sub] at e) []⟩
  · have he : ps = [] := by
      cases ps with
      | nil => rfl
      | cons x ws => simp at hb
    subst he
    repeat' (walk_at "pt 1")
    refine s1_retD ?_
    repeat' (walk_at "pt 1")
    exact ⟨_, List.Sublist.refl _, q (some g) inv.done pf _ (.tail _ (.tail _ (.head _)))⟩
end
end
set_option Elab.async false
set_option linter.all false
set_option maxRecDepth 100000
set_option maxHeartbeats 4000000
set_option autoImplicit false
set_option pp.maxSteps 600
section
variable {P : Program} {w : World} {K : PySem.W.Frag} {mg : Str → Option Value} {base : Heap} {n : Nat}
/-- the atom first -/
def swp : Say → Say → Say × Say
  | .atom x, e => (.atom x, e)
  | c, .atom y => (.atom y, c)
  | c, e => (c, e)
theorem joinF_swp {n : Nat} {g : Tab} {a b : Say} {ps : List (Say × Say)} {r : Option Tab} (h : joinF (n + 1) g ((a, b) :: ps) = some r) :
    if walk g a = walk g b then joinF n g ps = some r else match swp (walk g a) (walk g b) with
      | (.atom x, e) => if occ g x e then r = none else joinF n (g ++ [(x, e)]) ps = some r
      | (.bin w a1 b1, .bin v a2 b2) => if w = v then joinF n g ((a1, a2) :: (b1, b2) :: ps) = some r else r = none
      | _ => r = none := by
  rw [joinF] at h
  generalize walk g a = c at *
  generalize walk g b = e at *
  by_cases q : c = e
  · rw [if_pos q] at h ⊢; exact h
  · rw [if_neg q] at h ⊢
    cases c with
    | atom x =>
      replace h : (if occ g x e then some none else joinF n (g ++ [(x, e)]) ps) = some r := h
      show if occ g x e then r = none else _
      split at h
      · rename_i o; rw [if_pos o]; exact (Option.some.inj h).symm
      · rename_i o; rw [if_neg o]; exact h
    | fls =>
      cases e with
      | atom y =>
        replace h : (if occ g y .fls then some none else joinF n (g ++ [(y, .fls)]) ps) = some r := h
        show if occ g y .fls then r = none else _
        split at h
        · rename_i o; rw [if_pos o]; exact (Option.some.inj h).symm
        · rename_i o; rw [if_neg o]; exact h
      | fls => exact absurd rfl q
      | bin v c d => exact (Option.some.inj h).symm
    | bin w a1 b1 =>
      cases e with
      | atom y =>
        replace h : (if occ g y (.bin w a1 b1) then some none else joinF n (g ++ [(y, .bin w a1 b1)]) ps) = some r := h
        show if occ g y (.bin w a1 b1) then r = none else _
        split at h
        · rename_i o; rw [if_pos o]; exact (Option.some.inj h).symm
        · rename_i o; rw [if_neg o]; exact h
      | fls => exact (Option.some.inj h).symm
      | bin v c d =>
        replace h : (if w = v then joinF n g ((a1, c) :: (b1, d) :: ps) else some none) = some r := h
        show if w = v then _ else _
        split at h
        · rename_i o; rw [if_pos o]; exact h
        · rename_i o; rw [if_neg o]; exact (Option.some.inj h).symm
/-- a stack of pairs kept low -/
def StkD (V : List Nm) (d M : Nat) (g : Tab) (ps : List (Say × Say)) : Prop := ∀ (i : Nat) (p : Say × Say), ps[i]? = some p → ∃ n, i + n ≤ M ∧ Deep V d g p.1 n
theorem StkD.len {V : List Nm} {d M : Nat} {g : Tab} {ps : List (Say × Say)} (h : StkD V d M g ps) : ps.length ≤ M + 1 := by
  cases hw : ps.length with
  | zero => exact Nat.zero_le _
  | succ k =>
    have hk : k < ps.length := by omega
    obtain ⟨n, h1, _⟩ := h k _ (List.getElem?_eq_getElem hk)
    omega
theorem Deep.grow {V : List Nm} {d n : Nat} {g : Tab} {s t : Say} {x : Nm} (h : Deep V d g s n) : Deep V d (g ++ [(x, t)]) s n := fun g' ρ' hg st => h g' ρ' hg (Sat.snoc.mp st).1
/-- what is found, what waits -/
structure Jo (V : List Nm) (d : Nat) (r : Option Tab) (m : Nat) (g : Tab) (ρ : Nm → Say) (ps : List (Say × Say)) : Prop where
  (good : Good V d g ρ) (run : joinF m g ps.reverse = some r) (fit : FitsP V d ps) (stk : StkD V d 1200 g ps)
theorem Jo.drop {V : List Nm} {d m m2 : Nat} {r : Option Tab} {g : Tab} {ρ : Nm → Say} {ps : List (Say × Say)} {p : Say × Say} (h : Jo V d r m g ρ (ps ++ [p])) (run : joinF m2 g ps.reverse = some r) : Jo V d r m2 g ρ ps :=
  ⟨h.good, run, fun q hq => h.fit q (List.mem_append.mpr (.inl hq)), fun i q e => h.stk i q (by rw [List.getElem?_append_left (List.getElem?_eq_some_iff.mp e).1]; exact e)⟩
theorem Jo.bind {V : List Nm} {d m m2 : Nat} {r : Option Tab} {g : Tab} {ρ : Nm → Say} {ps : List (Say × Say)} {p : Say × Say} {x : Nm} {t : Say} (h : Jo V d r m g ρ (ps ++ [p])) (run : joinF m2 (g ++ [(x, t)]) ps.reverse = some r) (hx : x ∉ dom g) (ht : x ∉ (t.sub ρ).atoms) (hV : x ∈ V) (hf : Fits V d t) : Jo V d r m2 (g ++ [(x, t)]) (fun y => (ρ y).sub (sg x (t.sub ρ))) ps := by
  refine ⟨h.good.snoc hx ht hV hf, run, fun q hq => h.fit q (List.mem_append.mpr (.inl hq)), fun i q e => ?_⟩
  obtain ⟨n, h1, h2⟩ := h.stk i q (by rw [List.getElem?_append_left (List.getElem?_eq_some_iff.mp e).1]; exact e)
  exact ⟨n, h1, h2.grow⟩
theorem Jo.split {V : List Nm} {d m m2 : Nat} {r : Option Tab} {g : Tab} {ρ : Nm → Say} {ps : List (Say × Say)} {a b a1 a2 b1 b2 : Say} {w : Bw} (hs : Small V d) (h : Jo V d r m g ρ (ps ++ [(a, b)])) (ea : walk g a = .bin w a1 b1) (eb : walk g b = .bin w a2 b2) (run : joinF m2 g ((a1, a2) :: (b1, b2) :: ps.reverse) = some r) : Jo V d r m2 g ρ (ps ++ [(b1, b2), (a1, a2)]) := by
  have fp := h.fit (a, b) (by simp)
  obtain ⟨wa, fa⟩ := h.good.walk hs fp.1
  obtain ⟨wb, fb⟩ := h.good.walk hs fp.2
  rw [ea] at wa fa
  rw [eb] at wb fb
  obtain ⟨f1, f2⟩ := fa.bin
  obtain ⟨f3, f4⟩ := fb.bin
  refine ⟨h.good, by simpa using run, fun q hq => ?_, fun i q e => ?_⟩
  · rcases List.mem_append.mp hq with hq | hq
    · exact h.fit q (List.mem_append.mpr (.inl hq))
    · simp at hq
      rcases hq with rfl | rfl
      · exact ⟨f2, f4⟩
      · exact ⟨f1, f3⟩
  · by_cases hi : i < ps.length
    · rw [List.getElem?_append_left hi] at e
      exact h.stk i q (by rw [List.getElem?_append_left hi]; exact e)
    · rw [List.getElem?_append_right (by omega)] at e
      obtain ⟨n, h1, h2⟩ := h.stk ps.length (a, b) (by simp)
      have deep : ∀ g' ρ', Good V d g' ρ' → Sat ρ' g → (a1.sub ρ').dep + 1 ≤ n ∧ (b1.sub ρ').dep + 1 ≤ n := fun g' ρ' q1 q2 => by
        have := h2 g' ρ' q1 q2
        simp only at this
        rw [← tri_mgs h.good.tri q2 a, ← wa.sub, tri_mgs h.good.tri q2] at this
        simp only [Say.sub, Say.dep] at this
        omega
      have hn : 1 ≤ n := by have := (deep g ρ h.good (tri_sat h.good.tri)).1; omega
      have hl : i - ps.length < 2 := (List.getElem?_eq_some_iff.mp e).1
      refine ⟨n - 1, by omega, ?_⟩
      have hq : q ∈ [(b1, b2), (a1, a2)] := List.mem_of_getElem? e
      simp at hq
      rcases hq with rfl | rfl
      · intro g' ρ' q1 q2; have := (deep g' ρ' q1 q2).2; show (b1.sub ρ').dep ≤ _; omega
      · intro g' ρ' q1 q2; have := (deep g' ρ' q1 q2).1; show (a1.sub ρ').dep ≤ _; omega
theorem walkF_out {g : Tab} {s : Say} (h : ∀ x, s = .atom x → g.get x = none) : ∀ m, walkF m g s = s
  | 0 => by cases s <;> rfl
  | m + 1 => by
    cases s with
    | atom x => rw [walkF, h x rfl]
    | fls => rfl
    | bin w a b => rfl
section
theorem scJoin : FnScope ["pairs", "table", "found", "waiting", "one", "other"] ["pairs", "table"] (defScope (top 14)) := ⟨rfl, rfl, rfl, by decide +kernel, rfl, by decide +kernel, by decide +kernel⟩
local macro_rules | `(tactic| walk_at "pt v") => `(tactic| first
  | ((with_reducible refine ew_var (x := "pairs") (i := 0) (t := ?t) ?hi ?_ ?hN ?hv ?hd ?hc); (case hi => exact rfl); (case hN => exact rfl); (case hv => first | exact Or.inl rfl | exact Or.inr (Or.inl rfl) | exact Or.inr (Or.inr rfl)); (case hd => decide); (case hc => decide))
  | ((with_reducible refine ew_var (x := "table") (i := 1) (t := ?t) ?hi ?_ ?hN ?hv ?hd ?hc); (case hi => exact rfl); (case hN => exact rfl); (case hv => first | exact Or.inl rfl | exact Or.inr (Or.inl rfl) | exact Or.inr (Or.inr rfl)); (case hd => decide); (case hc => decide))
  | ((with_reducible refine ew_var (x := "found") (i := 2) (t := ?t) ?hi ?_ ?hN ?hv ?hd ?hc); (case hi => exact rfl); (case hN => exact rfl); (case hv => first | exact Or.inl rfl | exact Or.inr (Or.inl rfl) | exact Or.inr (Or.inr rfl)); (case hd => decide); (case hc => decide))
  | ((with_reducible refine ew_var (x := "waiting") (i := 3) (t := ?t) ?hi ?_ ?hN ?hv ?hd ?hc); (case hi => exact rfl); (case hN => exact rfl); (case hv => first | exact Or.inl rfl | exact Or.inr (Or.inl rfl) | exact Or.inr (Or.inr rfl)); (case hd => decide); (case hc => decide))
  | ((with_reducible refine ew_var (x := "one") (i := 4) (t := ?t) ?hi ?_ ?hN ?hv ?hd ?hc); (case hi => exact rfl); (case hN => exact rfl); (case hv => first | exact Or.inl rfl | exact Or.inr (Or.inl rfl) | exact Or.inr (Or.inr rfl)); (case hd => decide); (case hc => decide))
  | ((with_reducible refine ew_var (x := "other") (i := 5) (t := ?t) ?hi ?_ ?hN ?hv ?hd ?hc); (case hi => exact rfl); (case hN => exact rfl); (case hv => first | exact Or.inl rfl | exact Or.inr (Or.inl rfl) | exact Or.inr (Or.inr rfl)); (case hd => decide); (case hc => decide))
  | ((with_reducible refine s1_set (x := "found") (i := 2) ?hN ?hi ?_ ?hx ?hs ?hf); (case hN => exact (scJoin).nd); (case hi => exact rfl); (case hx => first | exact Or.inl rfl | exact Or.inr rfl); (case hs => exact rfl); (case hf => first | exact Or.inr rfl | exact Or.inl rfl))
  | ((with_reducible refine s1_set (x := "waiting") (i := 3) ?hN ?hi ?_ ?hx ?hs ?hf); (case hN => exact (scJoin).nd); (case hi => exact rfl); (case hx => first | exact Or.inl rfl | exact Or.inr rfl); (case hs => exact rfl); (case hf => first | exact Or.inr rfl | exact Or.inl rfl))
  | ((with_reducible refine s1_set (x := "one") (i := 4) ?hN ?hi ?_ ?hx ?hs ?hf); (case hN => exact (scJoin).nd); (case hi => exact rfl); (case hx => first | exact Or.inl rfl | exact Or.inr rfl); (case hs => exact rfl); (case hf => first | exact Or.inr rfl | exact Or.inl rfl))
  | ((with_reducible refine s1_set (x := "other") (i := 5) ?hN ?hi ?_ ?hx ?hs ?hf); (case hN => exact (scJoin).nd); (case hi => exact rfl); (case hx => first | exact Or.inl rfl | exact Or.inr rfl); (case hs => exact rfl); (case hf => first | exact Or.inr rfl | exact Or.inl rfl))
  | fail)
local macro_rules | `(tactic| walk_at "pt 1") => `(tactic| first
  | ((with_reducible refine aw_cons (hs := ?hs) (h := ?_)); (case hs => exact rfl))
  | ((with_reducible refine aw_nil (hk := ?_)))
  | ((with_reducible refine ew_revL (h := ?_)))
  | ((with_reducible refine ew_listZip (hc := ?hc) (hm := ?hm) (hm2 := ?hm2) (hg := ?hg) (hg2 := ?hg2) (hs := ?hs) (hpl := ?hpl) (hso := ?hso) (h := ?_)); (case hc => exact rfl); (case hm => exact Mg.list (by assumption)); (case hm2 => exact Mg.zip (by assumption)); (case hg => exact rfl); (case hg2 => exact rfl); (case hs => exact rfl); (case hpl => exact rfl); (case hso => exact rfl))
  | ((with_reducible refine ew_slice (h := ?_)))
  | ((with_reducible refine ew_sub (h := ?_)))
  | ((with_reducible refine ew_str (hk := ?_)))
  | ((with_reducible refine ew_int (hk := ?_)))
  | ((with_reducible refine ew_non (hk := ?_)))
  | ((with_reducible refine ew_tup (h := ?_)))
  | ((with_reducible refine tw_cmp (hm := ?hm) (h := ?_)); (case hm => exact rfl))
  | ((with_reducible refine ew_cmp (hm := ?hm) (h := ?_)); (case hm => exact rfl))
  | ((with_reducible refine ew_lst (h := ?_)))
  | ((with_reducible refine ew_callTy (x := "dict") (T' := "dict") (hm := ?hm) (hv := ?hv) (hg := ?hg) (hn := ?hn) (hdb := ?hdb) (he := ?he) (hpl := ?hpl) (h := ?_)); (case hm => exact Mg.dict (by assumption)); (case hv => exact rfl); (case hg => exact rfl); (case hn => decide); (case hdb => decide); (case he => exact rfl); (case hpl => exact rfl))
  | ((with_reducible refine ew_callTy (x := "list") (T' := "list") (hm := ?hm) (hv := ?hv) (hg := ?hg) (hn := ?hn) (hdb := ?hdb) (he := ?he) (hpl := ?hpl) (h := ?_)); (case hm => exact Mg.list (by assumption)); (case hv => exact rfl); (case hg => exact rfl); (case hn => decide); (case hdb => decide); (case he => exact rfl); (case hpl => exact rfl))
  | ((with_reducible refine ew_callF (x := "parts_of") (n := ?n) (pre := ?pre) (C := ?C) (hr := ?hr) (hg := ?hg) (hdb := ?hdb) (he := ?he) (hpl := ?hpl) (h := ?_)); (case C => exact All.c_parts_of (by assumption)); (case hr => assumption); (case hg => exact rfl); (case hdb => decide); (case he => exact rfl); (case hpl => exact rfl))
  | ((with_reducible refine ew_callF (x := "stands_in") (n := ?n) (pre := ?pre) (C := ?C) (hr := ?hr) (hg := ?hg) (hdb := ?hdb) (he := ?he) (hpl := ?hpl) (h := ?_)); (case C => exact All.c_stands_in (by assumption)); (case hr => assumption); (case hg => exact rfl); (case hdb => decide); (case he => exact rfl); (case hpl => exact rfl))
  | ((with_reducible refine ew_ext (hbase := ?hbase) (hfew := ?hfew) (hline := ?hline) (hs := ?hs) (hplain := ?hplain) (h := ?_)); (case hbase => exact rfl); (case hfew => exact rfl); (case hline => exact rfl); (case hs => exact rfl); (case hplain => exact rfl))
  | ((with_reducible refine ew_mth0 (name := "pop") (id := "list.pop") (rr := rPop) (slot := ?slot) (hty := ?hty) (hm := ?hm) (hbase := ?hbase) (hline := ?hline) (h := ?_)); (case slot => exact PySem.F.slot_list_pop); (case hty => exact PySem.F.type_list_pop); (case hm => exact mt_pop); (case hbase => exact rfl); (case hline => exact rfl))
  | ((with_reducible refine tw_bool (h := ?_)))
  | ((with_reducible refine ww_and (h := ?_)))
  | ((with_reducible refine ww_or (h := ?_)))
  | ((with_reducible refine ww_and1 (h := ?_)))
  | ((with_reducible refine ww_or1 (h := ?_)))
  | ((with_reducible refine ew_and (h := ?_)))
  | ((with_reducible refine ew_or (h := ?_)))
  | ((with_reducible refine ew_one (h := ?_)))
  | ((with_reducible refine tw_call (h := ?_)))
  | ((with_reducible refine tw_name (h := ?_)))
  | ((with_reducible refine sw_cons (h := ?_)))
  | ((with_reducible refine sw_nil (h := ?_)))
  | ((with_reducible refine s1_if (h := ?_)))
  | ((with_reducible refine s1_expr (hs := ?hs) (h := ?_)); (case hs => exact rfl))
  | ((with_reducible refine bw_eqs (h := ?h) (hk := ?_)); (case h => exact rfl))
  | ((with_reducible refine bw_nes (h := ?h) (hk := ?_)); (case h => exact rfl))
  | ((with_reducible refine bw_inT (hx := ?hx) (hf := ?hf) (hk := ?_)); (case hx => exact rfl); (case hf => exact rfl))
  | ((with_reducible refine bw_inL (xs := ?xs) (hp := ?hp) (hx := ?hx) (hf := ?hf) (hk := ?_)); (case hp => walk_at "pt rdb"); (case hx => exact rfl); (case hf => exact rfl))
  | ((with_reducible refine xw_tup (t := ?t) (he := ?he) (hs := ?hs) (hk := ?_)); (case he => first | exact rfl | exact atT0 | exact atT1); (case hs => exact fun _ _ => rfl))
  | ((with_reducible refine xw_lst (ts := ?ts) (t := ?t) (hp := ?hp) (he := ?he) (hs := ?hs) (hk := ?_)); (case hp => walk_at "pt rdb"); (case he => first | exact rfl | exact atT0 | exact atT1); (case hs => exact fun _ _ => rfl))
  | ((with_reducible refine ow_none (hk := ?_)))
  | ((with_reducible refine ow_some (h := ?_)))
  | ((with_reducible refine lw_tup (hk := ?_)))
  | ((with_reducible refine And.intro ?hx ?_); (case hx => exact Nat.le_of_ble_eq_true rfl))
  | (with_reducible refine Exists.intro _ (And.intro rfl ?_))
  | (refine tst_t (by decide +kernel) ?_)
  | (refine tst_f (by decide +kernel) ?_)
  | (refine Exists.intro _ (Exists.intro _ (And.intro rfl (And.intro (by walk_at "pt rdb") ?_))))
  | walk_at "pt v"
  | fail)
theorem ok_joined (M : Mg mg) (D : Df K mg "joined" (top 14) ["pairs", "table"]) (C : All P w K mg base n) : Cl P w K mg base (n + 1) "joined" (cJoined (n + 1)) := by
  refine cl_of D scJoin (fun ts F S k h => ?_) (fun a hr ts F S k h => ?_)
  · obtain ⟨_, _, _, _, _, _, _, _, rfl, _⟩ := h; rfl
  obtain ⟨hn, pp, pd, ps0, g0, ρ0, V, d, rfl, rfl, hp, hd, good0, hs, hd60, fit0, len0, q⟩ := h
  obtain ⟨m0, r, run0⟩ := joinF_ends hs _ g0 ρ0 (Nat.le_refl _) good0 _ ps0 fit0 (Nat.le_refl _)
  have hq : Told k r := q r (joinF_ok hs m0 g0 ρ0 ps0 r good0 fit0 run0)
  refine sw_cons (s1_par (i := 2) (j := 3) rfl scJoin.nd rfl rfl (by decide) ?_)
  repeat' (walk_at "pt 1")
  refine cw_dictD (.inr hd) fun pf hf => ?_
  repeat' (walk_at "pt 1")
  refine cw_listL (.inr hp) fun pl hl => ?_
  refine ⟨pl, _, rfl, .inl (.head _), fun pw hpw => ?_⟩
  refine sw_drop (S2 := [(pw, .lst (ps0.reverse.map pairS)), (pf, .dk g0.t)]) ?_ ?_
  · rw [List.map_reverse]; exact List.Sublist.cons₂ _ (.cons _ (List.Sublist.refl _))
  refine sw_cons ?_
  refine s1_while PassesOwn.never
    (fun m r1 S => ∃ o1 o2 ps g ρ, r1 = [some (.ref pp), some (.ref pd), some (.ref pf), some (.ref pw), o1, o2] ∧ S = [(pw, .lst (ps.map pairS)), (pf, .dk (Tab.t g))] ∧ Jo V d r m g ρ ps) ⟨_, none, none, ps0.reverse, g0, ρ0, rfl, rfl, ⟨good0, by rw [List.reverse_reverse]; exact run0, fun p hp => fit0 p (List.mem_reverse.mp hp), fun i p e => ?_⟩⟩ ?_
  · have hi := (List.getElem?_eq_some_iff.mp e).1
    rw [List.length_reverse] at hi
    have hp := List.mem_reverse.mp (List.mem_of_getElem? e)
    exact ⟨100, by omega, fun g' ρ' q1 q2 => Nat.le_trans (deep_all (V := V) (fit0 p hp).1.1 g' ρ' q1 q2) (by unfold Small at hs; omega)⟩
  rintro m r1 S1 ⟨o1, o2, ps, g, ρ, rfl, rfl, inv⟩
  repeat' (walk_at "pt 1")
  intro q0 hq0
  refine bw_neE hr.units (.inl (.tail _ (.head _))) (.inl (.head _)) (fun z hz => ?_) ⟨_, rfl, ?_⟩
  · obtain ⟨y, hy, rfl⟩ := List.mem_map.mp hz
    obtain ⟨h1, h2⟩ := inv.fit y hy
    have := h1.1
    have := h2.1
    exact fit_pair (by omega) (by omega)
  refine ⟨fun hb => ?_, fun hb => ?_⟩
  · rcases List.eq_nil_or_concat ps with rfl | ⟨ps', ⟨x, y⟩, rfl⟩
    · simp at hb
    refine sw_drop (List.sublist_cons_self _ _) ?_
    simp only [List.concat_eq_append, List.map_append, List.map_cons, List.map_nil] at inv ⊢
    obtain ⟨fx, fy⟩ := inv.fit (x, y) (by simp)
    have lw := inv.stk.len
    rw [List.length_append, List.length_singleton] at lw
    obtain ⟨N, l1, l2⟩ := inv.good.lv
    have lx : lv N x ≤ 100 := by have := l2 x; have := fx.1; unfold Small at hs; simp only at *; omega
    have ly : lv N y ≤ 100 := by have := l2 y; have := fy.1; unfold Small at hs; simp only at *; omega
    obtain ⟨wa, fa⟩ := inv.good.walk hs fx
    obtain ⟨wb, fb⟩ := inv.good.walk hs fy
    simp only at wa fa wb fb
    refine sw_cut (fun r1 S1 => r1 = [some (.ref pp), some (.ref pd), some (.ref pf), some (.ref pw), some x.t, some y.t] ∧ S1 = [(pw, .lst (ps'.map pairS)), (pf, .dk (Tab.t g))]) ?_ ?_
    · refine s1_two (i := 4) (j := 5) rfl scJoin.nd rfl rfl ?_
      repeat' (walk_at "pt 1")
      refine mw_pop (Sa := []) ?_
      exact ⟨_, _, rfl, rfl, rfl⟩
    rintro _ _ ⟨rfl, rfl⟩
    refine sw_cut (fun r1 S1 => r1 = [some (.ref pp), some (.ref pd), some (.ref pf), some (.ref pw), some (walk g x).t, some y.t] ∧ S1 = [(pw, .lst (ps'.map pairS)), (pf, .dk (Tab.t g))]) ?_ ?_
    · refine s1_while PassesOwn.never (fun m r1 S => ∃ z, r1 = [some (.ref pp), some (.ref pd), some (.ref pf), some (.ref pw), some (Say.t z), some y.t] ∧ S = [(pw, .lst (ps'.map pairS)), (pf, .dk (Tab.t g))] ∧ lv N z ≤ m ∧ walkF m g z = walk g x) ⟨100, x, rfl, rfl, lx, rfl⟩ ?_
      rintro m2 r1 S1 ⟨z, rfl, rfl, hz1, hz2⟩
      cases z with
      | atom v =>
        simp only [Say.t]
        repeat' (walk_at "pt 1")
        refine bw_inD (kk := .inr v.s) (hu_of hr) (.inl (.tail _ (.head _))) ?_
        rw [Tab.val]
        cases e : g.get v with
        | some t =>
          have q1 : lv N t + 1 ≤ N v := l1.ent _ (Tab.get_mem e)
          have q2 : N v ≤ m2 := hz1
          obtain ⟨m3, rfl⟩ : ∃ m3, m2 = m3 + 1 := ⟨m2 - 1, by omega⟩
          rw [walkF, e] at hz2
          refine ⟨_, rfl, tst_t rfl ?_⟩
          repeat' (walk_at "pt 1")
          refine xw_dk (kk := .inr v.s) (t := t.t) (hu_of hr) (.inl (.tail _ (.head _))) (by rw [Tab.val, e]; rfl) ?_
          repeat' (walk_at "pt 1")
          exact ⟨m3, by omega, t, rfl, rfl, by omega, hz2⟩
        | none =>
          refine ⟨_, rfl, tst_f rfl ?_⟩
          repeat' (walk_at "pt 1")
          have e2 : walk g x = .atom v := by rw [← hz2]; exact walkF_out (fun u eu => by cases eu; exact e) _
          rw [e2]; exact ⟨rfl, rfl⟩
      | fls =>
        have e2 : walk g x = .fls := by rw [← hz2]; exact walkF_out (fun u eu => by cases eu) _
        simp only [Say.t]
        repeat' (walk_at "pt 1")
        rw [e2]; exact ⟨rfl, rfl⟩
      | bin v c d =>
        have e2 : walk g x = .bin v c d := by rw [← hz2]; exact walkF_out (fun u eu => by cases eu) _
        cases v <;>
        · simp only [Say.t, Bw.s]
          repeat' (walk_at "pt 1")
          rw [e2]; exact ⟨rfl, rfl⟩
    rintro _ _ ⟨rfl, rfl⟩
    refine sw_cut (fun r1 S1 => r1 = [some (.ref pp), some (.ref pd), some (.ref pf), some (.ref pw), some (walk g x).t, some (walk g y).t] ∧ S1 = [(pw, .lst (ps'.map pairS)), (pf, .dk (Tab.t g))]) ?_ ?_
    · refine s1_while PassesOwn.never (fun m r1 S => ∃ z, r1 = [some (.ref pp), some (.ref pd), some (.ref pf), some (.ref pw), some (walk g x).t, some (Say.t z)] ∧ S = [(pw, .lst (ps'.map pairS)), (pf, .dk (Tab.t g))] ∧ lv N z ≤ m ∧ walkF m g z = walk g y) ⟨100, y, rfl, rfl, ly, rfl⟩ ?_
      rintro m2 r1 S1 ⟨z, rfl, rfl, hz1, hz2⟩
      cases z with
      | atom v =>
        simp only [Say.t]
        repeat' (walk_at "pt 1")
        refine bw_inD (kk := .inr v.s) (hu_of hr) (.inl (.tail _ (.head _))) ?_
        rw [Tab.val]
        cases e : g.get v with
        | some t =>
          have q1 : lv N t + 1 ≤ N v := l1.ent _ (Tab.get_mem e)
          have q2 : N v ≤ m2 := hz1
          obtain ⟨m3, rfl⟩ : ∃ m3, m2 = m3 + 1 := ⟨m2 - 1, by omega⟩
          rw [walkF, e] at hz2
          refine ⟨_, rfl, tst_t rfl ?_⟩
          repeat' (walk_at "pt 1")
          refine xw_dk (kk := .inr v.s) (t := t.t) (hu_of hr) (.inl (.tail _ (.head _))) (by rw [Tab.val, e]; rfl) ?_
          repeat' (walk_at "pt 1")
          exact ⟨m3, by omega, t, rfl, rfl, by omega, hz2⟩
        | none =>
          refine ⟨_, rfl, tst_f rfl ?_⟩
          repeat' (walk_at "pt 1")
          have e2 : walk g y = .atom v := by rw [← hz2]; exact walkF_out (fun u eu => by cases eu; exact e) _
          rw [e2]; exact ⟨rfl, rfl⟩
      | fls =>
        have e2 : walk g y = .fls := by rw [← hz2]; exact walkF_out (fun u eu => by cases eu) _
        simp only [Say.t]
        repeat' (walk_at "pt 1")
        rw [e2]; exact ⟨rfl, rfl⟩
      | bin v c d =>
        have e2 : walk g y = .bin v c d := by rw [← hz2]; exact walkF_out (fun u eu => by cases eu) _
        cases v <;>
        · simp only [Say.t, Bw.s]
          repeat' (walk_at "pt 1")
          rw [e2]; exact ⟨rfl, rfl⟩
    rintro _ _ ⟨rfl, rfl⟩
    obtain ⟨m', rfl⟩ : ∃ m', m = m' + 1 := by
      cases m with
      | zero => have := inv.run; cases this
      | succ m' => exact ⟨m', rfl⟩
    have run := inv.run
    rw [List.reverse_append] at run
    replace run := joinF_swp (ps := ps'.reverse) run
    have split := fun a1 b1 a2 b2 w m2 => inv.split (a1 := a1) (b1 := b1) (a2 := a2) (b2 := b2) (w := w) (m2 := m2) hs
    have dc := fa.1
    have de := fb.1
    generalize walk g x = c at *
    generalize walk g y = e at *
    refine sw_cons ?_
    repeat' (walk_at "pt 1")
    refine bw_eqd hr.units (Say.eqT (Nat.le_trans dc (by omega)) (Nat.le_trans de (by omega))) ?_
    refine ⟨_, rfl, fun hc => ?_, fun hc => ?_⟩
    · have ec : c = e := by simpa using hc
      rw [if_pos ec] at run
      repeat' (walk_at "pt 1")
      refine s1_cont ?_
      exact ⟨m', by omega, _, _, ps', g, ρ, rfl, rfl, inv.drop run⟩
    have ne : c ≠ e := by simpa using hc
    rw [if_neg ne] at run
    refine sw_nil ?_
    refine sw_cut (fun r1 S1 => r1 = [some (.ref pp), some (.ref pd), some (.ref pf), some (.ref pw), some (swp c e).1.t, some (swp c e).2.t] ∧ S1 = [(pw, .lst (ps'.map pairS)), (pf, .dk (Tab.t g))]) ?_ ?_
    · cases c with
      | atom u =>
        simp only [Say.t]
        repeat' (walk_at "pt 1")
        exact ⟨rfl, rfl⟩
      | fls =>
        cases e with
        | atom u =>
          simp only [Say.t]
          repeat' (walk_at "pt 1")
          refine s1_par (i := 4) (j := 5) rfl scJoin.nd rfl rfl (by decide) ?_
          repeat' (walk_at "pt 1")
          exact ⟨rfl, rfl⟩
        | fls => exact absurd rfl ne
        | bin w a b =>
          cases w <;>
          · simp only [Say.t, Bw.s]
            repeat' (walk_at "pt 1")
            exact ⟨rfl, rfl⟩
      | bin v a1 b1 =>
        cases e with
        | atom u =>
          cases v <;>
          · simp only [Say.t, Bw.s]
            repeat' (walk_at "pt 1")
            refine s1_par (i := 4) (j := 5) rfl scJoin.nd rfl rfl (by decide) ?_
            repeat' (walk_at "pt 1")
            exact ⟨rfl, rfl⟩
        | fls =>
          cases v <;>
          · simp only [Say.t, Bw.s]
            repeat' (walk_at "pt 1")
            exact ⟨rfl, rfl⟩
        | bin w a b =>
          cases v <;> cases w <;>
          · simp only [Say.t, Bw.s]
            repeat' (walk_at "pt 1")
            exact ⟨rfl, rfl⟩
    rintro _ _ ⟨rfl, rfl⟩
    have bnd : ∀ (u : Nm) (t : Say), Fits V d (.atom u) → Fits V d t → u ∉ dom g → (if occ g u t then r = none else joinF m' (g ++ [(u, t)]) ps'.reverse = some r) → (occ g u t = true → r = none) ∧ (occ g u t = false → Jo V d r m' (g ++ [(u, t)]) (fun y => (ρ y).sub (sg u (t.sub ρ))) ps') ∧ decide (u ∈ (t.sub ρ).atoms) = occ g u t ∧ ResOk 100 t g ρ := fun u t fu ft hu h => by
      rw [inv.good.occ hs ft] at h ⊢
      refine ⟨fun o => by rw [if_pos o] at h; exact h, fun o => ?_, rfl, ⟨inv.good.tri, ⟨N, l1, ?_⟩, Nat.le_trans ft.1 hd60, fun p hp => Nat.le_trans (inv.good.dep p hp) hd60⟩⟩
      · rw [if_neg (by simpa using o)] at h
        exact inv.bind h hu (by simpa using o) (fu.2 (by simp [Say.atoms])) ft
      · have := l2 t; have := ft.1; unfold Small at hs; omega
    have lg : g.length ≤ 100 := by have := inv.good.len; unfold Small at hs; omega
    cases c with
    | atom u =>
      obtain ⟨k1, k2, k3, k4⟩ := bnd u e fa fb (wa.free u rfl) run
      simp only [swp, Say.t]
      repeat' (walk_at "pt 1")
      refine fc1 (pf, .dk (Tab.t g)) (.inl (.tail _ (.head _))) ⟨by omega, u, e, pf, g, ρ, rfl, List.mem_singleton_self _, k4, wa.free u rfl, ?_⟩
      refine ⟨_, rfl, fun hb => ?_, fun hb => ?_⟩
      · have r0 : r = none := k1 (k3.symm.trans hb)
        repeat' (walk_at "pt 1")
        refine s1_retD ?_
        repeat' (walk_at "pt 1")
        subst r0
        exact ⟨[], List.nil_sublist _, hq []⟩
      · repeat' (walk_at "pt 1")
        refine s1_dput (hu_of hr) ?_
        repeat' (walk_at "pt 1")
        refine ⟨pf, [(pw, _)], [], Tab.t g, .inr u.s, rfl, rfl, rfl, by rw [Tab.t_length]; omega, ?_⟩
        rw [show putT (Tab.t g) (Sum.inr u.s) e.t = Tab.t (g ++ [(u, e)]) from Tab.put_new (s := e) (wa.free u rfl)]
        repeat' (walk_at "pt 1")
        exact ⟨m', by omega, _, _, ps', _, _, rfl, rfl, k2 (k3.symm.trans hb)⟩
    | fls =>
      cases e with
      | atom u =>
        obtain ⟨k1, k2, k3, k4⟩ := bnd u .fls fb fa (wb.free u rfl) run
        simp only [swp, Say.t]
        repeat' (walk_at "pt 1")
        refine fc1 (pf, .dk (Tab.t g)) (.inl (.tail _ (.head _))) ⟨by omega, u, .fls, pf, g, ρ, rfl, List.mem_singleton_self _, k4, wb.free u rfl, ?_⟩
        refine ⟨_, rfl, fun hb => ?_, fun hb => ?_⟩
        · have r0 : r = none := k1 (k3.symm.trans hb)
          repeat' (walk_at "pt 1")
          refine s1_retD ?_
          repeat' (walk_at "pt 1")
          subst r0
          exact ⟨[], List.nil_sublist _, hq []⟩
        · repeat' (walk_at "pt 1")
          refine s1_dput (hu_of hr) ?_
          repeat' (walk_at "pt 1")
          refine ⟨pf, [(pw, _)], [], Tab.t g, .inr u.s, rfl, rfl, rfl, by rw [Tab.t_length]; omega, ?_⟩
          rw [show putT (Tab.t g) (Sum.inr u.s) (T.tup [.str "false"]) = Tab.t (g ++ [(u, .fls)]) from Tab.put_new (s := .fls) (wb.free u rfl)]
          repeat' (walk_at "pt 1")
          exact ⟨m', by omega, _, _, ps', _, _, rfl, rfl, k2 (k3.symm.trans hb)⟩
      | fls => exact absurd rfl ne
      | bin w a b =>
        cases w <;>
        · simp only [swp, Say.t, Bw.s]
          repeat' (walk_at "pt 1")
          refine s1_retD ?_
          repeat' (walk_at "pt 1")
          have r0 : r = none := run
          subst r0
          exact ⟨[], List.nil_sublist _, hq []⟩
    | bin v a1 b1 =>
      cases e with
      | atom u =>
        obtain ⟨k1, k2, k3, k4⟩ := bnd u (.bin v a1 b1) fb fa (wb.free u rfl) run
        simp only [swp, Say.t]
        repeat' (walk_at "pt 1")
        refine fc1 (pf, .dk (Tab.t g)) (.inl (.tail _ (.head _))) ⟨by omega, u, (.bin v a1 b1), pf, g, ρ, rfl, List.mem_singleton_self _, k4, wb.free u rfl, ?_⟩
        refine ⟨_, rfl, fun hb => ?_, fun hb => ?_⟩
        · have r0 : r = none := k1 (k3.symm.trans hb)
          repeat' (walk_at "pt 1")
          refine s1_retD ?_
          repeat' (walk_at "pt 1")
          subst r0
          exact ⟨[], List.nil_sublist _, hq []⟩
        · repeat' (walk_at "pt 1")
          refine s1_dput (hu_of hr) ?_
          repeat' (walk_at "pt 1")
          refine ⟨pf, [(pw, _)], [], Tab.t g, .inr u.s, rfl, rfl, rfl, by rw [Tab.t_length]; omega, ?_⟩
          rw [show putT (Tab.t g) (Sum.inr u.s) (T.tup [.str v.s, a1.t, b1.t]) = Tab.t (g ++ [(u, (.bin v a1 b1))]) from Tab.put_new (s := (.bin v a1 b1)) (wb.free u rfl)]
          repeat' (walk_at "pt 1")
          exact ⟨m', by omega, _, _, ps', _, _, rfl, rfl, k2 (k3.symm.trans hb)⟩
      | fls =>
        cases v <;>
        · simp only [swp, Say.t, Bw.s]
          repeat' (walk_at "pt 1")
          refine s1_retD ?_
          repeat' (walk_at "pt 1")
          have r0 : r = none := run
          subst r0
          exact ⟨[], List.nil_sublist _, hq []⟩
      | bin w a2 b2 =>
        by_cases hv : v = w
        · subst hv
          have run2 : joinF m' g ((a1, a2) :: (b1, b2) :: ps'.reverse) = some r := by
            have := run
            simp only [swp, if_true] at this
            exact this
          have st := split a1 b1 a2 b2 v m' rfl rfl run2
          have d1 := fa.1
          have d2 := fb.1
          simp only [Say.dep] at d1 d2
          have q1 := a1.deep
          have q2 := b1.deep
          cases v <;>
          · simp only [swp, Say.t, Bw.s]
            repeat' (walk_at "pt 1")
            first | refine fc0 ⟨by omega, .bin .thn a1 b1, rfl, ?_⟩ | refine fc0 ⟨by omega, .bin .and a1 b1, rfl, ?_⟩ | refine fc0 ⟨by omega, .bin .or a1 b1, rfl, ?_⟩
            repeat' (walk_at "pt 1")
            refine bw_eqd hr.units (b := false) ⟨.tuple [a1.d, b1.d], .tuple [], by show T.py (.tup [a1.t, b1.t]) = _; simp only [T.py, T.pys, a1.py, b1.py]; rfl, rfl, ?_, by decide, rfl⟩ ?_
            · unfold SeqAt.shaped
              rw [Bool.and_eq_true, decide_eq_true_eq]
              exact ⟨by simp only [PyData.canLay0, PyData.canLayAll0, a1.lay, b1.lay]; rfl, by simp only [PyData.depth, PyData.depthAll]; omega⟩
            repeat' (walk_at "pt 1")
            first | refine fc0 ⟨by omega, .bin .thn a1 b1, rfl, ?_⟩ | refine fc0 ⟨by omega, .bin .and a1 b1, rfl, ?_⟩ | refine fc0 ⟨by omega, .bin .or a1 b1, rfl, ?_⟩
            repeat' (walk_at "pt 1")
            first | refine fc0 ⟨by omega, .bin .thn a2 b2, rfl, ?_⟩ | refine fc0 ⟨by omega, .bin .and a2 b2, rfl, ?_⟩ | refine fc0 ⟨by omega, .bin .or a2 b2, rfl, ?_⟩
            repeat' (walk_at "pt 1")
            refine ⟨_, _, rfl, fun z hz => ?_⟩
            refine ⟨z, _, rfl, .inl (.head _), fun z2 hz2 => ?_⟩
            repeat' (walk_at "pt 1")
            refine mw_extL (Sa := [_, _]) (ts := ps'.map pairS) (.head _) (by simp [Say.parts]; omega) ?_
            refine sw_drop (.trans (List.sublist_cons_self _ _) (List.sublist_cons_self _ _)) ?_
            repeat' (walk_at "pt 1")
            refine ⟨m', by omega, _, _, ps' ++ [(b1, b2), (a1, a2)], g, ρ, rfl, ?_, st⟩
            simp [Say.parts, pairS]
        · have r0 : r = none := by
            have := run
            simp only [swp, if_neg hv] at this
            exact this
          subst r0
          cases v <;> cases w <;> first
            | exact absurd rfl hv
            | simp only [swp, Say.t, Bw.s]
              repeat' (walk_at "pt 1")
              refine s1_retD ?_
              repeat' (walk_at "pt 1")
              exact ⟨[], List.nil_sublist _, hq []⟩
  · have he : ps = [] := by
      cases ps with
      | nil => rfl
      | cons x ws => simp at hb
    subst he
    repeat' (walk_at "pt 1")
    refine s1_retD ?_
    repeat' (walk_at "pt 1")
    have : r = some g := by
      cases m with
      | zero => have := inv.run; cases this
      | succ m => have := inv.run; exact (Option.some.inj this).symm
    subst this
    exact ⟨_, List.Sublist.refl _, hq pf _ (.tail _ (.tail _ (.head _)))⟩
end
end
set_option Elab.async false
set_option linter.all false
set_option maxRecDepth 100000
set_option maxHeartbeats 4000000
set_option autoImplicit false
set_option pp.maxSteps 600
section
variable {P : Program} {w : World} {K : PySem.W.Frag} {mg : Str → Option Value} {base : Heap} {n : Nat}
theorem merge_tab : ∀ (g acc : Tab), (dom (acc ++ g)).Nodup → mergeT (Tab.t acc) (Tab.t g) = Tab.t (acc ++ g)
  | [], acc, _ => by rw [List.append_nil]; rfl
  | (x, s) :: g, acc, nd => by
    have hx : x ∉ acc.map (·.1) := fun hx => by
      simp only [dom, List.map_append, List.map_cons] at nd
      exact (List.nodup_append.mp nd).2.2 x hx x (by simp) rfl
    show mergeT (putT (Tab.t acc) (.inr x.s) s.t) (Tab.t g) = _
    rw [Tab.put_new hx, merge_tab g (acc ++ [(x, s)]) (by rw [List.append_assoc]; exact nd), List.append_assoc]
    rfl
theorem put_nd {g : Tab} {x : Nm} {s : Say} (nd : (dom g).Nodup) (hx : x ∉ dom g) : (dom ([] ++ (g ++ [(x, s)]))).Nodup := by
  show ((g ++ [(x, s)]).map (·.1)).Nodup
  rw [List.map_append]
  exact List.nodup_append.mpr ⟨nd, by simp, fun a ha b hb e => by simp at hb; rw [e, hb] at ha; exact hx ha⟩
theorem clashF_swp {n : Nat} {g : Tab} {a b : Say} {r : Option Tab} (h : clashF (n + 1) a b g = some r) :
    if walk g a = walk g b then r = some g else match swp (walk g a) (walk g b) with
      | (.atom x, e) => r = if occ g x e then none else some (g ++ [(x, e)])
      | (.bin w a1 b1, .bin v a2 b2) => if w = v then (∃ r1, clashF n a1 a2 g = some r1 ∧ (r1 = none → r = none) ∧ ∀ g1, r1 = some g1 → clashF n b1 b2 g1 = some r) else r = none
      | _ => r = none := by
  rw [clashF] at h
  generalize walk g a = c at *
  generalize walk g b = e at *
  by_cases q : c = e
  · rw [if_pos q] at h ⊢; exact (Option.some.inj h).symm
  · rw [if_neg q] at h ⊢
    cases c with
    | atom x =>
      replace h : (if occ g x e then some none else some (some (g ++ [(x, e)]))) = some r := h
      show r = if occ g x e then none else _
      split at h
      · rename_i o; rw [if_pos o]; exact (Option.some.inj h).symm
      · rename_i o; rw [if_neg o]; exact (Option.some.inj h).symm
    | fls =>
      cases e with
      | atom y =>
        replace h : (if occ g y .fls then some none else some (some (g ++ [(y, .fls)]))) = some r := h
        show r = if occ g y .fls then none else _
        split at h
        · rename_i o; rw [if_pos o]; exact (Option.some.inj h).symm
        · rename_i o; rw [if_neg o]; exact (Option.some.inj h).symm
      | fls => exact absurd rfl q
      | bin v c d => exact (Option.some.inj h).symm
    | bin w a1 b1 =>
      cases e with
      | atom y =>
        replace h : (if occ g y (.bin w a1 b1) then some none else some (some (g ++ [(y, .bin w a1 b1)]))) = some r := h
        show r = if occ g y (.bin w a1 b1) then none else _
        split at h
        · rename_i o; rw [if_pos o]; exact (Option.some.inj h).symm
        · rename_i o; rw [if_neg o]; exact (Option.some.inj h).symm
      | fls => exact (Option.some.inj h).symm
      | bin v c d =>
        replace h : (if w = v then (match clashF n a1 c g with | none => none | some none => some none | some (some g1) => clashF n b1 d g1) else some none) = some r := h
        show if w = v then _ else _
        split at h
        · rename_i o
          rw [if_pos o]
          cases hc : clashF n a1 c g with
          | none => rw [hc] at h; cases h
          | some r1 =>
            rw [hc] at h
            refine ⟨r1, rfl, fun e1 => ?_, fun g1 e1 => ?_⟩
            · subst e1; exact (Option.some.inj h).symm
            · subst e1; exact h
        · rename_i o; rw [if_neg o]; exact (Option.some.inj h).symm
section
theorem scClash : FnScope ["one", "other", "table", "name", "told", "found", "a", "b"] ["one", "other", "table"] (defScope (top 34)) := ⟨rfl, rfl, rfl, by decide +kernel, rfl, by decide +kernel, by decide +kernel⟩
local macro_rules | `(tactic| walk_at "pt v") => `(tactic| first
  | ((with_reducible refine ew_var (x := "one") (i := 0) (t := ?t) ?hi ?_ ?hN ?hv ?hd ?hc); (case hi => exact rfl); (case hN => exact rfl); (case hv => first | exact Or.inl rfl | exact Or.inr (Or.inl rfl) | exact Or.inr (Or.inr rfl)); (case hd => decide); (case hc => decide))
  | ((with_reducible refine ew_var (x := "other") (i := 1) (t := ?t) ?hi ?_ ?hN ?hv ?hd ?hc); (case hi => exact rfl); (case hN => exact rfl); (case hv => first | exact Or.inl rfl | exact Or.inr (Or.inl rfl) | exact Or.inr (Or.inr rfl)); (case hd => decide); (case hc => decide))
  | ((with_reducible refine ew_var (x := "table") (i := 2) (t := ?t) ?hi ?_ ?hN ?hv ?hd ?hc); (case hi => exact rfl); (case hN => exact rfl); (case hv => first | exact Or.inl rfl | exact Or.inr (Or.inl rfl) | exact Or.inr (Or.inr rfl)); (case hd => decide); (case hc => decide))
  | ((with_reducible refine ew_var (x := "name") (i := 3) (t := ?t) ?hi ?_ ?hN ?hv ?hd ?hc); (case hi => exact rfl); (case hN => exact rfl); (case hv => first | exact Or.inl rfl | exact Or.inr (Or.inl rfl) | exact Or.inr (Or.inr rfl)); (case hd => decide); (case hc => decide))
  | ((with_reducible refine ew_var (x := "told") (i := 4) (t := ?t) ?hi ?_ ?hN ?hv ?hd ?hc); (case hi => exact rfl); (case hN => exact rfl); (case hv => first | exact Or.inl rfl | exact Or.inr (Or.inl rfl) | exact Or.inr (Or.inr rfl)); (case hd => decide); (case hc => decide))
  | ((with_reducible refine ew_var (x := "found") (i := 5) (t := ?t) ?hi ?_ ?hN ?hv ?hd ?hc); (case hi => exact rfl); (case hN => exact rfl); (case hv => first | exact Or.inl rfl | exact Or.inr (Or.inl rfl) | exact Or.inr (Or.inr rfl)); (case hd => decide); (case hc => decide))
  | ((with_reducible refine ew_var (x := "a") (i := 6) (t := ?t) ?hi ?_ ?hN ?hv ?hd ?hc); (case hi => exact rfl); (case hN => exact rfl); (case hv => first | exact Or.inl rfl | exact Or.inr (Or.inl rfl) | exact Or.inr (Or.inr rfl)); (case hd => decide); (case hc => decide))
  | ((with_reducible refine ew_var (x := "b") (i := 7) (t := ?t) ?hi ?_ ?hN ?hv ?hd ?hc); (case hi => exact rfl); (case hN => exact rfl); (case hv => first | exact Or.inl rfl | exact Or.inr (Or.inl rfl) | exact Or.inr (Or.inr rfl)); (case hd => decide); (case hc => decide))
  | ((with_reducible refine s1_set (x := "one") (i := 0) ?hN ?hi ?_ ?hx ?hs ?hf); (case hN => exact (scClash).nd); (case hi => exact rfl); (case hx => first | exact Or.inl rfl | exact Or.inr rfl); (case hs => exact rfl); (case hf => first | exact Or.inr rfl | exact Or.inl rfl))
  | ((with_reducible refine s1_set (x := "other") (i := 1) ?hN ?hi ?_ ?hx ?hs ?hf); (case hN => exact (scClash).nd); (case hi => exact rfl); (case hx => first | exact Or.inl rfl | exact Or.inr rfl); (case hs => exact rfl); (case hf => first | exact Or.inr rfl | exact Or.inl rfl))
  | ((with_reducible refine s1_set (x := "name") (i := 3) ?hN ?hi ?_ ?hx ?hs ?hf); (case hN => exact (scClash).nd); (case hi => exact rfl); (case hx => first | exact Or.inl rfl | exact Or.inr rfl); (case hs => exact rfl); (case hf => first | exact Or.inr rfl | exact Or.inl rfl))
  | ((with_reducible refine s1_set (x := "told") (i := 4) ?hN ?hi ?_ ?hx ?hs ?hf); (case hN => exact (scClash).nd); (case hi => exact rfl); (case hx => first | exact Or.inl rfl | exact Or.inr rfl); (case hs => exact rfl); (case hf => first | exact Or.inr rfl | exact Or.inl rfl))
  | ((with_reducible refine s1_set (x := "found") (i := 5) ?hN ?hi ?_ ?hx ?hs ?hf); (case hN => exact (scClash).nd); (case hi => exact rfl); (case hx => first | exact Or.inl rfl | exact Or.inr rfl); (case hs => exact rfl); (case hf => first | exact Or.inr rfl | exact Or.inl rfl))
  | ((with_reducible refine s1_set (x := "a") (i := 6) ?hN ?hi ?_ ?hx ?hs ?hf); (case hN => exact (scClash).nd); (case hi => exact rfl); (case hx => first | exact Or.inl rfl | exact Or.inr rfl); (case hs => exact rfl); (case hf => first | exact Or.inr rfl | exact Or.inl rfl))
  | ((with_reducible refine s1_set (x := "b") (i := 7) ?hN ?hi ?_ ?hx ?hs ?hf); (case hN => exact (scClash).nd); (case hi => exact rfl); (case hx => first | exact Or.inl rfl | exact Or.inr rfl); (case hs => exact rfl); (case hf => first | exact Or.inr rfl | exact Or.inl rfl))
  | fail)
local macro_rules | `(tactic| walk_at "pt 1") => `(tactic| first
  | ((with_reducible refine aw_cons (hs := ?hs) (h := ?_)); (case hs => exact rfl))
  | ((with_reducible refine aw_nil (hk := ?_)))
  | ((with_reducible refine ew_listItems (hc := ?hc) (hm := ?hm) (hg := ?hg) (hbase := ?hbase) (hline := ?hline) (hs := ?hs) (h := ?_)); (case hc => exact rfl); (case hm => exact Mg.list (by assumption)); (case hg => exact rfl); (case hbase => exact rfl); (case hline => exact rfl); (case hs => exact rfl))
  | ((with_reducible refine ew_slice (h := ?_)))
  | ((with_reducible refine ew_sub (h := ?_)))
  | ((with_reducible refine ew_str (hk := ?_)))
  | ((with_reducible refine ew_int (hk := ?_)))
  | ((with_reducible refine ew_non (hk := ?_)))
  | ((with_reducible refine ew_tup (h := ?_)))
  | ((with_reducible refine tw_cmp (hm := ?hm) (h := ?_)); (case hm => exact rfl))
  | ((with_reducible refine ew_cmp (hm := ?hm) (h := ?_)); (case hm => exact rfl))
  | ((with_reducible refine ew_bin (h := ?_)))
  | ((with_reducible refine ew_lst (h := ?_)))
  | ((with_reducible refine ew_call (x := "_law_atoms") (n := ?n) (con := ?con) (C := ?C) (hr := ?hr) (hg := ?hg) (hdb := ?hdb) (he := ?he) (hpl := ?hpl) (h := ?_)); (case C => exact All.c_law_atoms (by assumption)); (case hr => assumption); (case hg => exact rfl); (case hdb => decide); (case he => exact rfl); (case hpl => exact rfl))
  | ((with_reducible refine ew_call (x := "_law_clash") (n := ?n) (con := ?con) (C := ?C) (hr := ?hr) (hg := ?hg) (hdb := ?hdb) (he := ?he) (hpl := ?hpl) (h := ?_)); (case C => exact All.c_law_clash (by assumption)); (case hr => assumption); (case hg => exact rfl); (case hdb => decide); (case he => exact rfl); (case hpl => exact rfl))
  | ((with_reducible refine ew_callF (x := "_law_full") (n := ?n) (pre := ?pre) (C := ?C) (hr := ?hr) (hg := ?hg) (hdb := ?hdb) (he := ?he) (hpl := ?hpl) (h := ?_)); (case C => exact All.c_law_full (by assumption)); (case hr => assumption); (case hg => exact rfl); (case hdb => decide); (case he => exact rfl); (case hpl => exact rfl))
  | ((with_reducible refine ew_callTy (x := "dict") (T' := "dict") (hm := ?hm) (hv := ?hv) (hg := ?hg) (hn := ?hn) (hdb := ?hdb) (he := ?he) (hpl := ?hpl) (h := ?_)); (case hm => exact Mg.dict (by assumption)); (case hv => exact rfl); (case hg => exact rfl); (case hn => decide); (case hdb => decide); (case he => exact rfl); (case hpl => exact rfl))
  | ((with_reducible refine ew_callTy (x := "list") (T' := "list") (hm := ?hm) (hv := ?hv) (hg := ?hg) (hn := ?hn) (hdb := ?hdb) (he := ?he) (hpl := ?hpl) (h := ?_)); (case hm => exact Mg.list (by assumption)); (case hv => exact rfl); (case hg => exact rfl); (case hn => decide); (case hdb => decide); (case he => exact rfl); (case hpl => exact rfl))
  | ((with_reducible refine ew_ifExp (h := ?_)))
  | ((with_reducible refine tw_bool (h := ?_)))
  | ((with_reducible refine ww_and (h := ?_)))
  | ((with_reducible refine ww_or (h := ?_)))
  | ((with_reducible refine ww_and1 (h := ?_)))
  | ((with_reducible refine ww_or1 (h := ?_)))
  | ((with_reducible refine ew_and (h := ?_)))
  | ((with_reducible refine ew_or (h := ?_)))
  | ((with_reducible refine ew_one (h := ?_)))
  | ((with_reducible refine tw_call (h := ?_)))
  | ((with_reducible refine tw_name (h := ?_)))
  | ((with_reducible refine sw_cons (h := ?_)))
  | ((with_reducible refine sw_nil (h := ?_)))
  | ((with_reducible refine s1_if (h := ?_)))
  | ((with_reducible refine bw_eqs (h := ?h) (hk := ?_)); (case h => exact rfl))
  | ((with_reducible refine bw_nes (h := ?h) (hk := ?_)); (case h => exact rfl))
  | ((with_reducible refine bw_inT (hx := ?hx) (hf := ?hf) (hk := ?_)); (case hx => exact rfl); (case hf => exact rfl))
  | ((with_reducible refine bw_inL (xs := ?xs) (hp := ?hp) (hx := ?hx) (hf := ?hf) (hk := ?_)); (case hp => walk_at "pt rdb"); (case hx => exact rfl); (case hf => exact rfl))
  | ((with_reducible refine bw_isN (hk := ?_)))
  | ((with_reducible refine bw_isB (hk := ?_)))
  | ((with_reducible refine bw_add (hk := ?_)))
  | ((with_reducible refine xw_tup (t := ?t) (he := ?he) (hs := ?hs) (hk := ?_)); (case he => first | exact rfl | exact atT0 | exact atT1); (case hs => exact fun _ _ => rfl))
  | ((with_reducible refine xw_lst (ts := ?ts) (t := ?t) (hp := ?hp) (he := ?he) (hs := ?hs) (hk := ?_)); (case hp => walk_at "pt rdb"); (case he => first | exact rfl | exact atT0 | exact atT1); (case hs => exact fun _ _ => rfl))
  | ((with_reducible refine ow_none (hk := ?_)))
  | ((with_reducible refine ow_some (h := ?_)))
  | ((with_reducible refine lw_tup (hk := ?_)))
  | ((with_reducible refine And.intro ?hx ?_); (case hx => exact Nat.le_of_ble_eq_true rfl))
  | (with_reducible refine Exists.intro _ (And.intro rfl ?_))
  | (refine tst_t (by decide +kernel) ?_)
  | (refine tst_f (by decide +kernel) ?_)
  | (refine Exists.intro _ (Exists.intro _ (And.intro rfl (And.intro (by walk_at "pt rdb") ?_))))
  | walk_at "pt v"
  | fail)
theorem ok_law_clash (M : Mg mg) (D : Df K mg "_law_clash" (top 34) ["one", "other", "table"]) (C : All P w K mg base n) : Cl P w K mg base (n + 1) "_law_clash" (cClash (n + 1)) := by
  refine cl_of D scClash (fun ts F S k h => ?_) (fun a hr ts F S k h => ?_)
  · obtain ⟨_, _, _, _, _, _, _, _, _, rfl, _⟩ := h; rfl
  obtain ⟨x, y, pd, g, ρ, V, d, m, r, rfl, rfl, good, hs, hd60, hV, fx, fy, hm, run, hq⟩ := h
  obtain ⟨N, l1, l2⟩ := good.lv
  have lx : lv N x ≤ 100 := by have := l2 x; have := fx.1; unfold Small at hs; omega
  have ly : lv N y ≤ 100 := by have := l2 y; have := fy.1; unfold Small at hs; omega
  obtain ⟨wa, fa⟩ := good.walk hs fx
  obtain ⟨wb, fb⟩ := good.walk hs fy
  refine sw_cut (fun r1 S1 => r1 = [some (walk g x).t, some y.t, some (.ref pd), none, none, none, none, none] ∧ S1 = [(pd, .dk (Tab.t g))]) ?_ ?_
  · refine s1_while PassesOwn.never (fun m r1 S => ∃ z, r1 = [some (Say.t z), some y.t, some (.ref pd), none, none, none, none, none] ∧ S = [(pd, .dk (Tab.t g))] ∧ lv N z ≤ m ∧ walkF m g z = walk g x) ⟨100, x, rfl, rfl, lx, rfl⟩ ?_
    rintro m2 r1 S1 ⟨z, rfl, rfl, hz1, hz2⟩
    cases z with
    | atom v =>
      simp only [Say.t]
      repeat' (walk_at "pt 1")
      refine bw_inD (kk := .inr v.s) (hu_of hr) (.inl (.head _)) ?_
      rw [Tab.val]
      cases e : g.get v with
      | some t =>
        have q1 : lv N t + 1 ≤ N v := l1.ent _ (Tab.get_mem e)
        have q2 : N v ≤ m2 := hz1
        obtain ⟨m3, rfl⟩ : ∃ m3, m2 = m3 + 1 := ⟨m2 - 1, by omega⟩
        rw [walkF, e] at hz2
        refine ⟨_, rfl, tst_t rfl ?_⟩
        repeat' (walk_at "pt 1")
        refine xw_dk (kk := .inr v.s) (t := t.t) (hu_of hr) (.inl (.head _)) (by rw [Tab.val, e]; rfl) ?_
        repeat' (walk_at "pt 1")
        exact ⟨m3, by omega, t, rfl, rfl, by omega, hz2⟩
      | none =>
        refine ⟨_, rfl, tst_f rfl ?_⟩
        repeat' (walk_at "pt 1")
        have e2 : walk g x = .atom v := by rw [← hz2]; exact walkF_out (fun u eu => by cases eu; exact e) _
        rw [e2]; exact ⟨rfl, rfl⟩
    | fls =>
      have e2 : walk g x = .fls := by rw [← hz2]; exact walkF_out (fun u eu => by cases eu) _
      simp only [Say.t]
      repeat' (walk_at "pt 1")
      rw [e2]; exact ⟨rfl, rfl⟩
    | bin v c d =>
      have e2 : walk g x = .bin v c d := by rw [← hz2]; exact walkF_out (fun u eu => by cases eu) _
      cases v <;>
      · simp only [Say.t, Bw.s]
        repeat' (walk_at "pt 1")
        rw [e2]; exact ⟨rfl, rfl⟩
  rintro _ _ ⟨rfl, rfl⟩
  refine sw_cut (fun r1 S1 => r1 = [some (walk g x).t, some (walk g y).t, some (.ref pd), none, none, none, none, none] ∧ S1 = [(pd, .dk (Tab.t g))]) ?_ ?_
  · refine s1_while PassesOwn.never (fun m r1 S => ∃ z, r1 = [some (walk g x).t, some (Say.t z), some (.ref pd), none, none, none, none, none] ∧ S = [(pd, .dk (Tab.t g))] ∧ lv N z ≤ m ∧ walkF m g z = walk g y) ⟨100, y, rfl, rfl, ly, rfl⟩ ?_
    rintro m2 r1 S1 ⟨z, rfl, rfl, hz1, hz2⟩
    cases z with
    | atom v =>
      simp only [Say.t]
      repeat' (walk_at "pt 1")
      refine bw_inD (kk := .inr v.s) (hu_of hr) (.inl (.head _)) ?_
      rw [Tab.val]
      cases e : g.get v with
      | some t =>
        have q1 : lv N t + 1 ≤ N v := l1.ent _ (Tab.get_mem e)
        have q2 : N v ≤ m2 := hz1
        obtain ⟨m3, rfl⟩ : ∃ m3, m2 = m3 + 1 := ⟨m2 - 1, by omega⟩
        rw [walkF, e] at hz2
        refine ⟨_, rfl, tst_t rfl ?_⟩
        repeat' (walk_at "pt 1")
        refine xw_dk (kk := .inr v.s) (t := t.t) (hu_of hr) (.inl (.head _)) (by rw [Tab.val, e]; rfl) ?_
        repeat' (walk_at "pt 1")
        exact ⟨m3, by omega, t, rfl, rfl, by omega, hz2⟩
      | none =>
        refine ⟨_, rfl, tst_f rfl ?_⟩
        repeat' (walk_at "pt 1")
        have e2 : walk g y = .atom v := by rw [← hz2]; exact walkF_out (fun u eu => by cases eu; exact e) _
        rw [e2]; exact ⟨rfl, rfl⟩
    | fls =>
      have e2 : walk g y = .fls := by rw [← hz2]; exact walkF_out (fun u eu => by cases eu) _
      simp only [Say.t]
      repeat' (walk_at "pt 1")
      rw [e2]; exact ⟨rfl, rfl⟩
    | bin v c d =>
      have e2 : walk g y = .bin v c d := by rw [← hz2]; exact walkF_out (fun u eu => by cases eu) _
      cases v <;>
      · simp only [Say.t, Bw.s]
        repeat' (walk_at "pt 1")
        rw [e2]; exact ⟨rfl, rfl⟩
  rintro _ _ ⟨rfl, rfl⟩
  obtain ⟨m', rfl⟩ : ∃ m', m = m' + 1 := by
    cases m with
    | zero => cases run
    | succ m' => exact ⟨m', rfl⟩
  replace run := clashF_swp run
  have dc := fa.1
  have de := fb.1
  have nd := tri_nd good.tri
  have lg : g.length ≤ 30 := Nat.le_trans good.len hV
  have bnd : ∀ (u : Nm) (t : Say), Fits V d (.atom u) → Fits V d t → u ∉ dom g → (r = if occ g u t then none else some (g ++ [(u, t)])) → (u ∈ (t.sub ρ).atoms → r = none) ∧ (u ∉ (t.sub ρ).atoms → r = some (g ++ [(u, t)])) ∧ ResOk 100 t g ρ ∧ (t.sub ρ).dep ≤ 100 ∧ (t.sub ρ).atoms ⊆ V := fun u t fu ft hu h => by
    rw [good.occ hs ft] at h
    have q := dep_res good.tri good.dep t
    have q2 := Nat.mul_le_mul_right d good.len
    have ft1 := ft.1
    refine ⟨fun o => by rw [if_pos (by simpa using o)] at h; exact h, fun o => by rw [if_neg (by simpa using o)] at h; exact h, ⟨good.tri, ⟨N, l1, ?_⟩, Nat.le_trans ft.1 hd60, fun p hp => Nat.le_trans (good.dep p hp) hd60⟩, by unfold Small at hs; omega, good.names ft.2⟩
    have := l2 t; unfold Small at hs; omega
  generalize walk g x = c at *
  generalize walk g y = e at *
  refine sw_cons ?_
  repeat' (walk_at "pt 1")
  refine bw_eqd hr.units (Say.eqT (Nat.le_trans dc (by omega)) (Nat.le_trans de (by omega))) ?_
  refine ⟨_, rfl, fun hc => ?_, fun hc => ?_⟩
  · have ec : c = e := by simpa using hc
    rw [if_pos ec] at run
    subst run
    repeat' (walk_at "pt 1")
    refine s1_retD ?_
    repeat' (walk_at "pt 1")
    exact ⟨_, List.Sublist.refl _, hq pd _ (.head _)⟩
  have ne : c ≠ e := by simpa using hc
  rw [if_neg ne] at run
  refine sw_nil ?_
  cases c with
  | atom u =>
    obtain ⟨k1, k2, k3, k4, k5⟩ := bnd u e fa fb (wa.free u rfl) run
    simp only [Say.t]
    refine sw_cons ?_
    repeat' (walk_at "pt 1")
    refine s1_two (i := 3) (j := 4) rfl scClash.nd rfl rfl ?_
    repeat' (walk_at "pt 1")
    refine ⟨_, _, rfl, ?_⟩
    repeat' (walk_at "pt 1")
    refine s1_retD ?_
    repeat' (walk_at "pt 1")
    refine fc1 (pd, .dk (Tab.t g)) (.inl (.head _)) ⟨e, pd, g, ρ, 100, rfl, List.mem_singleton_self _, k3, by omega, ?_⟩
    repeat' (walk_at "pt 1")
    refine ⟨[], [], [(pd, .dk (Tab.t g))], [], rfl, by simp, _, V, rfl, rfl, Nat.le_trans k4 (by omega), k5, hV, fun p1 ys nd1 m1 => ?_⟩
    simp only [List.nil_append, List.cons_append]
    repeat' (walk_at "pt 1")
    refine bw_inL (.inl (.head _)) rfl (clr_nm _ _) ?_
    rw [inT_nm]
    refine ⟨_, rfl, fun hb => ?_, fun hb => ?_⟩
    · have r0 : r = none := k1 ((m1 u).mp (by simpa using hb))
      subst r0
      repeat' (walk_at "pt 1")
      exact ⟨[], List.nil_sublist _, hq []⟩
    · have r0 := k2 fun q => absurd ((m1 u).mpr q) (by simpa using hb)
      subst r0
      repeat' (walk_at "pt 1")
      refine ⟨pd, _, rfl, .tail _ (.head _), fun l1 hl1 => ?_⟩
      repeat' (walk_at "pt 1")
      intro l2 hl2
      refine bw_catL (.tail _ (.head _)) (.head _) (by rw [List.length_map, Tab.t_length]; simp; omega) fun l3 hl3 => ?_
      repeat' (walk_at "pt 1")
      have mem : MO.lst ((Tab.t (g ++ [(u, e)])).map pairT) = MO.lst (List.map pairT (Tab.t g) ++ [.tup [.str u.s, Say.t e]]) := by
        unfold Tab.t
        rw [List.map_append, List.map_append]; rfl
      refine cw_dictP (kvs := Tab.t (g ++ [(u, e)])) rfl (.inl (by rw [mem]; exact .head _)) fun l4 hl4 => ?_
      rw [show mergeT [] (Tab.t (g ++ [(u, e)])) = Tab.t (g ++ [(u, e)]) from merge_tab _ [] (put_nd nd (wa.free u rfl))]
      exact ⟨_, List.Sublist.refl _, hq l4 _ (.head _)⟩
  | fls =>
    cases e with
    | atom u =>
      obtain ⟨k1, k2, k3, k4, k5⟩ := bnd u .fls fb fa (wb.free u rfl) run
      simp only [Say.t]
      refine sw_cons ?_
      repeat' (walk_at "pt 1")
      refine s1_two (i := 3) (j := 4) rfl scClash.nd rfl rfl ?_
      repeat' (walk_at "pt 1")
      refine ⟨_, _, rfl, ?_⟩
      repeat' (walk_at "pt 1")
      refine s1_retD ?_
      repeat' (walk_at "pt 1")
      refine fc1 (pd, .dk (Tab.t g)) (.inl (.head _)) ⟨.fls, pd, g, ρ, 100, rfl, List.mem_singleton_self _, k3, by omega, ?_⟩
      repeat' (walk_at "pt 1")
      refine ⟨[], [], [(pd, .dk (Tab.t g))], [], rfl, by simp, _, V, rfl, rfl, Nat.le_trans k4 (by omega), k5, hV, fun p1 ys nd1 m1 => ?_⟩
      simp only [List.nil_append, List.cons_append]
      repeat' (walk_at "pt 1")
      refine bw_inL (.inl (.head _)) rfl (clr_nm _ _) ?_
      rw [inT_nm]
      refine ⟨_, rfl, fun hb => ?_, fun hb => ?_⟩
      · have r0 : r = none := k1 ((m1 u).mp (by simpa using hb))
        subst r0
        repeat' (walk_at "pt 1")
        exact ⟨[], List.nil_sublist _, hq []⟩
      · have r0 := k2 fun q => absurd ((m1 u).mpr q) (by simpa using hb)
        subst r0
        repeat' (walk_at "pt 1")
        refine ⟨pd, _, rfl, .tail _ (.head _), fun l1 hl1 => ?_⟩
        repeat' (walk_at "pt 1")
        intro l2 hl2
        refine bw_catL (.tail _ (.head _)) (.head _) (by rw [List.length_map, Tab.t_length]; simp; omega) fun l3 hl3 => ?_
        repeat' (walk_at "pt 1")
        have mem : MO.lst ((Tab.t (g ++ [(u, .fls)])).map pairT) = MO.lst (List.map pairT (Tab.t g) ++ [.tup [.str u.s, Say.t .fls]]) := by
          unfold Tab.t
          rw [List.map_append, List.map_append]; rfl
        refine cw_dictP (kvs := Tab.t (g ++ [(u, .fls)])) rfl (.inl (by rw [mem]; exact .head _)) fun l4 hl4 => ?_
        rw [show mergeT [] (Tab.t (g ++ [(u, .fls)])) = Tab.t (g ++ [(u, .fls)]) from merge_tab _ [] (put_nd nd (wb.free u rfl))]
        exact ⟨_, List.Sublist.refl _, hq l4 _ (.head _)⟩
    | fls => exact absurd rfl ne
    | bin w a b =>
      cases w <;>
      · simp only [Say.t, Bw.s]
        refine sw_cons ?_
        repeat' (walk_at "pt 1")
        refine s1_retD ?_
        repeat' (walk_at "pt 1")
        have r0 : r = none := run
        subst r0
        exact ⟨[], List.nil_sublist _, hq []⟩
  | bin v a1 b1 =>
    cases e with
    | atom u =>
      obtain ⟨k1, k2, k3, k4, k5⟩ := bnd u (.bin v a1 b1) fb fa (wb.free u rfl) run
      obtain ⟨t0, ht0⟩ : ∃ t0 : Say, t0 = .bin v a1 b1 := ⟨_, rfl⟩
      rw [← ht0] at k1 k2 k3 k4 k5
      cases v <;>
      · simp only [Say.t, Bw.s]
        refine sw_cons ?_
        repeat' (walk_at "pt 1")
        refine s1_two (i := 3) (j := 4) rfl scClash.nd rfl rfl ?_
        repeat' (walk_at "pt 1")
        refine ⟨_, _, rfl, ?_⟩
        repeat' (walk_at "pt 1")
        refine s1_retD ?_
        repeat' (walk_at "pt 1")
        refine fc1 (pd, .dk (Tab.t g)) (.inl (.head _)) ⟨t0, pd, g, ρ, 100, by rw [ht0]; rfl, List.mem_singleton_self _, k3, by omega, ?_⟩
        repeat' (walk_at "pt 1")
        refine ⟨[], [], [(pd, .dk (Tab.t g))], [], rfl, by simp, _, V, rfl, rfl, Nat.le_trans k4 (by omega), k5, hV, fun p1 ys nd1 m1 => ?_⟩
        simp only [List.nil_append, List.cons_append]
        repeat' (walk_at "pt 1")
        refine bw_inL (.inl (.head _)) rfl (clr_nm _ _) ?_
        rw [inT_nm]
        refine ⟨_, rfl, fun hb => ?_, fun hb => ?_⟩
        · have r0 : r = none := k1 ((m1 u).mp (by simpa using hb))
          subst r0
          repeat' (walk_at "pt 1")
          exact ⟨[], List.nil_sublist _, hq []⟩
        · have r0 := k2 fun q => absurd ((m1 u).mpr q) (by simpa using hb)
          subst r0
          repeat' (walk_at "pt 1")
          refine ⟨pd, _, rfl, .tail _ (.head _), fun l1 hl1 => ?_⟩
          repeat' (walk_at "pt 1")
          intro l2 hl2
          refine bw_catL (.tail _ (.head _)) (.head _) (by rw [List.length_map, Tab.t_length]; simp; omega) fun l3 hl3 => ?_
          repeat' (walk_at "pt 1")
          have mem : MO.lst ((Tab.t (g ++ [(u, t0)])).map pairT) = MO.lst (List.map pairT (Tab.t g) ++ [.tup [.str u.s, Say.t t0]]) := by
            unfold Tab.t
            rw [List.map_append, List.map_append]; rfl
          rw [show Say.t t0 = _ from congrArg Say.t ht0] at mem
          simp only [Say.t, Bw.s] at mem
          refine cw_dictP (kvs := Tab.t (g ++ [(u, t0)])) rfl (.inl (by rw [mem]; exact .head _)) fun l4 hl4 => ?_
          rw [show mergeT [] (Tab.t (g ++ [(u, t0)])) = Tab.t (g ++ [(u, t0)]) from merge_tab _ [] (put_nd nd (wb.free u rfl))]
          exact ⟨_, List.Sublist.refl _, hq l4 _ (.head _)⟩
    | fls =>
      cases v <;>
      · simp only [Say.t, Bw.s]
        refine sw_cons ?_
        repeat' (walk_at "pt 1")
        refine s1_retD ?_
        repeat' (walk_at "pt 1")
        have r0 : r = none := run
        subst r0
        exact ⟨[], List.nil_sublist _, hq []⟩
    | bin w a2 b2 =>
      by_cases hv : v = w
      · subst hv
        obtain ⟨r1, h1, h2, h3⟩ : ∃ r1, clashF m' a1 a2 g = some r1 ∧ (r1 = none → r = none) ∧ ∀ g1, r1 = some g1 → clashF m' b1 b2 g1 = some r := by
          have := run
          simp only [swp, if_true] at this
          exact this
        obtain ⟨f1, f2⟩ := fa.bin
        obtain ⟨f3, f4⟩ := fb.bin
        have j1 := clashF_ok hs m' a1 a2 g ρ r1 good f1 f3 h1
        cases v <;>
        · simp only [Say.t, Bw.s]
          refine sw_cons ?_
          repeat' (walk_at "pt 1")
          refine s1_for (g := _) (up := up2 6 7) (vs := [6, 7]) PassesOwn.never rfl (pg_tup rfl (pgs_cons (pg_name (i := 6) scClash.nd rfl (.inl rfl)) (pgs_cons (pg_name (i := 7) scClash.nd rfl (.inl rfl)) pgs_nil))) (tgt2 (by simp) (by simp)) ?_
          refine iw_zipT M.zip ?_
          repeat' (walk_at "pt 1")
          rw [cutT1, cutT1]
          refine ⟨_, _, rfl, ?_⟩
          refine ⟨fun i r1' S1 => ∃ z1 z2 fv o1 o2 rr, r1' = [z1, z2, some (.ref pd), none, none, some fv, o1, o2] ∧ (rr = none → fv = .non) ∧ (∀ g1, rr = some g1 → ∃ p, fv = .ref p ∧ (p, .dk (Tab.t g1)) ∈ S1) ∧ (i = 0 → rr = some g) ∧ (i = 1 → rr = r1) ∧ (i = 2 → rr = r), ⟨_, _, _, _, _, some g, rfl, fun z => (by cases z), fun g1 z => (by cases z; exact ⟨pd, rfl, .head _⟩), fun _ => rfl, fun z => (by cases z), fun z => (by cases z)⟩, fun _ _ _ _ => trivial, ?_, ?_⟩
          · rintro i t r2 S2 hu ⟨z1, z2, fv, o1, o2, rr, rfl, e1, e2, e3, e4, e5⟩
            match i, hu with
            | 0, hu =>
              replace hu : some (T.tup [a1.t, a2.t]) = some t := hu
              cases hu
              have := e3 rfl
              subst this
              obtain ⟨p, rfl, hp⟩ := e2 g rfl
              refine ⟨_, rfl, ?_⟩
              refine sw_cons ?_
              repeat' (walk_at "pt 1")
              refine ⟨fun hb => (by cases hb), fun _ => ?_⟩
              repeat' (walk_at "pt 1")
              obtain ⟨Sa, Sb, rfl⟩ := List.append_of_mem hp
              refine ⟨Sa, [(p, .dk (Tab.t g))], Sb, [], rfl, by simp, a1, a2, p, g, ρ, V, d, m', r1, rfl, rfl, good, hs, hd60, hV, f1, f3, by omega, h1, ?_⟩
              cases hr1 : r1 with
              | none =>
                intro S'
                repeat' (walk_at "pt 1")
                exact ⟨_, _, _, _, _, none, rfl, fun _ => rfl, fun g1 z => (by cases z), fun z => (by cases z), fun _ => rfl, fun z => (by cases z)⟩
              | some g1 =>
                intro p1 S' hp1
                repeat' (walk_at "pt 1")
                exact ⟨_, _, _, _, _, some g1, rfl, fun z => (by cases z), fun g2 z => (by cases z; exact ⟨p1, rfl, by simp [hp1]⟩), fun z => (by cases z), fun _ => rfl, fun z => (by cases z)⟩
            | 1, hu =>
              replace hu : some (T.tup [b1.t, b2.t]) = some t := hu
              cases hu
              have := e4 rfl
              subst this
              refine ⟨_, rfl, ?_⟩
              cases hrr : rr with
              | none =>
                have e6 := e1 hrr
                subst e6
                refine sw_cons ?_
                repeat' (walk_at "pt 1")
                exact ⟨_, _, _, _, _, none, rfl, fun _ => rfl, fun g1 z => (by cases z), fun z => (by cases z), fun z => (by cases z), fun _ => (h2 hrr).symm⟩
              | some g1 =>
                obtain ⟨p, rfl, hp⟩ := e2 g1 hrr
                subst hrr
                obtain ⟨ρ1, good1, _⟩ := j1
                refine sw_cons ?_
                repeat' (walk_at "pt 1")
                refine ⟨fun hb => (by cases hb), fun _ => ?_⟩
                repeat' (walk_at "pt 1")
                obtain ⟨Sa, Sb, rfl⟩ := List.append_of_mem hp
                refine ⟨Sa, [(p, .dk (Tab.t g1))], Sb, [], rfl, by simp, b1, b2, p, g1, ρ1, V, d, m', r, rfl, rfl, good1, hs, hd60, hV, f2, f4, by omega, h3 g1 rfl, ?_⟩
                cases hr1 : r with
                | none =>
                  intro S'
                  repeat' (walk_at "pt 1")
                  exact ⟨_, _, _, _, _, none, rfl, fun _ => rfl, fun g1 z => (by cases z), fun z => (by cases z), fun z => (by cases z), fun _ => rfl⟩
                | some g3 =>
                  intro p1 S' hp1
                  repeat' (walk_at "pt 1")
                  exact ⟨_, _, _, _, _, some g3, rfl, fun z => (by cases z), fun g2 z => (by cases z; exact ⟨p1, rfl, by simp [hp1]⟩), fun z => (by cases z), fun z => (by cases z), fun _ => rfl⟩
            | i + 2, hu => cases hu
          · rintro r2 S2 ⟨z1, z2, fv, o1, o2, rr, rfl, e1, e2, e3, e4, e5⟩
            have := e5 rfl
            subst this
            repeat' (walk_at "pt 1")
            refine s1_retD ?_
            repeat' (walk_at "pt 1")
            refine ⟨_, List.Sublist.refl _, ?_⟩
            cases rr with
            | none => rw [e1 rfl]; exact hq _
            | some g1 => obtain ⟨p, rfl, hp⟩ := e2 g1 rfl; exact hq p _ hp
      · have r0 : r = none := by
          have := run
          simp only [swp, if_neg hv] at this
          exact this
        subst r0
        cases v <;> cases w <;> first
          | exact absurd rfl hv
          | simp only [Say.t, Bw.s]
            refine sw_cons ?_
            repeat' (walk_at "pt 1")
            refine s1_retD ?_
            repeat' (walk_at "pt 1")
            exact ⟨[], List.nil_sublist _, hq []⟩
end
end
set_option Elab.async false
set_option linter.all false
set_option maxRecDepth 100000
set_option maxHeartbeats 4000000
set_option autoImplicit false
set_option pp.maxSteps 600
section
variable {P : Program} {w : World} {K : PySem.W.Frag} {mg : Str → Option Value} {base : Heap} {n : Nat}
theorem letters_le {us : List Nm} {k : Nat} (hk : k ≤ 59) (h : ∀ j < k, ltr j ∈ us) : k ≤ us.length := by
  have nd : ((List.range k).map ltr).Nodup := by
    refine List.pairwise_map.mpr (List.Pairwise.imp_of_mem (fun {a b} ha hb ne e => ?_) List.nodup_range)
    rw [List.mem_range] at ha hb
    exact ne (ltr_ne (by omega) (by omega) e)
  have := nd.length_le_of_subset (l₂ := us) fun z hz => by
    obtain ⟨j, hj, rfl⟩ := List.mem_map.mp hz
    exact h j (List.mem_range.mp hj)
  simpa using this
abbrev tabN (tb : List (Nm × Nm)) : List (Key × T) := tb.map fun p => (.inr p.1.s, .str p.2.s)
abbrev tabA (tb : List (Nm × Nm)) : Tab := tb.map fun p => (p.1, .atom p.2)
def renT (tb : List (Nm × Nm)) (x : Nm) : Nm := ((tb.find? fun p => decide (p.1 = x)).map (·.2)).getD x
theorem tabA_get (tb : List (Nm × Nm)) (x : Nm) : (Tab.get (tabA tb) x).getD (.atom x) = .atom (renT tb x) := by
  unfold Tab.get renT tabA
  rw [List.find?_map]
  have e : ((fun p : Nm × Say => decide (p.1 = x)) ∘ fun p : Nm × Nm => (p.1, Say.atom p.2)) = fun p : Nm × Nm => decide (p.1 = x) := rfl
  rw [e]
  cases tb.find? fun p => decide (p.1 = x) <;> rfl
theorem tabN_val (tb : List (Nm × Nm)) (x : Nm) : valT (tabN tb) (.inr x.s) = ((tb.find? fun p => decide (p.1 = x)).map (·.2)).map fun v => T.str v.s := by
  unfold valT tabN
  rw [List.find?_map]
  have e : ((fun kv : Key × T => decide (kv.1 = Sum.inr x.s)) ∘ fun p : Nm × Nm => ((Sum.inr p.1.s : Key), T.str p.2.s)) = fun p : Nm × Nm => decide (p.1 = x) := by
    funext p
    show decide ((Sum.inr p.1.s : Key) = Sum.inr x.s) = decide (p.1 = x)
    by_cases h : p.1 = x
    · simp [h]
    · have : p.1.s ≠ x.s := fun e => h (Nm.inj.mp e)
      simp [h, this]
  rw [e]
  cases tb.find? fun p => decide (p.1 = x) <;> rfl
theorem find_at {tb : List (Nm × Nm)} (nd : (tb.map (·.1)).Nodup) {p : Nm × Nm} (h : p ∈ tb) : (tb.find? fun q => decide (q.1 = p.1)) = some p := by
  induction tb with
  | nil => cases h
  | cons q g ih =>
    rw [List.map_cons, List.nodup_cons] at nd
    rcases List.mem_cons.mp h with rfl | h
    · simp
    · have ne : q.1 ≠ p.1 := fun e => nd.1 (by rw [e]; exact List.mem_map_of_mem h)
      rw [List.find?_cons_of_neg (by simpa using ne)]
      exact ih nd.2 h
theorem tabN_put {tb : List (Nm × Nm)} {x v : Nm} (h : x ∉ tb.map (·.1)) : putT (tabN tb) (.inr x.s) (.str v.s) = tabN (tb ++ [(x, v)]) := by
  unfold putT
  rw [if_neg]
  · rw [tabN, tabN, List.map_append]; rfl
  · intro ha
    obtain ⟨p, hp, e⟩ := List.any_eq_true.mp ha
    obtain ⟨q, hq, rfl⟩ := List.mem_map.mp hp
    have : q.1 = x := Nm.inj.mp (by simpa using e)
    exact h (by rw [← this]; exact List.mem_map_of_mem hq)
/-- how far the renaming has come -/
structure Ap (xs os : List Nm) (i num : Nat) (tb : List (Nm × Nm)) (us : List Nm) : Prop where
  (keys : tb.map (·.1) = (os.take i).filter fun x => decide (x ∈ xs)) (sub : ∀ z, z ∈ xs ∨ z ∈ os → z ∈ us) (vnd : (tb.map (·.2)).Nodup)
  (vin : ∀ v ∈ tb.map (·.2), v ∈ us ∧ v ∉ xs ∧ v ∉ os) (low : ∀ j < num, ltr j ∈ us) (len : us.length ≤ xs.length + os.length + tb.length)
theorem Ap.few {xs os us : List Nm} {i num : Nat} {tb : List (Nm × Nm)} (h : Ap xs os i num tb us) : tb.length ≤ os.length := by
  have := congrArg List.length h.keys
  rw [List.length_map] at this
  have q := List.length_filter_le (fun x => decide (x ∈ xs)) (os.take i)
  rw [List.length_take] at q
  omega
theorem take_filter {os xs : List Nm} {x : Nm} {i : Nat} (h : os[i]? = some x) : (os.take (i + 1)).filter (fun x => decide (x ∈ xs)) = (os.take i).filter (fun x => decide (x ∈ xs)) ++ if x ∈ xs then [x] else [] := by
  rw [List.take_add_one, h, List.filter_append]
  by_cases hm : x ∈ xs <;> simp [hm]
theorem Ap.skip {xs os us : List Nm} {i num : Nat} {tb : List (Nm × Nm)} {x : Nm} (h : Ap xs os i num tb us) (e : os[i]? = some x) (hx : x ∉ xs) : Ap xs os (i + 1) num tb us :=
  ⟨by rw [h.keys, take_filter e, if_neg hx, List.append_nil], h.sub, h.vnd, h.vin, h.low, h.len⟩
theorem Ap.put {xs os us : List Nm} {i num num' : Nat} {tb : List (Nm × Nm)} {x v : Nm} (h : Ap xs os i num tb us) (e : os[i]? = some x) (hx : x ∈ xs) (hv : v ∉ us) (low : ∀ j < num', ltr j ∈ us) : Ap xs os (i + 1) num' (tb ++ [(x, v)]) (us ++ [v]) := by
  refine ⟨by rw [List.map_append, h.keys, take_filter e, if_pos hx]; rfl, fun z hz => List.mem_append.mpr (.inl (h.sub z hz)), ?_, fun z hz => ?_, fun j hj => List.mem_append.mpr (.inl (low j hj)), by have := h.len; simp; omega⟩
  · rw [List.map_append]
    refine List.nodup_append.mpr ⟨h.vnd, by simp, fun a ha b hb e => ?_⟩
    simp at hb
    rw [e, hb] at ha
    exact hv (h.vin _ ha).1
  · rw [List.map_append, List.mem_append] at hz
    rcases hz with hz | hz
    · obtain ⟨q1, q2, q3⟩ := h.vin z hz
      exact ⟨List.mem_append.mpr (.inl q1), q2, q3⟩
    · simp at hz
      rw [hz]
      exact ⟨by simp, fun q => hv (h.sub _ (.inl q)), fun q => hv (h.sub _ (.inr q))⟩
theorem Ap.ren {xs us : List Nm} {s : Say} {num : Nat} {tb : List (Nm × Nm)} (h : Ap xs (order s) (order s).length num tb us) : Ren xs s (renT tb) := by
  have keys : tb.map (·.1) = (order s).filter fun x => decide (x ∈ xs) := by rw [h.keys, List.take_length]
  have knd : (tb.map (·.1)).Nodup := by rw [keys]; exact (order_nd s).filter _
  have at_ : ∀ x ∈ s.atoms, (x ∈ xs ∧ ∃ v, (x, v) ∈ tb ∧ renT tb x = v) ∨ (x ∉ xs ∧ renT tb x = x) := fun x hx => by
    by_cases m : x ∈ xs
    · have : x ∈ tb.map (·.1) := by rw [keys, List.mem_filter]; exact ⟨mem_order.mpr hx, by simpa using m⟩
      obtain ⟨p, hp, e⟩ := List.mem_map.mp this
      refine .inl ⟨m, p.2, by rw [← e]; exact hp, ?_⟩
      unfold renT
      rw [← e, find_at knd hp]
      rfl
    · refine .inr ⟨m, ?_⟩
      unfold renT
      rw [List.find?_eq_none.mpr fun p hp => ?_]
      · rfl
      · intro q
        have q' : p.1 = x := by simpa using q
        have : p.1 ∈ tb.map (·.1) := List.mem_map_of_mem hp
        rw [keys, List.mem_filter] at this
        exact m (by rw [← q']; simpa using this.2)
  have vin := h.vin
  refine ⟨fun x hx y hy e => ?_, fun x hx => ?_, fun x hx m => ?_⟩
  · rcases at_ x hx with ⟨m1, v, h1, e1⟩ | ⟨m1, e1⟩ <;> rcases at_ y hy with ⟨m2, u, h2, e2⟩ | ⟨m2, e2⟩
    · rw [e1, e2] at e
      subst e
      exact val_inj h.vnd h1 h2
    · rw [e1, e2] at e
      subst e
      exact absurd (mem_order.mpr hy) (vin _ (List.mem_map_of_mem (f := (·.2)) h1)).2.2
    · rw [e1, e2] at e
      subst e
      exact absurd (mem_order.mpr hx) (vin _ (List.mem_map_of_mem (f := (·.2)) h2)).2.2
    · rw [← e1, e, e2]
  · rcases at_ x hx with ⟨m1, v, h1, e1⟩ | ⟨m1, e1⟩
    · rw [e1]; exact (vin _ (List.mem_map_of_mem (f := (·.2)) h1)).2.1
    · rw [e1]; exact m1
  · rcases at_ x hx with ⟨m1, v, h1, e1⟩ | ⟨m1, e1⟩
    · exact absurd m1 m
    · exact e1
where
  val_inj {tb : List (Nm × Nm)} (nd : (tb.map (·.2)).Nodup) {x y v : Nm} (h1 : (x, v) ∈ tb) (h2 : (y, v) ∈ tb) : x = y := by
    induction tb with
    | nil => cases h1
    | cons q g ih =>
      rw [List.map_cons, List.nodup_cons] at nd
      rcases List.mem_cons.mp h1 with e1 | h1 <;> rcases List.mem_cons.mp h2 with e2 | h2
      · rw [← e2] at e1; exact (Prod.mk.inj e1).1
      · exact absurd (List.mem_map_of_mem (f := (·.2)) h2) (by rw [← e1] at nd; exact nd.1)
      · exact absurd (List.mem_map_of_mem (f := (·.2)) h1) (by rw [← e2] at nd; exact nd.1)
      · exact ih nd.2 h1 h2
theorem put_ren (s : Say) (tb : List (Nm × Nm)) : s.put (tabA tb) = s.ren (renT tb) := sub_congr fun x _ => tabA_get tb x
section
theorem scApart : FnScope ["saying", "taken", "names", "table", "number", "used", "name"] ["saying", "taken"] (defScope (top 11)) := ⟨rfl, rfl, rfl, by decide +kernel, rfl, by decide +kernel, by decide +kernel⟩
local macro_rules | `(tactic| walk_at "pt v") => `(tactic| first
  | ((with_reducible refine ew_var (x := "saying") (i := 0) (t := ?t) ?hi ?_ ?hN ?hv ?hd ?hc); (case hi => exact rfl); (case hN => exact rfl); (case hv => first | exact Or.inl rfl | exact Or.inr (Or.inl rfl) | exact Or.inr (Or.inr rfl)); (case hd => decide); (case hc => decide))
  | ((with_reducible refine ew_var (x := "taken") (i := 1) (t := ?t) ?hi ?_ ?hN ?hv ?hd ?hc); (case hi => exact rfl); (case hN => exact rfl); (case hv => first | exact Or.inl rfl | exact Or.inr (Or.inl rfl) | exact Or.inr (Or.inr rfl)); (case hd => decide); (case hc => decide))
  | ((with_reducible refine ew_var (x := "names") (i := 2) (t := ?t) ?hi ?_ ?hN ?hv ?hd ?hc); (case hi => exact rfl); (case hN => exact rfl); (case hv => first | exact Or.inl rfl | exact Or.inr (Or.inl rfl) | exact Or.inr (Or.inr rfl)); (case hd => decide); (case hc => decide))
  | ((with_reducible refine ew_var (x := "table") (i := 3) (t := ?t) ?hi ?_ ?hN ?hv ?hd ?hc); (case hi => exact rfl); (case hN => exact rfl); (case hv => first | exact Or.inl rfl | exact Or.inr (Or.inl rfl) | exact Or.inr (Or.inr rfl)); (case hd => decide); (case hc => decide))
  | ((with_reducible refine ew_var (x := "number") (i := 4) (t := ?t) ?hi ?_ ?hN ?hv ?hd ?hc); (case hi => exact rfl); (case hN => exact rfl); (case hv => first | exact Or.inl rfl | exact Or.inr (Or.inl rfl) | exact Or.inr (Or.inr rfl)); (case hd => decide); (case hc => decide))
  | ((with_reducible refine ew_var (x := "used") (i := 5) (t := ?t) ?hi ?_ ?hN ?hv ?hd ?hc); (case hi => exact rfl); (case hN => exact rfl); (case hv => first | exact Or.inl rfl | exact Or.inr (Or.inl rfl) | exact Or.inr (Or.inr rfl)); (case hd => decide); (case hc => decide))
  | ((with_reducible refine ew_var (x := "name") (i := 6) (t := ?t) ?hi ?_ ?hN ?hv ?hd ?hc); (case hi => exact rfl); (case hN => exact rfl); (case hv => first | exact Or.inl rfl | exact Or.inr (Or.inl rfl) | exact Or.inr (Or.inr rfl)); (case hd => decide); (case hc => decide))
  | ((with_reducible refine s1_set (x := "names") (i := 2) ?hN ?hi ?_ ?hx ?hs ?hf); (case hN => exact (scApart).nd); (case hi => exact rfl); (case hx => first | exact Or.inl rfl | exact Or.inr rfl); (case hs => exact rfl); (case hf => first | exact Or.inr rfl | exact Or.inl rfl))
  | ((with_reducible refine s1_set (x := "table") (i := 3) ?hN ?hi ?_ ?hx ?hs ?hf); (case hN => exact (scApart).nd); (case hi => exact rfl); (case hx => first | exact Or.inl rfl | exact Or.inr rfl); (case hs => exact rfl); (case hf => first | exact Or.inr rfl | exact Or.inl rfl))
  | ((with_reducible refine s1_set (x := "number") (i := 4) ?hN ?hi ?_ ?hx ?hs ?hf); (case hN => exact (scApart).nd); (case hi => exact rfl); (case hx => first | exact Or.inl rfl | exact Or.inr rfl); (case hs => exact rfl); (case hf => first | exact Or.inr rfl | exact Or.inl rfl))
  | ((with_reducible refine s1_set (x := "used") (i := 5) ?hN ?hi ?_ ?hx ?hs ?hf); (case hN => exact (scApart).nd); (case hi => exact rfl); (case hx => first | exact Or.inl rfl | exact Or.inr rfl); (case hs => exact rfl); (case hf => first | exact Or.inr rfl | exact Or.inl rfl))
  | ((with_reducible refine s1_set (x := "name") (i := 6) ?hN ?hi ?_ ?hx ?hs ?hf); (case hN => exact (scApart).nd); (case hi => exact rfl); (case hx => first | exact Or.inl rfl | exact Or.inr rfl); (case hs => exact rfl); (case hf => first | exact Or.inr rfl | exact Or.inl rfl))
  | fail)
local macro_rules | `(tactic| walk_at "pt 1") => `(tactic| first
  | ((with_reducible refine aw_cons (hs := ?hs) (h := ?_)); (case hs => exact rfl))
  | ((with_reducible refine aw_nil (hk := ?_)))
  | ((with_reducible refine ew_sub (h := ?_)))
  | ((with_reducible refine ew_int (hk := ?_)))
  | ((with_reducible refine ew_bl (hk := ?_)))
  | ((with_reducible refine ew_tup (h := ?_)))
  | ((with_reducible refine tw_cmp (hm := ?hm) (h := ?_)); (case hm => exact rfl))
  | ((with_reducible refine ew_cmp (hm := ?hm) (h := ?_)); (case hm => exact rfl))
  | ((with_reducible refine ew_bin (h := ?_)))
  | ((with_reducible refine ew_callF (x := "atom") (n := ?n) (pre := ?pre) (C := ?C) (hr := ?hr) (hg := ?hg) (hdb := ?hdb) (he := ?he) (hpl := ?hpl) (h := ?_)); (case C => exact All.c_atom (by assumption)); (case hr => assumption); (case hg => exact rfl); (case hdb => decide); (case he => exact rfl); (case hpl => exact rfl))
  | ((with_reducible refine ew_callF (x := "letter_name") (n := ?n) (pre := ?pre) (C := ?C) (hr := ?hr) (hg := ?hg) (hdb := ?hdb) (he := ?he) (hpl := ?hpl) (h := ?_)); (case C => exact All.c_letter_name (by assumption)); (case hr => assumption); (case hg => exact rfl); (case hdb => decide); (case he => exact rfl); (case hpl => exact rfl))
  | ((with_reducible refine ew_callTy (x := "list") (T' := "list") (hm := ?hm) (hv := ?hv) (hg := ?hg) (hn := ?hn) (hdb := ?hdb) (he := ?he) (hpl := ?hpl) (h := ?_)); (case hm => exact Mg.list (by assumption)); (case hv => exact rfl); (case hg => exact rfl); (case hn => decide); (case hdb => decide); (case he => exact rfl); (case hpl => exact rfl))
  | ((with_reducible refine ew_call (x := "names_in_order") (n := ?n) (con := ?con) (C := ?C) (hr := ?hr) (hg := ?hg) (hdb := ?hdb) (he := ?he) (hpl := ?hpl) (h := ?_)); (case C => exact All.c_names_in_order (by assumption)); (case hr => assumption); (case hg => exact rfl); (case hdb => decide); (case he => exact rfl); (case hpl => exact rfl))
  | ((with_reducible refine ew_callF (x := "put_in") (n := ?n) (pre := ?pre) (C := ?C) (hr := ?hr) (hg := ?hg) (hdb := ?hdb) (he := ?he) (hpl := ?hpl) (h := ?_)); (case C => exact All.c_put_in (by assumption)); (case hr => assumption); (case hg => exact rfl); (case hdb => decide); (case he => exact rfl); (case hpl => exact rfl))
  | ((with_reducible refine ew_dnewK (h := ?_)))
  | ((with_reducible refine ew_disp1 (h := ?_)))
  | ((with_reducible refine ew_spread (h := ?_)))
  | ((with_reducible refine tw_call (h := ?_)))
  | ((with_reducible refine tw_name (h := ?_)))
  | ((with_reducible refine sw_cons (h := ?_)))
  | ((with_reducible refine sw_nil (h := ?_)))
  | ((with_reducible refine s1_if (h := ?_)))
  | ((with_reducible refine bw_inT (hx := ?hx) (hf := ?hf) (hk := ?_)); (case hx => exact rfl); (case hf => exact rfl))
  | ((with_reducible refine bw_inL (xs := ?xs) (hp := ?hp) (hx := ?hx) (hf := ?hf) (hk := ?_)); (case hp => walk_at "pt rdb"); (case hx => exact rfl); (case hf => exact rfl))
  | ((with_reducible refine bw_add (hk := ?_)))
  | ((with_reducible refine xw_tup (t := ?t) (he := ?he) (hs := ?hs) (hk := ?_)); (case he => first | exact rfl | exact atT0 | exact atT1); (case hs => exact fun _ _ => rfl))
  | ((with_reducible refine xw_lst (ts := ?ts) (t := ?t) (hp := ?hp) (he := ?he) (hs := ?hs) (hk := ?_)); (case hp => walk_at "pt rdb"); (case he => first | exact rfl | exact atT0 | exact atT1); (case hs => exact fun _ _ => rfl))
  | ((with_reducible refine And.intro ?hx ?_); (case hx => exact Nat.le_of_ble_eq_true rfl))
  | (with_reducible refine Exists.intro _ (And.intro rfl ?_))
  | (refine tst_t (by decide +kernel) ?_)
  | (refine tst_f (by decide +kernel) ?_)
  | (refine Exists.intro _ (Exists.intro _ (And.intro rfl (And.intro (by walk_at "pt rdb") ?_))))
  | walk_at "pt v"
  | fail)
theorem ok_apart (M : Mg mg) (D : Df K mg "renamed_apart" (top 11) ["saying", "taken"]) (C : All P w K mg base n) : Cl P w K mg base (n + 1) "renamed_apart" (cApart (n + 1)) := by
  refine cl_of D scApart (fun ts F S k h => ?_) (fun a hr ts F S k h => ?_)
  · obtain ⟨_, _, _, _, rfl, _⟩ := h; rfl
  obtain ⟨hn, s, d, xs, rfl, rfl, hd, ds, hl, ndx, q⟩ := h
  have ndo := order_nd s
  generalize hos : order s = os at *
  refine sw_cut (fun r1 S1 => ∃ pn pt, r1 = [some s.t, some (.ref d), some (.ref pn), some (.ref pt), some (.int 0), none, none] ∧ S1 = [(pt, .dk []), (pn, .lst (nmT os))]) ?_ ?_
  · refine s1_three (i := 2) (j := 3) (l := 4) rfl scApart.nd rfl rfl rfl ?_
    repeat' (walk_at "pt 1")
    refine ⟨[], [], _, [], rfl, by simp, by omega, s, rfl, rfl, ds, by rw [hos]; omega, fun pn => ?_⟩
    simp only [List.nil_append]
    rw [hos]
    repeat' (walk_at "pt 1")
    intro pt hpt
    repeat' (walk_at "pt 1")
    exact ⟨_, _, _, rfl, pn, pt, rfl, rfl⟩
  rintro _ _ ⟨pn, pt, rfl, rfl⟩
  refine sw_cut (fun r1 S1 => ∃ pu us l1 l2, r1 = [some s.t, some (.ref d), some (.ref pn), some (.ref pt), some (.int 0), some (.ref pu), none] ∧ S1 = [(pu, .dk (nmD us)), l1, l2, (pt, .dk []), (pn, .lst (nmT os))] ∧ (∀ z, z ∈ us ↔ z ∈ xs ∨ z ∈ os) ∧ us.length ≤ xs.length + os.length) ?_ ?_
  · refine s1_setDc1 (i := 5) (own := [("name", 6)]) (g := gName 6) (up := up1 6) rfl scApart.nd rfl ?_ (fun s1 H1 C1 cl1 fp1 => pg_name scApart.nd rfl (.inl rfl)) (tgt1 (by simp)) ?_
    · show BlkOk ["saying", "taken", "names", "table", "number", "used", "name"] (defScope (top 11)) _ _
      exact ⟨rfl, by decide +kernel, by decide +kernel, by decide +kernel, by decide +kernel⟩
    refine iw_lst ?_
    repeat' (walk_at "pt 1")
    refine cw_listD rfl (.inr hd) fun l1 hl1 => ?_
    rw [show ((nmD xs).map fun kv => kT kv.1) = nmT xs from by rw [nmD, List.map_map]; rfl]
    repeat' (walk_at "pt 1")
    refine bw_catL (.head _) (.tail _ (.tail _ (.head _))) (by simp; omega) fun l2 hl2 => ?_
    rw [show nmT xs ++ nmT os = nmT (xs ++ os) from by simp]
    refine ⟨l2, _, rfl, .inl (.head _), fun i acc S1 => acc = nmD (nubA [] ((xs ++ os).take i)) ∧ S1 = [(l2, .lst (nmT (xs ++ os))), (l1, .lst (nmT xs)), (pt, .dk []), (pn, .lst (nmT os))], ⟨rfl, rfl⟩, ?_, ?_, ?_⟩
    · rintro i acc S1 ⟨_, rfl⟩
      exact .inl (.head _)
    · rintro i t acc S2 hu ⟨rfl, rfl⟩
      rw [List.getElem?_map] at hu
      obtain ⟨u, hu', rfl⟩ := Option.map_eq_some_iff.mp hu
      have few : (nmD (nubA [] ((xs ++ os).take i))).length < 100000 := by
        have := (nubA_nd ((xs ++ os).take i) [] List.nodup_nil).length_le_of_subset (l₂ := xs ++ os) fun z hz => List.mem_of_mem_take (((nubA_mem _ [] z).mp hz).resolve_left (by simp))
        rw [List.length_append] at this
        rw [List.length_map]
        omega
      refine ⟨few, _, rfl, fun s1 H1 C1 cl1 fp1 => tsw_nil (tst_t rfl fun s2 H2 C2 cl2 fp2 => ?_)⟩
      repeat' (walk_at "pt 1")
      refine ⟨.inr u.s, rfl, fun s3 H3 C3 cl3 fp3 => ?_⟩
      repeat' (walk_at "pt 1")
      refine ⟨few, ?_, rfl⟩
      rw [putD, List.take_add_one, hu', nubA_app]
      rfl
    · rintro acc S2 ⟨rfl, rfl⟩ pu hpu
      rw [List.length_map, List.take_length]
      refine ⟨pu, _, _, _, rfl, rfl, fun z => ?_, ?_⟩
      · rw [nubA_mem]; simp
      · have := (nubA_nd (xs ++ os) [] List.nodup_nil).length_le_of_subset (l₂ := xs ++ os) fun z hz => ((nubA_mem _ [] z).mp hz).resolve_left (by simp)
        rwa [List.length_append] at this
  rintro _ _ ⟨pu, us0, l1, l2, rfl, rfl, hus, lus⟩
  refine sw_drop (S2 := [(pu, .dk (nmD us0)), (pt, .dk (tabN [])), (pn, .lst (nmT os))]) (List.Sublist.cons₂ _ (.cons _ (.cons _ (List.Sublist.refl _)))) ?_
  refine sw_cons ?_
  refine s1_for (g := _) (up := up1 6) (vs := [6]) PassesOwn.never rfl (pg_name (i := 6) scApart.nd rfl (.inl rfl)) (tgt1 (by simp)) ?_
  refine iw_lst ?_
  repeat' (walk_at "pt 1")
  refine ⟨fun i r1 S1 => ∃ (num : Nat) (tb : List (Nm × Nm)) (us : List Nm) (o : Option T), r1 = [some s.t, some (.ref d), some (.ref pn), some (.ref pt), some (.int num), some (.ref pu), o] ∧ S1 = [(pu, .dk (nmD us)), (pt, .dk (tabN tb)), (pn, .lst (nmT os))] ∧ Ap xs os i num tb us, ⟨0, [], us0, none, rfl, rfl, ⟨rfl, fun z hz => (hus z).mpr hz, by simp, by simp, fun j hj => absurd hj (Nat.not_lt_zero _), by simpa using lus⟩⟩, ?_, ?_, ?_⟩
  · rintro i r1 S1 ⟨num, tb, us, o, rfl, rfl, inv⟩
    exact .inl (.tail _ (.tail _ (.head _)))
  · rintro i t r2 S2 hu ⟨num, tb, us, o, rfl, rfl, inv⟩
    rw [List.getElem?_map] at hu
    obtain ⟨x, hx, rfl⟩ := Option.map_eq_some_iff.mp hu
    have lt := inv.few
    have lu := inv.len
    refine ⟨_, rfl, ?_⟩
    refine sw_cons ?_
    repeat' (walk_at "pt 1")
    refine bw_inD (kk := .inr x.s) (hu_of hr) (.inr hd) ?_
    rw [valT_nmD]
    by_cases hm : x ∈ xs
    · rw [if_pos hm]
      refine ⟨_, rfl, tst_t rfl ?_⟩
      refine sw_cut (fun r1 S1 => ∃ num' : Nat, r1 = [some s.t, some (.ref d), some (.ref pn), some (.ref pt), some (.int num'), some (.ref pu), some (.str x.s)] ∧ S1 = [(pu, .dk (nmD us)), (pt, .dk (tabN tb)), (pn, .lst (nmT os))] ∧ (∀ j < num', ltr j ∈ us) ∧ num' < 60 ∧ ltr num' ∉ us) ?_ ?_
      · refine s1_while PassesOwn.never (fun m r1 S => ∃ num' : Nat, r1 = [some s.t, some (.ref d), some (.ref pn), some (.ref pt), some (.int num'), some (.ref pu), some (.str x.s)] ∧ S = [(pu, .dk (nmD us)), (pt, .dk (tabN tb)), (pn, .lst (nmT os))] ∧ (∀ j < num', ltr j ∈ us) ∧ m + num' = 60) ⟨60 - num, num, rfl, rfl, inv.low, ?_⟩ ?_
        · by_cases h59 : num ≤ 59
          · omega
          · have := letters_le (us := us) (k := 59) (by omega) fun j hj => inv.low j (by omega)
            omega
        rintro m r3 S3 ⟨num', rfl, rfl, low, hm60⟩
        have n50 : num' ≤ 50 := by
          by_cases h59 : num' ≤ 59
          · have := letters_le h59 low; omega
          · have := letters_le (us := us) (k := 59) (by omega) fun j hj => low j (by omega)
            omega
        repeat' (walk_at "pt 1")
        refine fc0 ⟨by omega, num', by omega, rfl, ?_⟩
        repeat' (walk_at "pt 1")
        refine bw_inD (kk := .inr (ltr num').s) (hu_of hr) (.inl (.head _)) ?_
        rw [valT_nmD]
        by_cases hl : ltr num' ∈ us
        · rw [if_pos hl]
          refine ⟨_, rfl, tst_t rfl ?_⟩
          repeat' (walk_at "pt 1")
          refine s1_aug (i := 4) scApart.nd rfl rfl ?_
          repeat' (walk_at "pt 1")
          refine ⟨m - 1, by omega, num' + 1, rfl, rfl, fun j hj => ?_, by omega⟩
          by_cases e : j = num'
          · rw [e]; exact hl
          · exact low j (by omega)
        · rw [if_neg hl]
          refine ⟨_, rfl, tst_f rfl ?_⟩
          repeat' (walk_at "pt 1")
          exact ⟨rfl, low, by omega, hl⟩
      rintro _ _ ⟨num', rfl, rfl, low, n60, hnew⟩
      have hk : x ∉ tb.map (·.1) := by
        rw [inv.keys, List.mem_filter]
        obtain ⟨hi, rfl⟩ := List.getElem?_eq_some_iff.mp hx
        exact fun q => not_mem_take ndo hi q.1
      refine sw_cons ?_
      repeat' (walk_at "pt 1")
      refine s1_dput (hu_of hr) ?_
      repeat' (walk_at "pt 1")
      refine fc0 ⟨by omega, num', n60, rfl, ?_⟩
      repeat' (walk_at "pt 1")
      refine ⟨pt, [(pu, .dk (nmD us))], [(pn, .lst (nmT os))], tabN tb, .inr x.s, rfl, rfl, rfl, by rw [List.length_map]; omega, ?_⟩
      rw [tabN_put hk]
      refine sw_cons ?_
      refine s1_dput (hu_of hr) ?_
      repeat' (walk_at "pt 1")
      refine xw_dk (kk := .inr x.s) (t := .str (ltr num').s) (hu_of hr) (.inl (.tail _ (.head _))) ?_ ?_
      · rw [tabN_val, List.find?_append, List.find?_eq_none.mpr fun p hp => ?_]
        · simp
        · intro e
          exact hk (by rw [show x = p.1 from by simpa using Eq.symm (by simpa using e)]; exact List.mem_map_of_mem hp)
      repeat' (walk_at "pt 1")
      refine ⟨pu, [], [(pt, .dk (tabN (tb ++ [(x, ltr num')]))), (pn, .lst (nmT os))], nmD us, .inr (ltr num').s, rfl, rfl, rfl, by rw [List.length_map]; omega, ?_⟩
      rw [putD, if_neg hnew]
      repeat' (walk_at "pt 1")
      exact ⟨num', _, _, _, rfl, rfl, inv.put hx hm hnew low⟩
    · rw [if_neg hm]
      refine ⟨_, rfl, tst_f rfl ?_⟩
      repeat' (walk_at "pt 1")
      exact ⟨num, tb, us, _, rfl, rfl, inv.skip hx hm⟩
  · rintro r2 S2 ⟨num, tb, us, o, rfl, rfl, inv⟩
    rw [List.length_map] at inv
    subst hos
    have ren := inv.ren
    have kp := inv.keys
    rw [List.take_length] at kp
    have knd : (tb.map (·.1)).Nodup := by rw [kp]; exact ndo.filter _
    have lt := inv.few
    have lu := inv.len
    repeat' (walk_at "pt 1")
    refine s1_retD ?_
    repeat' (walk_at "pt 1")
    refine ew_lock (d := pt) (kvs := tabN tb) (Sa := [(pu, .dk (nmD us))]) (Sb := [(pn, .lst (nmT (order s)))]) rfl fun od vs => ?_
    refine ew_dc1 (own := [("name", 6)]) (g := gName 6) (up := up1 6) rfl scApart.nd ?_ (fun s1 H1 C1 cl1 fp1 => pg_name scApart.nd rfl (.inl rfl)) (tgt1 (by simp)) ?_
    · show BlkOk ["saying", "taken", "names", "table", "number", "used", "name"] (defScope (top 11)) _ _
      exact ⟨rfl, by decide +kernel, by decide +kernel, by decide +kernel, by decide +kernel⟩
    refine iw_keys ?_
    repeat' (walk_at "pt 1")
    refine ⟨pt, od, vs, tabN tb, rfl, .inr (.head _), ?_⟩
    refine ⟨fun i acc S1 => acc = Tab.t (tabA (tb.take i)) ∧ S1 = [(pu, .dk (nmD us)), (pn, .lst (nmT (order s)))], ⟨rfl, rfl⟩, fun i acc S1 _ => .inr (.head _), ?_, ?_⟩
    · rintro i t acc S2 hu ⟨rfl, rfl⟩
      rw [List.getElem?_map, List.getElem?_map] at hu
      obtain ⟨kv, hkv, rfl⟩ := Option.map_eq_some_iff.mp hu
      obtain ⟨p, hp, rfl⟩ := Option.map_eq_some_iff.mp hkv
      have few : (Tab.t (tabA (tb.take i))).length < 100000 := by
        rw [Tab.t_length, List.length_map, List.length_take]
        omega
      refine ⟨few, _, rfl, fun s1 H1 C1 cl1 fp1 => tsw_nil (tst_t rfl fun s2 H2 C2 cl2 fp2 => ?_)⟩
      repeat' (walk_at "pt 1")
      intro s3 H3 C3 cl3 fp3
      repeat' (walk_at "pt 1")
      refine xw_dk (kk := .inr p.1.s) (t := .str p.2.s) (hu_of hr) (.inr (.tail _ (.head _))) (by rw [tabN_val, find_at knd (List.mem_of_getElem? hp)]; rfl) ?_
      repeat' (walk_at "pt 1")
      refine fc0 ⟨by omega, _, rfl, ?_⟩
      refine ⟨few, ?_, rfl⟩
      have nin : p.1 ∉ (tabA (tb.take i)).map (·.1) := by
        obtain ⟨hi, e⟩ := List.getElem?_eq_some_iff.mp hp
        have h1 : i < (tb.map (·.1)).length := by rw [List.length_map]; exact hi
        have h2 := not_mem_take knd h1
        rw [List.getElem_map, e, ← List.map_take] at h2
        rw [List.map_map]
        exact h2
      refine (Tab.put_new (s := .atom p.2) nin).trans ?_
      rw [List.take_add_one, hp]
      unfold tabA
      rw [List.map_append]
      rfl
    · rintro acc S2 ⟨rfl, rfl⟩ qd hqd
      rw [List.length_map, List.length_map, List.take_length]
      repeat' (walk_at "pt 1")
      refine fc1 (qd, .dk (Tab.t (tabA tb))) (.inl (.tail _ (.head _))) ⟨s, qd, _, rfl, List.mem_singleton_self _, by omega, ?_⟩
      repeat' (walk_at "pt 1")
      rw [put_ren]
      exact ⟨_, List.Sublist.refl _, q _ pt _ (tabN tb) ren (.head _) (by rw [← kp, List.map_map, List.map_map]; rfl)⟩
end
end
set_option Elab.async false
set_option linter.all false
set_option maxRecDepth 100000
set_option maxHeartbeats 4000000
set_option autoImplicit false
set_option pp.maxSteps 600
section
variable {P : Program} {w : World} {K : PySem.W.Frag} {mg : Str → Option Value} {base : Heap} {n : Nat}
/-- what makes two sayings the same, found -/
theorem exists_join {a b : Say} {r : Nm → Nm} (da : a.dep ≤ 6) (db : b.dep ≤ 6) (hl : (order a).length + (order b).length ≤ 8) : ∃ V, Small V 6 ∧ V.length ≤ 8 ∧ Fits V 6 a ∧ Fits V 6 (b.ren r) ∧ ∃ rr, Joined V 6 (fun θ => a.sub θ = (b.ren r).sub θ) rr := by
  have hs : Small (order a ++ (order b).map r) 6 := by
    unfold Small
    rw [List.length_append, List.length_map]
    omega
  have fa : Fits (order a ++ (order b).map r) 6 a := ⟨da, fun z hz => List.mem_append.mpr (.inl (mem_order.mpr hz))⟩
  have fb : Fits (order a ++ (order b).map r) 6 (b.ren r) := ⟨by rw [Say.ren, dep_ren]; exact db, fun z hz => by
    obtain ⟨y, hy, rfl⟩ := atoms_ren.mp hz
    exact List.mem_append.mpr (.inr (List.mem_map_of_mem (mem_order.mpr hy)))⟩
  refine ⟨_, hs, by rw [List.length_append, List.length_map]; omega, fa, fb, ?_⟩
  have fp : FitsP (order a ++ (order b).map r) 6 [(a, b.ren r)] := fun p hp => by rw [List.mem_singleton.mp hp]; exact ⟨fa, fb⟩
  obtain ⟨m, rr, e⟩ := joinF_ends hs _ [] .atom (Nat.le_refl _) good_nil _ [(a, b.ren r)] fp (Nat.le_refl _)
  exact ⟨rr, (joinF_ok hs m [] .atom _ rr good_nil fp e).iff fun θ => sol_nil⟩
section
theorem scCommon : FnScope ["one", "other", "apart", "_", "name", "table"] ["one", "other"] (defScope (top 15)) := ⟨rfl, rfl, rfl, by decide +kernel, rfl, by decide +kernel, by decide +kernel⟩
local macro_rules | `(tactic| walk_at "pt v") => `(tactic| first
  | ((with_reducible refine ew_var (x := "one") (i := 0) (t := ?t) ?hi ?_ ?hN ?hv ?hd ?hc); (case hi => exact rfl); (case hN => exact rfl); (case hv => first | exact Or.inl rfl | exact Or.inr (Or.inl rfl) | exact Or.inr (Or.inr rfl)); (case hd => decide); (case hc => decide))
  | ((with_reducible refine ew_var (x := "other") (i := 1) (t := ?t) ?hi ?_ ?hN ?hv ?hd ?hc); (case hi => exact rfl); (case hN => exact rfl); (case hv => first | exact Or.inl rfl | exact Or.inr (Or.inl rfl) | exact Or.inr (Or.inr rfl)); (case hd => decide); (case hc => decide))
  | ((with_reducible refine ew_var (x := "apart") (i := 2) (t := ?t) ?hi ?_ ?hN ?hv ?hd ?hc); (case hi => exact rfl); (case hN => exact rfl); (case hv => first | exact Or.inl rfl | exact Or.inr (Or.inl rfl) | exact Or.inr (Or.inr rfl)); (case hd => decide); (case hc => decide))
  | ((with_reducible refine ew_var (x := "name") (i := 4) (t := ?t) ?hi ?_ ?hN ?hv ?hd ?hc); (case hi => exact rfl); (case hN => exact rfl); (case hv => first | exact Or.inl rfl | exact Or.inr (Or.inl rfl) | exact Or.inr (Or.inr rfl)); (case hd => decide); (case hc => decide))
  | ((with_reducible refine ew_var (x := "table") (i := 5) (t := ?t) ?hi ?_ ?hN ?hv ?hd ?hc); (case hi => exact rfl); (case hN => exact rfl); (case hv => first | exact Or.inl rfl | exact Or.inr (Or.inl rfl) | exact Or.inr (Or.inr rfl)); (case hd => decide); (case hc => decide))
  | ((with_reducible refine s1_set (x := "apart") (i := 2) ?hN ?hi ?_ ?hx ?hs ?hf); (case hN => exact (scCommon).nd); (case hi => exact rfl); (case hx => first | exact Or.inl rfl | exact Or.inr rfl); (case hs => exact rfl); (case hf => first | exact Or.inr rfl | exact Or.inl rfl))
  | ((with_reducible refine s1_set (x := "_") (i := 3) ?hN ?hi ?_ ?hx ?hs ?hf); (case hN => exact (scCommon).nd); (case hi => exact rfl); (case hx => first | exact Or.inl rfl | exact Or.inr rfl); (case hs => exact rfl); (case hf => first | exact Or.inr rfl | exact Or.inl rfl))
  | ((with_reducible refine s1_set (x := "name") (i := 4) ?hN ?hi ?_ ?hx ?hs ?hf); (case hN => exact (scCommon).nd); (case hi => exact rfl); (case hx => first | exact Or.inl rfl | exact Or.inr rfl); (case hs => exact rfl); (case hf => first | exact Or.inr rfl | exact Or.inl rfl))
  | ((with_reducible refine s1_set (x := "table") (i := 5) ?hN ?hi ?_ ?hx ?hs ?hf); (case hN => exact (scCommon).nd); (case hi => exact rfl); (case hx => first | exact Or.inl rfl | exact Or.inr rfl); (case hs => exact rfl); (case hf => first | exact Or.inr rfl | exact Or.inl rfl))
  | fail)
local macro_rules | `(tactic| walk_at "pt 1") => `(tactic| first
  | ((with_reducible refine aw_cons (hs := ?hs) (h := ?_)); (case hs => exact rfl))
  | ((with_reducible refine aw_nil (hk := ?_)))
  | ((with_reducible refine ew_bl (hk := ?_)))
  | ((with_reducible refine ew_non (hk := ?_)))
  | ((with_reducible refine ew_tup (h := ?_)))
  | ((with_reducible refine tw_cmp (hm := ?hm) (h := ?_)); (case hm => exact rfl))
  | ((with_reducible refine ew_cmp (hm := ?hm) (h := ?_)); (case hm => exact rfl))
  | ((with_reducible refine ew_lst (h := ?_)))
  | ((with_reducible refine ew_callF (x := "general") (n := ?n) (pre := ?pre) (C := ?C) (hr := ?hr) (hg := ?hg) (hdb := ?hdb) (he := ?he) (hpl := ?hpl) (h := ?_)); (case C => exact All.c_general (by assumption)); (case hr => assumption); (case hg => exact rfl); (case hdb => decide); (case he => exact rfl); (case hpl => exact rfl))
  | ((with_reducible refine ew_call (x := "joined") (n := ?n) (con := ?con) (C := ?C) (hr := ?hr) (hg := ?hg) (hdb := ?hdb) (he := ?he) (hpl := ?hpl) (h := ?_)); (case C => exact All.c_joined (by assumption)); (case hr => assumption); (case hg => exact rfl); (case hdb => decide); (case he => exact rfl); (case hpl => exact rfl))
  | ((with_reducible refine ew_call (x := "names_in_order") (n := ?n) (con := ?con) (C := ?C) (hr := ?hr) (hg := ?hg) (hdb := ?hdb) (he := ?he) (hpl := ?hpl) (h := ?_)); (case C => exact All.c_names_in_order (by assumption)); (case hr => assumption); (case hg => exact rfl); (case hdb => decide); (case he => exact rfl); (case hpl => exact rfl))
  | ((with_reducible refine ew_call (x := "renamed_apart") (n := ?n) (con := ?con) (C := ?C) (hr := ?hr) (hg := ?hg) (hdb := ?hdb) (he := ?he) (hpl := ?hpl) (h := ?_)); (case C => exact All.c_renamed_apart (by assumption)); (case hr => assumption); (case hg => exact rfl); (case hdb => decide); (case he => exact rfl); (case hpl => exact rfl))
  | ((with_reducible refine ew_callF (x := "resolved") (n := ?n) (pre := ?pre) (C := ?C) (hr := ?hr) (hg := ?hg) (hdb := ?hdb) (he := ?he) (hpl := ?hpl) (h := ?_)); (case C => exact All.c_resolved (by assumption)); (case hr => assumption); (case hg => exact rfl); (case hdb => decide); (case he => exact rfl); (case hpl => exact rfl))
  | ((with_reducible refine ew_ifExp (h := ?_)))
  | ((with_reducible refine ew_dnewK (h := ?_)))
  | ((with_reducible refine ew_disp1 (h := ?_)))
  | ((with_reducible refine ew_spread (h := ?_)))
  | ((with_reducible refine tw_call (h := ?_)))
  | ((with_reducible refine tw_name (h := ?_)))
  | ((with_reducible refine sw_cons (h := ?_)))
  | ((with_reducible refine sw_nil (h := ?_)))
  | ((with_reducible refine s1_ret0 (h := ?_)))
  | ((with_reducible refine bw_isN (hk := ?_)))
  | ((with_reducible refine bw_isB (hk := ?_)))
  | ((with_reducible refine And.intro ?hx ?_); (case hx => exact Nat.le_of_ble_eq_true rfl))
  | (with_reducible refine Exists.intro _ (And.intro rfl ?_))
  | (refine tst_t (by decide +kernel) ?_)
  | (refine tst_f (by decide +kernel) ?_)
  | (refine Exists.intro _ (Exists.intro _ (And.intro rfl (And.intro (by walk_at "pt rdb") ?_))))
  | walk_at "pt v"
  | fail)
theorem ok_common (M : Mg mg) (D : Df K mg "common_form" (top 15) ["one", "other"]) (C : All P w K mg base n) : Cl P w K mg base (n + 1) "common_form" (Fn (pCommon (n + 1))) := by
  refine cl_of D scCommon (fun ts F S k h => ?_) (fun a hr ts F S k h => ?_)
  · obtain ⟨_, _, _, _, _, rfl, _⟩ := h; rfl
  obtain ⟨rfl, hn, x, y, r, rfl, dx, dy, hl, ren, q1, q2⟩ := h
  refine sw_cut (fun r1 S1 => ∃ r' t3 R, r1 = [some x.t, some y.t, some (y.ren r').t, t3, none, none] ∧ Ren (order x) y r' ∧ S1 = R) ?_ ?_
  · refine s1_two (i := 2) (j := 3) rfl scCommon.nd rfl rfl ?_
    repeat' (walk_at "pt 1")
    refine ew_dc1 (own := [("name", 4)]) (g := gName 4) (up := up1 4) rfl scCommon.nd ?_ (fun s1 H1 C1 cl1 fp1 => pg_name scCommon.nd rfl (.inl rfl)) (tgt1 (by simp)) ?_
    · show BlkOk ["one", "other", "apart", "_", "name", "table"] (defScope (top 15)) _ _
      exact ⟨rfl, by decide +kernel, by decide +kernel, by decide +kernel, by decide +kernel⟩
    refine iw_lst ?_
    repeat' (walk_at "pt 1")
    refine ⟨[], [], _, [], rfl, by simp, by omega, x, rfl, rfl, by omega, by omega, fun pn => ?_⟩
    simp only [List.nil_append]
    refine ⟨pn, _, rfl, .inl (.head _), fun i acc S1 => acc = nmD ((order x).take i) ∧ S1 = [(pn, .lst (nmT (order x)))], ⟨rfl, rfl⟩, ?_, ?_, ?_⟩
    · rintro i acc S1 ⟨_, rfl⟩
      exact .inl (.head _)
    · rintro i t acc S2 hu ⟨rfl, rfl⟩
      rw [List.getElem?_map] at hu
      obtain ⟨u, hu', rfl⟩ := Option.map_eq_some_iff.mp hu
      have few : (nmD ((order x).take i)).length < 100000 := by
        rw [List.length_map, List.length_take]
        omega
      refine ⟨few, _, rfl, fun s1 H1 C1 cl1 fp1 => tsw_nil (tst_t rfl fun s2 H2 C2 cl2 fp2 => ?_)⟩
      repeat' (walk_at "pt 1")
      refine ⟨.inr u.s, rfl, fun s3 H3 C3 cl3 fp3 => ?_⟩
      repeat' (walk_at "pt 1")
      refine ⟨few, ?_, rfl⟩
      obtain ⟨hi, e⟩ := List.getElem?_eq_some_iff.mp hu'
      have := not_mem_take (order_nd x) hi
      rw [e] at this
      rw [putD, if_neg this, List.take_add_one, hu']
      rfl
    · rintro acc S2 ⟨rfl, rfl⟩ qd hqd
      rw [List.length_map, List.take_length]
      repeat' (walk_at "pt 1")
      exact ⟨[], [], [(qd, .dk (nmD (order x))), (pn, .lst (nmT (order x)))], [(qd, .dk (nmD (order x)))], rfl, by simp, by omega, y, qd, order x, rfl, rfl, List.mem_singleton_self _, by omega, by omega, order_nd x, fun r' p S' tb hr' hp ht => ⟨_, _, rfl, r', _, _, rfl, hr', rfl⟩⟩
  rintro _ _ ⟨r', t3, R, rfl, ren0, rfl⟩
  have ren' : Ren x.atoms y r' := ⟨ren0.inj, fun z hz m => ren0.out z hz (mem_order.mpr m), fun z hz m => ren0.stay z hz fun q => m (mem_order.mp q)⟩
  obtain ⟨V, hs, hV, fx, fy, _⟩ := exists_join (r := r') dx dy hl
  obtain ⟨V0, hs0, hV0, fx0, fy0, rr0, j0⟩ := exists_join (r := r) dx dy hl
  refine sw_drop (List.nil_sublist _) ?_
  refine sw_cons ?_
  repeat' (walk_at "pt 1")
  intro pl hpl
  repeat' (walk_at "pt 1")
  intro pd hpd
  repeat' (walk_at "pt 1")
  refine ⟨[], [], [(pd, .dk (Tab.t [])), (pl, .lst ([(x, y.ren r')].map pairS))], [(pd, .dk (Tab.t [])), (pl, .lst ([(x, y.ren r')].map pairS))], rfl, fun p hp => .inr (.inr hp), by omega, pl, pd, [(x, y.ren r')], [], .atom, V, 6, rfl, rfl, .tail _ (.head _), .head _, good_nil, hs, by omega, fun p hp => by rw [List.mem_singleton.mp hp]; exact ⟨fx, fy⟩, by simp, fun rr hrr => ?_⟩
  replace hrr := hrr.iff fun θ => sol_nil
  cases rr with
  | none =>
    intro S'
    repeat' (walk_at "pt 1")
    refine q1 fun θ e => ?_
    obtain ⟨θ', e1, e2⟩ := transfer ren'.inj ren'.out e
    exact hrr θ' e2
  | some g =>
    intro p S' hp
    obtain ⟨ρ, good, sat⟩ := hrr
    have m1 := good.mgu sat
    obtain ⟨N, l1, l2⟩ := good.lv
    have dr := dep_res good.tri good.dep x
    have d8 := Nat.mul_le_mul_right 6 (Nat.le_trans good.len hV)
    have l8 := order_le (good.names fx.2)
    repeat' (walk_at "pt 1")
    refine ⟨fun hb => (by cases hb), fun _ => ?_⟩
    repeat' (walk_at "pt 1")
    refine fc1 (p, .dk (Tab.t g)) (.inl (by simp [hp])) ⟨x, p, g, ρ, 100, rfl, List.mem_singleton_self _, ⟨good.tri, ⟨N, l1, ?_⟩, by omega, fun z hz => Nat.le_trans (good.dep z hz) (by decide)⟩, by omega, ?_⟩
    · have := l2 x
      unfold Small at hs
      omega
    repeat' (walk_at "pt 1")
    refine fc0 ⟨by omega, x.sub ρ, rfl, by omega, by omega, ?_⟩
    repeat' (walk_at "pt 1")
    cases rr0 with
    | none =>
      obtain ⟨θ', e1, e2⟩ := transfer ren.inj ren.out m1.sol
      exact absurd e2 (j0 θ')
    | some g0 =>
      obtain ⟨ρ0, good0, sat0⟩ := j0
      have m0 := good0.mgu sat0
      rw [apart_alike ren'.toA ren m1 m0]
      exact q2 ρ0 m0
end
end
set_option Elab.async false
set_option linter.all false
set_option maxRecDepth 100000
set_option maxHeartbeats 4000000
set_option autoImplicit false
set_option pp.maxSteps 600
abbrev LN : List Str := ["script", "tape", "names", "one", "other", "order", "due", "turned", "table", "special", "told", "mine", "whole", "drawn", "common", "both", "more", "taken", "apart", "new", "form", "free", "spot", "shared", "k", "name"]
theorem scLaw : FnScope LN ["script"] (defScope (top 37)) := ⟨rfl, rfl, rfl, by decide +kernel, rfl, by decide +kernel, by decide +kernel⟩
abbrev NZ : List Nm := [nm "a", nm "b", nm "p", nm "q7"]
abbrev XY : List Nm := [nm "x", nm "y"]
/-- other names -/
def vn (x : Nm) : Nm := if x = nm "a" then nm "va" else if x = nm "b" then nm "vb" else if x = nm "p" then nm "vp" else if x = nm "q7" then nm "vq7" else x
theorem vn_inj : ∀ x ∈ NZ ++ XY, ∀ y ∈ NZ ++ XY, vn x = vn y → x = y := by decide +kernel
theorem vn_out : ∀ x ∈ NZ ++ XY, vn x ∉ NZ := by decide +kernel
theorem vn_s : ∀ x ∈ NZ, (vn x).s = "v" ++ x.s := by decide +kernel
theorem ren_vn {a b : Say} (ha : a.atoms ⊆ NZ) (hb : b.atoms ⊆ NZ ++ XY) : RenA a.atoms b vn := ⟨fun x hx y hy => vn_inj x (hb hx) y (hb hy), fun x hx m => vn_out x (hb hx) (ha m)⟩
/-- what is drawn -/
structure Drawn (one other : Say) : Prop where
  (od : one.dep ≤ 4) (oa : one.atoms ⊆ NZ) (ud : other.dep ≤ 4) (ua : other.atoms ⊆ NZ)
structure Special (one special : Say) : Prop where
  (sd : special.dep ≤ 6) (sa : special.atoms ⊆ XY) (inst : ∃ τ, one.sub τ = special)
theorem few_nz {s : Say} (h : s.atoms ⊆ NZ) : (order s).length ≤ 4 := order_le h
theorem few_xy {s : Say} (h : s.atoms ⊆ XY) : (order s).length ≤ 2 := order_le h
/-- how great a form is -/
theorem form_bnd {a b : Say} {r : Nm → Nm} {ρ : Nm → Say} (da : a.dep ≤ 6) (db : b.dep ≤ 6) (hl : (order a).length + (order b).length ≤ 8) (m : Mgu (fun θ => a.sub θ = (b.ren r).sub θ) ρ) : (general (a.sub ρ)).dep ≤ 60 ∧ (order (general (a.sub ρ))).length ≤ 59 := by
  obtain ⟨V, hs, hV, fa, fb, rr, j⟩ := exists_join (r := r) da db hl
  cases rr with
  | none => exact absurd m.sol (j ρ)
  | some g =>
    obtain ⟨ρ0, good, sat⟩ := j
    rw [mgu_alike m (good.mgu sat) a]
    have dr := dep_res good.tri good.dep a
    have d8 := Nat.mul_le_mul_right 6 (Nat.le_trans good.len hV)
    have l8 := order_le (good.names fa.2)
    refine ⟨by rw [general_dep]; omega, by rw [general_len (by omega)]; omega⟩
theorem inst_some {s u : Say} {θ : Nm → Say} (h : s.sub θ = u) {r : Option Tab} (hr : InstOf s u r) : ∃ g, r = some g := by
  cases r with
  | none => exact absurd h (hr θ)
  | some g => exact ⟨g, rfl⟩
theorem isN_t : ∀ s : Say, s.t.isN = false
  | .atom _ => rfl
  | .fls => rfl
  | .bin _ _ _ => rfl
theorem eqT_self {s : Say} (h : s.dep ≤ 64) : EqT s.t s.t true := by
  have e := Say.eqT (s := s) (u := s) h h
  rwa [decide_eq_true rfl] at e
set_option Elab.async false
set_option linter.all false
set_option maxRecDepth 100000
set_option maxHeartbeats 4000000
set_option autoImplicit false
set_option pp.maxSteps 600
section
variable {P : Program} {w : World} {K : PySem.W.Frag} {mg : Str → Option Value} {base : Heap} {n : Nat}
set_option maxHeartbeats 8000000
local macro_rules | `(tactic| walk_at "pt v") => `(tactic| first
  | ((with_reducible refine ew_var (x := "script") (i := 0) (t := ?t) ?hi ?_ ?hN ?hv ?hd ?hc); (case hi => exact rfl); (case hN => exact rfl); (case hv => first | exact Or.inl rfl | exact Or.inr (Or.inl rfl) | exact Or.inr (Or.inr rfl)); (case hd => decide); (case hc => decide))
  | ((with_reducible refine ew_var (x := "tape") (i := 1) (t := ?t) ?hi ?_ ?hN ?hv ?hd ?hc); (case hi => exact rfl); (case hN => exact rfl); (case hv => first | exact Or.inl rfl | exact Or.inr (Or.inl rfl) | exact Or.inr (Or.inr rfl)); (case hd => decide); (case hc => decide))
  | ((with_reducible refine ew_var (x := "names") (i := 2) (t := ?t) ?hi ?_ ?hN ?hv ?hd ?hc); (case hi => exact rfl); (case hN => exact rfl); (case hv => first | exact Or.inl rfl | exact Or.inr (Or.inl rfl) | exact Or.inr (Or.inr rfl)); (case hd => decide); (case hc => decide))
  | ((with_reducible refine ew_var (x := "one") (i := 3) (t := ?t) ?hi ?_ ?hN ?hv ?hd ?hc); (case hi => exact rfl); (case hN => exact rfl); (case hv => first | exact Or.inl rfl | exact Or.inr (Or.inl rfl) | exact Or.inr (Or.inr rfl)); (case hd => decide); (case hc => decide))
  | ((with_reducible refine ew_var (x := "other") (i := 4) (t := ?t) ?hi ?_ ?hN ?hv ?hd ?hc); (case hi => exact rfl); (case hN => exact rfl); (case hv => first | exact Or.inl rfl | exact Or.inr (Or.inl rfl) | exact Or.inr (Or.inr rfl)); (case hd => decide); (case hc => decide))
  | ((with_reducible refine ew_var (x := "order") (i := 5) (t := ?t) ?hi ?_ ?hN ?hv ?hd ?hc); (case hi => exact rfl); (case hN => exact rfl); (case hv => first | exact Or.inl rfl | exact Or.inr (Or.inl rfl) | exact Or.inr (Or.inr rfl)); (case hd => decide); (case hc => decide))
  | ((with_reducible refine ew_var (x := "due") (i := 6) (t := ?t) ?hi ?_ ?hN ?hv ?hd ?hc); (case hi => exact rfl); (case hN => exact rfl); (case hv => first | exact Or.inl rfl | exact Or.inr (Or.inl rfl) | exact Or.inr (Or.inr rfl)); (case hd => decide); (case hc => decide))
  | ((with_reducible refine ew_var (x := "turned") (i := 7) (t := ?t) ?hi ?_ ?hN ?hv ?hd ?hc); (case hi => exact rfl); (case hN => exact rfl); (case hv => first | exact Or.inl rfl | exact Or.inr (Or.inl rfl) | exact Or.inr (Or.inr rfl)); (case hd => decide); (case hc => decide))
  | ((with_reducible refine ew_var (x := "table") (i := 8) (t := ?t) ?hi ?_ ?hN ?hv ?hd ?hc); (case hi => exact rfl); (case hN => exact rfl); (case hv => first | exact Or.inl rfl | exact Or.inr (Or.inl rfl) | exact Or.inr (Or.inr rfl)); (case hd => decide); (case hc => decide))
  | ((with_reducible refine ew_var (x := "special") (i := 9) (t := ?t) ?hi ?_ ?hN ?hv ?hd ?hc); (case hi => exact rfl); (case hN => exact rfl); (case hv => first | exact Or.inl rfl | exact Or.inr (Or.inl rfl) | exact Or.inr (Or.inr rfl)); (case hd => decide); (case hc => decide))
  | ((with_reducible refine ew_var (x := "told") (i := 10) (t := ?t) ?hi ?_ ?hN ?hv ?hd ?hc); (case hi => exact rfl); (case hN => exact rfl); (case hv => first | exact Or.inl rfl | exact Or.inr (Or.inl rfl) | exact Or.inr (Or.inr rfl)); (case hd => decide); (case hc => decide))
  | ((with_reducible refine ew_var (x := "mine") (i := 11) (t := ?t) ?hi ?_ ?hN ?hv ?hd ?hc); (case hi => exact rfl); (case hN => exact rfl); (case hv => first | exact Or.inl rfl | exact Or.inr (Or.inl rfl) | exact Or.inr (Or.inr rfl)); (case hd => decide); (case hc => decide))
  | ((with_reducible refine ew_var (x := "whole") (i := 12) (t := ?t) ?hi ?_ ?hN ?hv ?hd ?hc); (case hi => exact rfl); (case hN => exact rfl); (case hv => first | exact Or.inl rfl | exact Or.inr (Or.inl rfl) | exact Or.inr (Or.inr rfl)); (case hd => decide); (case hc => decide))
  | ((with_reducible refine ew_var (x := "drawn") (i := 13) (t := ?t) ?hi ?_ ?hN ?hv ?hd ?hc); (case hi => exact rfl); (case hN => exact rfl); (case hv => first | exact Or.inl rfl | exact Or.inr (Or.inl rfl) | exact Or.inr (Or.inr rfl)); (case hd => decide); (case hc => decide))
  | ((with_reducible refine ew_var (x := "common") (i := 14) (t := ?t) ?hi ?_ ?hN ?hv ?hd ?hc); (case hi => exact rfl); (case hN => exact rfl); (case hv => first | exact Or.inl rfl | exact Or.inr (Or.inl rfl) | exact Or.inr (Or.inr rfl)); (case hd => decide); (case hc => decide))
  | ((with_reducible refine ew_var (x := "both") (i := 15) (t := ?t) ?hi ?_ ?hN ?hv ?hd ?hc); (case hi => exact rfl); (case hN => exact rfl); (case hv => first | exact Or.inl rfl | exact Or.inr (Or.inl rfl) | exact Or.inr (Or.inr rfl)); (case hd => decide); (case hc => decide))
  | ((with_reducible refine ew_var (x := "more") (i := 16) (t := ?t) ?hi ?_ ?hN ?hv ?hd ?hc); (case hi => exact rfl); (case hN => exact rfl); (case hv => first | exact Or.inl rfl | exact Or.inr (Or.inl rfl) | exact Or.inr (Or.inr rfl)); (case hd => decide); (case hc => decide))
  | ((with_reducible refine ew_var (x := "taken") (i := 17) (t := ?t) ?hi ?_ ?hN ?hv ?hd ?hc); (case hi => exact rfl); (case hN => exact rfl); (case hv => first | exact Or.inl rfl | exact Or.inr (Or.inl rfl) | exact Or.inr (Or.inr rfl)); (case hd => decide); (case hc => decide))
  | ((with_reducible refine ew_var (x := "apart") (i := 18) (t := ?t) ?hi ?_ ?hN ?hv ?hd ?hc); (case hi => exact rfl); (case hN => exact rfl); (case hv => first | exact Or.inl rfl | exact Or.inr (Or.inl rfl) | exact Or.inr (Or.inr rfl)); (case hd => decide); (case hc => decide))
  | ((with_reducible refine ew_var (x := "new") (i := 19) (t := ?t) ?hi ?_ ?hN ?hv ?hd ?hc); (case hi => exact rfl); (case hN => exact rfl); (case hv => first | exact Or.inl rfl | exact Or.inr (Or.inl rfl) | exact Or.inr (Or.inr rfl)); (case hd => decide); (case hc => decide))
  | ((with_reducible refine ew_var (x := "form") (i := 20) (t := ?t) ?hi ?_ ?hN ?hv ?hd ?hc); (case hi => exact rfl); (case hN => exact rfl); (case hv => first | exact Or.inl rfl | exact Or.inr (Or.inl rfl) | exact Or.inr (Or.inr rfl)); (case hd => decide); (case hc => decide))
  | ((with_reducible refine ew_var (x := "free") (i := 21) (t := ?t) ?hi ?_ ?hN ?hv ?hd ?hc); (case hi => exact rfl); (case hN => exact rfl); (case hv => first | exact Or.inl rfl | exact Or.inr (Or.inl rfl) | exact Or.inr (Or.inr rfl)); (case hd => decide); (case hc => decide))
  | ((with_reducible refine ew_var (x := "spot") (i := 22) (t := ?t) ?hi ?_ ?hN ?hv ?hd ?hc); (case hi => exact rfl); (case hN => exact rfl); (case hv => first | exact Or.inl rfl | exact Or.inr (Or.inl rfl) | exact Or.inr (Or.inr rfl)); (case hd => decide); (case hc => decide))
  | ((with_reducible refine ew_var (x := "shared") (i := 23) (t := ?t) ?hi ?_ ?hN ?hv ?hd ?hc); (case hi => exact rfl); (case hN => exact rfl); (case hv => first | exact Or.inl rfl | exact Or.inr (Or.inl rfl) | exact Or.inr (Or.inr rfl)); (case hd => decide); (case hc => decide))
  | ((with_reducible refine ew_var (x := "k") (i := 24) (t := ?t) ?hi ?_ ?hN ?hv ?hd ?hc); (case hi => exact rfl); (case hN => exact rfl); (case hv => first | exact Or.inl rfl | exact Or.inr (Or.inl rfl) | exact Or.inr (Or.inr rfl)); (case hd => decide); (case hc => decide))
  | ((with_reducible refine ew_var (x := "name") (i := 25) (t := ?t) ?hi ?_ ?hN ?hv ?hd ?hc); (case hi => exact rfl); (case hN => exact rfl); (case hv => first | exact Or.inl rfl | exact Or.inr (Or.inl rfl) | exact Or.inr (Or.inr rfl)); (case hd => decide); (case hc => decide))
  | ((with_reducible refine s1_set (x := "tape") (i := 1) ?hN ?hi ?_ ?hx ?hs ?hf); (case hN => exact (scLaw).nd); (case hi => exact rfl); (case hx => first | exact Or.inl rfl | exact Or.inr rfl); (case hs => exact rfl); (case hf => first | exact Or.inr rfl | exact Or.inl rfl))
  | ((with_reducible refine s1_set (x := "names") (i := 2) ?hN ?hi ?_ ?hx ?hs ?hf); (case hN => exact (scLaw).nd); (case hi => exact rfl); (case hx => first | exact Or.inl rfl | exact Or.inr rfl); (case hs => exact rfl); (case hf => first | exact Or.inr rfl | exact Or.inl rfl))
  | ((with_reducible refine s1_set (x := "one") (i := 3) ?hN ?hi ?_ ?hx ?hs ?hf); (case hN => exact (scLaw).nd); (case hi => exact rfl); (case hx => first | exact Or.inl rfl | exact Or.inr rfl); (case hs => exact rfl); (case hf => first | exact Or.inr rfl | exact Or.inl rfl))
  | ((with_reducible refine s1_set (x := "other") (i := 4) ?hN ?hi ?_ ?hx ?hs ?hf); (case hN => exact (scLaw).nd); (case hi => exact rfl); (case hx => first | exact Or.inl rfl | exact Or.inr rfl); (case hs => exact rfl); (case hf => first | exact Or.inr rfl | exact Or.inl rfl))
  | ((with_reducible refine s1_set (x := "order") (i := 5) ?hN ?hi ?_ ?hx ?hs ?hf); (case hN => exact (scLaw).nd); (case hi => exact rfl); (case hx => first | exact Or.inl rfl | exact Or.inr rfl); (case hs => exact rfl); (case hf => first | exact Or.inr rfl | exact Or.inl rfl))
  | ((with_reducible refine s1_set (x := "due") (i := 6) ?hN ?hi ?_ ?hx ?hs ?hf); (case hN => exact (scLaw).nd); (case hi => exact rfl); (case hx => first | exact Or.inl rfl | exact Or.inr rfl); (case hs => exact rfl); (case hf => first | exact Or.inr rfl | exact Or.inl rfl))
  | ((with_reducible refine s1_set (x := "turned") (i := 7) ?hN ?hi ?_ ?hx ?hs ?hf); (case hN => exact (scLaw).nd); (case hi => exact rfl); (case hx => first | exact Or.inl rfl | exact Or.inr rfl); (case hs => exact rfl); (case hf => first | exact Or.inr rfl | exact Or.inl rfl))
  | ((with_reducible refine s1_set (x := "table") (i := 8) ?hN ?hi ?_ ?hx ?hs ?hf); (case hN => exact (scLaw).nd); (case hi => exact rfl); (case hx => first | exact Or.inl rfl | exact Or.inr rfl); (case hs => exact rfl); (case hf => first | exact Or.inr rfl | exact Or.inl rfl))
  | ((with_reducible refine s1_set (x := "special") (i := 9) ?hN ?hi ?_ ?hx ?hs ?hf); (case hN => exact (scLaw).nd); (case hi => exact rfl); (case hx => first | exact Or.inl rfl | exact Or.inr rfl); (case hs => exact rfl); (case hf => first | exact Or.inr rfl | exact Or.inl rfl))
  | ((with_reducible refine s1_set (x := "told") (i := 10) ?hN ?hi ?_ ?hx ?hs ?hf); (case hN => exact (scLaw).nd); (case hi => exact rfl); (case hx => first | exact Or.inl rfl | exact Or.inr rfl); (case hs => exact rfl); (case hf => first | exact Or.inr rfl | exact Or.inl rfl))
  | ((with_reducible refine s1_set (x := "mine") (i := 11) ?hN ?hi ?_ ?hx ?hs ?hf); (case hN => exact (scLaw).nd); (case hi => exact rfl); (case hx => first | exact Or.inl rfl | exact Or.inr rfl); (case hs => exact rfl); (case hf => first | exact Or.inr rfl | exact Or.inl rfl))
  | ((with_reducible refine s1_set (x := "whole") (i := 12) ?hN ?hi ?_ ?hx ?hs ?hf); (case hN => exact (scLaw).nd); (case hi => exact rfl); (case hx => first | exact Or.inl rfl | exact Or.inr rfl); (case hs => exact rfl); (case hf => first | exact Or.inr rfl | exact Or.inl rfl))
  | ((with_reducible refine s1_set (x := "drawn") (i := 13) ?hN ?hi ?_ ?hx ?hs ?hf); (case hN => exact (scLaw).nd); (case hi => exact rfl); (case hx => first | exact Or.inl rfl | exact Or.inr rfl); (case hs => exact rfl); (case hf => first | exact Or.inr rfl | exact Or.inl rfl))
  | ((with_reducible refine s1_set (x := "common") (i := 14) ?hN ?hi ?_ ?hx ?hs ?hf); (case hN => exact (scLaw).nd); (case hi => exact rfl); (case hx => first | exact Or.inl rfl | exact Or.inr rfl); (case hs => exact rfl); (case hf => first | exact Or.inr rfl | exact Or.inl rfl))
  | ((with_reducible refine s1_set (x := "both") (i := 15) ?hN ?hi ?_ ?hx ?hs ?hf); (case hN => exact (scLaw).nd); (case hi => exact rfl); (case hx => first | exact Or.inl rfl | exact Or.inr rfl); (case hs => exact rfl); (case hf => first | exact Or.inr rfl | exact Or.inl rfl))
  | ((with_reducible refine s1_set (x := "more") (i := 16) ?hN ?hi ?_ ?hx ?hs ?hf); (case hN => exact (scLaw).nd); (case hi => exact rfl); (case hx => first | exact Or.inl rfl | exact Or.inr rfl); (case hs => exact rfl); (case hf => first | exact Or.inr rfl | exact Or.inl rfl))
  | ((with_reducible refine s1_set (x := "taken") (i := 17) ?hN ?hi ?_ ?hx ?hs ?hf); (case hN => exact (scLaw).nd); (case hi => exact rfl); (case hx => first | exact Or.inl rfl | exact Or.inr rfl); (case hs => exact rfl); (case hf => first | exact Or.inr rfl | exact Or.inl rfl))
  | ((with_reducible refine s1_set (x := "apart") (i := 18) ?hN ?hi ?_ ?hx ?hs ?hf); (case hN => exact (scLaw).nd); (case hi => exact rfl); (case hx => first | exact Or.inl rfl | exact Or.inr rfl); (case hs => exact rfl); (case hf => first | exact Or.inr rfl | exact Or.inl rfl))
  | ((with_reducible refine s1_set (x := "new") (i := 19) ?hN ?hi ?_ ?hx ?hs ?hf); (case hN => exact (scLaw).nd); (case hi => exact rfl); (case hx => first | exact Or.inl rfl | exact Or.inr rfl); (case hs => exact rfl); (case hf => first | exact Or.inr rfl | exact Or.inl rfl))
  | ((with_reducible refine s1_set (x := "form") (i := 20) ?hN ?hi ?_ ?hx ?hs ?hf); (case hN => exact (scLaw).nd); (case hi => exact rfl); (case hx => first | exact Or.inl rfl | exact Or.inr rfl); (case hs => exact rfl); (case hf => first | exact Or.inr rfl | exact Or.inl rfl))
  | ((with_reducible refine s1_set (x := "free") (i := 21) ?hN ?hi ?_ ?hx ?hs ?hf); (case hN => exact (scLaw).nd); (case hi => exact rfl); (case hx => first | exact Or.inl rfl | exact Or.inr rfl); (case hs => exact rfl); (case hf => first | exact Or.inr rfl | exact Or.inl rfl))
  | ((with_reducible refine s1_set (x := "spot") (i := 22) ?hN ?hi ?_ ?hx ?hs ?hf); (case hN => exact (scLaw).nd); (case hi => exact rfl); (case hx => first | exact Or.inl rfl | exact Or.inr rfl); (case hs => exact rfl); (case hf => first | exact Or.inr rfl | exact Or.inl rfl))
  | ((with_reducible refine s1_set (x := "shared") (i := 23) ?hN ?hi ?_ ?hx ?hs ?hf); (case hN => exact (scLaw).nd); (case hi => exact rfl); (case hx => first | exact Or.inl rfl | exact Or.inr rfl); (case hs => exact rfl); (case hf => first | exact Or.inr rfl | exact Or.inl rfl))
  | ((with_reducible refine s1_set (x := "k") (i := 24) ?hN ?hi ?_ ?hx ?hs ?hf); (case hN => exact (scLaw).nd); (case hi => exact rfl); (case hx => first | exact Or.inl rfl | exact Or.inr rfl); (case hs => exact rfl); (case hf => first | exact Or.inr rfl | exact Or.inl rfl))
  | ((with_reducible refine s1_set (x := "name") (i := 25) ?hN ?hi ?_ ?hx ?hs ?hf); (case hN => exact (scLaw).nd); (case hi => exact rfl); (case hx => first | exact Or.inl rfl | exact Or.inr rfl); (case hs => exact rfl); (case hf => first | exact Or.inr rfl | exact Or.inl rfl))
  | fail)
local macro_rules | `(tactic| walk_at "pt 1") => `(tactic| first
  | ((with_reducible refine aw_cons (hs := ?hs) (h := ?_)); (case hs => exact rfl))
  | ((with_reducible refine aw_nil (hk := ?_)))
  | ((with_reducible refine ew_sub (h := ?_)))
  | ((with_reducible refine ew_str (hk := ?_)))
  | ((with_reducible refine ew_int (hk := ?_)))
  | ((with_reducible refine ew_bl (hk := ?_)))
  | ((with_reducible refine ew_non (hk := ?_)))
  | ((with_reducible refine ew_tup (h := ?_)))
  | ((with_reducible refine tw_cmp (hm := ?hm) (h := ?_)); (case hm => exact rfl))
  | ((with_reducible refine ew_cmp (hm := ?hm) (h := ?_)); (case hm => exact rfl))
  | ((with_reducible refine ew_bin (h := ?_)))
  | ((with_reducible refine ew_lst (h := ?_)))
  | ((with_reducible refine ew_call (x := "_law_atoms") (n := ?n) (con := ?con) (C := ?C) (hr := ?hr) (hg := ?hg) (hdb := ?hdb) (he := ?he) (hpl := ?hpl) (h := ?_)); (case C => exact All.c_law_atoms (by assumption)); (case hr => assumption); (case hg => exact rfl); (case hdb => decide); (case he => exact rfl); (case hpl => exact rfl))
  | ((with_reducible refine ew_call (x := "_law_clash") (n := ?n) (con := ?con) (C := ?C) (hr := ?hr) (hg := ?hg) (hdb := ?hdb) (he := ?he) (hpl := ?hpl) (h := ?_)); (case C => exact All.c_law_clash (by assumption)); (case hr => assumption); (case hg => exact rfl); (case hdb => decide); (case he => exact rfl); (case hpl => exact rfl))
  | ((with_reducible refine ew_callF (x := "_law_full") (n := ?n) (pre := ?pre) (C := ?C) (hr := ?hr) (hg := ?hg) (hdb := ?hdb) (he := ?he) (hpl := ?hpl) (h := ?_)); (case C => exact All.c_law_full (by assumption)); (case hr => assumption); (case hg => exact rfl); (case hdb => decide); (case he => exact rfl); (case hpl => exact rfl))
  | ((with_reducible refine ew_call (x := "_law_instance") (n := ?n) (con := ?con) (C := ?C) (hr := ?hr) (hg := ?hg) (hdb := ?hdb) (he := ?he) (hpl := ?hpl) (h := ?_)); (case C => exact All.c_law_instance (by assumption)); (case hr => assumption); (case hg => exact rfl); (case hdb => decide); (case he => exact rfl); (case hpl => exact rfl))
  | ((with_reducible refine ew_callF (x := "_law_letter") (n := ?n) (pre := ?pre) (C := ?C) (hr := ?hr) (hg := ?hg) (hdb := ?hdb) (he := ?he) (hpl := ?hpl) (h := ?_)); (case C => exact All.c_law_letter (by assumption)); (case hr => assumption); (case hg => exact rfl); (case hdb => decide); (case he => exact rfl); (case hpl => exact rfl))
  | ((with_reducible refine ew_call (x := "_law_order") (n := ?n) (con := ?con) (C := ?C) (hr := ?hr) (hg := ?hg) (hdb := ?hdb) (he := ?he) (hpl := ?hpl) (h := ?_)); (case C => exact All.c_law_order (by assumption)); (case hr => assumption); (case hg => exact rfl); (case hdb => decide); (case he => exact rfl); (case hpl => exact rfl))
  | ((with_reducible refine ew_call (x := "_law_pick") (n := ?n) (con := ?con) (C := ?C) (hr := ?hr) (hg := ?hg) (hdb := ?hdb) (he := ?he) (hpl := ?hpl) (h := ?_)); (case C => exact All.c_law_pick (by assumption)); (case hr => assumption); (case hg => exact rfl); (case hdb => decide); (case he => exact rfl); (case hpl => exact rfl))
  | ((with_reducible refine ew_callF (x := "_law_put") (n := ?n) (pre := ?pre) (C := ?C) (hr := ?hr) (hg := ?hg) (hdb := ?hdb) (he := ?he) (hpl := ?hpl) (h := ?_)); (case C => exact All.c_law_put (by assumption)); (case hr => assumption); (case hg => exact rfl); (case hdb => decide); (case he => exact rfl); (case hpl => exact rfl))
  | ((with_reducible refine ew_callF (x := "_law_same") (n := ?n) (pre := ?pre) (C := ?C) (hr := ?hr) (hg := ?hg) (hdb := ?hdb) (he := ?he) (hpl := ?hpl) (h := ?_)); (case C => exact All.c_law_same (by assumption)); (case hr => assumption); (case hg => exact rfl); (case hdb => decide); (case he => exact rfl); (case hpl => exact rfl))
  | ((with_reducible refine ew_call (x := "_law_saying") (n := ?n) (con := ?con) (C := ?C) (hr := ?hr) (hg := ?hg) (hdb := ?hdb) (he := ?he) (hpl := ?hpl) (h := ?_)); (case C => exact All.c_law_saying (by assumption)); (case hr => assumption); (case hg => exact rfl); (case hdb => decide); (case he => exact rfl); (case hpl => exact rfl))
  | ((with_reducible refine ew_call (x := "_law_tape") (n := ?n) (con := ?con) (C := ?C) (hr := ?hr) (hg := ?hg) (hdb := ?hdb) (he := ?he) (hpl := ?hpl) (h := ?_)); (case C => exact All.c_law_tape (by assumption)); (case hr => assumption); (case hg => exact rfl); (case hdb => decide); (case he => exact rfl); (case hpl => exact rfl))
  | ((with_reducible refine ew_callB (x := "any") (id := "any") (hm := ?hm) (hv := ?hv) (hg := ?hg) (hn := ?hn) (hdb := ?hdb) (he := ?he) (hpl := ?hpl) (h := ?_)); (case hm => exact Mg.any (by assumption)); (case hv => exact rfl); (case hg => exact rfl); (case hn => decide); (case hdb => decide); (case he => exact rfl); (case hpl => exact rfl))
  | ((with_reducible refine ew_callF (x := "are_like") (n := ?n) (pre := ?pre) (C := ?C) (hr := ?hr) (hg := ?hg) (hdb := ?hdb) (he := ?he) (hpl := ?hpl) (h := ?_)); (case C => exact All.c_are_like (by assumption)); (case hr => assumption); (case hg => exact rfl); (case hdb => decide); (case he => exact rfl); (case hpl => exact rfl))
  | ((with_reducible refine ew_callF (x := "common_form") (n := ?n) (pre := ?pre) (C := ?C) (hr := ?hr) (hg := ?hg) (hdb := ?hdb) (he := ?he) (hpl := ?hpl) (h := ?_)); (case C => exact All.c_common_form (by assumption)); (case hr => assumption); (case hg => exact rfl); (case hdb => decide); (case he => exact rfl); (case hpl => exact rfl))
  | ((with_reducible refine ew_callTy (x := "dict") (T' := "dict") (hm := ?hm) (hv := ?hv) (hg := ?hg) (hn := ?hn) (hdb := ?hdb) (he := ?he) (hpl := ?hpl) (h := ?_)); (case hm => exact Mg.dict (by assumption)); (case hv => exact rfl); (case hg => exact rfl); (case hn => decide); (case hdb => decide); (case he => exact rfl); (case hpl => exact rfl))
  | ((with_reducible refine ew_callF (x := "general") (n := ?n) (pre := ?pre) (C := ?C) (hr := ?hr) (hg := ?hg) (hdb := ?hdb) (he := ?he) (hpl := ?hpl) (h := ?_)); (case C => exact All.c_general (by assumption)); (case hr => assumption); (case hg => exact rfl); (case hdb => decide); (case he => exact rfl); (case hpl => exact rfl))
  | ((with_reducible refine ew_call (x := "instance_of") (n := ?n) (con := ?con) (C := ?C) (hr := ?hr) (hg := ?hg) (hdb := ?hdb) (he := ?he) (hpl := ?hpl) (h := ?_)); (case C => exact All.c_instance_of (by assumption)); (case hr => assumption); (case hg => exact rfl); (case hdb => decide); (case he => exact rfl); (case hpl => exact rfl))
  | ((with_reducible refine ew_call (x := "joined") (n := ?n) (con := ?con) (C := ?C) (hr := ?hr) (hg := ?hg) (hdb := ?hdb) (he := ?he) (hpl := ?hpl) (h := ?_)); (case C => exact All.c_joined (by assumption)); (case hr => assumption); (case hg => exact rfl); (case hdb => decide); (case he => exact rfl); (case hpl => exact rfl))
  | ((with_reducible refine ew_callB (x := "len") (id := "len") (hm := ?hm) (hv := ?hv) (hg := ?hg) (hn := ?hn) (hdb := ?hdb) (he := ?he) (hpl := ?hpl) (h := ?_)); (case hm => exact Mg.len (by assumption)); (case hv => exact rfl); (case hg => exact rfl); (case hn => decide); (case hdb => decide); (case he => exact rfl); (case hpl => exact rfl))
  | ((with_reducible refine ew_callF (x := "letter_name") (n := ?n) (pre := ?pre) (C := ?C) (hr := ?hr) (hg := ?hg) (hdb := ?hdb) (he := ?he) (hpl := ?hpl) (h := ?_)); (case C => exact All.c_letter_name (by assumption)); (case hr => assumption); (case hg => exact rfl); (case hdb => decide); (case he => exact rfl); (case hpl => exact rfl))
  | ((with_reducible refine ew_call (x := "names_in_order") (n := ?n) (con := ?con) (C := ?C) (hr := ?hr) (hg := ?hg) (hdb := ?hdb) (he := ?he) (hpl := ?hpl) (h := ?_)); (case C => exact All.c_names_in_order (by assumption)); (case hr => assumption); (case hg => exact rfl); (case hdb => decide); (case he => exact rfl); (case hpl => exact rfl))
  | ((with_reducible refine ew_callF (x := "put_in") (n := ?n) (pre := ?pre) (C := ?C) (hr := ?hr) (hg := ?hg) (hdb := ?hdb) (he := ?he) (hpl := ?hpl) (h := ?_)); (case C => exact All.c_put_in (by assumption)); (case hr => assumption); (case hg => exact rfl); (case hdb => decide); (case he => exact rfl); (case hpl => exact rfl))
  | ((with_reducible refine ew_call (x := "renamed_apart") (n := ?n) (con := ?con) (C := ?C) (hr := ?hr) (hg := ?hg) (hdb := ?hdb) (he := ?he) (hpl := ?hpl) (h := ?_)); (case C => exact All.c_renamed_apart (by assumption)); (case hr => assumption); (case hg => exact rfl); (case hdb => decide); (case he => exact rfl); (case hpl => exact rfl))
  | ((with_reducible refine ew_callF (x := "resolved") (n := ?n) (pre := ?pre) (C := ?C) (hr := ?hr) (hg := ?hg) (hdb := ?hdb) (he := ?he) (hpl := ?hpl) (h := ?_)); (case C => exact All.c_resolved (by assumption)); (case hr => assumption); (case hg => exact rfl); (case hdb => decide); (case he => exact rfl); (case hpl => exact rfl))
  | ((with_reducible refine ew_callB (x := "sorted") (id := "sorted") (hm := ?hm) (hv := ?hv) (hg := ?hg) (hn := ?hn) (hdb := ?hdb) (he := ?he) (hpl := ?hpl) (h := ?_)); (case hm => exact Mg.sorted (by assumption)); (case hv => exact rfl); (case hg => exact rfl); (case hn => decide); (case hdb => decide); (case he => exact rfl); (case hpl => exact rfl))
  | ((with_reducible refine ew_callF (x := "stands_in") (n := ?n) (pre := ?pre) (C := ?C) (hr := ?hr) (hg := ?hg) (hdb := ?hdb) (he := ?he) (hpl := ?hpl) (h := ?_)); (case C => exact All.c_stands_in (by assumption)); (case hr => assumption); (case hg => exact rfl); (case hdb => decide); (case he => exact rfl); (case hpl => exact rfl))
  | ((with_reducible refine tw_not (h := ?_)))
  | ((with_reducible refine ew_not (h := ?_)))
  | ((with_reducible refine tw_bool (h := ?_)))
  | ((with_reducible refine ww_and (h := ?_)))
  | ((with_reducible refine ww_or (h := ?_)))
  | ((with_reducible refine ww_and1 (h := ?_)))
  | ((with_reducible refine ww_or1 (h := ?_)))
  | ((with_reducible refine ew_and (h := ?_)))
  | ((with_reducible refine ew_or (h := ?_)))
  | ((with_reducible refine ew_one (h := ?_)))
  | ((with_reducible refine ew_dnewK (h := ?_)))
  | ((with_reducible refine ew_disp1 (h := ?_)))
  | ((with_reducible refine ew_spread (h := ?_)))
  | ((with_reducible refine tw_call (h := ?_)))
  | ((with_reducible refine tw_name (h := ?_)))
  | ((with_reducible refine sw_cons (h := ?_)))
  | ((with_reducible refine sw_nil (h := ?_)))
  | ((with_reducible refine s1_if (h := ?_)))
  | ((with_reducible refine bw_eqs (h := ?h) (hk := ?_)); (case h => exact rfl))
  | ((with_reducible refine bw_nes (h := ?h) (hk := ?_)); (case h => exact rfl))
  | ((with_reducible refine bw_inT (hx := ?hx) (hf := ?hf) (hk := ?_)); (case hx => exact rfl); (case hf => exact rfl))
  | ((with_reducible refine bw_inL (xs := ?xs) (hp := ?hp) (hx := ?hx) (hf := ?hf) (hk := ?_)); (case hp => walk_at "pt rdb"); (case hx => exact rfl); (case hf => exact rfl))
  | ((with_reducible refine bw_isN (hk := ?_)))
  | ((with_reducible refine bw_isB (hk := ?_)))
  | ((with_reducible refine bw_notN (hk := ?_)))
  | ((with_reducible refine bw_isnotB (hk := ?_)))
  | ((with_reducible refine bw_add (hk := ?_)))
  | ((with_reducible refine bw_gt (hk := ?_)))
  | ((with_reducible refine xw_tup (t := ?t) (he := ?he) (hs := ?hs) (hk := ?_)); (case he => first | exact rfl | exact atT0 | exact atT1); (case hs => exact fun _ _ => rfl))
  | ((with_reducible refine xw_lst (ts := ?ts) (t := ?t) (hp := ?hp) (he := ?he) (hs := ?hs) (hk := ?_)); (case hp => walk_at "pt rdb"); (case he => first | exact rfl | exact atT0 | exact atT1); (case hs => exact fun _ _ => rfl))
  | ((with_reducible refine cw_lenT (hk := ?_)))
  | ((with_reducible refine And.intro ?hx ?_); (case hx => exact Nat.le_of_ble_eq_true rfl))
  | (with_reducible refine Exists.intro _ (And.intro rfl ?_))
  | (refine tst_t (by decide +kernel) ?_)
  | (refine tst_f (by decide +kernel) ?_)
  | (refine Exists.intro _ (Exists.intro _ (And.intro rfl (And.intro (by walk_at "pt rdb") ?_))))
  | walk_at "pt v"
  | fail)
theorem law9 (M : Mg mg) (C : All P w K mg base n) (hn : 229 ≤ n) (a : BA) (hr : Room n (bx P w K mg base LN "law" (top 37) a).A) (F : Sto) (k : T → Sto → Prop) (q : ∀ S', k (.bl true) S') (sc ta tb nz po : Addr) {one other : Say} {seed : Int} {ns : List Int} (tk : TapeOk seed ns) (dr : Drawn one other) {special : Say} (sp : Special one special) (r : Rho) (hr0 : ∃ x6 x7 x8 x10 x11 x12 x13 x14 x15 x16 x17 x18 x19 x20 x21 x22 x23 x24 x25, r = [some (.ref sc), some (.ref ta), some (.ref nz), some (one.t), some (other.t), some (.ref po), x6, x7, x8, some (special.t), x10, x11, x12, x13, x14, x15, x16, x17, x18, x19, x20, x21, x22, x23, x24, x25]) :
    sw F (bx P w K mg base LN "law" (top 37) a) ((defBody (top 37)).drop 26) r (tapeS ta tb seed ns) { nx := fun _ S' => k .non S', rt := k } := by
  obtain ⟨x6, x7, x8, x10, x11, x12, x13, x14, x15, x16, x17, x18, x19, x20, x21, x22, x23, x24, x25, rfl⟩ := hr0
  have od := dr.od
  have lo := few_nz dr.oa
  have sd := sp.sd
  refine sw_cons ?_
  repeat' (walk_at "pt 1")
  intro pl hpl
  repeat' (walk_at "pt 1")
  refine ⟨[(pl, .lst [one.t, special.t])], tapeS ta tb seed ns, [], [(pl, .lst [one.t, special.t])], by simp, by simp, by omega, ta, tb, pl, seed, ns, [one.t, special.t], rfl, rfl, tk, .head _, by simp, by simp, fun t sd2 ns2 ht tk2 => ?_⟩
  obtain ⟨spot, rfl, dsp, lsp, asp, τ, hτ⟩ : ∃ spot : Say, t = spot.t ∧ spot.dep ≤ 6 ∧ (order spot).length ≤ 4 ∧ spot.atoms ⊆ NZ ++ XY ∧ ∃ τ, one.sub τ = spot := by
    simp at ht
    rcases ht with rfl | rfl
    · exact ⟨one, rfl, by omega, lo, fun z hz => List.mem_append.mpr (.inl (dr.oa hz)), .atom, sub_id _⟩
    · exact ⟨special, rfl, sd, Nat.le_trans (few_xy sp.sa) (by decide), fun z hz => List.mem_append.mpr (.inr (sp.sa hz)), sp.inst⟩
  have rn := ren_vn dr.oa asp
  repeat' (walk_at "pt 1")
  refine fc0 ⟨by omega, one, spot, vn, rfl, by omega, dsp, by omega, rn, fun hno => ?_, fun ρ m => ?_⟩
  · obtain ⟨θ, e⟩ := apart_inst rn hτ
    exact absurd e (hno θ)
  obtain ⟨b1, b2⟩ := form_bnd (by omega) dsp (by omega) m
  obtain ⟨θ1, e1⟩ := form_inst (a := one) (ρ := ρ)
  obtain ⟨θ2, e2⟩ := form_inst2 m.sol
  generalize general (one.sub ρ) = f at *
  repeat' (walk_at "pt 1")
  refine s1_retD ?_
  repeat' (walk_at "pt 1")
  rw [isN_t]
  refine ⟨fun _ => ?_, fun h => (by cases h)⟩
  repeat' (walk_at "pt 1")
  refine ⟨[], [], _, [], rfl, by simp, by omega, one, f, rfl, rfl, by omega, by omega, by omega, fun r1 hr1 => ?_⟩
  obtain ⟨g1, rfl⟩ := inst_some e1 hr1
  intro p1 S1 hp1
  repeat' (walk_at "pt 1")
  refine ⟨fun _ => ?_, fun h => (by cases h)⟩
  repeat' (walk_at "pt 1")
  refine ⟨[], [], _, [], rfl, by simp, by omega, spot, f, rfl, rfl, by omega, by omega, by omega, fun r2 hr2 => ?_⟩
  obtain ⟨g2, rfl⟩ := inst_some e2 hr2
  intro p2 S2 hp2
  repeat' (walk_at "pt 1")
  exact ⟨[], List.nil_sublist _, q _⟩
theorem vn_len : ∀ x ∈ NZ, ("v" : Str).length + x.s.length ≤ 100000 := by decide +kernel
theorem put_vn {s : Say} (h : s.atoms ⊆ NZ) : s.put (tabA (NZ.map fun x => (x, vn x))) = s.ren vn := sub_congr fun x hx => by
  rw [tabA_get]
  have : ∀ x ∈ NZ, renT (NZ.map fun x => (x, vn x)) x = vn x := by decide +kernel
  rw [this x (h hx)]
/-- None, or the general form -/
def FF (one other : Say) (t : T) : Prop := (t = .non ∧ ∀ θ : Nm → Say, ¬ one.sub θ = (other.ren vn).sub θ) ∨ ∃ ρ, Mgu (fun θ => one.sub θ = (other.ren vn).sub θ) ρ ∧ t = (general (one.sub ρ)).t
/-- None, or a table that makes them the same -/
def MM (V : List Nm) (d : Nat) (W : (Nm → Say) → Prop) (S : Sto) (t : T) : Prop := (t = .non ∧ ∀ θ, ¬ W θ) ∨ ∃ p g ρ, t = .ref p ∧ (p, MO.dk (Tab.t g)) ∈ S ∧ Good V d g ρ ∧ ∀ θ, Sat θ g ↔ W θ
theorem vn_merge : mergeT [] (Tab.t (tabA (NZ.map fun x => (x, vn x)))) = Tab.t (tabA (NZ.map fun x => (x, vn x))) := merge_tab _ [] (by decide +kernel)
theorem law8 (M : Mg mg) (C : All P w K mg base n) (hn : 229 ≤ n) (a : BA) (hr : Room n (bx P w K mg base LN "law" (top 37) a).A) (F : Sto) (k : T → Sto → Prop) (q : ∀ S', k (.bl true) S') (sc ta tb nz po : Addr) {one other : Say} {seed : Int} {ns : List Int} (tk : TapeOk seed ns) (dr : Drawn one other) {special : Say} (sp : Special one special) (r : Rho) (hr0 : ∃ x6 x7 x8 x10 x11 x12 x13 x14 x15 x16 x17 x18 x19 x20 x21 x22 x23 x24 x25, r = [some (.ref sc), some (.ref ta), some (.ref nz), some (one.t), some (other.t), some (.ref po), x6, x7, x8, some (special.t), x10, x11, x12, x13, x14, x15, x16, x17, x18, x19, x20, x21, x22, x23, x24, x25]) :
    sw F (bx P w K mg base LN "law" (top 37) a) ((defBody (top 37)).drop 21) r ((nz, MO.lst (nmT NZ)) :: (po, MO.lst (nmT (order one))) :: tapeS ta tb seed ns) { nx := fun _ S' => k .non S', rt := k } := by
  obtain ⟨x6, x7, x8, x10, x11, x12, x13, x14, x15, x16, x17, x18, x19, x20, x21, x22, x23, x24, x25, rfl⟩ := hr0
  have od := dr.od
  have ud := dr.ud
  have lo := few_nz dr.oa
  have lu := few_nz dr.ua
  have rn := ren_vn dr.oa (fun z hz => List.mem_append.mpr (.inl (dr.ua hz)) : other.atoms ⊆ NZ ++ XY)
  refine sw_cut (fun r1 S1 => ∃ fv, r1 = [some (.ref sc), some (.ref ta), some (.ref nz), some (one.t), some (other.t), some (.ref po), x6, x7, x8, some (special.t), x10, x11, x12, x13, x14, x15, x16, x17, x18, x19, some (fv), x21, x22, x23, x24, x25] ∧ S1 = ((nz, MO.lst (nmT NZ)) :: (po, MO.lst (nmT (order one))) :: tapeS ta tb seed ns) ∧ FF one other fv) ?_ ?_
  · refine s1_set (i := 20) scLaw.nd rfl ?_
    repeat' (walk_at "pt 1")
    refine fc0 ⟨by omega, one, other, vn, rfl, by omega, by omega, by omega, rn, fun hno => ?_, fun ρ m => ?_⟩
    · exact ⟨_, rfl, rfl, .inl ⟨rfl, hno⟩⟩
    · exact ⟨_, rfl, rfl, .inr ⟨ρ, m, rfl⟩⟩
  rintro _ _ ⟨fv, rfl, rfl, hfv⟩
  refine sw_cut (fun r1 S1 => ∃ R, r1 = [some (.ref sc), some (.ref ta), some (.ref nz), some (one.t), some (other.t), some (.ref po), x6, x7, x8, some (special.t), x10, x11, x12, x13, x14, x15, x16, x17, x18, x19, some (fv), some ((other.ren vn).t), x22, x23, x24, x25] ∧ S1 = R ++ ((nz, MO.lst (nmT NZ)) :: (po, MO.lst (nmT (order one))) :: tapeS ta tb seed ns)) ?_ ?_
  · refine s1_set (i := 21) scLaw.nd rfl ?_
    repeat' (walk_at "pt 1")
    refine ew_lc (own := [("name", 25)]) (g := gName 25) (up := up1 25) rfl scLaw.nd ?_ (fun s1 H1 C1 cl1 fp1 => pg_name scLaw.nd rfl (.inl rfl)) (tgt1 (by simp)) ?_
    · show BlkOk LN (defScope (top 37)) _ _
      exact ⟨rfl, by decide +kernel, by decide +kernel, by decide +kernel, by decide +kernel⟩
    refine iw_lst ?_
    repeat' (walk_at "pt 1")
    refine ⟨fun i acc S1 => acc = (NZ.take i).map (fun x => T.tup [.str x.s, (Say.atom (vn x)).t]) ∧ S1 = ((nz, MO.lst (nmT NZ)) :: (po, MO.lst (nmT (order one))) :: tapeS ta tb seed ns), ⟨rfl, rfl⟩, ?_, ?_, ?_⟩
    · rintro i acc S1 ⟨_, rfl⟩
      exact .inl (.head _)
    · rintro i t acc S2 hu ⟨rfl, rfl⟩
      rw [List.getElem?_map] at hu
      obtain ⟨u, hu', rfl⟩ := Option.map_eq_some_iff.mp hu
      refine ⟨by rw [List.length_map, List.length_take]; simp; omega, _, rfl, fun s1 H1 C1 cl1 fp1 => tsw_nil (tst_t rfl fun s2 H2 C2 cl2 fp2 => ?_)⟩
      repeat' (walk_at "pt 1")
      have hm : u ∈ NZ := List.mem_of_getElem? hu'
      refine bw_cats (by have := vn_len u hm; exact this) ?_
      rw [← vn_s u hm]
      repeat' (walk_at "pt 1")
      refine ⟨?_, rfl⟩
      rw [List.take_add_one, hu', List.map_append]
      rfl
    · rintro acc S2 ⟨rfl, rfl⟩ l hl
      rw [List.length_map, List.take_length]
      repeat' (walk_at "pt 1")
      refine cw_dictP (kvs := Tab.t (tabA (NZ.map fun x => (x, vn x)))) rfl (.inl (.head _)) fun dv hdv => ?_
      rw [vn_merge]
      repeat' (walk_at "pt 1")
      refine fc1 (dv, .dk (Tab.t (tabA (NZ.map fun x => (x, vn x))))) (.inl (.head _)) ⟨other, dv, _, rfl, List.mem_singleton_self _, by omega, ?_⟩
      rw [put_vn dr.ua]
      exact ⟨[_, _], rfl, rfl⟩
  rintro _ _ ⟨R, rfl, rfl⟩
  refine sw_drop (S2 := ((nz, MO.lst (nmT NZ)) :: (po, MO.lst (nmT (order one))) :: tapeS ta tb seed ns)) (List.sublist_append_right _ _) ?_
  obtain ⟨V, hs, hV, fa, fb, _⟩ := exists_join (a := one) (b := other) (r := vn) (by omega) (by omega) (by omega)
  refine sw_cut (fun r1 S1 => ∃ mv R, r1 = [some (.ref sc), some (.ref ta), some (.ref nz), some (one.t), some (other.t), some (.ref po), x6, x7, x8, some (special.t), x10, some (mv), x12, x13, x14, x15, x16, x17, x18, x19, some (fv), some ((other.ren vn).t), x22, x23, x24, x25] ∧ S1 = R ++ ((nz, MO.lst (nmT NZ)) :: (po, MO.lst (nmT (order one))) :: tapeS ta tb seed ns) ∧ MM V 6 (fun θ => one.sub θ = (other.ren vn).sub θ) S1 mv) ?_ ?_
  · refine s1_set (i := 11) scLaw.nd rfl ?_
    repeat' (walk_at "pt 1")
    intro pd hpd
    repeat' (walk_at "pt 1")
    obtain ⟨rr, hrr⟩ := clashF_ends hs _ one (other.ren vn) [] .atom good_nil fa fb (deep_all fa.1)
    have j := (clashF_ok hs _ _ _ [] .atom rr good_nil fa fb hrr).iff fun θ => ⟨fun h => h.2, fun h => ⟨sat_nil, h⟩⟩
    refine ⟨[], [(pd, .dk (Tab.t []))], ((nz, MO.lst (nmT NZ)) :: (po, MO.lst (nmT (order one))) :: tapeS ta tb seed ns), [], rfl, by simp, one, other.ren vn, pd, [], .atom, V, 6, _, rr, rfl, rfl, good_nil, hs, by omega, by omega, fa, fb, ?_, hrr, ?_⟩
    · unfold Small at hs; omega
    cases rr with
    | none =>
      intro S'
      exact ⟨_, S', rfl, rfl, .inl ⟨rfl, j⟩⟩
    | some g =>
      intro p S' hp
      obtain ⟨ρ, good, sat⟩ := j
      exact ⟨_, S', rfl, rfl, .inr ⟨p, g, ρ, rfl, by simp [hp], good, sat⟩⟩
  rintro _ _ ⟨mv, R, rfl, rfl, hmv⟩
  have sub : (tapeS ta tb seed ns).Sublist (R ++ ((nz, MO.lst (nmT NZ)) :: (po, MO.lst (nmT (order one))) :: tapeS ta tb seed ns)) := .trans (.cons _ (.cons _ (List.Sublist.refl _))) (List.sublist_append_right _ _)
  generalize R ++ ((nz, MO.lst (nmT NZ)) :: (po, MO.lst (nmT (order one))) :: tapeS ta tb seed ns) = SS at hmv sub ⊢
  rcases hfv with ⟨rfl, no1⟩ | ⟨ρ1, m1, rfl⟩ <;> rcases hmv with ⟨rfl, no2⟩ | ⟨p2, g2, ρ2, rfl, hp2, good2, sat2⟩
  · refine sw_cut (fun r1 S1 => r1 = [some (.ref sc), some (.ref ta), some (.ref nz), some (one.t), some (other.t), some (.ref po), x6, x7, x8, some (special.t), x10, some (.non), x12, x13, x14, x15, x16, x17, x18, x19, some (.non), some ((other.ren vn).t), x22, x23, x24, x25] ∧ S1 = SS) ?_ ?_
    · repeat' (walk_at "pt 1")
      exact ⟨rfl, rfl⟩
    rintro _ S2 ⟨rfl, e⟩
    rw [e]
    clear e
    refine sw_cut (fun r1 S1 => r1 = [some (.ref sc), some (.ref ta), some (.ref nz), some (one.t), some (other.t), some (.ref po), x6, x7, x8, some (special.t), x10, some (.non), x12, x13, x14, x15, x16, x17, x18, x19, some (.non), some ((other.ren vn).t), x22, x23, x24, x25] ∧ S1 = SS) ?_ ?_
    · repeat' (walk_at "pt 1")
      exact ⟨rfl, rfl⟩
    rintro _ S2 ⟨rfl, e⟩
    rw [e]
    clear e
    refine sw_drop sub ?_
    exact law9 M C hn a hr F k q sc ta tb nz po tk dr sp _ ⟨_, _, _, _, _, _, _, _, _, _, _, _, _, _, _, _, _, _, _, rfl⟩
  · exact absurd ((sat2 ρ2).mp (tri_sat good2.tri)) (no1 ρ2)
  · exact absurd m1.sol (no2 ρ1)
  · have m2 := good2.mgu sat2
    obtain ⟨b1, b2⟩ := form_bnd (by omega) (by omega) (by omega) m1
    obtain ⟨θ1, e1⟩ := form_inst (a := one) (ρ := ρ1)
    obtain ⟨θ2, e2⟩ := form_inst2 m1.sol
    have ff : general (one.sub ρ1) = general (one.sub ρ2) := mgu_alike m1 m2 one
    generalize general (one.sub ρ1) = f at *
    refine sw_cut (fun r1 S1 => r1 = [some (.ref sc), some (.ref ta), some (.ref nz), some (one.t), some (other.t), some (.ref po), x6, x7, x8, some (special.t), x10, some (.ref p2), x12, x13, x14, x15, x16, x17, x18, x19, some (f.t), some ((other.ren vn).t), x22, x23, x24, x25] ∧ S1 = SS) ?_ ?_
    · repeat' (walk_at "pt 1")
      simp only [isN_t]
      refine ⟨fun h => (by simp [T.sEq, T.isN] at h), fun _ => ?_⟩
      repeat' (walk_at "pt 1")
      simp only [isN_t]
      refine ⟨fun _ => ?_, fun h => (by cases h)⟩
      repeat' (walk_at "pt 1")
      obtain ⟨N, l1, l2⟩ := good2.lv
      have dr2 := dep_res good2.tri good2.dep one
      have d8 := Nat.mul_le_mul_right 6 (Nat.le_trans good2.len hV)
      have l8 := order_le (good2.names fa.2)
      refine fc1 (p2, .dk (Tab.t g2)) (.inl hp2) ⟨one, p2, g2, ρ2, 100, rfl, List.mem_singleton_self _, ⟨good2.tri, ⟨N, l1, ?_⟩, by omega, fun z hz => Nat.le_trans (good2.dep z hz) (by decide)⟩, by omega, ?_⟩
      · have := l2 one
        unfold Small at hs
        omega
      repeat' (walk_at "pt 1")
      refine fc0 ⟨by omega, one.sub ρ2, rfl, by omega, by omega, ?_⟩
      rw [← ff]
      refine bw_ned hr.units (eqT_self (by omega)) ⟨_, rfl, ?_⟩
      repeat' (walk_at "pt 1")
      exact ⟨rfl, rfl⟩
    rintro _ S2 ⟨rfl, e⟩
    rw [e]
    clear e
    refine sw_cut (fun r1 S1 => ∃ R2, r1 = [some (.ref sc), some (.ref ta), some (.ref nz), some (one.t), some (other.t), some (.ref po), x6, x7, x8, some (special.t), x10, some (.ref p2), x12, x13, x14, x15, x16, x17, x18, x19, some (f.t), some ((other.ren vn).t), x22, x23, x24, x25] ∧ S1 = R2 ++ SS) ?_ ?_
    · repeat' (walk_at "pt 1")
      simp only [isN_t]
      refine ⟨fun _ => ?_, fun h => (by cases h)⟩
      repeat' (walk_at "pt 1")
      refine ⟨[], [], _, [], rfl, by simp, by omega, one, f, rfl, rfl, by omega, by omega, by omega, fun r1 hr1 => ?_⟩
      obtain ⟨g1, rfl⟩ := inst_some e1 hr1
      intro p1 S1 hp1
      repeat' (walk_at "pt 1")
      refine ⟨fun h => (by cases h), fun _ => ?_⟩
      repeat' (walk_at "pt 1")
      refine ⟨[], [], _, [], rfl, by simp, by omega, other, f, rfl, rfl, by omega, by omega, by omega, fun r2 hr2 => ?_⟩
      obtain ⟨g3, rfl⟩ := inst_some e2 hr2
      intro p3 S3 hp3
      repeat' (walk_at "pt 1")
      refine ⟨fun h => (by cases h), fun _ => ?_⟩
      repeat' (walk_at "pt 1")
      exact ⟨S3 ++ S1, rfl, by simp⟩
    rintro _ _ ⟨R2, rfl, rfl⟩
    refine sw_drop (.trans sub (List.sublist_append_right _ _)) ?_
    exact law9 M C hn a hr F k q sc ta tb nz po tk dr sp _ ⟨_, _, _, _, _, _, _, _, _, _, _, _, _, _, _, _, _, _, _, rfl⟩
theorem rising_pw : ∀ (xs : List Str) (x : Str), risingS x xs = true → (x :: xs).Pairwise fun a b => ¬ b.cps.toList < a.cps.toList
  | [], x, _ => List.pairwise_singleton _ _
  | y :: r, x, h => by
    rw [risingS, Bool.and_eq_true] at h
    have ih := rising_pw r y h.2
    have hxy : ¬ y.cps.toList < x.cps.toList := by
      have := h.1
      rw [ltCps_eq] at this
      simpa using this
    refine List.pairwise_cons.mpr ⟨fun z hz => ?_, ih⟩
    rcases List.mem_cons.mp hz with rfl | hz
    · exact hxy
    · have hyz := (List.pairwise_cons.mp ih).1 z hz
      rw [List.not_lt] at *
      exact List.le_trans hxy hyz
theorem sorted_pw {xs : List Str} (h : sortedS xs = true) : xs.Pairwise fun a b => ¬ b.cps.toList < a.cps.toList := by
  cases xs with
  | nil => exact .nil
  | cons x r => exact rising_pw r x h
theorem sorted_eq {xs ys : List Str} (h1 : sortedS xs = true) (h2 : sortedS ys = true) (p : xs.Perm ys) : xs = ys := by
  refine p.eq_of_pairwise (le := fun a b => ¬ b.cps.toList < a.cps.toList) (fun a b _ _ q1 q2 => ?_) (sorted_pw h1) (sorted_pw h2)
  rw [List.not_lt] at q1 q2
  have e := List.le_antisymm q1 q2
  cases a; cases b
  simp_all
theorem law7 (M : Mg mg) (C : All P w K mg base n) (hn : 229 ≤ n) (a : BA) (hr : Room n (bx P w K mg base LN "law" (top 37) a).A) (F : Sto) (k : T → Sto → Prop) (q : ∀ S', k (.bl true) S') (sc ta tb nz po : Addr) {one other : Say} {seed : Int} {ns : List Int} (tk : TapeOk seed ns) (dr : Drawn one other) {special : Say} (sp : Special one special) (r : Rho) (hr0 : ∃ x6 x7 x8 x10 x11 x12 x13 x14 x15 x16 x17 x18 x19 x20 x21 x22 x23 x24 x25, r = [some (.ref sc), some (.ref ta), some (.ref nz), some (one.t), some (other.t), some (.ref po), x6, x7, x8, some (special.t), x10, x11, x12, x13, x14, x15, x16, x17, x18, x19, x20, x21, x22, x23, x24, x25]) :
    sw F (bx P w K mg base LN "law" (top 37) a) ((defBody (top 37)).drop 18) r ((nz, MO.lst (nmT NZ)) :: (po, MO.lst (nmT (order one))) :: tapeS ta tb seed ns) { nx := fun _ S' => k .non S', rt := k } := by
  obtain ⟨x6, x7, x8, x10, x11, x12, x13, x14, x15, x16, x17, x18, x19, x20, x21, x22, x23, x24, x25, rfl⟩ := hr0
  have od := dr.od
  have lo := few_nz dr.oa
  refine sw_cut (fun r1 S1 => ∃ d xs R sd2 ns2, r1 = [some (.ref sc), some (.ref ta), some (.ref nz), some (one.t), some (other.t), some (.ref po), x6, x7, x8, some (special.t), x10, x11, x12, x13, x14, x15, x16, some (.ref d), x18, x19, x20, x21, x22, x23, x24, x25] ∧ S1 = R ++ ((nz, MO.lst (nmT NZ)) :: (po, MO.lst (nmT (order one))) :: tapeS ta tb sd2 ns2) ∧ (d, MO.dk (nmD xs)) ∈ R ∧ xs.Nodup ∧ xs ⊆ NZ ∧ TapeOk sd2 ns2) ?_ ?_
  · refine s1_set (i := 17) scLaw.nd rfl ?_
    repeat' (walk_at "pt 1")
    intro d1 hd1
    repeat' (walk_at "pt 1")
    refine ⟨.inr (nm "a").s, rfl, fun d2 hd2 => ?_⟩
    repeat' (walk_at "pt 1")
    refine ew_disp (ps := [(_, _), (_, _), (_, _), (_, _)]) (by simp) (by simp) ?_
    simp only [pw2]
    repeat' (walk_at "pt 1")
    refine ⟨.inr (nm "a").s, rfl, ?_⟩
    repeat' (walk_at "pt 1")
    refine ⟨.inr (nm "b").s, rfl, ?_⟩
    repeat' (walk_at "pt 1")
    refine ⟨.inr (nm "p").s, rfl, ?_⟩
    repeat' (walk_at "pt 1")
    refine ⟨.inr (nm "q7").s, rfl, ?_⟩
    repeat' (walk_at "pt 1")
    intro d3 hd3
    repeat' (walk_at "pt 1")
    intro pl hpl
    repeat' (walk_at "pt 1")
    rw [show mergeT [] [((.inr (nm "a").s : Key), T.bl true), (.inr (nm "b").s, .bl true), (.inr (nm "p").s, .bl true), (.inr (nm "q7").s, .bl true)] = nmD NZ from (mergeD NZ []).trans (congrArg nmD (by decide +kernel : nubA [] NZ = NZ))]
    refine ⟨[(pl, .lst [.ref d1, .ref d2, .ref d3]), (d3, .dk (nmD NZ)), (d2, .dk (nmD [nm "a"])), (d1, .dk (nmD [])), (nz, MO.lst (nmT NZ)), (po, MO.lst (nmT (order one)))], tapeS ta tb seed ns, [], [(pl, .lst [.ref d1, .ref d2, .ref d3])], rfl, by simp, by omega, ta, tb, pl, seed, ns, [.ref d1, .ref d2, .ref d3], rfl, rfl, tk, .head _, by simp, by simp, fun t sd2 ns2 ht tk2 => ?_⟩
    simp at ht
    rcases ht with rfl | rfl | rfl
    · exact ⟨d1, [], [(pl, .lst [.ref d1, .ref d2, .ref d3]), (d3, .dk (nmD NZ)), (d2, .dk (nmD [nm "a"])), (d1, .dk (nmD []))], sd2, ns2, rfl, rfl, by simp, by simp, by simp, tk2⟩
    · exact ⟨d2, [nm "a"], [(pl, .lst [.ref d1, .ref d2, .ref d3]), (d3, .dk (nmD NZ)), (d2, .dk (nmD [nm "a"])), (d1, .dk (nmD []))], sd2, ns2, rfl, rfl, by simp, by simp, by simp, tk2⟩
    · exact ⟨d3, NZ, [(pl, .lst [.ref d1, .ref d2, .ref d3]), (d3, .dk (nmD NZ)), (d2, .dk (nmD [nm "a"])), (d1, .dk (nmD []))], sd2, ns2, rfl, rfl, by simp, by decide +kernel, fun _ h => h, tk2⟩
  rintro _ _ ⟨d, xs, R, sd2, ns2, rfl, rfl, hd, ndx, hx, tk2⟩
  have lx : xs.length ≤ 4 := ndx.length_le_of_subset hx
  refine sw_cut (fun r1 S1 => ∃ rn p tt R2, r1 = [some (.ref sc), some (.ref ta), some (.ref nz), some (one.t), some (other.t), some (.ref po), x6, x7, x8, some (special.t), x10, x11, x12, x13, x14, x15, x16, some (.ref d), some ((one.ren rn).t), some (.ref p), x20, x21, x22, x23, x24, x25] ∧ S1 = R2 ++ (R ++ ((nz, MO.lst (nmT NZ)) :: (po, MO.lst (nmT (order one))) :: tapeS ta tb sd2 ns2)) ∧ (p, MO.dk tt) ∈ R2 ∧ Ren xs one rn ∧ tt.map (·.1) = ((order one).filter fun x => decide (x ∈ xs)).map fun x => Sum.inr x.s) ?_ ?_
  · refine s1_two (i := 18) (j := 19) rfl scLaw.nd rfl rfl ?_
    repeat' (walk_at "pt 1")
    exact ⟨[], [], _, [(d, .dk (nmD xs))], rfl, fun p hp => .inr (.inr (by rw [List.mem_singleton.mp hp]; exact List.mem_append.mpr (.inl hd))), by omega, one, d, xs, rfl, rfl, List.mem_singleton_self _, by omega, by omega, ndx, fun rn p S' tt hrn hp ht => ⟨_, _, rfl, rn, p, tt, S', rfl, rfl, hp, hrn, ht⟩⟩
  rintro _ _ ⟨rn, p, tb2, R2, rfl, rfl, hp, ren, htb⟩
  refine sw_cut (fun r1 S1 => ∃ R3, r1 = [some (.ref sc), some (.ref ta), some (.ref nz), some (one.t), some (other.t), some (.ref po), x6, x7, x8, some (special.t), x10, x11, x12, x13, x14, x15, x16, some (.ref d), some ((one.ren rn).t), some (.ref p), x20, x21, x22, x23, x24, x25] ∧ S1 = R3 ++ (R2 ++ (R ++ ((nz, MO.lst (nmT NZ)) :: (po, MO.lst (nmT (order one))) :: tapeS ta tb sd2 ns2)))) ?_ ?_
  · have hd2 : (d, MO.dk (nmD xs)) ∈ R2 ++ (R ++ ((nz, MO.lst (nmT NZ)) :: (po, MO.lst (nmT (order one))) :: tapeS ta tb sd2 ns2)) := List.mem_append.mpr (.inr (List.mem_append.mpr (.inl hd)))
    have hp2 : (p, MO.dk tb2) ∈ R2 ++ (R ++ ((nz, MO.lst (nmT NZ)) :: (po, MO.lst (nmT (order one))) :: tapeS ta tb sd2 ns2)) := List.mem_append.mpr (.inl hp)
    have ho2 : (po, MO.lst (nmT (order one))) ∈ R2 ++ (R ++ ((nz, MO.lst (nmT NZ)) :: (po, MO.lst (nmT (order one))) :: tapeS ta tb sd2 ns2)) := List.mem_append.mpr (.inr (List.mem_append.mpr (.inr (.tail _ (.head _)))))
    generalize R2 ++ (R ++ ((nz, MO.lst (nmT NZ)) :: (po, MO.lst (nmT (order one))) :: tapeS ta tb sd2 ns2)) = SS at hd2 hp2 ho2 ⊢
    have dr1 : (one.ren rn).dep ≤ 4 := by rw [Say.ren, dep_ren]; exact od
    have om : order (one.ren rn) = (order one).map rn := order_map ren.inj
    repeat' (walk_at "pt 1")
    refine fc0 ⟨by omega, one.ren rn, rfl, by omega, by rw [om, List.length_map]; omega, ?_⟩
    repeat' (walk_at "pt 1")
    refine fc0 ⟨by omega, one, rfl, by omega, by omega, ?_⟩
    rw [general_ren ren.inj]
    refine bw_ned hr.units (eqT_self (by rw [general_dep]; omega)) ⟨_, rfl, ?_⟩
    refine ⟨fun h => (by cases h), fun _ => ?_⟩
    repeat' (walk_at "pt 1")
    refine ew_lc (own := [("name", 25)]) (g := gName 25) (up := up1 25) rfl scLaw.nd ?_ (fun s1 H1 C1 cl1 fp1 => pg_name scLaw.nd rfl (.inl rfl)) (tgt1 (by simp)) ?_
    · show BlkOk LN (defScope (top 37)) _ _
      exact ⟨rfl, by decide +kernel, by decide +kernel, by decide +kernel, by decide +kernel⟩
    refine iw_lst ?_
    repeat' (walk_at "pt 1")
    refine ⟨[], [], SS, [], rfl, by simp, one.ren rn, (order one).map rn, rfl, rfl, by omega, fun z hz => by rw [← om]; exact mem_order.mpr hz, by rw [List.length_map]; omega, fun p1 ys nd1 m1 => ?_⟩
    simp only [List.nil_append, List.cons_append]
    have ly : ys.length ≤ 4 := by
      have := nd1.length_le_of_subset (l₂ := (order one).map rn) fun z hz => by rw [← om]; exact mem_order.mpr ((m1 z).mp hz)
      rw [List.length_map] at this
      omega
    refine ⟨p1, _, rfl, .inl (.head _), fun i acc S1 => acc = List.replicate i (T.bl false) ∧ i ≤ ys.length ∧ S1 = (p1, .lst (nmT ys)) :: SS, ⟨rfl, Nat.zero_le _, rfl⟩, ?_, ?_, ?_⟩
    · rintro i acc S1 ⟨_, _, rfl⟩
      exact .inl (.head _)
    · rintro i t acc S2 hu ⟨rfl, _, rfl⟩
      rw [List.getElem?_map] at hu
      obtain ⟨u, hu', rfl⟩ := Option.map_eq_some_iff.mp hu
      have hi := (List.getElem?_eq_some_iff.mp hu').1
      refine ⟨by rw [List.length_replicate]; omega, _, rfl, fun s1 H1 C1 cl1 fp1 => tsw_nil (tst_t rfl fun s2 H2 C2 cl2 fp2 => ?_)⟩
      repeat' (walk_at "pt 1")
      refine bw_inD (kk := .inr u.s) (hu_of hr) (.inl (.tail _ hd2)) ?_
      have nu : u ∉ xs := by
        obtain ⟨y, hy, e⟩ := atoms_ren.mp ((m1 u).mp (List.mem_of_getElem? hu'))
        rw [e]
        exact ren.out y hy
      rw [valT_nmD, if_neg nu]
      exact ⟨by rw [List.replicate_succ']; rfl, hi, rfl⟩
    · rintro acc S2 ⟨rfl, _, rfl⟩ c hc
      rw [List.length_map]
      repeat' (walk_at "pt 1")
      refine cw_any rfl (bs := List.replicate ys.length false) (.inl (by rw [List.map_replicate]; exact .head _)) ?_
      rw [show (List.replicate ys.length false).any id = false from by simp]
      refine ⟨_, rfl, fun h => (by cases h), fun _ => ?_⟩
      repeat' (walk_at "pt 1")
      refine cw_sortD (ks := ((order one).filter fun x => decide (x ∈ xs)).map (·.s)) rfl (.inl (.tail _ (.tail _ hp2))) (by rw [htb, List.map_map]; rfl) (by have := List.length_filter_le (fun x => decide (x ∈ xs)) (order one); rw [List.length_map]; omega) fun ws qz hp1 hs1 hq1 => ?_
      repeat' (walk_at "pt 1")
      refine ew_lc (own := [("name", 25)]) (g := gName 25) (up := up1 25) rfl scLaw.nd ?_ (fun s1 H1 C1 cl1 fp1 => pg_name scLaw.nd rfl (.inl rfl)) (tgt1 (by simp)) ?_
      · show BlkOk LN (defScope (top 37)) _ _
        exact ⟨rfl, by decide +kernel, by decide +kernel, by decide +kernel, by decide +kernel⟩
      refine iw_lst ?_
      repeat' (walk_at "pt 1")
      refine ⟨po, _, rfl, .inl (.tail _ (.tail _ (.tail _ ho2))), fun i acc S1 => acc = nmT (((order one).take i).filter fun x => decide (x ∈ xs)) ∧ S1 = (qz, .lst (ws.map T.str)) :: (c, .lst (List.replicate ys.length (T.bl false))) :: (p1, .lst (nmT ys)) :: SS, ⟨rfl, rfl⟩, ?_, ?_, ?_⟩
      · rintro i acc S1 ⟨_, rfl⟩
        exact .inl (.tail _ (.tail _ (.tail _ ho2)))
      · rintro i t acc S2 hu ⟨rfl, rfl⟩
        rw [List.getElem?_map] at hu
        obtain ⟨u, hu', rfl⟩ := Option.map_eq_some_iff.mp hu
        refine ⟨?_, _, rfl, fun s1 H1 C1 cl1 fp1 => tsw_one ?_⟩
        · have := List.length_filter_le (fun x => decide (x ∈ xs)) ((order one).take i)
          rw [List.length_map]
          rw [List.length_take] at this
          omega
        repeat' (walk_at "pt 1")
        refine bw_inD (kk := .inr u.s) (hu_of hr) (.inl (.tail _ (.tail _ (.tail _ hd2)))) ?_
        rw [valT_nmD]
        have htk := take_filter (xs := xs) hu'
        by_cases hm : u ∈ xs
        · rw [if_pos hm]
          rw [if_pos hm] at htk
          refine ⟨_, rfl, tst_t rfl ?_⟩
          intro s2 H2 C2 cl2 fp2
          repeat' (walk_at "pt 1")
          refine ⟨?_, rfl⟩
          rw [htk, nmT, nmT, List.map_append]
          rfl
        · rw [if_neg hm]
          rw [if_neg hm, List.append_nil] at htk
          refine ⟨_, rfl, tst_f rfl ?_⟩
          exact ⟨by rw [htk], rfl⟩
      · rintro acc S2 ⟨rfl, rfl⟩ c2 hc2
        rw [List.length_map, List.take_length]
        repeat' (walk_at "pt 1")
        refine cw_sortS (xs := ((order one).filter fun x => decide (x ∈ xs)).map (·.s)) (.inl (by rw [List.map_map]; exact .head _)) (by have := List.length_filter_le (fun x => decide (x ∈ xs)) (order one); rw [List.length_map]; omega) fun ws2 qz2 hp2' hs2 hq2 => ?_
        have e : ws = ws2 := sorted_eq hs1 hs2 (hp1.trans hp2'.symm)
        have lay : ∀ x ∈ ws, (PyData.str x).canLay0 = true := fun x hx => by
          obtain ⟨y, _, rfl⟩ := List.mem_map.mp (hp1.mem_iff.mp hx)
          exact y.ok
        refine bw_neL hr.units (.inl (.tail _ (.tail _ (.head _)))) (.inl (.head _)) (eqL_strs lay (by rw [← e]; exact lay)) ?_
        rw [e]
        simp only [decide_true, Bool.not_true]
        repeat' (walk_at "pt 1")
        exact ⟨[_, _, _, _, _], rfl, rfl⟩
  rintro _ _ ⟨R3, rfl, rfl⟩
  refine sw_drop (.trans (.trans (List.sublist_append_right _ _) (List.sublist_append_right _ _)) (List.sublist_append_right _ _)) ?_
  exact law8 M C hn a hr F k q sc ta tb nz po tk2 dr sp _ ⟨_, _, _, _, _, _, _, _, _, _, _, _, _, _, _, _, _, _, _, rfl⟩
theorem p_fact {s : Say} : decide (nm "p" ∈ (s.sub (ρ1 (nm "q7") (.atom (nm "p")))).atoms) = (decide (nm "p" ∈ order s) || decide (nm "q7" ∈ order s)) := by
  rw [Bool.eq_iff_iff, Bool.or_eq_true, decide_eq_true_eq, decide_eq_true_eq, decide_eq_true_eq, ρ1_at, atoms_sub, mem_order, mem_order]
  constructor
  · rintro ⟨y, hy, h⟩
    by_cases e : y = nm "q7"
    · rw [e] at hy; exact .inr hy
    · rw [if_neg e] at h
      simp [Say.atoms] at h
      rw [h]; exact .inl hy
  · rintro (h | h)
    · exact ⟨_, h, by rw [if_neg (by decide +kernel)]; simp [Say.atoms]⟩
    · exact ⟨_, h, by rw [if_pos rfl]; simp [Say.atoms]⟩
abbrev VW : List Nm := NZ ++ [nm "w", nm "z"]
theorem small_vw : Small VW 5 := by unfold Small; decide
theorem small_nz : Small NZ 5 := by unfold Small; decide
theorem small_nz4 : Small NZ 4 := by unfold Small; decide
theorem bin_fit {V : List Nm} {one other : Say} (h1 : one.dep ≤ 4) (h2 : other.dep ≤ 4) (a1 : one.atoms ⊆ V) (a2 : other.atoms ⊆ V) : Fits V 5 (.bin .thn one other) := ⟨by simp only [Say.dep]; omega, fun z hz => (List.mem_append.mp hz).elim (fun h => a1 h) fun h => a2 h⟩
theorem res_ok {V : List Nm} {d : Nat} {g : Tab} {ρ : Nm → Say} (h : Good V d g ρ) (hs : Small V d) (hd : d ≤ 60) {s : Say} (hf : s.dep ≤ d) : ResOk 100 s g ρ := by
  obtain ⟨N, l1, l2⟩ := h.lv
  refine ⟨h.tri, ⟨N, l1, ?_⟩, Nat.le_trans hf hd, fun p hp => Nat.le_trans (h.dep p hp) hd⟩
  have := l2 s
  unfold Small at hs
  omega
theorem law6 (M : Mg mg) (C : All P w K mg base n) (hn : 229 ≤ n) (a : BA) (hr : Room n (bx P w K mg base LN "law" (top 37) a).A) (F : Sto) (k : T → Sto → Prop) (q : ∀ S', k (.bl true) S') (sc ta tb nz po : Addr) {one other : Say} {seed : Int} {ns : List Int} (tk : TapeOk seed ns) (dr : Drawn one other) {special : Say} (sp : Special one special) (SS : Sto) (sub : List.Sublist ((nz, MO.lst (nmT NZ)) :: (po, MO.lst (nmT (order one))) :: tapeS ta tb seed ns) SS) (ho : (po, MO.lst (nmT (order one))) ∈ SS) (tv : T) (ht : MM NZ 4 (fun θ => one.sub θ = other.sub θ) SS tv) (r : Rho) (hr0 : ∃ x6 x7 x8 x11 x12 x13 x14 x15 x16 x17 x18 x19 x20 x21 x22 x23 x24 x25, r = [some (.ref sc), some (.ref ta), some (.ref nz), some (one.t), some (other.t), some (.ref po), x6, x7, x8, some (special.t), some (tv), x11, x12, x13, x14, x15, x16, x17, x18, x19, x20, x21, x22, x23, x24, x25]) :
    sw F (bx P w K mg base LN "law" (top 37) a) ((defBody (top 37)).drop 15) r SS { nx := fun _ S' => k .non S', rt := k } := by
  obtain ⟨x6, x7, x8, x11, x12, x13, x14, x15, x16, x17, x18, x19, x20, x21, x22, x23, x24, x25, rfl⟩ := hr0
  have od := dr.od
  have ud := dr.ud
  have lo := few_nz dr.oa
  have oV : one.atoms ⊆ VW := fun z hz => List.mem_append.mpr (.inl (dr.oa hz))
  have uV : other.atoms ⊆ VW := fun z hz => List.mem_append.mpr (.inl (dr.ua hz))
  have nz_z : nm "z" ∉ NZ := by decide +kernel
  have nz_w : nm "w" ∉ NZ := by decide +kernel
  have gw : Good VW 5 [(nm "w", .atom (nm "z"))] (ρ1 (nm "w") (.atom (nm "z"))) := good_one (by simp) ⟨by decide, by simp [Say.atoms]⟩ (by decide +kernel)
  have fz : Fits VW 5 (.atom (nm "z")) := ⟨by decide, by simp [Say.atoms]⟩
  refine sw_cut (fun r1 S1 => ∃ mv R, r1 = [some (.ref sc), some (.ref ta), some (.ref nz), some (one.t), some (other.t), some (.ref po), x6, x7, x8, some (special.t), some (tv), x11, x12, x13, x14, x15, some (mv), x17, x18, x19, x20, x21, x22, x23, x24, x25] ∧ S1 = R ++ SS ∧ MM VW 5 (fun θ => Sat θ [(nm "w", .atom (nm "z"))] ∧ Sol θ [(one, other), (.atom (nm "z"), .bin .thn one other)]) S1 mv) ?_ ?_
  · refine s1_set (i := 16) scLaw.nd rfl ?_
    repeat' (walk_at "pt 1")
    intro pl hpl
    repeat' (walk_at "pt 1")
    refine ⟨.inr (nm "w").s, rfl, fun pd hpd => ?_⟩
    repeat' (walk_at "pt 1")
    refine ⟨[], [], _, [(pd, .dk (Tab.t [(nm "w", .atom (nm "z"))])), (pl, .lst ([(one, other), (.atom (nm "z"), .bin .thn one other)].map pairS))], rfl, ?_, by omega, pl, pd, [(one, other), (.atom (nm "z"), .bin .thn one other)], _, _, VW, 5, rfl, rfl, .tail _ (.head _), .head _, gw, small_vw, by omega, ?_, by simp, fun rr hrr => ?_⟩
    · intro p hp
      simp at hp
      rcases hp with rfl | rfl
      · exact .inr (.inr (.head _))
      · exact .inr (.inr (.tail _ (.head _)))
    · intro p hp
      simp at hp
      rcases hp with rfl | rfl
      · exact ⟨⟨by show one.dep ≤ 5; omega, oV⟩, ⟨by show other.dep ≤ 5; omega, uV⟩⟩
      · exact ⟨fz, bin_fit od ud oV uV⟩
    cases rr with
    | none =>
      intro S'
      exact ⟨_, S' ++ [_, _], rfl, by rw [List.append_assoc]; rfl, .inl ⟨rfl, hrr⟩⟩
    | some g =>
      intro p S' hp
      obtain ⟨ρ, good, sat⟩ := hrr
      exact ⟨_, S' ++ [_, _], rfl, by rw [List.append_assoc]; rfl, .inr ⟨p, g, ρ, rfl, by simp [hp], good, sat⟩⟩
  rintro _ _ ⟨mv, R, rfl, rfl, hmv⟩
  refine sw_cut (fun r1 S1 => r1 = [some (.ref sc), some (.ref ta), some (.ref nz), some (one.t), some (other.t), some (.ref po), x6, x7, x8, some (special.t), some (tv), x11, x12, x13, x14, x15, some (mv), x17, x18, x19, x20, x21, x22, x23, x24, x25] ∧ S1 = R ++ SS) ?_ ?_
  · rcases ht with ⟨rfl, no1⟩ | ⟨p1, g1, ρ1', rfl, hp1, good1, sat1⟩ <;> rcases hmv with ⟨rfl, no2⟩ | ⟨p2, g2, ρ2, rfl, hp2, good2, sat2⟩
    · repeat' (walk_at "pt 1")
      exact ⟨rfl, rfl⟩
    · have w := (sat2 ρ2).mp (tri_sat good2.tri)
      exact absurd (w.2 (one, other) (by simp)) (no1 ρ2)
    · obtain ⟨θ, h1, h2⟩ := more_none (a := one) (b := other) (w := nm "w") (z := nm "z") (ρ := ρ1') ⟨fun h => nz_z (dr.oa h), fun h => nz_z (dr.ua h)⟩ ⟨fun h => nz_w (dr.oa h), fun h => nz_w (dr.ua h)⟩ ((sat1 ρ1').mp (tri_sat good1.tri))
      exact absurd ⟨h1, h2⟩ (no2 θ)
    · have w := (sat2 ρ2).mp (tri_sat good2.tri)
      have same : (Say.atom (nm "w")).sub ρ2 = (Say.bin .thn one other).sub ρ2 := (w.1 (nm "w", .atom (nm "z")) (by simp)).trans (w.2 (.atom (nm "z"), .bin .thn one other) (by simp))
      have dw := dep_res good2.tri good2.dep (.atom (nm "w"))
      have lw := good2.len
      have d5 := Nat.mul_le_mul_right 5 lw
      repeat' (walk_at "pt 1")
      refine ⟨fun h => (by simp [T.sEq, T.isN] at h), fun _ => ?_⟩
      repeat' (walk_at "pt 1")
      refine ⟨fun _ => ?_, fun h => (by simp [T.isN] at h)⟩
      repeat' (walk_at "pt 1")
      refine fc1 (p2, .dk (Tab.t g2)) (.inl hp2) ⟨.atom (nm "w"), p2, g2, ρ2, 100, rfl, List.mem_singleton_self _, res_ok good2 small_vw (by decide) (by decide), by omega, ?_⟩
      repeat' (walk_at "pt 1")
      refine fc1 (p2, .dk (Tab.t g2)) (.inl hp2) ⟨.bin .thn one other, p2, g2, ρ2, 100, rfl, List.mem_singleton_self _, res_ok good2 small_vw (by decide) (bin_fit od ud oV uV).1, by omega, ?_⟩
      rw [← same]
      refine bw_ned hr.units (eqT_self (Nat.le_trans dw (by simp only [Say.dep]; simp at d5; omega))) ⟨_, rfl, ?_⟩
      repeat' (walk_at "pt 1")
      exact ⟨rfl, rfl⟩
  rintro _ S2 ⟨rfl, e⟩
  rw [e]
  clear e
  refine sw_cut (fun r1 S1 => ∃ R2, r1 = [some (.ref sc), some (.ref ta), some (.ref nz), some (one.t), some (other.t), some (.ref po), x6, x7, x8, some (special.t), some (tv), x11, x12, x13, x14, x15, some (mv), x17, x18, x19, x20, x21, x22, x23, x24, x25] ∧ S1 = R2 ++ (R ++ SS)) ?_ ?_
  · generalize hS : R ++ SS = S3
    have ho3 : (po, MO.lst (nmT (order one))) ∈ S3 := by rw [← hS]; exact List.mem_append.mpr (.inr ho)
    repeat' (walk_at "pt 1")
    intro pl hpl
    repeat' (walk_at "pt 1")
    intro pd hpd
    repeat' (walk_at "pt 1")
    refine ⟨[], [], _, [(pd, .dk (Tab.t [])), (pl, .lst ([(.atom (nm "a"), .bin .thn (.atom (nm "a")) other)].map pairS))], rfl, ?_, by omega, pl, pd, [(.atom (nm "a"), .bin .thn (.atom (nm "a")) other)], [], .atom, NZ, 5, rfl, rfl, .tail _ (.head _), .head _, good_nil, small_nz, by omega, ?_, by simp, fun rr hrr => ?_⟩
    · intro p hp
      simp at hp
      rcases hp with rfl | rfl
      · exact .inr (.inr (.head _))
      · exact .inr (.inr (.tail _ (.head _)))
    · intro p hp
      simp at hp
      rw [hp]
      exact ⟨⟨by show (1:Nat) ≤ 5; decide, by simp [Say.atoms]⟩, bin_fit (by decide) ud (by simp [Say.atoms]) dr.ua⟩
    replace hrr := hrr.iff fun θ => sol_nil
    cases rr with
    | some g =>
      obtain ⟨ρ, good, sat⟩ := hrr
      exact absurd ((sat ρ).mp (tri_sat good.tri)) (self_none ρ)
    | none =>
    intro S'
    repeat' (walk_at "pt 1")
    refine ⟨.inr (nm "q7").s, rfl, fun pq hpq => ?_⟩
    repeat' (walk_at "pt 1")
    have gq : Good NZ 5 [(nm "q7", .atom (nm "p"))] (ρ1 (nm "q7") (.atom (nm "p"))) := good_one (by simp) ⟨by decide, by simp [Say.atoms]⟩ (by decide +kernel)
    refine fc1 (pq, .dk (Tab.t [(nm "q7", .atom (nm "p"))])) (.inl (.head _)) ⟨by omega, nm "p", one, pq, _, _, rfl, List.mem_singleton_self _, res_ok gq small_nz (by decide) (by omega), by decide +kernel, ?_⟩
    repeat' (walk_at "pt 1")
    refine bw_inL (xs := nmT (order one)) (.inl (by simp [ho3])) rfl (clr_nm (nm "p") _) ?_
    rw [show T.inT (.str "p") (nmT (order one)) = decide (nm "p" ∈ order one) from inT_nm (nm "p") _, p_fact]
    refine ⟨_, rfl, fun hb => ?_, fun hb => ?_⟩
    · rw [hb]
      repeat' (walk_at "pt 1")
      refine ⟨fun h => (by simp [T.sEq] at h), fun _ => ?_⟩
      repeat' (walk_at "pt 1")
      exact ⟨_ :: (S' ++ [_, _]), rfl, by rw [List.cons_append, List.append_assoc]; rfl⟩
    · rw [hb]
      repeat' (walk_at "pt 1")
      refine bw_inL (xs := nmT (order one)) (.inl (by simp [ho3])) rfl (clr_nm (nm "q7") _) ?_
      rw [show T.inT (.str "q7") (nmT (order one)) = decide (nm "q7" ∈ order one) from inT_nm (nm "q7") _]
      repeat' (walk_at "pt 1")
      refine ⟨fun h => (by simp [T.sEq] at h), fun _ => ?_⟩
      repeat' (walk_at "pt 1")
      exact ⟨_ :: (S' ++ [_, _]), rfl, by rw [List.cons_append, List.append_assoc]; rfl⟩
  rintro _ _ ⟨R2, rfl, rfl⟩
  refine sw_drop (.trans sub (.trans (List.sublist_append_right _ _) (List.sublist_append_right _ _))) ?_
  exact law7 M C hn a hr F k q sc ta tb nz po tk dr sp _ ⟨_, _, _, _, _, _, _, _, _, _, _, _, _, _, _, _, _, _, _, rfl⟩
theorem put_both {D : Tab} {ρ : Nm → Say} {s : Say} (h : s.atoms ⊆ NZ) : s.put (NZ.map fun x => (x, Say.put D (ρ x))) = (s.sub ρ).put D := by
  unfold Say.put
  rw [sub_sub]
  apply sub_congr
  intro x hx
  have nd : (dom (NZ.map fun x => (x, Say.put D (ρ x)))).Nodup := by
    rw [dom, List.map_map]
    show (NZ.map id).Nodup
    rw [List.map_id]
    decide +kernel
  have m : (x, Say.put D (ρ x)) ∈ NZ.map fun x => (x, Say.put D (ρ x)) := List.mem_map_of_mem (f := fun x => (x, Say.put D (ρ x))) (h hx)
  have := Tab.get_of nd m
  unfold Say.put at this
  rw [this]
  rfl
theorem put_dep2 {D : Tab} (h : ∀ p ∈ D, p.2.dep ≤ 2) (s : Say) : (s.put D).dep ≤ s.dep + 1 := by
  unfold Say.put
  refine dep_sub fun x _ => ?_
  cases e : D.get x with
  | none => exact Nat.le_succ _
  | some t => exact h _ (Tab.get_mem e)
theorem res_ok2 {V : List Nm} {d : Nat} {g : Tab} {ρ : Nm → Say} (h : Good V d g ρ) {s : Say} (hb : s.dep + V.length * d + V.length ≤ 100) (hd : d ≤ 60) (hf : s.dep ≤ 60) : ResOk 100 s g ρ := by
  obtain ⟨N, l1, l2⟩ := h.lv
  exact ⟨h.tri, ⟨N, l1, Nat.le_trans (l2 s) hb⟩, hf, fun p hp => Nat.le_trans (h.dep p hp) hd⟩
theorem law5 (M : Mg mg) (C : All P w K mg base n) (hn : 229 ≤ n) (a : BA) (hr : Room n (bx P w K mg base LN "law" (top 37) a).A) (F : Sto) (k : T → Sto → Prop) (q : ∀ S', k (.bl true) S') (sc ta tb nz po : Addr) {one other : Say} {seed : Int} {ns : List Int} (tk : TapeOk seed ns) (dr : Drawn one other) {special : Say} (sp : Special one special) (r : Rho) (hr0 : ∃ x6 x7 x8 x10 x11 x12 x13 x14 x15 x16 x17 x18 x19 x20 x21 x22 x23 x24 x25, r = [some (.ref sc), some (.ref ta), some (.ref nz), some (one.t), some (other.t), some (.ref po), x6, x7, x8, some (special.t), x10, x11, x12, x13, x14, x15, x16, x17, x18, x19, x20, x21, x22, x23, x24, x25]) :
    sw F (bx P w K mg base LN "law" (top 37) a) ((defBody (top 37)).drop 12) r ((nz, MO.lst (nmT NZ)) :: (po, MO.lst (nmT (order one))) :: tapeS ta tb seed ns) { nx := fun _ S' => k .non S', rt := k } := by
  obtain ⟨x6, x7, x8, x10, x11, x12, x13, x14, x15, x16, x17, x18, x19, x20, x21, x22, x23, x24, x25, rfl⟩ := hr0
  have od := dr.od
  have ud := dr.ud
  have lo := few_nz dr.oa
  have fo : Fits NZ 4 one := ⟨od, dr.oa⟩
  have fu : Fits NZ 4 other := ⟨ud, dr.ua⟩
  refine sw_cut (fun r1 S1 => ∃ tv mv R, r1 = [some (.ref sc), some (.ref ta), some (.ref nz), some (one.t), some (other.t), some (.ref po), x6, x7, x8, some (special.t), some (tv), some (mv), x12, x13, x14, x15, x16, x17, x18, x19, x20, x21, x22, x23, x24, x25] ∧ S1 = R ++ ((nz, MO.lst (nmT NZ)) :: (po, MO.lst (nmT (order one))) :: tapeS ta tb seed ns) ∧ MM NZ 4 (fun θ => one.sub θ = other.sub θ) S1 tv ∧ MM NZ 4 (fun θ => one.sub θ = other.sub θ) S1 mv) ?_ ?_
  · refine s1_two (i := 10) (j := 11) rfl scLaw.nd rfl rfl ?_
    repeat' (walk_at "pt 1")
    intro pl hpl
    repeat' (walk_at "pt 1")
    intro pd hpd
    repeat' (walk_at "pt 1")
    refine ⟨[], [], _, [(pd, .dk (Tab.t [])), (pl, .lst ([(one, other)].map pairS))], rfl, ?_, by omega, pl, pd, [(one, other)], [], .atom, NZ, 4, rfl, rfl, .tail _ (.head _), .head _, good_nil, small_nz4, by omega, ?_, by simp, fun rr hrr => ?_⟩
    · intro p hp
      simp at hp
      rcases hp with rfl | rfl
      · exact .inr (.inr (.head _))
      · exact .inr (.inr (.tail _ (.head _)))
    · intro p hp
      simp at hp
      rw [hp]
      exact ⟨fo, fu⟩
    replace hrr := hrr.iff fun θ => sol_nil
    obtain ⟨cc, hcc⟩ := clashF_ends small_nz4 _ one other [] .atom good_nil fo fu (deep_all fo.1)
    have j := (clashF_ok small_nz4 _ _ _ [] .atom cc good_nil fo fu hcc).iff fun θ => ⟨fun h => h.2, fun h => ⟨sat_nil, h⟩⟩
    have rest : ∀ (tv : T) (S' : Sto), MM NZ 4 (fun θ => one.sub θ = other.sub θ) S' tv → True := fun _ _ _ => trivial
    cases rr with
    | none =>
      intro S'
      repeat' (walk_at "pt 1")
      intro pe hpe
      repeat' (walk_at "pt 1")
      refine ⟨[], [(pe, .dk (Tab.t []))], _, [], rfl, by simp, one, other, pe, [], .atom, NZ, 4, _, cc, rfl, rfl, good_nil, small_nz4, by omega, by decide, fo, fu, by simp; omega, hcc, ?_⟩
      cases cc with
      | none =>
        intro S2
        repeat' (walk_at "pt 1")
        exact ⟨_, _, rfl, _, _, S2 ++ (S' ++ [_, _]), rfl, by rw [List.append_assoc, List.append_assoc]; rfl, .inl ⟨rfl, hrr⟩, .inl ⟨rfl, j⟩⟩
      | some g =>
        obtain ⟨ρ, good, sat⟩ := j
        exact absurd ((sat ρ).mp (tri_sat good.tri)) (hrr ρ)
    | some g =>
      intro p S' hp
      obtain ⟨ρ, good, sat⟩ := hrr
      repeat' (walk_at "pt 1")
      intro pe hpe
      repeat' (walk_at "pt 1")
      refine ⟨[], [(pe, .dk (Tab.t []))], _, [], rfl, by simp, one, other, pe, [], .atom, NZ, 4, _, cc, rfl, rfl, good_nil, small_nz4, by omega, by decide, fo, fu, by simp; omega, hcc, ?_⟩
      cases cc with
      | none => exact absurd ((sat ρ).mp (tri_sat good.tri)) (j ρ)
      | some g2 =>
        obtain ⟨ρ2, good2, sat2⟩ := j
        intro p2 S2 hp2
        repeat' (walk_at "pt 1")
        exact ⟨_, _, rfl, _, _, S2 ++ (S' ++ [_, _]), rfl, by rw [List.append_assoc, List.append_assoc]; rfl, .inr ⟨p, g, ρ, rfl, by simp [hp], good, sat⟩, .inr ⟨p2, g2, ρ2, rfl, by simp [hp2], good2, sat2⟩⟩
  rintro _ _ ⟨tv, mv, R, rfl, rfl, htv, hmv⟩
  refine sw_cut (fun r1 S1 => r1 = [some (.ref sc), some (.ref ta), some (.ref nz), some (one.t), some (other.t), some (.ref po), x6, x7, x8, some (special.t), some (tv), some (mv), x12, x13, x14, x15, x16, x17, x18, x19, x20, x21, x22, x23, x24, x25] ∧ S1 = R ++ ((nz, MO.lst (nmT NZ)) :: (po, MO.lst (nmT (order one))) :: tapeS ta tb seed ns)) ?_ ?_
  · rcases htv with ⟨rfl, no1⟩ | ⟨p1, g1, ρ1', rfl, hp1, good1, sat1⟩ <;> rcases hmv with ⟨rfl, no2⟩ | ⟨p2, g2, ρ2, rfl, hp2, good2, sat2⟩
    · repeat' (walk_at "pt 1")
      exact ⟨rfl, rfl⟩
    · exact absurd ((sat2 ρ2).mp (tri_sat good2.tri)) (no1 ρ2)
    · exact absurd ((sat1 ρ1').mp (tri_sat good1.tri)) (no2 ρ1')
    · repeat' (walk_at "pt 1")
      refine ⟨fun h => (by simp [T.sEq, T.isN] at h), fun _ => ?_⟩
      repeat' (walk_at "pt 1")
      exact ⟨rfl, rfl⟩
  rintro _ S2 ⟨rfl, e⟩
  rw [e]
  clear e
  refine sw_cut (fun r1 S1 => ∃ y12 y13 y14 y15 y24 y25 R2 sd2 ns2, r1 = [some (.ref sc), some (.ref ta), some (.ref nz), some (one.t), some (other.t), some (.ref po), x6, x7, x8, some (special.t), some (tv), some (mv), y12, y13, y14, y15, x16, x17, x18, x19, x20, x21, x22, x23, y24, y25] ∧ S1 = R2 ++ ((nz, MO.lst (nmT NZ)) :: (po, MO.lst (nmT (order one))) :: tapeS ta tb sd2 ns2) ∧ TapeOk sd2 ns2 ∧ MM NZ 4 (fun θ => one.sub θ = other.sub θ) S1 tv) ?_ ?_
  · rcases htv with ⟨rfl, no1⟩ | ⟨p1, g1, ρ1', rfl, hp1, good1, sat1⟩ <;> rcases hmv with ⟨rfl, no2⟩ | ⟨p2, g2, ρ2, rfl, hp2, good2, sat2⟩
    · repeat' (walk_at "pt 1")
      exact ⟨_, _, _, _, _, _, R, seed, ns, rfl, rfl, tk, .inl ⟨rfl, no1⟩⟩
    · exact absurd ((sat2 ρ2).mp (tri_sat good2.tri)) (no1 ρ2)
    · exact absurd ((sat1 ρ1').mp (tri_sat good1.tri)) (no2 ρ1')
    have m1 := good1.mgu sat1
    have m2 := good2.mgu sat2
    have sol := m1.sol
    have dw := dep_res good1.tri good1.dep one
    have lg := Nat.mul_le_mul_right 4 good1.len
    have aw : (one.sub ρ1').atoms ⊆ NZ := good1.names dr.oa
    have lw := few_nz aw
    have dw2 := dep_res good2.tri good2.dep one
    have lg2 := Nat.mul_le_mul_right 4 good2.len
    have lw2 := few_nz (good2.names dr.oa)
    simp only [List.length_cons, List.length_nil] at lg lg2
    repeat' (walk_at "pt 1")
    refine ⟨fun _ => ?_, fun h => (by simp [T.isN] at h)⟩
    refine sw_cut (fun r1 S1 => r1 = [some (.ref sc), some (.ref ta), some (.ref nz), some (one.t), some (other.t), some (.ref po), x6, x7, x8, some (special.t), some (.ref p1), some (.ref p2), some ((one.sub ρ1').t), x13, x14, x15, x16, x17, x18, x19, x20, x21, x22, x23, x24, x25] ∧ S1 = R ++ ((nz, MO.lst (nmT NZ)) :: (po, MO.lst (nmT (order one))) :: tapeS ta tb seed ns)) ?_ ?_
    · refine s1_set (i := 12) scLaw.nd rfl ?_
      repeat' (walk_at "pt 1")
      exact fc1 (p1, .dk (Tab.t g1)) (.inl hp1) ⟨one, p1, g1, ρ1', 100, rfl, List.mem_singleton_self _, res_ok good1 small_nz4 (by decide) od, by omega, rfl, rfl⟩
    rintro _ S2 ⟨rfl, e⟩
    rw [e]
    clear e
    refine sw_cut (fun r1 S1 => r1 = [some (.ref sc), some (.ref ta), some (.ref nz), some (one.t), some (other.t), some (.ref po), x6, x7, x8, some (special.t), some (.ref p1), some (.ref p2), some ((one.sub ρ1').t), x13, x14, x15, x16, x17, x18, x19, x20, x21, x22, x23, x24, x25] ∧ S1 = R ++ ((nz, MO.lst (nmT NZ)) :: (po, MO.lst (nmT (order one))) :: tapeS ta tb seed ns)) ?_ ?_
    · repeat' (walk_at "pt 1")
      refine fc1 (p1, .dk (Tab.t g1)) (.inl hp1) ⟨other, p1, g1, ρ1', 100, rfl, List.mem_singleton_self _, res_ok good1 small_nz4 (by decide) ud, by omega, ?_⟩
      rw [← sol]
      refine bw_ned hr.units (eqT_self (by omega)) ⟨_, rfl, ?_⟩
      refine ⟨fun h => (by cases h), fun _ => ?_⟩
      repeat' (walk_at "pt 1")
      refine fc0 ⟨by omega, one.sub ρ1', rfl, by omega, by omega, ?_⟩
      repeat' (walk_at "pt 1")
      refine fc1 (p2, .dk (Tab.t g2)) (.inl hp2) ⟨one, p2, g2, ρ2, 100, rfl, List.mem_singleton_self _, res_ok good2 small_nz4 (by decide) od, by omega, ?_⟩
      repeat' (walk_at "pt 1")
      refine fc0 ⟨by omega, one.sub ρ2, rfl, by omega, by omega, ?_⟩
      rw [mgu_alike m1 m2 one]
      refine bw_ned hr.units (eqT_self (by rw [general_dep]; omega)) ⟨_, rfl, ?_⟩
      refine ⟨fun h => (by cases h), fun _ => ?_⟩
      repeat' (walk_at "pt 1")
      refine fc1 (p1, .dk (Tab.t g1)) (.inl hp1) ⟨one.sub ρ1', p1, g1, ρ1', 100, rfl, List.mem_singleton_self _, res_ok2 good1 (by simp; omega) (by decide) (by omega), by omega, ?_⟩
      rw [tri_idem good1.tri]
      repeat' (walk_at "pt 1")
      refine bw_ned hr.units (eqT_self (by omega)) ⟨_, rfl, ?_⟩
      repeat' (walk_at "pt 1")
      exact ⟨rfl, rfl⟩
    rintro _ S2 ⟨rfl, e⟩
    rw [e]
    clear e
    refine sw_cut (fun r1 S1 => ∃ R3, r1 = [some (.ref sc), some (.ref ta), some (.ref nz), some (one.t), some (other.t), some (.ref po), x6, x7, x8, some (special.t), some (.ref p1), some (.ref p2), some ((one.sub ρ1').t), x13, x14, x15, x16, x17, x18, x19, x20, x21, x22, x23, x24, x25] ∧ S1 = R3 ++ ((nz, MO.lst (nmT NZ)) :: (po, MO.lst (nmT (order one))) :: tapeS ta tb seed ns) ∧ (p1, MO.dk (Tab.t g1)) ∈ R3) ?_ ?_
    · have hpR : (p1, MO.dk (Tab.t g1)) ∈ R := by
        rcases List.mem_append.mp hp1 with h | h
        · exact h
        · simp [tapeS] at h
      obtain ⟨Sa, Sb0, rfl⟩ := List.append_of_mem hpR
      obtain ⟨Sb, hSb⟩ : ∃ Sb, Sb = Sb0 ++ ((nz, MO.lst (nmT NZ)) :: (po, MO.lst (nmT (order one))) :: tapeS ta tb seed ns) := ⟨_, rfl⟩
      rw [show (Sa ++ (p1, MO.dk (Tab.t g1)) :: Sb0) ++ ((nz, MO.lst (nmT NZ)) :: (po, MO.lst (nmT (order one))) :: tapeS ta tb seed ns) = Sa ++ (p1, MO.dk (Tab.t g1)) :: Sb from by rw [hSb]; simp]
      repeat' (walk_at "pt 1")
      refine ew_lock (d := p1) (kvs := Tab.t g1) (Sa := Sa) (Sb := Sb) rfl fun od vs => ?_
      refine ew_lc (own := [("name", 25)]) (g := gName 25) (up := up1 25) rfl scLaw.nd ?_ (fun s1 H1 C1 cl1 fp1 => pg_name scLaw.nd rfl (.inl rfl)) (tgt1 (by simp)) ?_
      · show BlkOk LN (defScope (top 37)) _ _
        exact ⟨rfl, by decide +kernel, by decide +kernel, by decide +kernel, by decide +kernel⟩
      refine iw_keys ?_
      repeat' (walk_at "pt 1")
      refine ⟨p1, od, vs, Tab.t g1, rfl, .inr (.head _), ?_⟩
      refine ⟨fun i acc S1 => acc = List.replicate i (T.bl false) ∧ i ≤ g1.length ∧ ∃ R3, S1 = R3 ++ (Sa ++ Sb), ⟨rfl, Nat.zero_le _, [], rfl⟩, fun i acc S1 _ => .inr (.head _), ?_, ?_⟩
      · rintro i t acc S2 hu ⟨rfl, _, R3, rfl⟩
        unfold Tab.t at hu
        rw [List.getElem?_map, List.getElem?_map] at hu
        obtain ⟨kv, hkv, rfl⟩ := Option.map_eq_some_iff.mp hu
        obtain ⟨pr, hpr, rfl⟩ := Option.map_eq_some_iff.mp hkv
        have hi := (List.getElem?_eq_some_iff.mp hpr).1
        have hm := List.mem_of_getElem? hpr
        have du := dep_res good1.tri good1.dep (.atom pr.1)
        simp only [Say.dep] at du
        refine ⟨by rw [List.length_replicate]; omega, _, rfl, fun s1 H1 C1 cl1 fp1 => tsw_nil (tst_t rfl fun s2 H2 C2 cl2 fp2 => ?_)⟩
        repeat' (walk_at "pt 1")
        refine fc1 (p1, .dk (Tab.t g1)) (.inr (.tail _ (.head _))) ⟨.atom pr.1, p1, g1, ρ1', 100, rfl, List.mem_singleton_self _, res_ok good1 small_nz4 (by decide) (by show (1:Nat) ≤ 4; decide), by omega, ?_⟩
        repeat' (walk_at "pt 1")
        refine ⟨[], [], _, [], rfl, by simp, (Say.atom pr.1).sub ρ1', NZ, rfl, rfl, by omega, good1.names (by simp only [Say.atoms]; exact fun z hz => by rw [List.mem_singleton.mp hz]; exact good1.dom (List.mem_map_of_mem (f := (·.1)) hm)), by decide, fun pa ys nda ma => ?_⟩
        repeat' (walk_at "pt 1")
        refine bw_inL (xs := nmT ys) (.inl (by simp)) rfl (clr_nm pr.1 _) ?_
        have nin : pr.1 ∉ ys := fun h => tri_rng good1.tri pr.1 pr.1 ((ma _).mp h) (List.mem_map_of_mem (f := (·.1)) hm)
        rw [show T.inT (kT (Sum.inr pr.1.s)) (nmT ys) = decide (pr.1 ∈ ys) from inT_nm pr.1 _, decide_eq_false nin]
        exact ⟨by rw [List.replicate_succ'], hi, _ :: R3, rfl⟩
      · rintro acc S2 ⟨rfl, _, R3, rfl⟩ c hc
        repeat' (walk_at "pt 1")
        refine cw_any rfl (bs := List.replicate _ false) (.inl (by rw [List.map_replicate]; exact .tail _ (.head _))) ?_
        rw [show ∀ m, (List.replicate m false).any id = false from fun m => by simp]
        refine ⟨_, rfl, fun h => (by cases h), fun _ => ?_⟩
        repeat' (walk_at "pt 1")
        refine ⟨(p1, MO.dk (Tab.t g1)) :: (c, MO.lst (List.replicate (Tab.t g1).length (T.bl false))) :: (R3 ++ (Sa ++ Sb0)), rfl, by rw [hSb]; simp, by simp⟩
    rintro _ _ ⟨R3, rfl, rfl, hp1⟩
    refine sw_cut (fun r1 S1 => ∃ (D : Tab) (dd : Addr) (R4 : Sto) (sd2 : Int) (ns2 : List Int), r1 = [some (.ref sc), some (.ref ta), some (.ref nz), some (one.t), some (other.t), some (.ref po), x6, x7, x8, some (special.t), some (.ref p1), some (.ref p2), some ((one.sub ρ1').t), some (.ref dd), x14, x15, x16, x17, x18, x19, x20, x21, x22, x23, x24, x25] ∧ S1 = R4 ++ ((nz, MO.lst (nmT NZ)) :: (po, MO.lst (nmT (order one))) :: tapeS ta tb sd2 ns2) ∧ (p1, MO.dk (Tab.t g1)) ∈ R4 ∧ (dd, MO.dk (Tab.t D)) ∈ S1 ∧ TapeOk sd2 ns2 ∧ ∀ p ∈ D, p.2.dep ≤ 2) ?_ ?_
    · refine s1_set (i := 13) scLaw.nd rfl ?_
      repeat' (walk_at "pt 1")
      refine ew_lc (own := [("name", 25)]) (g := gName 25) (up := up1 25) rfl scLaw.nd ?_ (fun s1 H1 C1 cl1 fp1 => pg_name scLaw.nd rfl (.inl rfl)) (tgt1 (by simp)) ?_
      · show BlkOk LN (defScope (top 37)) _ _
        exact ⟨rfl, by decide +kernel, by decide +kernel, by decide +kernel, by decide +kernel⟩
      refine iw_lst ?_
      repeat' (walk_at "pt 1")
      refine ⟨[], [], _, [], rfl, by simp, one.sub ρ1', NZ, rfl, rfl, by omega, aw, by decide, fun pa ys nda ma => ?_⟩
      simp only [List.nil_append, List.cons_append]
      have ly : ys.length ≤ 4 := nda.length_le_of_subset fun z hz => aw ((ma z).mp hz)
      refine ⟨pa, _, rfl, .inl (.head _), fun i acc S1 => ∃ (D : Tab) (R4 : Sto) (sd2 : Int) (ns2 : List Int), acc = (Tab.t D).map pairT ∧ dom D = ys.take i ∧ (∀ p ∈ D, p.2.dep ≤ 2) ∧ S1 = R4 ++ ((nz, MO.lst (nmT NZ)) :: (po, MO.lst (nmT (order one))) :: tapeS ta tb sd2 ns2) ∧ (p1, MO.dk (Tab.t g1)) ∈ R4 ∧ (pa, MO.lst (nmT ys)) ∈ R4 ∧ TapeOk sd2 ns2, ⟨[], _ :: R3, seed, ns, rfl, rfl, by simp, rfl, .tail _ hp1, .head _, tk⟩, ?_, ?_, ?_⟩
      · rintro i acc S1 ⟨D, R4, sd2, ns2, rfl, hD, hd, rfl, h1, h2, tk2⟩
        exact .inl (List.mem_append.mpr (.inl h2))
      · rintro i t acc S2 hu ⟨D, R4, sd2, ns2, rfl, hD, hd, rfl, h1, h2, tk2⟩
        rw [List.getElem?_map] at hu
        obtain ⟨u, hu', rfl⟩ := Option.map_eq_some_iff.mp hu
        have lD : D.length ≤ 4 := by
          have := congrArg List.length hD
          rw [dom, List.length_map, List.length_take] at this
          omega
        refine ⟨by rw [List.length_map, Tab.t_length]; omega, _, rfl, fun s1 H1 C1 cl1 fp1 => tsw_nil (tst_t rfl fun s2 H2 C2 cl2 fp2 => ?_)⟩
        repeat' (walk_at "pt 1")
        intro pl hpl
        repeat' (walk_at "pt 1")
        refine ⟨(pl, .lst (nmT XY)) :: (R4 ++ [(nz, MO.lst (nmT NZ)), (po, MO.lst (nmT (order one)))]), tapeS ta tb sd2 ns2, [], [(pl, .lst (nmT XY))], by rw [List.append_nil, List.cons_append, List.append_assoc]; rfl, by simp, ta, tb, pl, sd2, ns2, 1, XY, rfl, rfl, tk2, .head _, by simp, by simp, by omega, fun v sd3 ns3 dv av tk3 => ?_⟩
        repeat' (walk_at "pt 1")
        refine ⟨D ++ [(u, v)], (pl, .lst (nmT XY)) :: R4, sd3, ns3, ?_, ?_, ?_, ?_, .tail _ h1, .tail _ h2, tk3⟩
        · unfold Tab.t
          rw [List.map_append, List.map_append]
          rfl
        · show (D ++ [(u, v)]).map (·.1) = _
          rw [List.map_append, List.take_add_one, hu']
          exact congrArg (· ++ [u]) hD
        · intro p hp
          rcases List.mem_append.mp hp with hp | hp
          · exact hd p hp
          · rw [List.mem_singleton.mp hp]; exact dv
        · rw [List.append_nil, List.cons_append, List.append_assoc]
          rfl
      · rintro acc S2 ⟨D, R4, sd2, ns2, rfl, hD, hd, rfl, h1, h2, tk2⟩ c hc
        rw [List.length_map, List.take_length] at hD
        repeat' (walk_at "pt 1")
        refine cw_dictP (kvs := Tab.t D) rfl (.inl (.head _)) fun dd hdd => ?_
        rw [show mergeT [] (Tab.t D) = Tab.t D from merge_tab D [] (by show (dom D).Nodup; rw [hD]; exact nda)]
        exact ⟨D, dd, _ :: _ :: R4, sd2, ns2, rfl, rfl, .tail _ (.tail _ h1), .head _, tk2, hd⟩
    rintro _ _ ⟨D, dd, R4, sd2, ns2, rfl, rfl, hp1, hdd, tk2, hdD⟩
    have hp4 : (p1, MO.dk (Tab.t g1)) ∈ R4 ++ ((nz, MO.lst (nmT NZ)) :: (po, MO.lst (nmT (order one))) :: tapeS ta tb sd2 ns2) := List.mem_append.mpr (.inl hp1)
    have hnz : (nz, MO.lst (nmT NZ)) ∈ R4 ++ ((nz, MO.lst (nmT NZ)) :: (po, MO.lst (nmT (order one))) :: tapeS ta tb sd2 ns2) := List.mem_append.mpr (.inr (.head _))
    obtain ⟨S4, hS4⟩ : ∃ S4, S4 = R4 ++ ((nz, MO.lst (nmT NZ)) :: (po, MO.lst (nmT (order one))) :: tapeS ta tb sd2 ns2) := ⟨_, rfl⟩
    rw [← hS4] at hdd hp4 hnz ⊢
    have dput := put_dep2 hdD (one.sub ρ1')
    refine sw_cut (fun r1 S1 => r1 = [some (.ref sc), some (.ref ta), some (.ref nz), some (one.t), some (other.t), some (.ref po), x6, x7, x8, some (special.t), some (.ref p1), some (.ref p2), some ((one.sub ρ1').t), some (.ref dd), some ((Say.put D (one.sub ρ1')).t), x15, x16, x17, x18, x19, x20, x21, x22, x23, x24, x25] ∧ S1 = S4) ?_ ?_
    · refine s1_set (i := 14) scLaw.nd rfl ?_
      repeat' (walk_at "pt 1")
      exact fc1 (dd, .dk (Tab.t D)) (.inl hdd) ⟨one.sub ρ1', dd, D, rfl, List.mem_singleton_self _, by omega, rfl, rfl⟩
    rintro _ S2 ⟨rfl, e⟩
    rw [e]
    clear e
    refine sw_cut (fun r1 S1 => ∃ db R5, r1 = [some (.ref sc), some (.ref ta), some (.ref nz), some (one.t), some (other.t), some (.ref po), x6, x7, x8, some (special.t), some (.ref p1), some (.ref p2), some ((one.sub ρ1').t), some (.ref dd), some ((Say.put D (one.sub ρ1')).t), some (.ref db), x16, x17, x18, x19, x20, x21, x22, x23, x24, x25] ∧ S1 = R5 ++ S4 ∧ (db, MO.dk (Tab.t (NZ.map fun x => (x, Say.put D (ρ1' x))))) ∈ S1) ?_ ?_
    · refine s1_set (i := 15) scLaw.nd rfl ?_
      repeat' (walk_at "pt 1")
      refine ew_lc (own := [("name", 25)]) (g := gName 25) (up := up1 25) rfl scLaw.nd ?_ (fun s1 H1 C1 cl1 fp1 => pg_name scLaw.nd rfl (.inl rfl)) (tgt1 (by simp)) ?_
      · show BlkOk LN (defScope (top 37)) _ _
        exact ⟨rfl, by decide +kernel, by decide +kernel, by decide +kernel, by decide +kernel⟩
      refine iw_lst ?_
      repeat' (walk_at "pt 1")
      refine ⟨nz, _, rfl, .inl hnz, fun i acc S1 => acc = (NZ.take i).map (fun x => T.tup [.str x.s, (Say.put D (ρ1' x)).t]) ∧ S1 = S4, ⟨rfl, rfl⟩, ?_, ?_, ?_⟩
      · rintro i acc S1 ⟨_, rfl⟩
        exact .inl hnz
      · rintro i t acc S2 hu ⟨rfl, rfl⟩
        rw [List.getElem?_map] at hu
        obtain ⟨u, hu', rfl⟩ := Option.map_eq_some_iff.mp hu
        have du := dep_res good1.tri good1.dep (.atom u)
        simp only [Say.dep] at du
        refine ⟨by rw [List.length_map, List.length_take]; simp; omega, _, rfl, fun s1 H1 C1 cl1 fp1 => tsw_nil (tst_t rfl fun s2 H2 C2 cl2 fp2 => ?_)⟩
        repeat' (walk_at "pt 1")
        refine fc1 (p1, .dk (Tab.t g1)) (.inl hp4) ⟨.atom u, p1, g1, ρ1', 100, rfl, List.mem_singleton_self _, res_ok good1 small_nz4 (by decide) (by show (1:Nat) ≤ 4; decide), by omega, ?_⟩
        repeat' (walk_at "pt 1")
        refine fc1 (dd, .dk (Tab.t D)) (.inl hdd) ⟨(Say.atom u).sub ρ1', dd, D, rfl, List.mem_singleton_self _, by omega, ?_⟩
        repeat' (walk_at "pt 1")
        refine ⟨?_, rfl⟩
        rw [List.take_add_one, hu', List.map_append]
        rfl
      · rintro acc S2 ⟨rfl, rfl⟩ l hl
        rw [List.length_map, List.take_length]
        repeat' (walk_at "pt 1")
        refine cw_dictP (kvs := Tab.t (NZ.map fun x => (x, Say.put D (ρ1' x)))) rfl (.inl (.head _)) fun db hdb => ?_
        rw [show mergeT [] (Tab.t (NZ.map fun x => (x, Say.put D (ρ1' x)))) = Tab.t (NZ.map fun x => (x, Say.put D (ρ1' x))) from merge_tab _ [] (show (NZ.map id).Nodup from by decide +kernel)]
        exact ⟨db, [_, _], rfl, rfl, .head _⟩
    rintro _ _ ⟨db, R5, rfl, rfl, hdb⟩
    repeat' (walk_at "pt 1")
    refine fc1 (db, .dk _) (.inl hdb) ⟨one, db, _, rfl, List.mem_singleton_self _, by omega, ?_⟩
    rw [put_both dr.oa]
    repeat' (walk_at "pt 1")
    refine bw_ned hr.units (eqT_self (by omega)) ⟨_, rfl, ?_⟩
    refine ⟨fun h => (by cases h), fun _ => ?_⟩
    repeat' (walk_at "pt 1")
    refine fc1 (db, .dk _) (.inl hdb) ⟨other, db, _, rfl, List.mem_singleton_self _, by omega, ?_⟩
    rw [put_both dr.ua, ← sol]
    repeat' (walk_at "pt 1")
    refine bw_ned hr.units (eqT_self (by omega)) ⟨_, rfl, ?_⟩
    repeat' (walk_at "pt 1")
    exact ⟨_, _, _, _, _, _, R5 ++ R4, sd2, ns2, rfl, by rw [hS4, List.append_assoc], tk2, .inr ⟨p1, g1, ρ1', rfl, List.mem_append.mpr (.inr hp4), good1, sat1⟩⟩
  rintro _ _ ⟨y12, y13, y14, y15, y24, y25, R2, sd2, ns2, rfl, rfl, tk2, htv⟩
  exact law6 M C hn a hr F k q sc ta tb nz po tk2 dr sp _ (List.sublist_append_right _ _) (List.mem_append.mpr (.inr (.tail _ (.head _)))) tv htv _ ⟨_, _, _, _, _, _, _, _, _, _, _, _, _, _, _, _, _, _, rfl⟩
theorem inst_own {s : Say} {D : Tab} (hd : dom D = order s) : InstOf s (s.put D) (some D) := by
  have nd : (dom D).Nodup := by rw [hd]; exact order_nd s
  refine ⟨nd, fun θ => ?_, fun x => by show x ∈ dom D ↔ x ∈ s.atoms; rw [hd]; exact mem_order⟩
  constructor
  · intro h
    refine sub_congr fun x hx => ?_
    have : x ∈ dom D := by rw [hd]; exact mem_order.mpr hx
    obtain ⟨p, hp, rfl⟩ := List.mem_map.mp this
    rw [Tab.get_of nd hp]
    exact h p hp
  · intro h p hp
    have hx : p.1 ∈ s.atoms := mem_order.mp (by rw [← hd]; exact List.mem_map_of_mem hp)
    have := sub_inj (show s.sub θ = s.sub _ from h) p.1 hx
    rw [Tab.get_of nd hp] at this
    exact this
theorem special_of {one : Say} {D : Tab} (od : one.dep ≤ 4) (hd : dom D = order one) (h : ∀ p ∈ D, p.2.dep ≤ 3 ∧ p.2.atoms ⊆ XY) : Special one (one.put D) := by
  have nd : (dom D).Nodup := by rw [hd]; exact order_nd one
  have at_ : ∀ x ∈ one.atoms, ∃ p ∈ D, D.get x = some p.2 := fun x hx => by
    have : x ∈ dom D := by rw [hd]; exact mem_order.mpr hx
    obtain ⟨p, hp, rfl⟩ := List.mem_map.mp this
    exact ⟨p, hp, Tab.get_of nd hp⟩
  refine ⟨?_, fun z hz => ?_, ⟨_, rfl⟩⟩
  · have : (one.put D).dep ≤ one.dep + 2 := by
      unfold Say.put
      refine dep_sub fun x hx => ?_
      obtain ⟨p, hp, e⟩ := at_ x hx
      rw [e]
      exact (h p hp).1
    omega
  · unfold Say.put at hz
    obtain ⟨y, hy, hz⟩ := atoms_sub.mp hz
    obtain ⟨p, hp, e⟩ := at_ y hy
    rw [e] at hz
    exact (h p hp).2 hz
theorem law4 (M : Mg mg) (C : All P w K mg base n) (hn : 229 ≤ n) (a : BA) (hr : Room n (bx P w K mg base LN "law" (top 37) a).A) (F : Sto) (k : T → Sto → Prop) (q : ∀ S', k (.bl true) S') (sc ta tb nz po : Addr) {one other : Say} {seed : Int} {ns : List Int} (tk : TapeOk seed ns) (dr : Drawn one other) (r : Rho) (hr0 : ∃ x6 x7 x8 x9 x10 x11 x12 x13 x14 x15 x16 x17 x18 x19 x20 x21 x22 x23 x24 x25, r = [some (.ref sc), some (.ref ta), some (.ref nz), some (one.t), some (other.t), some (.ref po), x6, x7, x8, x9, x10, x11, x12, x13, x14, x15, x16, x17, x18, x19, x20, x21, x22, x23, x24, x25]) :
    sw F (bx P w K mg base LN "law" (top 37) a) ((defBody (top 37)).drop 9) r ((nz, MO.lst (nmT NZ)) :: (po, MO.lst (nmT (order one))) :: tapeS ta tb seed ns) { nx := fun _ S' => k .non S', rt := k } := by
  obtain ⟨x6, x7, x8, x9, x10, x11, x12, x13, x14, x15, x16, x17, x18, x19, x20, x21, x22, x23, x24, x25, rfl⟩ := hr0
  have od := dr.od
  have ud := dr.ud
  have lo := few_nz dr.oa
  refine sw_cut (fun r1 S1 => ∃ (D : Tab) (dd : Addr) (R4 : Sto) (sd2 : Int) (ns2 : List Int), r1 = [some (.ref sc), some (.ref ta), some (.ref nz), some (one.t), some (other.t), some (.ref po), x6, x7, some (.ref dd), x9, x10, x11, x12, x13, x14, x15, x16, x17, x18, x19, x20, x21, x22, x23, x24, x25] ∧ S1 = R4 ++ ((nz, MO.lst (nmT NZ)) :: (po, MO.lst (nmT (order one))) :: tapeS ta tb sd2 ns2) ∧ (dd, MO.dk (Tab.t D)) ∈ S1 ∧ TapeOk sd2 ns2 ∧ dom D = order one ∧ ∀ p ∈ D, p.2.dep ≤ 3 ∧ p.2.atoms ⊆ XY) ?_ ?_
  · refine s1_set (i := 8) scLaw.nd rfl ?_
    repeat' (walk_at "pt 1")
    refine ew_lc (own := [("name", 25)]) (g := gName 25) (up := up1 25) rfl scLaw.nd ?_ (fun s1 H1 C1 cl1 fp1 => pg_name scLaw.nd rfl (.inl rfl)) (tgt1 (by simp)) ?_
    · show BlkOk LN (defScope (top 37)) _ _
      exact ⟨rfl, by decide +kernel, by decide +kernel, by decide +kernel, by decide +kernel⟩
    refine iw_lst ?_
    repeat' (walk_at "pt 1")
    refine ⟨fun i acc S1 => ∃ (D : Tab) (R4 : Sto) (sd2 : Int) (ns2 : List Int), acc = (Tab.t D).map pairT ∧ dom D = (order one).take i ∧ (∀ p ∈ D, p.2.dep ≤ 3 ∧ p.2.atoms ⊆ XY) ∧ S1 = R4 ++ ((nz, MO.lst (nmT NZ)) :: (po, MO.lst (nmT (order one))) :: tapeS ta tb sd2 ns2) ∧ TapeOk sd2 ns2, ⟨[], [], seed, ns, rfl, rfl, by simp, rfl, tk⟩, ?_, ?_, ?_⟩
    · rintro i acc S1 ⟨D, R4, sd2, ns2, rfl, hD, hd, rfl, tk2⟩
      exact .inl (List.mem_append.mpr (.inr (.tail _ (.head _))))
    · rintro i t acc S2 hu ⟨D, R4, sd2, ns2, rfl, hD, hd, rfl, tk2⟩
      rw [List.getElem?_map] at hu
      obtain ⟨u, hu', rfl⟩ := Option.map_eq_some_iff.mp hu
      have lD : D.length ≤ 4 := by
        have := congrArg List.length hD
        rw [dom, List.length_map, List.length_take] at this
        omega
      refine ⟨by rw [List.length_map, Tab.t_length]; omega, _, rfl, fun s1 H1 C1 cl1 fp1 => tsw_nil (tst_t rfl fun s2 H2 C2 cl2 fp2 => ?_)⟩
      repeat' (walk_at "pt 1")
      intro pl hpl
      repeat' (walk_at "pt 1")
      refine ⟨(pl, .lst (nmT XY)) :: (R4 ++ [(nz, MO.lst (nmT NZ)), (po, MO.lst (nmT (order one)))]), tapeS ta tb sd2 ns2, [], [(pl, .lst (nmT XY))], by rw [List.append_nil, List.cons_append, List.append_assoc]; rfl, by simp, ta, tb, pl, sd2, ns2, 2, XY, rfl, rfl, tk2, .head _, by simp, by simp, by omega, fun v sd3 ns3 dv av tk3 => ?_⟩
      repeat' (walk_at "pt 1")
      refine ⟨D ++ [(u, v)], (pl, .lst (nmT XY)) :: R4, sd3, ns3, ?_, ?_, ?_, ?_, tk3⟩
      · unfold Tab.t
        rw [List.map_append, List.map_append]
        rfl
      · show (D ++ [(u, v)]).map (·.1) = _
        rw [List.map_append, List.take_add_one, hu']
        exact congrArg (· ++ [u]) hD
      · intro p hp
        rcases List.mem_append.mp hp with hp | hp
        · exact hd p hp
        · rw [List.mem_singleton.mp hp]; exact ⟨dv, av⟩
      · rw [List.append_nil, List.cons_append, List.append_assoc]
        rfl
    · rintro acc S2 ⟨D, R4, sd2, ns2, rfl, hD, hd, rfl, tk2⟩ c hc
      rw [List.length_map, List.take_length] at hD
      repeat' (walk_at "pt 1")
      refine cw_dictP (kvs := Tab.t D) rfl (.inl (.head _)) fun dd hdd => ?_
      rw [show mergeT [] (Tab.t D) = Tab.t D from merge_tab D [] (by show (dom D).Nodup; rw [hD]; exact order_nd one)]
      exact ⟨D, dd, _ :: _ :: R4, sd2, ns2, rfl, rfl, .head _, tk2, hD, hd⟩
  rintro _ _ ⟨D, dd, R4, sd2, ns2, rfl, rfl, hdd, tk2, hD, hdD⟩
  have sp := special_of od hD hdD
  have own := inst_own hD
  refine sw_cut (fun r1 S1 => r1 = [some (.ref sc), some (.ref ta), some (.ref nz), some (one.t), some (other.t), some (.ref po), x6, x7, some (.ref dd), some ((one.put D).t), x10, x11, x12, x13, x14, x15, x16, x17, x18, x19, x20, x21, x22, x23, x24, x25] ∧ S1 = R4 ++ ((nz, MO.lst (nmT NZ)) :: (po, MO.lst (nmT (order one))) :: tapeS ta tb sd2 ns2)) ?_ ?_
  · refine s1_set (i := 9) scLaw.nd rfl ?_
    repeat' (walk_at "pt 1")
    exact fc1 (dd, .dk (Tab.t D)) (.inl hdd) ⟨one, dd, D, rfl, List.mem_singleton_self _, by omega, rfl, rfl⟩
  rintro _ S2 ⟨rfl, e⟩
  rw [e]
  clear e
  generalize hspec : one.put D = special at *
  have sd := sp.sd
  refine sw_cut (fun r1 S1 => ∃ R5, r1 = [some (.ref sc), some (.ref ta), some (.ref nz), some (one.t), some (other.t), some (.ref po), x6, x7, some (.ref dd), some (special.t), x10, x11, x12, x13, x14, x15, x16, x17, x18, x19, x20, x21, x22, x23, x24, x25] ∧ S1 = R5 ++ (R4 ++ ((nz, MO.lst (nmT NZ)) :: (po, MO.lst (nmT (order one))) :: tapeS ta tb sd2 ns2))) ?_ ?_
  · repeat' (walk_at "pt 1")
    have hu6 : (bx P w K mg base LN "law" (top 37) a).A.units + 66 < cLine := by have := hr.un; omega
    obtain ⟨τ, hτ⟩ := sp.inst
    refine ⟨[], [], _, [], rfl, by simp, by omega, one, special, rfl, rfl, by omega, by omega, by omega, fun r1 hr1 => ?_⟩
    obtain ⟨g1, rfl⟩ := inst_some hτ hr1
    intro p1 S1 hp1
    repeat' (walk_at "pt 1")
    refine bw_neDk hu6 (.inl (List.mem_append_right _ (List.mem_append_left _ hp1))) (.inl (List.mem_append_right _ (List.mem_append_right _ hdd))) (inst_eqD hr1 own fun p hp => Nat.le_trans (inst_dep hr1 p hp) (by omega)) ⟨_, rfl, ?_⟩
    refine ⟨fun h => (by cases h), fun _ => ?_⟩
    repeat' (walk_at "pt 1")
    refine fc1 (dd, .dk (Tab.t D)) (.inl (List.mem_append_right _ (List.mem_append_right _ hdd))) ⟨one, dd, D, rfl, List.mem_singleton_self _, by omega, ?_⟩
    rw [hspec]
    repeat' (walk_at "pt 1")
    refine bw_ned hr.units (eqT_self (by omega)) ⟨_, rfl, ?_⟩
    refine ⟨fun h => (by cases h), fun _ => ?_⟩
    repeat' (walk_at "pt 1")
    refine ⟨[], [], _, [], rfl, by simp, by omega, one, other, rfl, rfl, by omega, by omega, by omega, fun r2 hr2 => ?_⟩
    cases r2 with
    | none =>
      intro S3
      repeat' (walk_at "pt 1")
      refine ⟨[], [], _, [], rfl, by simp, by omega, one, other, rfl, rfl, by omega, by omega, by omega, fun r3 hr3 => ?_⟩
      cases r3 with
      | some g3 =>
        exact absurd ((hr3.2.1 (fun x => (g3.get x).getD .fls)).mp (fun p hp => by show (Tab.get g3 p.1).getD .fls = p.2; rw [Tab.get_of hr3.1 hp]; rfl)) (hr2 _)
      | none =>
        intro S4
        repeat' (walk_at "pt 1")
        exact ⟨S4 ++ (S3 ++ S1), rfl, by simp⟩
    | some g2 =>
      intro p2 S3 hp2
      repeat' (walk_at "pt 1")
      refine ⟨[], [], _, [], rfl, by simp, by omega, one, other, rfl, rfl, by omega, by omega, by omega, fun r3 hr3 => ?_⟩
      cases r3 with
      | none =>
        exact absurd ((hr2.2.1 (fun x => (g2.get x).getD .fls)).mp (fun p hp => by show (Tab.get g2 p.1).getD .fls = p.2; rw [Tab.get_of hr2.1 hp]; rfl)) (hr3 _)
      | some g3 =>
        intro p3 S4 hp3
        repeat' (walk_at "pt 1")
        refine bw_neDk hu6 (.inl (by simp [hp2])) (.inl (by simp [hp3])) (inst_eqD hr2 hr3 fun p hp => Nat.le_trans (inst_dep hr2 p hp) (by omega)) ⟨_, rfl, ?_⟩
        repeat' (walk_at "pt 1")
        exact ⟨S4 ++ (S3 ++ S1), rfl, by simp⟩
  rintro _ _ ⟨R5, rfl, rfl⟩
  refine sw_drop (.trans (List.sublist_append_right _ _) (List.sublist_append_right _ _)) ?_
  exact law5 M C hn a hr F k q sc ta tb nz po tk2 dr sp _ ⟨_, _, _, _, _, _, _, _, _, _, _, _, _, _, _, _, _, _, _, rfl⟩
def un (x : Nm) : Nm := if x = nm "a" then nm "ua" else if x = nm "b" then nm "ub" else if x = nm "p" then nm "up" else if x = nm "q7" then nm "uq7" else x
theorem un_inj : ∀ x ∈ NZ, ∀ y ∈ NZ, un x = un y → x = y := by decide +kernel
theorem un_s : ∀ x ∈ NZ, (un x).s = "u" ++ x.s := by decide +kernel
theorem un_len : ∀ x ∈ NZ, ("u" : Str).length + x.s.length ≤ 100000 := by decide +kernel
theorem put_tabA {os : List Nm} {f : Nm → Nm} {s : Say} (nd : os.Nodup) (h : s.atoms ⊆ os) : s.put (tabA (os.map fun x => (x, f x))) = s.ren f := sub_congr fun x hx => by
  have m : (x, Say.atom (f x)) ∈ tabA (os.map fun x => (x, f x)) := List.mem_map.mpr ⟨(x, f x), List.mem_map_of_mem (f := fun x => (x, f x)) (h hx), rfl⟩
  have := Tab.get_of (g := tabA (os.map fun x => (x, f x))) (by rw [List.map_map, List.map_map]; exact (List.map_id os).symm ▸ nd) m
  rw [this]
  rfl
theorem law3 (M : Mg mg) (C : All P w K mg base n) (hn : 229 ≤ n) (a : BA) (hr : Room n (bx P w K mg base LN "law" (top 37) a).A) (F : Sto) (k : T → Sto → Prop) (q : ∀ S', k (.bl true) S') (sc ta tb nz po : Addr) {one other : Say} {seed : Int} {ns : List Int} (tk : TapeOk seed ns) (dr : Drawn one other) (r : Rho) (hr0 : ∃ x6 x7 x8 x9 x10 x11 x12 x13 x14 x15 x16 x17 x18 x19 x20 x21 x22 x23 x24 x25, r = [some (.ref sc), some (.ref ta), some (.ref nz), some (one.t), some (other.t), some (.ref po), x6, x7, x8, x9, x10, x11, x12, x13, x14, x15, x16, x17, x18, x19, x20, x21, x22, x23, x24, x25]) :
    sw F (bx P w K mg base LN "law" (top 37) a) ((defBody (top 37)).drop 6) r ((nz, MO.lst (nmT NZ)) :: (po, MO.lst (nmT (order one))) :: tapeS ta tb seed ns) { nx := fun _ S' => k .non S', rt := k } := by
  obtain ⟨x6, x7, x8, x9, x10, x11, x12, x13, x14, x15, x16, x17, x18, x19, x20, x21, x22, x23, x24, x25, rfl⟩ := hr0
  have od := dr.od
  have ud := dr.ud
  have lo := few_nz dr.oa
  have lu := few_nz dr.ua
  have hou : ∀ u ∈ order one, u ∈ NZ := fun u hu => dr.oa (mem_order.mp hu)
  refine sw_cut (fun r1 S1 => ∃ R, r1 = [some (.ref sc), some (.ref ta), some (.ref nz), some (one.t), some (other.t), some (.ref po), x6, some ((one.ren un).t), x8, x9, x10, x11, x12, x13, x14, x15, x16, x17, x18, x19, x20, x21, x22, x23, x24, x25] ∧ S1 = R ++ ((nz, MO.lst (nmT NZ)) :: (po, MO.lst (nmT (order one))) :: tapeS ta tb seed ns)) ?_ ?_
  · refine s1_set (i := 7) scLaw.nd rfl ?_
    repeat' (walk_at "pt 1")
    refine ew_lc (own := [("name", 25)]) (g := gName 25) (up := up1 25) rfl scLaw.nd ?_ (fun s1 H1 C1 cl1 fp1 => pg_name scLaw.nd rfl (.inl rfl)) (tgt1 (by simp)) ?_
    · show BlkOk LN (defScope (top 37)) _ _
      exact ⟨rfl, by decide +kernel, by decide +kernel, by decide +kernel, by decide +kernel⟩
    refine iw_lst ?_
    repeat' (walk_at "pt 1")
    refine ⟨fun i acc S1 => acc = ((order one).take i).map (fun x => T.tup [.str x.s, (Say.atom (un x)).t]) ∧ S1 = ((nz, MO.lst (nmT NZ)) :: (po, MO.lst (nmT (order one))) :: tapeS ta tb seed ns), ⟨rfl, rfl⟩, ?_, ?_, ?_⟩
    · rintro i acc S1 ⟨_, rfl⟩
      exact .inl (.tail _ (.head _))
    · rintro i t acc S2 hu ⟨rfl, rfl⟩
      rw [List.getElem?_map] at hu
      obtain ⟨u, hu', rfl⟩ := Option.map_eq_some_iff.mp hu
      have hm := hou u (List.mem_of_getElem? hu')
      refine ⟨by rw [List.length_map, List.length_take]; omega, _, rfl, fun s1 H1 C1 cl1 fp1 => tsw_nil (tst_t rfl fun s2 H2 C2 cl2 fp2 => ?_)⟩
      repeat' (walk_at "pt 1")
      refine bw_cats (un_len u hm) ?_
      rw [← un_s u hm]
      repeat' (walk_at "pt 1")
      refine ⟨?_, rfl⟩
      rw [List.take_add_one, hu', List.map_append]
      rfl
    · rintro acc S2 ⟨rfl, rfl⟩ l hl
      rw [List.length_map, List.take_length]
      repeat' (walk_at "pt 1")
      refine cw_dictP (kvs := Tab.t (tabA ((order one).map fun x => (x, un x)))) rfl (.inl (by unfold Tab.t tabA; rw [List.map_map, List.map_map, List.map_map]; exact .head _)) fun dv hdv => ?_
      rw [show mergeT [] (Tab.t (tabA ((order one).map fun x => (x, un x)))) = Tab.t (tabA ((order one).map fun x => (x, un x))) from merge_tab _ [] (by show (dom (tabA _)).Nodup; rw [dom, List.map_map, List.map_map]; exact (List.map_id (order one)).symm ▸ order_nd one)]
      repeat' (walk_at "pt 1")
      refine fc1 (dv, .dk (Tab.t (tabA ((order one).map fun x => (x, un x))))) (.inl (.head _)) ⟨one, dv, _, rfl, List.mem_singleton_self _, by omega, ?_⟩
      rw [put_tabA (order_nd one) fun z hz => mem_order.mpr hz]
      exact ⟨[_, _], rfl, rfl⟩
  rintro _ _ ⟨R, rfl, rfl⟩
  have un_ok : ∀ x ∈ one.atoms, ∀ y ∈ one.atoms, un x = un y → x = y := fun x hx y hy => un_inj x (dr.oa hx) y (dr.oa hy)
  have dt : (one.ren un).dep ≤ 4 := by rw [Say.ren, dep_ren]; exact od
  have lt : (order (one.ren un)).length ≤ 4 := by rw [show order (one.ren un) = (order one).map un from order_map un_ok, List.length_map]; exact lo
  have sub : List.Sublist ((nz, MO.lst (nmT NZ)) :: (po, MO.lst (nmT (order one))) :: tapeS ta tb seed ns) (R ++ ((nz, MO.lst (nmT NZ)) :: (po, MO.lst (nmT (order one))) :: tapeS ta tb seed ns)) := List.sublist_append_right _ _
  have ho : (po, MO.lst (nmT (order one))) ∈ R ++ ((nz, MO.lst (nmT NZ)) :: (po, MO.lst (nmT (order one))) :: tapeS ta tb seed ns) := List.mem_append_right _ (.tail _ (.head _))
  generalize R ++ ((nz, MO.lst (nmT NZ)) :: (po, MO.lst (nmT (order one))) :: tapeS ta tb seed ns) = SS at sub ho ⊢
  refine sw_cut (fun r1 S1 => r1 = [some (.ref sc), some (.ref ta), some (.ref nz), some (one.t), some (other.t), some (.ref po), x6, some ((one.ren un).t), x8, x9, x10, x11, x12, x13, x14, x15, x16, x17, x18, x19, x20, x21, x22, x23, x24, x25] ∧ S1 = SS) ?_ ?_
  · repeat' (walk_at "pt 1")
    refine fc0 ⟨by omega, one, one.ren un, rfl, by omega, by omega, by omega, by omega, ?_⟩
    rw [show decide (general one = general (one.ren un)) = true from decide_eq_true (general_ren un_ok).symm]
    repeat' (walk_at "pt 1")
    refine fc0 ⟨by omega, one, other, rfl, by omega, by omega, by omega, by omega, ?_⟩
    repeat' (walk_at "pt 1")
    refine fc0 ⟨by omega, one, rfl, by omega, by omega, ?_⟩
    repeat' (walk_at "pt 1")
    refine fc0 ⟨by omega, other, rfl, by omega, by omega, ?_⟩
    refine bw_eqd hr.units (Say.eqT (by rw [general_dep]; omega) (by rw [general_dep]; omega)) ?_
    repeat' (walk_at "pt 1")
    refine ⟨fun h => (by simp [T.sEq] at h), fun _ => ?_⟩
    repeat' (walk_at "pt 1")
    exact ⟨rfl, rfl⟩
  rintro _ S2 ⟨rfl, e⟩
  rw [e]
  clear e
  refine sw_cut (fun r1 S1 => ∃ R5, r1 = [some (.ref sc), some (.ref ta), some (.ref nz), some (one.t), some (other.t), some (.ref po), x6, some ((one.ren un).t), x8, x9, x10, x11, x12, x13, x14, x15, x16, x17, x18, x19, x20, x21, x22, x23, x24, x25] ∧ S1 = R5 ++ SS) ?_ ?_
  · repeat' (walk_at "pt 1")
    refine cw_lenL (.inl ho) ?_
    repeat' (walk_at "pt 1")
    rw [List.length_map]
    by_cases h2 : 1 < (order one).length
    · refine tst_t (decide_eq_true (by omega)) ?_
      repeat' (walk_at "pt 1")
      have i0 : 0 < (order one).length := by omega
      have ne : (order one)[0] ≠ (order one)[1] := fun e => by
        have := List.pairwise_iff_getElem.mp (order_nd one) 0 1 i0 h2 (by decide)
        exact this e
      have m0 : (order one)[0] ∈ one.atoms := mem_order.mp (List.getElem_mem i0)
      have m1 : (order one)[1] ∈ one.atoms := mem_order.mp (List.getElem_mem h2)
      have a0 : atI (nmT (order one)) ((0 : Nat) : Int) = some (T.str (order one)[0].s) := atI_nat (by rw [List.getElem?_map, List.getElem?_eq_getElem i0]; rfl)
      have a1 : atI (nmT (order one)) ((1 : Nat) : Int) = some (T.str (order one)[1].s) := atI_nat (by rw [List.getElem?_map, List.getElem?_eq_getElem h2]; rfl)
      generalize (order one)[0] = x0 at *
      generalize (order one)[1] = x1 at *
      refine xw_lst (.inl ho) a0 ?_
      repeat' (walk_at "pt 1")
      refine xw_lst (.inl ho) a1 ?_
      repeat' (walk_at "pt 1")
      refine ⟨.inr x0.s, rfl, fun dm hdm => ?_⟩
      repeat' (walk_at "pt 1")
      have ep : one.put [(x0, .atom x1)] = one.sub fun x => if x = x0 then .atom x1 else .atom x := sub_congr fun x _ => by
        unfold Tab.get
        by_cases e : x0 = x
        · subst e; simp
        · rw [if_neg fun z => e z.symm, List.find?_cons_of_neg (by simpa using e)]; rfl
      have dp : (one.put [(x0, .atom x1)]).dep ≤ 5 := Nat.le_trans (put_dep2 (by simp [Say.dep]) one) (by omega)
      have ap : (one.put [(x0, .atom x1)]).atoms ⊆ NZ := fun z hz => by
        rw [ep] at hz
        obtain ⟨y, hy, hz⟩ := atoms_sub.mp hz
        split at hz
        · simp [Say.atoms] at hz; rw [hz]; exact dr.oa m1
        · simp [Say.atoms] at hz; rw [hz]; exact dr.oa hy
      have lp := few_nz ap
      have ng := merged_ne (by omega) m0 m1 ne
      rw [← ep] at ng
      refine fc1 (dm, .dk (Tab.t [(x0, .atom x1)])) (.inl (.head _)) ⟨one, dm, _, rfl, List.mem_singleton_self _, by omega, ?_⟩
      repeat' (walk_at "pt 1")
      refine fc0 ⟨by omega, one, one.put [(x0, .atom x1)], rfl, by omega, by omega, by omega, by omega, ?_⟩
      rw [decide_eq_false ng]
      repeat' (walk_at "pt 1")
      exact ⟨[_], rfl, rfl⟩
    · refine tst_f (decide_eq_false (by omega)) ?_
      repeat' (walk_at "pt 1")
      exact ⟨[], rfl, rfl⟩
  rintro _ _ ⟨R5, rfl, rfl⟩
  refine sw_drop (.trans sub (List.sublist_append_right _ _)) ?_
  exact law4 M C hn a hr F k q sc ta tb nz po tk dr _ ⟨_, _, _, _, _, _, _, _, _, _, _, _, _, _, _, _, _, _, _, _, rfl⟩
theorem law2 (M : Mg mg) (C : All P w K mg base n) (hn : 229 ≤ n) (a : BA) (hr : Room n (bx P w K mg base LN "law" (top 37) a).A) (F : Sto) (k : T → Sto → Prop) (q : ∀ S', k (.bl true) S') (sc ta tb nz : Addr) {one other : Say} {seed : Int} {ns : List Int} (tk : TapeOk seed ns) (dr : Drawn one other) (r : Rho) (hr0 : ∃ x5 x6 x7 x8 x9 x10 x11 x12 x13 x14 x15 x16 x17 x18 x19 x20 x21 x22 x23 x24 x25, r = [some (.ref sc), some (.ref ta), some (.ref nz), some (one.t), some (other.t), x5, x6, x7, x8, x9, x10, x11, x12, x13, x14, x15, x16, x17, x18, x19, x20, x21, x22, x23, x24, x25]) :
    sw F (bx P w K mg base LN "law" (top 37) a) ((defBody (top 37)).drop 3) r ((nz, MO.lst (nmT NZ)) :: tapeS ta tb seed ns) { nx := fun _ S' => k .non S', rt := k } := by
  obtain ⟨x5, x6, x7, x8, x9, x10, x11, x12, x13, x14, x15, x16, x17, x18, x19, x20, x21, x22, x23, x24, x25, rfl⟩ := hr0
  have od := dr.od
  have lo := few_nz dr.oa
  refine sw_cut (fun r1 S1 => ∃ po, r1 = [some (.ref sc), some (.ref ta), some (.ref nz), some (one.t), some (other.t), some (.ref po), x6, x7, x8, x9, x10, x11, x12, x13, x14, x15, x16, x17, x18, x19, x20, x21, x22, x23, x24, x25] ∧ S1 = ((nz, MO.lst (nmT NZ)) :: (po, MO.lst (nmT (order one))) :: tapeS ta tb seed ns)) ?_ ?_
  · refine s1_set (i := 5) scLaw.nd rfl ?_
    repeat' (walk_at "pt 1")
    exact ⟨[(nz, MO.lst (nmT NZ))], [], tapeS ta tb seed ns, [], rfl, by simp, one, rfl, rfl, by omega, by omega, fun po => ⟨po, rfl, rfl⟩⟩
  rintro _ _ ⟨po, rfl, rfl⟩
  refine sw_cut (fun r1 S1 => ∃ R, r1 = [some (.ref sc), some (.ref ta), some (.ref nz), some (one.t), some (other.t), some (.ref po), some ((general one).t), x7, x8, x9, x10, x11, x12, x13, x14, x15, x16, x17, x18, x19, x20, x21, x22, x23, x24, x25] ∧ S1 = R ++ ((nz, MO.lst (nmT NZ)) :: (po, MO.lst (nmT (order one))) :: tapeS ta tb seed ns)) ?_ ?_
  · refine s1_set (i := 6) scLaw.nd rfl ?_
    repeat' (walk_at "pt 1")
    refine ew_lc (own := [("k", 24), ("name", 25)]) (g := _) (up := up2 24 25) rfl scLaw.nd ?_ (fun s1 H1 C1 cl1 fp1 => pg_tup rfl (pgs_cons (pg_name (i := 24) scLaw.nd rfl (.inl rfl)) (pgs_cons (pg_name (i := 25) scLaw.nd rfl (.inl rfl)) pgs_nil))) (tgt2 (by simp) (by simp)) ?_
    · show BlkOk LN (defScope (top 37)) _ _
      exact ⟨rfl, by decide +kernel, by decide +kernel, by decide +kernel, by decide +kernel⟩
    refine iw_enum M.enumerate ?_
    repeat' (walk_at "pt 1")
    refine ⟨fun i acc S1 => acc = (Tab.t (letFrom 0 ((order one).take i))).map pairT ∧ S1 = ((nz, MO.lst (nmT NZ)) :: (po, MO.lst (nmT (order one))) :: tapeS ta tb seed ns), ⟨rfl, rfl⟩, ?_, ?_, ?_⟩
    · rintro i acc S1 ⟨_, rfl⟩
      exact .inl (.tail _ (.head _))
    · rintro i t acc S2 hu ⟨rfl, rfl⟩
      rw [List.getElem?_mapIdx, List.getElem?_map] at hu
      obtain ⟨u0, hu0, rfl⟩ := Option.map_eq_some_iff.mp hu
      obtain ⟨u, hu', rfl⟩ := Option.map_eq_some_iff.mp hu0
      have hi := (List.getElem?_eq_some_iff.mp hu').1
      refine ⟨by rw [List.length_map, Tab.t_length, letFrom_len, List.length_take]; omega, _, rfl, fun s1 H1 C1 cl1 fp1 => tsw_nil (tst_t rfl fun s2 H2 C2 cl2 fp2 => ?_)⟩
      repeat' (walk_at "pt 1")
      refine fc0 ⟨by omega, i, by omega, rfl, ?_⟩
      repeat' (walk_at "pt 1")
      refine ⟨?_, rfl⟩
      rw [List.take_add_one, hu', Option.toList_some, letFrom_snoc, List.length_take, Nat.min_eq_left (by omega), Nat.zero_add]
      unfold Tab.t
      rw [List.map_append, List.map_append]
      rfl
    · rintro acc S2 ⟨rfl, rfl⟩ l hl
      rw [List.length_mapIdx, List.length_map, List.take_length]
      repeat' (walk_at "pt 1")
      refine cw_dictP (kvs := Tab.t (letFrom 0 (order one))) rfl (.inl (.head _)) fun dv hdv => ?_
      rw [show mergeT [] (Tab.t (letFrom 0 (order one))) = Tab.t (letFrom 0 (order one)) from merge_tab _ [] (by show (dom (letFrom 0 (order one))).Nodup; rw [letFrom_dom]; exact order_nd one)]
      repeat' (walk_at "pt 1")
      refine fc1 (dv, .dk (Tab.t (letFrom 0 (order one)))) (.inl (.head _)) ⟨one, dv, _, rfl, List.mem_singleton_self _, by omega, ?_⟩
      rw [put_let]
      exact ⟨[_, _], rfl, rfl⟩
  rintro _ _ ⟨R, rfl, rfl⟩
  have gl := few_nz (dr.oa)
  have lay : ∀ x ∈ (order one).map Nm.s, (PyData.str x).canLay0 = true := fun x hx => by
    obtain ⟨y, _, rfl⟩ := List.mem_map.mp hx
    exact y.ok
  have em : nmT (order one) = ((order one).map Nm.s).map T.str := by rw [List.map_map]; rfl
  have ho : (po, MO.lst (nmT (order one))) ∈ R ++ ((nz, MO.lst (nmT NZ)) :: (po, MO.lst (nmT (order one))) :: tapeS ta tb seed ns) := List.mem_append_right _ (.tail _ (.head _))
  have sub : List.Sublist ((nz, MO.lst (nmT NZ)) :: (po, MO.lst (nmT (order one))) :: tapeS ta tb seed ns) (R ++ ((nz, MO.lst (nmT NZ)) :: (po, MO.lst (nmT (order one))) :: tapeS ta tb seed ns)) := List.sublist_append_right _ _
  generalize R ++ ((nz, MO.lst (nmT NZ)) :: (po, MO.lst (nmT (order one))) :: tapeS ta tb seed ns) = SS at sub ho ⊢
  refine sw_cut (fun r1 S1 => ∃ R5, r1 = [some (.ref sc), some (.ref ta), some (.ref nz), some (one.t), some (other.t), some (.ref po), some ((general one).t), x7, x8, x9, x10, x11, x12, x13, x14, x15, x16, x17, x18, x19, x20, x21, x22, x23, x24, x25] ∧ S1 = R5 ++ SS) ?_ ?_
  · repeat' (walk_at "pt 1")
    refine ⟨[], [], SS, [], rfl, by simp, by omega, one, rfl, rfl, by omega, by omega, fun p1 => ?_⟩
    repeat' (walk_at "pt 1")
    refine bw_neL hr.units (.inl (.head _)) (.inl (.tail _ ho)) (by rw [em]; exact eqL_strs lay lay) ?_
    simp only [decide_true, Bool.not_true]
    refine ⟨_, rfl, fun h => (by cases h), fun _ => ?_⟩
    repeat' (walk_at "pt 1")
    refine fc0 ⟨by omega, one, rfl, by omega, by omega, ?_⟩
    repeat' (walk_at "pt 1")
    refine fc0 ⟨.s (general one), .s (general one), rfl, by show (general one).dep + 1 ≤ n; rw [general_dep]; omega, ?_⟩
    rw [decide_eq_true rfl]
    refine ⟨_, rfl, ?_⟩
    simp only [Bool.not_true]
    refine ⟨fun h => (by cases h), fun _ => ?_⟩
    repeat' (walk_at "pt 1")
    refine ew_lc (own := [("k", 24)]) (g := gName 24) (up := up1 24) rfl scLaw.nd ?_ (fun s1 H1 C1 cl1 fp1 => pg_name scLaw.nd rfl (.inl rfl)) (tgt1 (by simp)) ?_
    · show BlkOk LN (defScope (top 37)) _ _
      exact ⟨rfl, by decide +kernel, by decide +kernel, by decide +kernel, by decide +kernel⟩
    refine iw_lst ?_
    repeat' (walk_at "pt 1")
    intro q2 hq2
    refine ⟨q2, [.int 0, .int 25, .int 26, .int 53], rfl, .inl (.head _), ?_⟩
    refine ⟨fun i acc S1 => acc = ([0, 25, 26, 53].take i).map (fun j : Nat => T.str (ltr j).s) ∧ S1 = [(q2, .lst [.int 0, .int 25, .int 26, .int 53])] ++ ([] ++ ([(p1, MO.lst (nmT (order one)))] ++ SS)), ⟨rfl, rfl⟩, ?_, ?_, ?_⟩
    · rintro i acc S1 ⟨_, rfl⟩
      exact .inl (.head _)
    · rintro i t acc S2 hu ⟨rfl, rfl⟩
      have hi := (List.getElem?_eq_some_iff.mp hu).1
      have ⟨j, hj, hj2, hj3⟩ : ∃ j : Nat, j < 60 ∧ t = .int j ∧ [0, 25, 26, 53][i]? = some j := by
        match i, hi, hu with
        | 0, _, h => cases h; exact ⟨0, by decide, rfl, rfl⟩
        | 1, _, h => cases h; exact ⟨25, by decide, rfl, rfl⟩
        | 2, _, h => cases h; exact ⟨26, by decide, rfl, rfl⟩
        | 3, _, h => cases h; exact ⟨53, by decide, rfl, rfl⟩
      subst hj2
      refine ⟨by rw [List.length_map, List.length_take]; simp; omega, _, rfl, fun s1 H1 C1 cl1 fp1 => tsw_nil (tst_t rfl fun s2 H2 C2 cl2 fp2 => ?_)⟩
      repeat' (walk_at "pt 1")
      refine fc0 ⟨by omega, j, hj, rfl, ?_⟩
      refine ⟨?_, rfl⟩
      rw [List.take_add_one, hj3, List.map_append]
      rfl
    · rintro acc S2 ⟨rfl, rfl⟩ l hl
      repeat' (walk_at "pt 1")
      intro q3 hq3
      refine bw_neL hr.units (.inl (.tail _ (.head _))) (.inl (.head _)) (eqL_strs (xs := [(ltr 0).s, (ltr 25).s, (ltr 26).s, (ltr 53).s]) (ys := ["a", "z", "a1", "b2"]) (by simp [Nm.ok]) (by decide +kernel)) ?_
      rw [show decide ([(ltr 0).s, (ltr 25).s, (ltr 26).s, (ltr 53).s] = (["a", "z", "a1", "b2"] : List Str)) = true from by decide +kernel]
      repeat' (walk_at "pt 1")
      exact ⟨[_, _, _, _], rfl, rfl⟩
  rintro _ _ ⟨R5, rfl, rfl⟩
  refine sw_drop (.trans sub (List.sublist_append_right _ _)) ?_
  exact law3 M C hn a hr F k q sc ta tb nz po tk dr _ ⟨_, _, _, _, _, _, _, _, _, _, _, _, _, _, _, _, _, _, _, _, rfl⟩
theorem ok_law {f : Addr} {fd : FuncData} (M : Mg mg) (G : Fun K "law" "law" (top 37) f fd) (C : All P w K mg base n) (hn : 229 ≤ n) : FnOk P w K mg base CX0 (n + 1) f fd ["script"] (spOf K (pLaw 230 (n + 1))) := by
  refine fn_of G scLaw (fun ts F S k h => ?_) (fun a hr ts F S k h => ?_)
  · obtain ⟨_, _, _, rfl, _⟩ := h; rfl
  obtain ⟨_, sc, is, rfl, rfl, hsc, hl, q⟩ := h
  have q : ∀ S', k (.bl true) S' := q
  refine sw_cons ?_
  repeat' (walk_at "pt 1")
  refine ⟨[], [], [], [(sc, .lst (is.map T.int))], rfl, fun p hp => .inl (by rw [List.mem_singleton.mp hp]; exact hsc), by omega, sc, is, rfl, rfl, .head _, hl, fun ta tb seed0 ns0 tk0 => ?_⟩
  simp only [List.nil_append, List.append_nil]
  repeat' (walk_at "pt 1")
  intro nz hnz
  repeat' (walk_at "pt 1")
  refine s1_par (i := 3) (j := 4) rfl scLaw.nd rfl rfl (by decide) ?_
  repeat' (walk_at "pt 1")
  refine ⟨[(nz, .lst (nmT NZ))], tapeS ta tb seed0 ns0, [], [(nz, .lst (nmT NZ))], rfl, fun p hp => .inr (.inl hp), ta, tb, nz, seed0, ns0, 3, NZ, rfl, rfl, tk0, .head _, by simp, by decide, by omega, fun one seed1 ns1 hod hoa tk1 => ?_⟩
  simp only [List.cons_append, List.nil_append, List.append_nil]
  repeat' (walk_at "pt 1")
  refine ⟨[(nz, .lst (nmT NZ))], tapeS ta tb seed1 ns1, [], [(nz, .lst (nmT NZ))], rfl, fun p hp => .inr (.inl hp), ta, tb, nz, seed1, ns1, 3, NZ, rfl, rfl, tk1, .head _, by simp, by decide, by omega, fun other seed2 ns2 hud hua tk2 => ?_⟩
  simp only [List.cons_append, List.nil_append, List.append_nil]
  exact law2 M C (by omega) a hr F k q sc ta tb nz tk2 ⟨by omega, hoa, by omega, hua⟩ _ ⟨_, _, _, _, _, _, _, _, _, _, _, _, _, _, _, _, _, _, _, _, _, rfl⟩
end
set_option Elab.async false
set_option linter.all false
set_option maxRecDepth 100000
set_option maxHeartbeats 4000000
set_option autoImplicit false
/-! ### all of them -/
structure Dfs (K : PySem.W.Frag) (mg : Str → Option Value) : Prop where
  d_atom : Df K mg "atom" (top 1) ["name"]
  d_parts_of : Df K mg "parts_of" (top 2) ["saying"]
  d_put_in : Df K mg "put_in" (top 3) ["saying", "table"]
  d_letter_name : Df K mg "letter_name" (top 6) ["number"]
  d_names_in_order : Df K mg "names_in_order" (top 7) ["saying"]
  d_general : Df K mg "general" (top 8) ["saying"]
  d_are_like : Df K mg "are_like" (top 9) ["one", "other"]
  d_instance_of : Df K mg "instance_of" (top 10) ["scheme", "saying"]
  d_renamed_apart : Df K mg "renamed_apart" (top 11) ["saying", "taken"]
  d_resolved : Df K mg "resolved" (top 12) ["saying", "table"]
  d_stands_in : Df K mg "stands_in" (top 13) ["name", "saying", "table"]
  d_joined : Df K mg "joined" (top 14) ["pairs", "table"]
  d_common_form : Df K mg "common_form" (top 15) ["one", "other"]
  d_law_tape : Df K mg "_law_tape" (top 17) ["script"]
  d_law_draw : Df K mg "_law_draw" (top 18) ["tape", "many"]
  d_law_pick : Df K mg "_law_pick" (top 19) ["tape", "row"]
  d_law_same : Df K mg "_law_same" (top 20) ["one", "other"]
  d_law_saying : Df K mg "_law_saying" (top 21) ["tape", "depth", "names"]
  d_law_atoms : Df K mg "_law_atoms" (top 23) ["saying"]
  d_law_put : Df K mg "_law_put" (top 29) ["saying", "table"]
  d_law_order : Df K mg "_law_order" (top 32) ["saying"]
  d_law_letter : Df K mg "_law_letter" (top 33) ["k"]
  d_law_clash : Df K mg "_law_clash" (top 34) ["one", "other", "table"]
  d_law_full : Df K mg "_law_full" (top 35) ["saying", "table"]
  d_law_instance : Df K mg "_law_instance" (top 36) ["scheme", "saying"]
section
variable {P : Program} {w : World} {K : PySem.W.Frag} {mg : Str → Option Value} {base : Heap}
theorem all_n (M : Mg mg) (G : Gm mg) (D : Dfs K mg) : ∀ n, All P w K mg base n
  | 0 => by
    refine ⟨cl_zero D.d_atom (fn_zero ?_), cl_zero D.d_parts_of (fn_zero ?_), cl_zero D.d_put_in (fn_zero ?_), cl_zero D.d_letter_name (fn_zero ?_), cl_zero D.d_names_in_order ?_, cl_zero D.d_general (fn_zero ?_), cl_zero D.d_are_like (fn_zero ?_), cl_zero D.d_instance_of ?_, cl_zero D.d_renamed_apart ?_, cl_zero D.d_resolved (fn_zero ?_), cl_zero D.d_stands_in (fn_zero ?_), cl_zero D.d_joined ?_, cl_zero D.d_common_form (fn_zero ?_), cl_zero D.d_law_tape ?_, cl_zero D.d_law_draw ?_, cl_zero D.d_law_pick ?_, cl_zero D.d_law_same (fn_zero ?_), cl_zero D.d_law_saying ?_, cl_zero D.d_law_atoms ?_, cl_zero D.d_law_put (fn_zero ?_), cl_zero D.d_law_order ?_, cl_zero D.d_law_letter (fn_zero ?_), cl_zero D.d_law_clash ?_, cl_zero D.d_law_full (fn_zero ?_), cl_zero D.d_law_instance ?_⟩
    · rintro _ _ _ ⟨h, _⟩; omega
    · rintro _ _ _ ⟨h, _⟩; omega
    · rintro _ _ _ ⟨s, _, _, _, _, h, _⟩; have := Say.dep1 s; omega
    · rintro _ _ _ ⟨h, _⟩; omega
    · rintro _ _ _ _ ⟨h, _⟩; omega
    · rintro _ _ _ ⟨h, _⟩; omega
    · rintro _ _ _ ⟨h, _⟩; omega
    · rintro _ _ _ _ ⟨h, _⟩; omega
    · rintro _ _ _ _ ⟨h, _⟩; omega
    · rintro _ _ _ ⟨_, _, _, _, _, _, _, _, h, _⟩; omega
    · rintro _ _ _ ⟨h, _⟩; omega
    · rintro _ _ _ _ ⟨h, _⟩; omega
    · rintro _ _ _ ⟨h, _⟩; omega
    · rintro _ _ _ _ ⟨h, _⟩; omega
    · rintro _ _ _ _ ⟨h, _⟩; omega
    · rintro _ _ _ _ ⟨h, _⟩; omega
    · rintro _ _ _ ⟨x, _, _, h, _⟩; cases x <;> simp [Sx.lvl] at h
    · rintro _ _ _ _ ⟨_, _, _, _, _, _, _, _, _, _, _, _, _, h, _⟩; omega
    · rintro _ _ _ _ ⟨s, _, _, _, h, _⟩; have := Say.dep1 s; omega
    · rintro _ _ _ ⟨s, _, _, _, _, h, _⟩; have := Say.dep1 s; omega
    · rintro _ _ _ _ ⟨s, _, _, h, _⟩; have := Say.dep1 s; omega
    · rintro _ _ _ ⟨h, _⟩; omega
    · rintro _ _ _ _ ⟨_, _, _, _, _, _, _, _, _, _, _, _, _, _, _, _, _, h, _⟩; omega
    · rintro _ _ _ ⟨_, _, _, _, _, _, _, _, h, _⟩; omega
    · rintro _ _ _ _ ⟨h, _⟩; omega
  | n + 1 => by
    have C := all_n M G D n
    exact ⟨ok_atom D.d_atom C, ok_parts_of D.d_parts_of C, ok_put D.d_put_in C, ok_letter M G D.d_letter_name C, ok_names M D.d_names_in_order C, ok_general M D.d_general C, ok_alike M D.d_are_like C, ok_instance M D.d_instance_of C, ok_apart M D.d_renamed_apart C, ok_resolved D.d_resolved C, ok_stands M D.d_stands_in C, ok_joined M D.d_joined C, ok_common M D.d_common_form C, ok_law_tape M D.d_law_tape C, ok_law_draw M D.d_law_draw C, ok_law_pick M D.d_law_pick C, ok_law_same M D.d_law_same C, ok_law_saying D.d_law_saying C, ok_law_atoms M D.d_law_atoms C, ok_law_put D.d_law_put C, ok_law_order M D.d_law_order C, ok_law_letter M D.d_law_letter C, ok_law_clash M D.d_law_clash C, ok_law_full D.d_law_full C, ok_law_instance M D.d_law_instance C⟩
theorem all_mk {h : Heap} {fa : Addr} (X : K.In h) (G : h.Ns mainGlobals mg) (hfa : mg "law" = some (.ref fa)) {f0 f1 f2 f3 f4 f5 f6 f7 f8 f9 f10 f11 f12 f13 f14 f15 f16 f17 f18 f19 f20 f21 f22 f23 f24 f25 : Addr} {od0 an0 od1 an1 od2 an2 od3 an3 od4 an4 od5 an5 od6 an6 od7 an7 od8 an8 od9 an9 od10 an10 od11 an11 od12 an12 od13 an13 od14 an14 od15 an15 od16 an16 od17 an17 od18 an18 od19 an19 od20 an20 od21 an21 od22 an22 od23 an23 od24 an24 od25 an25 : Option Addr} {sl0 sl1 sl2 sl3 sl4 sl5 sl6 sl7 sl8 sl9 sl10 sl11 sl12 sl13 sl14 sl15 sl16 sl17 sl18 sl19 sl20 sl21 sl22 sl23 sl24 sl25 : Array (Option Value)} {oc0 kV0 dc0 pm0 cd0 ct0 oc1 kV1 dc1 pm1 cd1 ct1 oc2 kV2 dc2 pm2 cd2 ct2 oc3 kV3 dc3 pm3 cd3 ct3 oc4 kV4 dc4 pm4 cd4 ct4 oc5 kV5 dc5 pm5 cd5 ct5 oc6 kV6 dc6 pm6 cd6 ct6 oc7 kV7 dc7 pm7 cd7 ct7 oc8 kV8 dc8 pm8 cd8 ct8 oc9 kV9 dc9 pm9 cd9 ct9 oc10 kV10 dc10 pm10 cd10 ct10 oc11 kV11 dc11 pm11 cd11 ct11 oc12 kV12 dc12 pm12 cd12 ct12 oc13 kV13 dc13 pm13 cd13 ct13 oc14 kV14 dc14 pm14 cd14 ct14 oc15 kV15 dc15 pm15 cd15 ct15 oc16 kV16 dc16 pm16 cd16 ct16 oc17 kV17 dc17 pm17 cd17 ct17 oc18 kV18 dc18 pm18 cd18 ct18 oc19 kV19 dc19 pm19 cd19 ct19 oc20 kV20 dc20 pm20 cd20 ct20 oc21 kV21 dc21 pm21 cd21 ct21 oc22 kV22 dc22 pm22 cd22 ct22 oc23 kV23 dc23 pm23 cd23 ct23 oc24 kV24 dc24 pm24 cd24 ct24 oc25 kV25 dc25 pm25 cd25 ct25 : Value}
    (a0 : PySem.W.nsIn K mainGlobals "atom" = some (some (.ref f0))) (l0 : K.lookup f0 = some ⟨oc0, od0, .func (PySem.W.fnOf "atom" "atom" (defArgs (top 1)) (defBody (top 1)) (defScope (top 1)) .none kV0 dc0 pm0 an0 cd0 ct0), sl0⟩) (e0 : PySem.W.codeIn K cd0 "atom" = true) (k0 : PySem.W.keepIn K (.ref f0) = true)
    (a1 : PySem.W.nsIn K mainGlobals "parts_of" = some (some (.ref f1))) (l1 : K.lookup f1 = some ⟨oc1, od1, .func (PySem.W.fnOf "parts_of" "parts_of" (defArgs (top 2)) (defBody (top 2)) (defScope (top 2)) .none kV1 dc1 pm1 an1 cd1 ct1), sl1⟩) (e1 : PySem.W.codeIn K cd1 "parts_of" = true) (k1 : PySem.W.keepIn K (.ref f1) = true)
    (a2 : PySem.W.nsIn K mainGlobals "put_in" = some (some (.ref f2))) (l2 : K.lookup f2 = some ⟨oc2, od2, .func (PySem.W.fnOf "put_in" "put_in" (defArgs (top 3)) (defBody (top 3)) (defScope (top 3)) .none kV2 dc2 pm2 an2 cd2 ct2), sl2⟩) (e2 : PySem.W.codeIn K cd2 "put_in" = true) (k2 : PySem.W.keepIn K (.ref f2) = true)
    (a3 : PySem.W.nsIn K mainGlobals "letter_name" = some (some (.ref f3))) (l3 : K.lookup f3 = some ⟨oc3, od3, .func (PySem.W.fnOf "letter_name" "letter_name" (defArgs (top 6)) (defBody (top 6)) (defScope (top 6)) .none kV3 dc3 pm3 an3 cd3 ct3), sl3⟩) (e3 : PySem.W.codeIn K cd3 "letter_name" = true) (k3 : PySem.W.keepIn K (.ref f3) = true)
    (a4 : PySem.W.nsIn K mainGlobals "names_in_order" = some (some (.ref f4))) (l4 : K.lookup f4 = some ⟨oc4, od4, .func (PySem.W.fnOf "names_in_order" "names_in_order" (defArgs (top 7)) (defBody (top 7)) (defScope (top 7)) .none kV4 dc4 pm4 an4 cd4 ct4), sl4⟩) (e4 : PySem.W.codeIn K cd4 "names_in_order" = true) (k4 : PySem.W.keepIn K (.ref f4) = true)
    (a5 : PySem.W.nsIn K mainGlobals "general" = some (some (.ref f5))) (l5 : K.lookup f5 = some ⟨oc5, od5, .func (PySem.W.fnOf "general" "general" (defArgs (top 8)) (defBody (top 8)) (defScope (top 8)) .none kV5 dc5 pm5 an5 cd5 ct5), sl5⟩) (e5 : PySem.W.codeIn K cd5 "general" = true) (k5 : PySem.W.keepIn K (.ref f5) = true)
    (a6 : PySem.W.nsIn K mainGlobals "are_like" = some (some (.ref f6))) (l6 : K.lookup f6 = some ⟨oc6, od6, .func (PySem.W.fnOf "are_like" "are_like" (defArgs (top 9)) (defBody (top 9)) (defScope (top 9)) .none kV6 dc6 pm6 an6 cd6 ct6), sl6⟩) (e6 : PySem.W.codeIn K cd6 "are_like" = true) (k6 : PySem.W.keepIn K (.ref f6) = true)
    (a7 : PySem.W.nsIn K mainGlobals "instance_of" = some (some (.ref f7))) (l7 : K.lookup f7 = some ⟨oc7, od7, .func (PySem.W.fnOf "instance_of" "instance_of" (defArgs (top 10)) (defBody (top 10)) (defScope (top 10)) .none kV7 dc7 pm7 an7 cd7 ct7), sl7⟩) (e7 : PySem.W.codeIn K cd7 "instance_of" = true) (k7 : PySem.W.keepIn K (.ref f7) = true)
    (a8 : PySem.W.nsIn K mainGlobals "renamed_apart" = some (some (.ref f8))) (l8 : K.lookup f8 = some ⟨oc8, od8, .func (PySem.W.fnOf "renamed_apart" "renamed_apart" (defArgs (top 11)) (defBody (top 11)) (defScope (top 11)) .none kV8 dc8 pm8 an8 cd8 ct8), sl8⟩) (e8 : PySem.W.codeIn K cd8 "renamed_apart" = true) (k8 : PySem.W.keepIn K (.ref f8) = true)
    (a9 : PySem.W.nsIn K mainGlobals "resolved" = some (some (.ref f9))) (l9 : K.lookup f9 = some ⟨oc9, od9, .func (PySem.W.fnOf "resolved" "resolved" (defArgs (top 12)) (defBody (top 12)) (defScope (top 12)) .none kV9 dc9 pm9 an9 cd9 ct9), sl9⟩) (e9 : PySem.W.codeIn K cd9 "resolved" = true) (k9 : PySem.W.keepIn K (.ref f9) = true)
    (a10 : PySem.W.nsIn K mainGlobals "stands_in" = some (some (.ref f10))) (l10 : K.lookup f10 = some ⟨oc10, od10, .func (PySem.W.fnOf "stands_in" "stands_in" (defArgs (top 13)) (defBody (top 13)) (defScope (top 13)) .none kV10 dc10 pm10 an10 cd10 ct10), sl10⟩) (e10 : PySem.W.codeIn K cd10 "stands_in" = true) (k10 : PySem.W.keepIn K (.ref f10) = true)
    (a11 : PySem.W.nsIn K mainGlobals "joined" = some (some (.ref f11))) (l11 : K.lookup f11 = some ⟨oc11, od11, .func (PySem.W.fnOf "joined" "joined" (defArgs (top 14)) (defBody (top 14)) (defScope (top 14)) .none kV11 dc11 pm11 an11 cd11 ct11), sl11⟩) (e11 : PySem.W.codeIn K cd11 "joined" = true) (k11 : PySem.W.keepIn K (.ref f11) = true)
    (a12 : PySem.W.nsIn K mainGlobals "common_form" = some (some (.ref f12))) (l12 : K.lookup f12 = some ⟨oc12, od12, .func (PySem.W.fnOf "common_form" "common_form" (defArgs (top 15)) (defBody (top 15)) (defScope (top 15)) .none kV12 dc12 pm12 an12 cd12 ct12), sl12⟩) (e12 : PySem.W.codeIn K cd12 "common_form" = true) (k12 : PySem.W.keepIn K (.ref f12) = true)
    (a13 : PySem.W.nsIn K mainGlobals "_law_tape" = some (some (.ref f13))) (l13 : K.lookup f13 = some ⟨oc13, od13, .func (PySem.W.fnOf "_law_tape" "_law_tape" (defArgs (top 17)) (defBody (top 17)) (defScope (top 17)) .none kV13 dc13 pm13 an13 cd13 ct13), sl13⟩) (e13 : PySem.W.codeIn K cd13 "_law_tape" = true) (k13 : PySem.W.keepIn K (.ref f13) = true)
    (a14 : PySem.W.nsIn K mainGlobals "_law_draw" = some (some (.ref f14))) (l14 : K.lookup f14 = some ⟨oc14, od14, .func (PySem.W.fnOf "_law_draw" "_law_draw" (defArgs (top 18)) (defBody (top 18)) (defScope (top 18)) .none kV14 dc14 pm14 an14 cd14 ct14), sl14⟩) (e14 : PySem.W.codeIn K cd14 "_law_draw" = true) (k14 : PySem.W.keepIn K (.ref f14) = true)
    (a15 : PySem.W.nsIn K mainGlobals "_law_pick" = some (some (.ref f15))) (l15 : K.lookup f15 = some ⟨oc15, od15, .func (PySem.W.fnOf "_law_pick" "_law_pick" (defArgs (top 19)) (defBody (top 19)) (defScope (top 19)) .none kV15 dc15 pm15 an15 cd15 ct15), sl15⟩) (e15 : PySem.W.codeIn K cd15 "_law_pick" = true) (k15 : PySem.W.keepIn K (.ref f15) = true)
    (a16 : PySem.W.nsIn K mainGlobals "_law_same" = some (some (.ref f16))) (l16 : K.lookup f16 = some ⟨oc16, od16, .func (PySem.W.fnOf "_law_same" "_law_same" (defArgs (top 20)) (defBody (top 20)) (defScope (top 20)) .none kV16 dc16 pm16 an16 cd16 ct16), sl16⟩) (e16 : PySem.W.codeIn K cd16 "_law_same" = true) (k16 : PySem.W.keepIn K (.ref f16) = true)
    (a17 : PySem.W.nsIn K mainGlobals "_law_saying" = some (some (.ref f17))) (l17 : K.lookup f17 = some ⟨oc17, od17, .func (PySem.W.fnOf "_law_saying" "_law_saying" (defArgs (top 21)) (defBody (top 21)) (defScope (top 21)) .none kV17 dc17 pm17 an17 cd17 ct17), sl17⟩) (e17 : PySem.W.codeIn K cd17 "_law_saying" = true) (k17 : PySem.W.keepIn K (.ref f17) = true)
    (a18 : PySem.W.nsIn K mainGlobals "_law_atoms" = some (some (.ref f18))) (l18 : K.lookup f18 = some ⟨oc18, od18, .func (PySem.W.fnOf "_law_atoms" "_law_atoms" (defArgs (top 23)) (defBody (top 23)) (defScope (top 23)) .none kV18 dc18 pm18 an18 cd18 ct18), sl18⟩) (e18 : PySem.W.codeIn K cd18 "_law_atoms" = true) (k18 : PySem.W.keepIn K (.ref f18) = true)
    (a19 : PySem.W.nsIn K mainGlobals "_law_put" = some (some (.ref f19))) (l19 : K.lookup f19 = some ⟨oc19, od19, .func (PySem.W.fnOf "_law_put" "_law_put" (defArgs (top 29)) (defBody (top 29)) (defScope (top 29)) .none kV19 dc19 pm19 an19 cd19 ct19), sl19⟩) (e19 : PySem.W.codeIn K cd19 "_law_put" = true) (k19 : PySem.W.keepIn K (.ref f19) = true)
    (a20 : PySem.W.nsIn K mainGlobals "_law_order" = some (some (.ref f20))) (l20 : K.lookup f20 = some ⟨oc20, od20, .func (PySem.W.fnOf "_law_order" "_law_order" (defArgs (top 32)) (defBody (top 32)) (defScope (top 32)) .none kV20 dc20 pm20 an20 cd20 ct20), sl20⟩) (e20 : PySem.W.codeIn K cd20 "_law_order" = true) (k20 : PySem.W.keepIn K (.ref f20) = true)
    (a21 : PySem.W.nsIn K mainGlobals "_law_letter" = some (some (.ref f21))) (l21 : K.lookup f21 = some ⟨oc21, od21, .func (PySem.W.fnOf "_law_letter" "_law_letter" (defArgs (top 33)) (defBody (top 33)) (defScope (top 33)) .none kV21 dc21 pm21 an21 cd21 ct21), sl21⟩) (e21 : PySem.W.codeIn K cd21 "_law_letter" = true) (k21 : PySem.W.keepIn K (.ref f21) = true)
    (a22 : PySem.W.nsIn K mainGlobals "_law_clash" = some (some (.ref f22))) (l22 : K.lookup f22 = some ⟨oc22, od22, .func (PySem.W.fnOf "_law_clash" "_law_clash" (defArgs (top 34)) (defBody (top 34)) (defScope (top 34)) .none kV22 dc22 pm22 an22 cd22 ct22), sl22⟩) (e22 : PySem.W.codeIn K cd22 "_law_clash" = true) (k22 : PySem.W.keepIn K (.ref f22) = true)
    (a23 : PySem.W.nsIn K mainGlobals "_law_full" = some (some (.ref f23))) (l23 : K.lookup f23 = some ⟨oc23, od23, .func (PySem.W.fnOf "_law_full" "_law_full" (defArgs (top 35)) (defBody (top 35)) (defScope (top 35)) .none kV23 dc23 pm23 an23 cd23 ct23), sl23⟩) (e23 : PySem.W.codeIn K cd23 "_law_full" = true) (k23 : PySem.W.keepIn K (.ref f23) = true)
    (a24 : PySem.W.nsIn K mainGlobals "_law_instance" = some (some (.ref f24))) (l24 : K.lookup f24 = some ⟨oc24, od24, .func (PySem.W.fnOf "_law_instance" "_law_instance" (defArgs (top 36)) (defBody (top 36)) (defScope (top 36)) .none kV24 dc24 pm24 an24 cd24 ct24), sl24⟩) (e24 : PySem.W.codeIn K cd24 "_law_instance" = true) (k24 : PySem.W.keepIn K (.ref f24) = true)
    (a25 : PySem.W.nsIn K mainGlobals "law" = some (some (.ref f25))) (l25 : K.lookup f25 = some ⟨oc25, od25, .func (PySem.W.fnOf "law" "law" (defArgs (top 37)) (defBody (top 37)) (defScope (top 37)) .none kV25 dc25 pm25 an25 cd25 ct25), sl25⟩) (e25 : PySem.W.codeIn K cd25 "law" = true) (k25 : PySem.W.keepIn K (.ref f25) = true)
    (z0 : PySem.W.nsIn K mainGlobals "len" = some none) (z1 : PySem.W.nsIn K mainGlobals "sum" = some none) (z2 : PySem.W.nsIn K mainGlobals "all" = some none) (z3 : PySem.W.nsIn K mainGlobals "any" = some none) (z4 : PySem.W.nsIn K mainGlobals "sorted" = some none) (z5 : PySem.W.nsIn K mainGlobals "isinstance" = some none) (z6 : PySem.W.nsIn K mainGlobals "abs" = some none) (z7 : PySem.W.nsIn K mainGlobals "tuple" = some none) (z8 : PySem.W.nsIn K mainGlobals "list" = some none) (z9 : PySem.W.nsIn K mainGlobals "dict" = some none) (z10 : PySem.W.nsIn K mainGlobals "str" = some none) (z11 : PySem.W.nsIn K mainGlobals "int" = some none) (z12 : PySem.W.nsIn K mainGlobals "range" = some none) (z13 : PySem.W.nsIn K mainGlobals "enumerate" = some none) (z14 : PySem.W.nsIn K mainGlobals "zip" = some none) (nl : noLists K = true)
    {tk : _} (g0 : PySem.W.nsIn K mainGlobals "LETTER_NAMES" = some (some (.str LET tk)))
 :
    ∃ fd : FuncData, (∀ (s : Shared) (v : Value), BindsTo s fd ⟨[v], []⟩ [("script", v)]) ∧ ∀ base : Heap, K.In base → base.Ns mainGlobals mg → FnOk P w K mg base CX0 230 fa fd ["script"] (spLaw 230 230 K) := by
  have M : Mg mg := ⟨PySem.W.mg_none_of X G z0, PySem.W.mg_none_of X G z1, PySem.W.mg_none_of X G z2, PySem.W.mg_none_of X G z3, PySem.W.mg_none_of X G z4, PySem.W.mg_none_of X G z5, PySem.W.mg_none_of X G z6, PySem.W.mg_none_of X G z7, PySem.W.mg_none_of X G z8, PySem.W.mg_none_of X G z9, PySem.W.mg_none_of X G z10, PySem.W.mg_none_of X G z11, PySem.W.mg_none_of X G z12, PySem.W.mg_none_of X G z13, PySem.W.mg_none_of X G z14⟩
  have GM : Gm mg := ⟨⟨_, PySem.W.mg_of X G g0⟩⟩
  have D : Dfs K mg := ⟨df_mk X G a0 l0 e0 k0 (fun _ F => F.binds (ps := ["name"]) fun _ _ _ _ _ _ us hl => match us, hl with | [_], _ => rfl),
    df_mk X G a1 l1 e1 k1 (fun _ F => F.binds (ps := ["saying"]) fun _ _ _ _ _ _ us hl => match us, hl with | [_], _ => rfl),
    df_mk X G a2 l2 e2 k2 (fun _ F => F.binds (ps := ["saying", "table"]) fun _ _ _ _ _ _ us hl => match us, hl with | [_, _], _ => rfl),
    df_mk X G a3 l3 e3 k3 (fun _ F => F.binds (ps := ["number"]) fun _ _ _ _ _ _ us hl => match us, hl with | [_], _ => rfl),
    df_mk X G a4 l4 e4 k4 (fun _ F => F.binds (ps := ["saying"]) fun _ _ _ _ _ _ us hl => match us, hl with | [_], _ => rfl),
    df_mk X G a5 l5 e5 k5 (fun _ F => F.binds (ps := ["saying"]) fun _ _ _ _ _ _ us hl => match us, hl with | [_], _ => rfl),
    df_mk X G a6 l6 e6 k6 (fun _ F => F.binds (ps := ["one", "other"]) fun _ _ _ _ _ _ us hl => match us, hl with | [_, _], _ => rfl),
    df_mk X G a7 l7 e7 k7 (fun _ F => F.binds (ps := ["scheme", "saying"]) fun _ _ _ _ _ _ us hl => match us, hl with | [_, _], _ => rfl),
    df_mk X G a8 l8 e8 k8 (fun _ F => F.binds (ps := ["saying", "taken"]) fun _ _ _ _ _ _ us hl => match us, hl with | [_, _], _ => rfl),
    df_mk X G a9 l9 e9 k9 (fun _ F => F.binds (ps := ["saying", "table"]) fun _ _ _ _ _ _ us hl => match us, hl with | [_, _], _ => rfl),
    df_mk X G a10 l10 e10 k10 (fun _ F => F.binds (ps := ["name", "saying", "table"]) fun _ _ _ _ _ _ us hl => match us, hl with | [_, _, _], _ => rfl),
    df_mk X G a11 l11 e11 k11 (fun _ F => F.binds (ps := ["pairs", "table"]) fun _ _ _ _ _ _ us hl => match us, hl with | [_, _], _ => rfl),
    df_mk X G a12 l12 e12 k12 (fun _ F => F.binds (ps := ["one", "other"]) fun _ _ _ _ _ _ us hl => match us, hl with | [_, _], _ => rfl),
    df_mk X G a13 l13 e13 k13 (fun _ F => F.binds (ps := ["script"]) fun _ _ _ _ _ _ us hl => match us, hl with | [_], _ => rfl),
    df_mk X G a14 l14 e14 k14 (fun _ F => F.binds (ps := ["tape", "many"]) fun _ _ _ _ _ _ us hl => match us, hl with | [_, _], _ => rfl),
    df_mk X G a15 l15 e15 k15 (fun _ F => F.binds (ps := ["tape", "row"]) fun _ _ _ _ _ _ us hl => match us, hl with | [_, _], _ => rfl),
    df_mk X G a16 l16 e16 k16 (fun _ F => F.binds (ps := ["one", "other"]) fun _ _ _ _ _ _ us hl => match us, hl with | [_, _], _ => rfl),
    df_mk X G a17 l17 e17 k17 (fun _ F => F.binds (ps := ["tape", "depth", "names"]) fun _ _ _ _ _ _ us hl => match us, hl with | [_, _, _], _ => rfl),
    df_mk X G a18 l18 e18 k18 (fun _ F => F.binds (ps := ["saying"]) fun _ _ _ _ _ _ us hl => match us, hl with | [_], _ => rfl),
    df_mk X G a19 l19 e19 k19 (fun _ F => F.binds (ps := ["saying", "table"]) fun _ _ _ _ _ _ us hl => match us, hl with | [_, _], _ => rfl),
    df_mk X G a20 l20 e20 k20 (fun _ F => F.binds (ps := ["saying"]) fun _ _ _ _ _ _ us hl => match us, hl with | [_], _ => rfl),
    df_mk X G a21 l21 e21 k21 (fun _ F => F.binds (ps := ["k"]) fun _ _ _ _ _ _ us hl => match us, hl with | [_], _ => rfl),
    df_mk X G a22 l22 e22 k22 (fun _ F => F.binds (ps := ["one", "other", "table"]) fun _ _ _ _ _ _ us hl => match us, hl with | [_, _, _], _ => rfl),
    df_mk X G a23 l23 e23 k23 (fun _ F => F.binds (ps := ["saying", "table"]) fun _ _ _ _ _ _ us hl => match us, hl with | [_, _], _ => rfl),
    df_mk X G a24 l24 e24 k24 (fun _ F => F.binds (ps := ["scheme", "saying"]) fun _ _ _ _ _ _ us hl => match us, hl with | [_, _], _ => rfl)⟩
  have e := hfa.symm.trans (PySem.W.mg_of X G a25)
  cases e
  have FL := fun_mk (st := top 37) l25 e25 k25
  refine ⟨PySem.W.fnOf "law" "law" (defArgs (top 37)) (defBody (top 37)) (defScope (top 37)) .none kV25 dc25 pm25 an25 cd25 ct25, fun s v => .of_eq rfl, fun base _ _ => ?_⟩
  exact (ok_law (P := P) (w := w) (base := base) M FL (all_n M GM D 229) (Nat.le_refl _)).imp fun vs H Q E z => z nl
end
end B02
open PySem PySem.W PyProof.Rows
set_option maxHeartbeats 0 in
theorem PySem.Challenge.cw_briefproof_k02_whole_likeness_and_instan_holds : PySem.Challenge.rw_briefproof_k02_whole_likeness_and_instan.Holds := by
  w_on; o_law; k_head; (case hw => w_witness2)
  k_fill
  refine PT.walk (l := PySem.Challenge.rw_briefproof_k02_whole_likeness_and_instan) (m := 230) (k := 230) (by decide) (by decide) rfl rfl (fun w h Y => PySem.W.kIn_of Y) ?F
  case F =>
    intro w mg fa h KX G hmg
    refine' B02.all_mk KX G hmg ?a0 ?l0 ?e0 ?k0 ?a1 ?l1 ?e1 ?k1 ?a2 ?l2 ?e2 ?k2 ?a3 ?l3 ?e3 ?k3 ?a4 ?l4 ?e4 ?k4 ?a5 ?l5 ?e5 ?k5 ?a6 ?l6 ?e6 ?k6 ?a7 ?l7 ?e7 ?k7 ?a8 ?l8 ?e8 ?k8 ?a9 ?l9 ?e9 ?k9 ?a10 ?l10 ?e10 ?k10 ?a11 ?l11 ?e11 ?k11 ?a12 ?l12 ?e12 ?k12 ?a13 ?l13 ?e13 ?k13 ?a14 ?l14 ?e14 ?k14 ?a15 ?l15 ?e15 ?k15 ?a16 ?l16 ?e16 ?k16 ?a17 ?l17 ?e17 ?k17 ?a18 ?l18 ?e18 ?k18 ?a19 ?l19 ?e19 ?k19 ?a20 ?l20 ?e20 ?k20 ?a21 ?l21 ?e21 ?k21 ?a22 ?l22 ?e22 ?k22 ?a23 ?l23 ?e23 ?k23 ?a24 ?l24 ?e24 ?k24 ?a25 ?l25 ?e25 ?k25 ?z0 ?z1 ?z2 ?z3 ?z4 ?z5 ?z6 ?z7 ?z8 ?z9 ?z10 ?z11 ?z12 ?z13 ?z14 ?nl ?cst0
    (case a0 => k_is); (case l0 => k_is); (case e0 => k_is); (case k0 => k_is)
    (case a1 => k_is); (case l1 => k_is); (case e1 => k_is); (case k1 => k_is)
    (case a2 => k_is); (case l2 => k_is); (case e2 => k_is); (case k2 => k_is)
    (case a3 => k_is); (case l3 => k_is); (case e3 => k_is); (case k3 => k_is)
    (case a4 => k_is); (case l4 => k_is); (case e4 => k_is); (case k4 => k_is)
    (case a5 => k_is); (case l5 => k_is); (case e5 => k_is); (case k5 => k_is)
    (case a6 => k_is); (case l6 => k_is); (case e6 => k_is); (case k6 => k_is)
    (case a7 => k_is); (case l7 => k_is); (case e7 => k_is); (case k7 => k_is)
    (case a8 => k_is); (case l8 => k_is); (case e8 => k_is); (case k8 => k_is)
    (case a9 => k_is); (case l9 => k_is); (case e9 => k_is); (case k9 => k_is)
    (case a10 => k_is); (case l10 => k_is); (case e10 => k_is); (case k10 => k_is)
    (case a11 => k_is); (case l11 => k_is); (case e11 => k_is); (case k11 => k_is)
    (case a12 => k_is); (case l12 => k_is); (case e12 => k_is); (case k12 => k_is)
    (case a13 => k_is); (case l13 => k_is); (case e13 => k_is); (case k13 => k_is)
    (case a14 => k_is); (case l14 => k_is); (case e14 => k_is); (case k14 => k_is)
    (case a15 => k_is); (case l15 => k_is); (case e15 => k_is); (case k15 => k_is)
    (case a16 => k_is); (case l16 => k_is); (case e16 => k_is); (case k16 => k_is)
    (case a17 => k_is); (case l17 => k_is); (case e17 => k_is); (case k17 => k_is)
    (case a18 => k_is); (case l18 => k_is); (case e18 => k_is); (case k18 => k_is)
    (case a19 => k_is); (case l19 => k_is); (case e19 => k_is); (case k19 => k_is)
    (case a20 => k_is); (case l20 => k_is); (case e20 => k_is); (case k20 => k_is)
    (case a21 => k_is); (case l21 => k_is); (case e21 => k_is); (case k21 => k_is)
    (case a22 => k_is); (case l22 => k_is); (case e22 => k_is); (case k22 => k_is)
    (case a23 => k_is); (case l23 => k_is); (case e23 => k_is); (case k23 => k_is)
    (case a24 => k_is); (case l24 => k_is); (case e24 => k_is); (case k24 => k_is)
    (case a25 => k_is); (case l25 => k_is); (case e25 => k_is); (case k25 => k_is)
    (case z0 => k_is); (case z1 => k_is); (case z2 => k_is); (case z3 => k_is); (case z4 => k_is); (case z5 => k_is); (case z6 => k_is); (case z7 => k_is); (case z8 => k_is); (case z9 => k_is); (case z10 => k_is); (case z11 => k_is); (case z12 => k_is); (case z13 => k_is); (case z14 => k_is)
    (case nl => exact Eq.refl true)
    (case cst0 => k_is)
