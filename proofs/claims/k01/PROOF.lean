import PyProof.Rows.All
import Wide.All
import OpenK.AllK
import Wide.FinOn
import HandS.ForMost
import HandS.Wide
import HandS.Zip
import HandS.Flow
import HandS.NoneIn
import HandS.TupAny
import HandS.TupMul
import HandS.IsInst
import HandS.ForExc
import KE.KUnpackStar
import HandS.Style
import HandS.StrMore
import KE.GoesMore
import KE.GoesZip
import KE.GoesEnum
import PyProof.ReprRoads
import PySem.Challenge.RW_wedgelight_k01_told_divided_and_arrows
set_option Elab.async false
set_option linter.all false
set_option maxRecDepth 100000
set_option maxHeartbeats 4000000 -- the walks are long
namespace Y
open PySem L2

/-! ### data, descriptions of slots -/
inductive D where
  | non | bl (b : Bool) | int (i : Int) | str (x : Str) | ptr (a : Addr) | ty (n : String)
  | lst (ds : List D) | rls (ds : List D) | tup (ds : List D) | ins (C : Addr) (ns : List Str) (ds : List D)
mutual
inductive Ds (K : PySem.W.Frag) (H : Hp) : V → D → Prop
  | non : Ds K H .non .non
  | bl (b : Bool) : Ds K H (.bl b) (.bl b)
  | int (i : Int) : Ds K H (.int i) (.int i)
  | str (x : Str) : Ds K H (.str x) (.str x)
  | ptr (a : Addr) : Ds K H (.ref a) (.ptr a)
  | ty (n : String) : Ds K H (.ty n) (.ty n)
  | lst {a : Addr} {xs : List V} {ds : List D} : H a = some (.lst xs) → DsL K H xs ds → Ds K H (.ref a) (.lst ds)
  | rls {a : Addr} {xs : List V} {ds : List D} : SqL K H a xs → DsL K H xs ds → Ds K H (.ref a) (.rls ds)
  | tup {a : Addr} {xs : List V} {ds : List D} : SqT K H a xs → DsL K H xs ds → Ds K H (.ref a) (.tup ds)
  | ins {a C dx : Addr} {fs : List (Str × V)} {ds : List D} : H a = some (.ins C dx fs) → DsL K H (fs.map (·.2)) ds → Ds K H (.ref a) (.ins C (fs.map (·.1)) ds)
inductive DsL (K : PySem.W.Frag) (H : Hp) : List V → List D → Prop
  | nil : DsL K H [] []
  | cons {v : V} {vs : List V} {d : D} {ds : List D} : Ds K H v d → DsL K H vs ds → DsL K H (v :: vs) (d :: ds)
end
section
variable {K : PySem.W.Frag} {H H' : Hp}
mutual
theorem Ds.mono (e : Same H H') : ∀ {v : V} {d : D}, Ds K H v d → Ds K H' v d
  | _, _, .non => .non
  | _, _, .bl b => .bl b
  | _, _, .int i => .int i
  | _, _, .str x => .str x
  | _, _, .ptr a => .ptr a
  | _, _, .ty a => .ty a
  | _, _, .lst h q => .lst (e _ _ h) (DsL.mono e q)
  | _, _, .rls h q => .rls (e.seq h) (DsL.mono e q)
  | _, _, .tup h q => .tup (by
      rcases h with (h | ⟨o, h⟩) | h
      · exact .inl (.inl (e _ _ h))
      · exact .inl (.inr ⟨o, e _ _ h⟩)
      · exact .inr h) (DsL.mono e q)
  | _, _, .ins h q => .ins (e _ _ h) (DsL.mono e q)
theorem DsL.mono (e : Same H H') : ∀ {vs : List V} {ds : List D}, DsL K H vs ds → DsL K H' vs ds
  | _, _, .nil => .nil
  | _, _, .cons h q => .cons (Ds.mono e h) (DsL.mono e q)
end
theorem seqT {a : Addr} {xs : List V} (e : Same H H') (h : SqT K H a xs) : SqT K H' a xs := by
  rcases h with (h | ⟨o, h⟩) | h
  · exact .inl (.inl (e _ _ h))
  · exact .inl (.inr ⟨o, e _ _ h⟩)
  · exact .inr h
theorem DsL.length : ∀ {vs : List V} {ds : List D}, DsL K H vs ds → vs.length = ds.length
  | _, _, .nil => rfl
  | _, _, .cons _ q => by simp [DsL.length q]
theorem DsL.get : ∀ {vs : List V} {ds : List D} {i : Nat} {d : D}, DsL K H vs ds → ds[i]? = some d → ∃ v, vs[i]? = some v ∧ Ds K H v d
  | _, _, _, _, .nil, e => by simp at e
  | _, _, 0, _, .cons r _, e => by simp at e; subst e; exact ⟨_, rfl, r⟩
  | _, _, i + 1, _, .cons _ q, e => by
    obtain ⟨v, h1, h2⟩ := DsL.get (i := i) q (by simpa using e)
    exact ⟨v, by simpa using h1, h2⟩
theorem DsL.getV : ∀ {vs : List V} {ds : List D} {i : Nat} {v : V}, DsL K H vs ds → vs[i]? = some v → ∃ d, ds[i]? = some d ∧ Ds K H v d
  | _, _, _, _, .nil, e => by simp at e
  | _, _, 0, _, .cons r _, e => by simp at e; subst e; exact ⟨_, rfl, r⟩
  | _, _, i + 1, _, .cons _ q, e => by
    obtain ⟨v, h1, h2⟩ := DsL.getV (i := i) q (by simpa using e)
    exact ⟨v, by simpa using h1, h2⟩
theorem DsL.append : ∀ {vs ws : List V} {ds es : List D}, DsL K H vs ds → DsL K H ws es → DsL K H (vs ++ ws) (ds ++ es)
  | _, _, _, _, .nil, q => q
  | _, _, _, _, .cons r p, q => .cons r (DsL.append p q)
theorem DsL.set {v : V} {d : D} (r : Ds K H v d) : ∀ {vs : List V} {ds : List D} (i : Nat), DsL K H vs ds → DsL K H (vs.set i v) (ds.set i d)
  | _, _, _, .nil => .nil
  | _, _, 0, .cons _ q => .cons r q
  | _, _, i + 1, .cons p q => .cons p (DsL.set r i q)
theorem DsL.drop : ∀ {vs : List V} {ds : List D} (n : Nat), DsL K H vs ds → DsL K H (vs.drop n) (ds.drop n)
  | _, _, 0, q => q
  | _, _, _ + 1, .nil => .nil
  | _, _, n + 1, .cons _ q => DsL.drop n q
theorem DsL.take : ∀ {vs : List V} {ds : List D} (n : Nat), DsL K H vs ds → DsL K H (vs.take n) (ds.take n)
  | _, _, 0, _ => .nil
  | _, _, _ + 1, .nil => .nil
  | _, _, n + 1, .cons p q => .cons p (DsL.take n q)
theorem DsL.rep {v : V} {d : D} (r : Ds K H v d) : ∀ n, DsL K H (List.replicate n v) (List.replicate n d)
  | 0 => .nil
  | n + 1 => .cons r (DsL.rep r n)
theorem DsL.reverse : ∀ {vs : List V} {ds : List D}, DsL K H vs ds → DsL K H vs.reverse ds.reverse
  | _, _, .nil => .nil
  | _, _, .cons p q => by rw [List.reverse_cons, List.reverse_cons]; exact (DsL.reverse q).append (.cons p .nil)
theorem DsL.ints : ∀ {vs : List V} {ns : List Int}, DsL K H vs (ns.map D.int) → vs = ns.map V.int
  | _, [], .nil => rfl
  | _, n :: ns, .cons (.int _) q => by rw [List.map_cons, ← DsL.ints q]
theorem DsL.bls : ∀ {vs : List V} {ns : List Bool}, DsL K H vs (ns.map D.bl) → vs = ns.map V.bl
  | _, [], .nil => rfl
  | _, n :: ns, .cons (.bl _) q => by rw [List.map_cons, ← DsL.bls q]
end

/-- owned objects: the function's own, changing -/
inductive OD where
  | lst (ds : List D)
inductive SD where
  | any | dat (d : D) | own (p : Addr) (o : OD)
def OdOk (K : PySem.W.Frag) (Hf H : Hp) (p : Addr) : OD → Prop
  | .lst ds => ∃ xs, H p = some (.lst xs) ∧ DsL K Hf xs ds
def SdOk (K : PySem.W.Frag) (Hf H : Hp) (ov : Option V) : SD → Prop
  | .any => True
  | .dat d => ∃ v, ov = some v ∧ Ds K Hf v d
  | .own p o => ov = some (.ref p) ∧ Hf p = none ∧ OdOk K Hf H p o
def owns : List SD → List Addr
  | [] => []
  | .own p _ :: r => p :: owns r
  | .any :: r => owns r
  | .dat _ :: r => owns r
/-- Hf: what never changes; H: what is; σ: the slots' values, told by A -/
structure Rel (K : PySem.W.Frag) (Hf H : Hp) (σ : List (Option V)) (A : List SD) : Prop where
  sm : Same Hf H
  al : Paired (SdOk K Hf H) σ A
  nd : (owns A).Nodup
structure Fr (o0 : List Addr) (Hf H : Hp) (o1 : List Addr) (Hf' H' : Hp) : Prop where
  ef : Same Hf Hf'
  st : ∀ a, H a ≠ none → Hf a = none → a ∉ o0 → Hf' a = none
  kp : ∀ a o, H a = some o → a ∉ o0 → H' a = some o
  gr : ∀ p ∈ o1, p ∈ o0 ∨ H p = none
theorem Fr.refl (o : List Addr) (Hf H : Hp) : Fr o Hf H o Hf H := ⟨fun _ _ h => h, fun _ _ h _ => h, fun _ _ h _ => h, fun _ h => .inl h⟩
theorem Fr.trans {o0 o1 o2 : List Addr} {Hf H Hf1 H1 Hf2 H2 : Hp} (a : Fr o0 Hf H o1 Hf1 H1) (b : Fr o1 Hf1 H1 o2 Hf2 H2) : Fr o0 Hf H o2 Hf2 H2 where
  ef := a.ef.trans b.ef
  st := fun x h1 h2 h3 => by
    obtain ⟨o, e⟩ := Option.ne_none_iff_exists'.mp h1
    have k := a.kp x o e h3
    refine b.st x (by rw [k]; simp) (a.st x h1 h2 h3) fun hx => ?_
    rcases a.gr x hx with z | z
    · exact h3 z
    · rw [z] at e; cases e
  kp := fun x o e h3 => by
    refine b.kp x o (a.kp x o e h3) fun hx => ?_
    rcases a.gr x hx with z | z
    · exact h3 z
    · rw [z] at e; cases e
  gr := fun p hp => by
    rcases b.gr p hp with z | z
    · exact a.gr p z
    · by_cases h0 : p ∈ o0
      · exact .inl h0
      · right
        cases e : H p with
        | none => rfl
        | some o =>
          have := a.kp p o e h0
          rw [this] at z; cases z
theorem Fr.less {o0 o1 o2 : List Addr} {Hf H Hf1 H1 : Hp} (a : Fr o0 Hf H o1 Hf1 H1) (s : ∀ p ∈ o2, p ∈ o1) : Fr o0 Hf H o2 Hf1 H1 := ⟨a.ef, a.st, a.kp, fun p hp => a.gr p (s p hp)⟩
/-- an owned set may be told larger -/
theorem Fr.more {o0 o0' o1 : List Addr} {Hf H Hf1 H1 : Hp} (a : Fr o0 Hf H o1 Hf1 H1) (s : ∀ p ∈ o0, p ∈ o0') : Fr o0' Hf H o1 Hf1 H1 :=
  ⟨a.ef, fun x h1 h2 h3 => a.st x h1 h2 fun z => h3 (s x z), fun x o e h3 => a.kp x o e fun z => h3 (s x z), fun p hp => (a.gr p hp).imp (s p) id⟩
theorem Fr.fresh {o0 : List Addr} {Hf H o1 Hf1 H1} (a : Fr o0 Hf H o1 Hf1 H1) {p : Addr} (h : H1 p = none) : p ∈ o0 ∨ H p = none := by
  by_cases h0 : p ∈ o0
  · exact .inl h0
  · right
    cases e : H p with
    | none => rfl
    | some o =>
      have := a.kp p o e h0
      rw [this] at h; cases h

section
variable {K : PySem.W.Frag} {Hf H Hf' H' : Hp} {σ : List (Option V)} {A : List SD} {p : Addr}
theorem mem_owns {o : OD} : ∀ {A : List SD}, SD.own p o ∈ A → p ∈ owns A
  | .own q u :: r, h => by
    rcases List.mem_cons.mp h with e | h
    · cases e; exact List.mem_cons_self
    · exact List.mem_cons_of_mem _ (mem_owns h)
  | .any :: r, h => by
    rcases List.mem_cons.mp h with e | h
    · cases e
    · exact mem_owns (A := r) h
  | .dat d :: r, h => by
    rcases List.mem_cons.mp h with e | h
    · cases e
    · exact mem_owns (A := r) h
theorem of_owns : ∀ {A : List SD}, p ∈ owns A → ∃ o, SD.own p o ∈ A
  | [], h => by cases h
  | .own q u :: r, h => by
    rcases List.mem_cons.mp h with e | h
    · cases e; exact ⟨u, List.mem_cons_self⟩
    · obtain ⟨o, q⟩ := of_owns h
      exact ⟨o, List.mem_cons_of_mem _ q⟩
  | .any :: r, h => by
    obtain ⟨o, q⟩ := of_owns (A := r) h
    exact ⟨o, List.mem_cons_of_mem _ q⟩
  | .dat d :: r, h => by
    obtain ⟨o, q⟩ := of_owns (A := r) h
    exact ⟨o, List.mem_cons_of_mem _ q⟩
theorem Paired.at {α β : Type} {G : α → β → Prop} : ∀ {l₁ : List α} {l₂ : List β}, Paired G l₁ l₂ → ∀ {i : Nat} {b : β}, l₂[i]? = some b → ∃ a, l₁[i]? = some a ∧ G a b
  | _, _, .nil, i, b, h => by simp at h
  | _, _, .cons r t, 0, b, h => by simp at h; subst h; exact ⟨_, rfl, r⟩
  | _, _, .cons r t, i + 1, b, h => by
    obtain ⟨a, h1, h2⟩ := Paired.at t (i := i) (by simpa using h)
    exact ⟨a, by simpa using h1, h2⟩
theorem Paired.mem {α β : Type} {G : α → β → Prop} : ∀ {l₁ : List α} {l₂ : List β}, Paired G l₁ l₂ → ∀ {b : β}, b ∈ l₂ → ∃ a, a ∈ l₁ ∧ G a b
  | _, _, .nil, b, h => by cases h
  | _, _, .cons r t, b, h => by
    rcases List.mem_cons.mp h with rfl | h
    · exact ⟨_, List.mem_cons_self, r⟩
    · obtain ⟨a, h1, h2⟩ := Paired.mem t h
      exact ⟨a, List.mem_cons_of_mem _ h1, h2⟩
theorem Paired.set2 {α β : Type} {G : α → β → Prop} {a : α} {b : β} (r : G a b) : ∀ {l₁ : List α} {l₂ : List β}, Paired G l₁ l₂ → ∀ i, Paired G (l₁.set i a) (l₂.set i b)
  | _, _, .nil, _ => .nil
  | _, _, .cons _ t, 0 => .cons r t
  | _, _, .cons q t, i + 1 => .cons q (Paired.set2 r t i)
theorem Paired.ofGet {α β : Type} {G : α → β → Prop} : ∀ {l₁ : List α} {l₂ : List β}, l₁.length = l₂.length → (∀ (i : Nat) (a : α) (b : β), l₁[i]? = some a → l₂[i]? = some b → G a b) → Paired G l₁ l₂
  | [], [], _, _ => .nil
  | a :: l₁, b :: l₂, hl, h => .cons (h 0 a b rfl rfl) (Paired.ofGet (by simpa using hl) fun i a b h1 h2 => h (i + 1) a b (by simpa using h1) (by simpa using h2))
  | [], _ :: _, hl, _ => by simp at hl
  | _ :: _, [], hl, _ => by simp at hl
theorem Paired.weak {α β : Type} {G G' : α → β → Prop} : ∀ {l₁ : List α} {l₂ : List β}, Paired G l₁ l₂ → (∀ a b, b ∈ l₂ → G a b → G' a b) → Paired G' l₁ l₂
  | _, _, .nil, _ => .nil
  | _, _, .cons r t, h => .cons (h _ _ List.mem_cons_self r) (Paired.weak t fun a b hb => h a b (List.mem_cons_of_mem _ hb))
theorem SdOk.keep {ov : Option V} {s : SD} (h : SdOk K Hf H ov s) (e : Same Hf Hf') (k : ∀ p o, s = .own p o → Hf' p = none ∧ H' p = H p) : SdOk K Hf' H' ov s := by
  cases s with
  | any => trivial
  | dat d => obtain ⟨v, h1, h2⟩ := h; exact ⟨v, h1, h2.mono e⟩
  | own p o =>
    obtain ⟨h1, h2, h3⟩ := h
    obtain ⟨k1, k2⟩ := k p o rfl
    refine ⟨h1, k1, ?_⟩
    cases o with
    | lst ds => obtain ⟨xs, q1, q2⟩ := h3; exact ⟨xs, k2.trans q1, q2.mono e⟩
theorem SdOk.there {ov : Option V} {o : OD} (h : SdOk K Hf H ov (.own p o)) : H p ≠ none := by
  obtain ⟨_, _, h3⟩ := h
  cases o with
  | lst ds => obtain ⟨xs, q1, _⟩ := h3; rw [q1]; simp
theorem Rel.there (r : Rel K Hf H σ A) (h : p ∈ owns A) : H p ≠ none := by
  obtain ⟨o, q⟩ := of_owns h
  obtain ⟨a, _, z⟩ := Paired.mem r.al q
  exact z.there
theorem Rel.unf (r : Rel K Hf H σ A) (h : p ∈ owns A) : Hf p = none := by
  obtain ⟨o, q⟩ := of_owns h
  obtain ⟨a, _, z⟩ := Paired.mem r.al q
  exact z.2.1
theorem Rel.tail {ov : Option V} {s : SD} (r : Rel K Hf H (ov :: σ) (s :: A)) : Rel K Hf H σ A := by
  refine ⟨r.sm, ?_, ?_⟩
  · cases r.al with
    | cons _ t => exact t
  · have := r.nd
    cases s with
    | any => exact this
    | dat d => exact this
    | own p o => exact (List.nodup_cons.mp this).2
theorem Rel.head {ov : Option V} {s : SD} (r : Rel K Hf H (ov :: σ) (s :: A)) : SdOk K Hf H ov s := by
  cases r.al with
  | cons h _ => exact h
theorem owns_tail (s : SD) (A : List SD) : ∀ q ∈ owns A, q ∈ owns (s :: A) := fun q h => by
  cases s with
  | any => exact h
  | dat d => exact h
  | own p o => exact List.mem_cons_of_mem _ h
theorem Rel.notTail {o : OD} {ov : Option V} (r : Rel K Hf H (ov :: σ) (.own p o :: A)) : p ∉ owns A := (List.nodup_cons.mp r.nd).1
theorem Rel.cons {ov : Option V} {s : SD} (r : Rel K Hf H σ A) (h : SdOk K Hf H ov s) (n : ∀ p o, s = .own p o → p ∉ owns A) : Rel K Hf H (ov :: σ) (s :: A) := by
  refine ⟨r.sm, .cons h r.al, ?_⟩
  cases s with
  | any => exact r.nd
  | dat d => exact r.nd
  | own p o => exact List.nodup_cons.mpr ⟨n p o rfl, r.nd⟩
theorem Rel.consD {v : V} {d : D} (r : Rel K Hf H σ A) (h : Ds K Hf v d) : Rel K Hf H (some v :: σ) (.dat d :: A) := r.cons ⟨v, rfl, h⟩ fun _ _ e => by cases e
/-- what stands beside a step that is not concerned -/
theorem SdOk.frame {ov : Option V} {s : SD} {o0 o1 : List Addr} (h : SdOk K Hf H ov s) (f : Fr o0 Hf H o1 Hf' H') (n : ∀ p o, s = .own p o → p ∉ o0) : SdOk K Hf' H' ov s :=
  h.keep f.ef fun p o e => by
    subst e
    have t := h.there
    obtain ⟨u, hu⟩ := Option.ne_none_iff_exists'.mp t
    exact ⟨f.st p t h.2.1 (n p o rfl), by rw [hu]; exact f.kp p u hu (n p o rfl)⟩
theorem Rel.frame {ov : Option V} {s : SD} {A' : List SD} {σ' : List (Option V)} (r : Rel K Hf H (ov :: σ) (s :: A)) (r' : Rel K Hf' H' σ' A') (f : Fr (owns A) Hf H (owns A') Hf' H') : Rel K Hf' H' (ov :: σ') (s :: A') := by
  refine r'.cons (r.head.frame f fun p o e => ?_) fun p o e hp => ?_
  · subst e; exact r.notTail
  · subst e
    rcases f.gr p hp with z | z
    · exact r.notTail z
    · exact r.head.there z
theorem Fr.frame {s : SD} {A A' : List SD} (r : Rel K Hf H σ (s :: A)) (f : Fr (owns A) Hf H (owns A') Hf' H') : Fr (owns (s :: A)) Hf H (owns (s :: A')) Hf' H' :=
  ⟨f.ef, fun a h1 h2 h3 => f.st a h1 h2 fun z => h3 (owns_tail _ _ _ z), fun a o h1 h3 => f.kp a o h1 fun z => h3 (owns_tail _ _ _ z), fun q hq => by
    cases s with
    | any => exact f.gr q hq
    | dat d => exact f.gr q hq
    | own p o =>
      rcases List.mem_cons.mp hq with rfl | hq
      · exact .inl List.mem_cons_self
      · exact (f.gr q hq).imp (List.mem_cons_of_mem _) id⟩
/-- a new object, frozen at once -/
theorem Rel.newF {o : HO} (r : Rel K Hf H σ A) (hp : H p = none) : Rel K (upd Hf p o) (upd H p o) σ A ∧ Fr (owns A) Hf H (owns A) (upd Hf p o) (upd H p o) := by
  have hf : Hf p = none := r.sm.free hp
  have e : Same Hf (upd Hf p o) := fun b u q => by rw [upd_ne (ne_of_none q hf)]; exact q
  refine ⟨⟨fun b u q => ?_, Paired.weak r.al fun a b hb h => h.keep e fun q u z => ?_, r.nd⟩, ⟨e, fun a h1 h2 _ => ?_, fun a u h1 _ => ?_, fun q hq => .inl hq⟩⟩
  · by_cases hb : b = p
    · subst hb; rw [upd_same] at q ⊢; exact q
    · rw [upd_ne hb] at q ⊢; exact r.sm b u q
  · subst z
    have ne : q ≠ p := fun z => by subst z; exact h.there hp
    rw [upd_ne ne, upd_ne ne]; exact ⟨h.2.1, rfl⟩
  · rw [upd_ne (fun z => h1 (by rw [z]; exact hp))]; exact h2
  · rw [upd_ne (ne_of_none h1 hp)]; exact h1
/-- a new object, the function's own -/
theorem Rel.newO {o : HO} (r : Rel K Hf H σ A) (hp : H p = none) : Rel K Hf (upd H p o) σ A ∧ Fr (owns A) Hf H (p :: owns A) Hf (upd H p o) ∧ Hf p = none ∧ p ∉ owns A := by
  have hf : Hf p = none := r.sm.free hp
  refine ⟨⟨fun b u q => ?_, Paired.weak r.al fun a b hb h => h.keep (fun _ _ h => h) fun q u z => ?_, r.nd⟩, ⟨fun _ _ h => h, fun a h1 h2 _ => h2, fun a u h1 _ => ?_, fun q hq => ?_⟩, hf, fun h => r.there h hp⟩
  · rw [upd_ne (ne_of_none q hf)]; exact r.sm b u q
  · subst z
    have ne : q ≠ p := fun z => by subst z; exact h.there hp
    rw [upd_ne ne]; exact ⟨h.2.1, rfl⟩
  · rw [upd_ne (ne_of_none h1 hp)]; exact h1
  · rcases List.mem_cons.mp hq with rfl | hq
    · exact .inr hp
    · exact .inl hq
end
def OD.frz : OD → Option D
  | .lst ds => some (.lst ds)
def SD.frz : SD → Option D
  | .any => none
  | .dat d => some d
  | .own _ o => o.frz
section
variable {K : PySem.W.Frag} {Hf H Hf' H' : Hp} {σ : List (Option V)} {A : List SD} {p : Addr}
theorem same_frz {u : HO} (hp : H p = some u) (sm : Same Hf H) (hf : Hf p = none) : Same Hf (upd Hf p u) ∧ Same (upd Hf p u) H :=
  ⟨fun b w q => by rw [upd_ne (ne_of_none q hf)]; exact q, fun b w q => by
    by_cases hb : b = p
    · subst hb; rw [upd_same] at q; cases q; exact hp
    · rw [upd_ne hb] at q; exact sm b w q⟩
/-- the head frozen -/
theorem Rel.frz {v : V} {s : SD} {d : D} (r : Rel K Hf H (some v :: σ) (s :: A)) (h : s.frz = some d) : ∃ Hf', Rel K Hf' H σ A ∧ Ds K Hf' v d ∧ Fr (owns (s :: A)) Hf H (owns A) Hf' H := by
  cases s with
  | any => cases h
  | dat e =>
    cases h
    obtain ⟨w, q1, q2⟩ := r.head
    cases q1
    exact ⟨Hf, r.tail, q2, Fr.refl _ _ _⟩
  | own q o =>
    have n := r.notTail
    obtain ⟨h1, h2, h3⟩ := r.head
    cases h1
    cases o with
    | lst ds =>
      cases h
      obtain ⟨xs, q1, q2⟩ := h3
      obtain ⟨e, e2⟩ := same_frz q1 r.sm h2
      refine ⟨upd Hf q (.lst xs), ⟨e2, Paired.weak r.tail.al fun a b hb h => h.keep e fun q' u z => ?_, r.tail.nd⟩, .lst upd_same (q2.mono e), ⟨e, fun a h1 h2 h3 => ?_, fun a u h1 _ => h1, fun x hx => .inl (List.mem_cons_of_mem _ hx)⟩⟩
      · subst z
        have ne : q' ≠ q := fun z => by subst z; exact n (mem_owns hb)
        rw [upd_ne ne]; exact ⟨h.2.1, rfl⟩
      · rw [upd_ne (fun z => h3 (by rw [z]; exact List.mem_cons_self))]; exact h2
end
end Y

namespace Y
open PySem L2

/-! ### the weakest wish of a piece of syntax -/
def WE (X : Cx) (e : Expr) : TE := fun σ H Q => ∃ t, PE X e t ∧ t σ H Q
def WT (X : Cx) (e : Expr) : TT := fun σ H Q => ∃ t, PT X e t ∧ t σ H Q
def WW (X : Cx) (e : Expr) : TT := fun σ H Q => ∃ t, PW X e t ∧ t σ H Q
def WA (X : Cx) (es : List Expr) : TA := fun σ H Q => ∃ t, PA X es t ∧ t σ H Q
def WI (X : Cx) (tg it : Expr) : TI := fun σ H Q => ∃ t, PI X tg it t ∧ t σ H Q
def WG (X : Cx) (tg : Expr) : TG := fun v σ H Q => ∃ t, PG X tg t ∧ t v σ H Q
def WGs (X : Cx) (tgs : List Expr) : TGs := fun v σ H Q => ∃ t, PGs X tgs t ∧ t v σ H Q
def WTs (X : Cx) (es : List Expr) : TT := fun σ H Q => ∃ t, PTs X es t ∧ t σ H Q
def WS (X : Cx) (st : Stmt) : TS := fun D σ H => ∃ t, PS X st t ∧ t D σ H
def WSs (X : Cx) (st : List Stmt) : TS := fun D σ H => ∃ t, PSs X st t ∧ t D σ H
section
variable {X : Cx}
theorem we {e : Expr} : PE X e (WE X e) := ⟨fun pins s σ H Q I h => let ⟨_, ht, h⟩ := h; ht.run pins s σ H Q I h⟩
theorem wt {e : Expr} : PT X e (WT X e) := ⟨fun pins s σ H Q I h => let ⟨_, ht, h⟩ := h; ht.run pins s σ H Q I h⟩
theorem ww {e : Expr} : PW X e (WW X e) := ⟨fun w pins s σ H Q I h => let ⟨_, ht, h⟩ := h; ht.run w pins s σ H Q I h⟩
theorem wa {es : List Expr} : PA X es (WA X es) := ⟨fun p pins s σ H Q I h => let ⟨_, ht, h⟩ := h; ht.run p pins s σ H Q I h⟩
theorem wi {tg it : Expr} : PI X tg it (WI X tg it) := ⟨fun pins s σ H Q I h => let ⟨_, ht, h⟩ := h; ht.run pins s σ H Q I h⟩
theorem wg {tg : Expr} : PG X tg (WG X tg) := ⟨fun pins s σ H v u Q I r h => let ⟨_, ht, h⟩ := h; ht.run pins s σ H v u Q I r h⟩
theorem wgs {tgs : List Expr} : PGs X tgs (WGs X tgs) := ⟨fun pins s σ H v u Q I r h => let ⟨_, ht, h⟩ := h; ht.run pins s σ H v u Q I r h⟩
theorem wts {es : List Expr} : PTs X es (WTs X es) := ⟨fun pins s σ H Q I h => let ⟨_, ht, h⟩ := h; ht.run pins s σ H Q I h⟩
theorem ws {st : Stmt} : PS X st (WS X st) := ⟨fun pins s σ H D I h => let ⟨_, ht, h⟩ := h; ht.run pins s σ H D I h⟩
theorem wss {st : List Stmt} : PSs X st (WSs X st) := ⟨fun pins s σ H D I h => let ⟨_, ht, h⟩ := h; ht.run pins s σ H D I h⟩
end
/-- by values -/
def WO (X : Cx) (f : Value → Value → Sem Value) : R2 := fun x y H Q => ∃ r, OpR X f r ∧ r x y H Q
theorem wo {X : Cx} {f : Value → Value → Sem Value} : OpR X f (WO X f) := fun pins s σ H x y v u Q I rx ry h => let ⟨_, ho, h⟩ := h; ho pins s σ H x y v u Q I rx ry h
def WU (X : Cx) (f : Value → Sem Value) : V → Hp → VK → Prop := fun x H Q => ∃ r, UnR X f r ∧ r x H Q
theorem wu {X : Cx} {f : Value → Sem Value} : UnR X f (WU X f) := fun pins s σ H x v Q I rx h => let ⟨_, ho, h⟩ := h; ho pins s σ H x v Q I rx h
def WC (X : Cx) (f : Value) : List V → Hp → VK → Prop := fun x H Q => ∃ r, CallR X f r ∧ r x H Q
theorem wc {X : Cx} {f : Value} : CallR X f (WC X f) := fun pins s σ H x v Q I rx h => let ⟨_, ho, h⟩ := h; ho pins s σ H x v Q I rx h
def WIx (X : Cx) : R2 := fun x y H Q => ∃ r, IxR X r ∧ r x y H Q
theorem wx {X : Cx} : IxR X (WIx X) := by
  intro va sl pins s σ H x y v u Q I rx ry h
  obtain ⟨_, ho, h⟩ := h
  exact ho va sl pins s σ H x y v u Q I rx ry h

/-! ### what is asked of the context -/
def bnames : List Str := ["sum", "zip", "len", "abs", "int", "range", "isinstance", "all", "any", "max", "min", "tuple", "list", "enumerate", "repr", "sorted", "str", "bool", "set", "dict", "reversed"]
class Cok (X : Cx) : Prop where
  calm : X.calm = true
  nd : X.N.Nodup
  no : ∀ x ∈ bnames, X.mg x = none
  un : X.A.units + 64 < cLine
  gd : X.A.guards = some []
  po : PassesOwn (model X.prog X.w) X.A X.env X.xe
instance {X : Cx} [c : Cok X] {s : Shared} {H : Hp} {scope : Scope} {cenv : Env} {fp : List Addr} : Cok (X.blk s H scope cenv fp) := ⟨c.calm, c.nd, c.no, c.un, c.gd, PassesOwn.never⟩

/-! ### side conditions, told by Bools -/
def visB (sc : Scope) (x : Str) : Bool := match sc.names.lookup x with
  | some .local => true
  | some .cell => true
  | some .free => true
  | _ => false
theorem vis_of {sc : Scope} {x : Str} (h : visB sc x = true) : Vis sc x := by
  unfold visB at h
  split at h
  · exact .inl (by assumption)
  · exact .inr (.inl (by assumption))
  · exact .inr (.inr (by assumption))
  · cases h
def locB (sc : Scope) (x : Str) : Bool := match sc.names.lookup x with
  | some .local => true
  | some .cell => true
  | _ => false
theorem loc_of {sc : Scope} {x : Str} (h : locB sc x = true) : Loc sc x := by
  unfold locB at h
  split at h
  · exact .inl (by assumption)
  · exact .inr (by assumption)
  · cases h
def fnB (X : Cx) (x : Str) : Bool := X.fn x || (match X.env.scope.names.lookup x with | some .local => true | _ => false)
theorem fn_B {X : Cx} {x : Str} (h : fnB X x = true) : X.fn x = true ∨ X.env.scope.names.lookup x = some .local := by
  unfold fnB at h
  rcases (Bool.or_eq_true _ _).mp h with h | h
  · exact .inl h
  · split at h
    · exact .inr (by assumption)
    · cases h
theorem gl_of {X : Cx} {x : Str} (h : X.env.kindOf x = some .globalImplicit) : Gl X x := h
theorem ne_of_B {x y : Str} (h : decide (x = y) = false) : x ≠ y := of_decide_eq_false h
theorem mem_of_B {x : Str} {l : List Str} (h : decide (x ∈ l) = true) : x ∈ l := of_decide_eq_true h
/-! ### judgements -/
/-- what is wanted where an exception leaves: its class, its fields, the slots -/
abbrev ZT := Value → List (Str × D) → List SD → Prop
abbrev Z0 : ZT := fun _ _ _ => False
def XD (K : PySem.W.Frag) (Hf : Hp) (d : Option Addr) (fs : List (Str × D)) : Prop := match d with
  | none => fs = []
  | some a => ∃ vs, Hf a = some (.xd vs) ∧ vs.map (·.1) = fs.map (·.1) ∧ DsL K Hf (vs.map (·.2)) (fs.map (·.2))
def XOk (X : Cx) (Z : ZT) (o0 : List Addr) (Hf H : Hp) : Prop :=
  ∃ W : L2.WX, Takes X W ∧ ∀ c fs A' d σ' Hf' H', Z c fs A' → Rel X.K Hf' H' σ' A' → XD X.K Hf' d fs → Fr o0 Hf H (owns A') Hf' H' → W c d σ' H'
theorem XOk.step {X : Cx} {Z : ZT} {o0 o1 : List Addr} {Hf H Hf1 H1 : Hp} (x : XOk X Z o0 Hf H) (f : Fr o0 Hf H o1 Hf1 H1) : XOk X Z o1 Hf1 H1 :=
  let ⟨W, t, k⟩ := x; ⟨W, t, fun c fs A' d σ' Hf' H' z r xd f2 => k c fs A' d σ' Hf' H' z r xd (f.trans f2)⟩
theorem XOk.zero {X : Cx} {o0 : List Addr} {Hf H : Hp} : XOk X Z0 o0 Hf H := ⟨_, takes0, fun _ _ _ _ _ _ _ z => z.elim⟩
def EX (X : Cx) (Z : ZT) (A : List SD) (e : Expr) (Q : SD → List SD → Prop) : Prop :=
  ∀ Hf H σ, Rel X.K Hf H σ A → XOk X Z (owns A) Hf H → ∀ R : VK, (∀ r A' v Hf' H', Q r A' → Rel X.K Hf' H' (some v :: σ) (r :: A') → Fr (owns A) Hf H (owns (r :: A')) Hf' H' → R v H') → WE X e σ H R
def ED (X : Cx) (Z : ZT) (A : List SD) (e : Expr) (Q : D → List SD → Prop) : Prop :=
  ∀ Hf H σ, Rel X.K Hf H σ A → XOk X Z (owns A) Hf H → ∀ R : VK, (∀ d A' v Hf' H', Q d A' → Rel X.K Hf' H' σ A' → Ds X.K Hf' v d → Fr (owns A) Hf H (owns A') Hf' H' → R v H') → WE X e σ H R
def TX (X : Cx) (Z : ZT) (A : List SD) (e : Expr) (Q : Bool → List SD → Prop) : Prop :=
  ∀ Hf H σ, Rel X.K Hf H σ A → XOk X Z (owns A) Hf H → ∀ R : Bool → Hp → Prop, (∀ b A' Hf' H', Q b A' → Rel X.K Hf' H' σ A' → Fr (owns A) Hf H (owns A') Hf' H' → R b H') → WT X e σ H R
def TW (X : Cx) (Z : ZT) (A : List SD) (e : Expr) (Q : Bool → List SD → Prop) : Prop :=
  ∀ Hf H σ, Rel X.K Hf H σ A → XOk X Z (owns A) Hf H → ∀ R : Bool → Hp → Prop, (∀ b A' Hf' H', Q b A' → Rel X.K Hf' H' σ A' → Fr (owns A) Hf H (owns A') Hf' H' → R b H') → WW X e σ H R
def TXs (X : Cx) (Z : ZT) (A : List SD) (es : List Expr) (Q : Bool → List SD → Prop) : Prop :=
  ∀ Hf H σ, Rel X.K Hf H σ A → XOk X Z (owns A) Hf H → ∀ R : Bool → Hp → Prop, (∀ b A' Hf' H', Q b A' → Rel X.K Hf' H' σ A' → Fr (owns A) Hf H (owns A') Hf' H' → R b H') → WTs X es σ H R
def EA (X : Cx) (Z : ZT) (A : List SD) (es : List Expr) (Q : List D → List SD → Prop) : Prop :=
  ∀ Hf H σ, Rel X.K Hf H σ A → XOk X Z (owns A) Hf H → ∀ R : List V → Hp → Prop, (∀ ds A' vs Hf' H', Q ds A' → Rel X.K Hf' H' σ A' → DsL X.K Hf' vs ds → Fr (owns A) Hf H (owns A') Hf' H' → R vs H') → WA X es σ H R
/-- a list (true) or a tuple, seen without taking it -/
def SeqV (K : PySem.W.Frag) (Hf H : Hp) (v : V) (l : Bool) (ds : List D) : Prop := ∃ a xs, v = .ref a ∧ (if l = true then SqL K H a xs else SqT K Hf a xs) ∧ DsL K Hf xs ds
def ES (X : Cx) (Z : ZT) (A : List SD) (e : Expr) (Q : Bool → List D → List SD → Prop) : Prop :=
  ∀ Hf H σ, Rel X.K Hf H σ A → XOk X Z (owns A) Hf H → ∀ R : VK, (∀ l ds A' v Hf' H', Q l ds A' → Rel X.K Hf' H' σ A' → SeqV X.K Hf' H' v l ds → Fr (owns A) Hf H (owns A') Hf' H' → R v H') → WE X e σ H R
/-- what comes by values: an answer r, the slots untouched -/
def Ans (K : PySem.W.Frag) (Hf H : Hp) (σ : List (Option V)) (A : List SD) (Q : SD → List SD → Prop) (W : VK → Prop) : Prop :=
  ∀ R : VK, (∀ r A' v Hf' H', Q r A' → Rel K Hf' H' (some v :: σ) (r :: A') → Fr (owns A) Hf H (owns (r :: A')) Hf' H' → R v H') → W R
def OS (X : Cx) (A : List SD) (f : Value → Value → Sem Value) (d e : D) (Q : SD → List SD → Prop) : Prop :=
  ∀ Hf H σ, Rel X.K Hf H σ A → ∀ v u, Ds X.K Hf v d → Ds X.K Hf u e → Ans X.K Hf H σ A Q (WO X f v u H)
def US (X : Cx) (A : List SD) (f : Value → Sem Value) (d : D) (Q : SD → List SD → Prop) : Prop :=
  ∀ Hf H σ, Rel X.K Hf H σ A → ∀ v, Ds X.K Hf v d → Ans X.K Hf H σ A Q (WU X f v H)
def CS (X : Cx) (A : List SD) (f : Value) (ds : List D) (Q : SD → List SD → Prop) : Prop :=
  ∀ Hf H σ, Rel X.K Hf H σ A → ∀ vs, DsL X.K Hf vs ds → Ans X.K Hf H σ A Q (WC X f vs H)
/-- of one sequence -/
def CQ (X : Cx) (A : List SD) (f : Value) (l : Bool) (ds : List D) (Q : SD → List SD → Prop) : Prop :=
  ∀ Hf H σ, Rel X.K Hf H σ A → ∀ v, SeqV X.K Hf H v l ds → Ans X.K Hf H σ A Q (WC X f [v] H)
def XS (X : Cx) (A : List SD) (d e : D) (Q : SD → List SD → Prop) : Prop :=
  ∀ Hf H σ, Rel X.K Hf H σ A → ∀ v u, Ds X.K Hf v d → Ds X.K Hf u e → Ans X.K Hf H σ A Q (WIx X v u H)

section
variable {K : PySem.W.Frag} {Hf H : Hp} {σ : List (Option V)} {A : List SD} {Q : SD → List SD → Prop} {R : VK}
/-- ends of readings: known data; a new tuple; a new list -/
theorem fin_d {v : V} {d : D} (rel : Rel K Hf H σ A) (q : Q (.dat d) A) (h : Ds K Hf v d) (k : ∀ r A' v Hf' H', Q r A' → Rel K Hf' H' (some v :: σ) (r :: A') → Fr (owns A) Hf H (owns (r :: A')) Hf' H' → R v H') : R v H :=
  k _ _ _ _ _ q (rel.consD h) (Fr.refl _ _ _)
theorem fin_t {p : Addr} {xs : List V} {ds : List D} (rel : Rel K Hf H σ A) (hp : H p = none) (q : Q (.dat (.tup ds)) A) (h : DsL K Hf xs ds)
    (k : ∀ r A' v Hf' H', Q r A' → Rel K Hf' H' (some v :: σ) (r :: A') → Fr (owns A) Hf H (owns (r :: A')) Hf' H' → R v H') : R (.ref p) (upd H p (.tup xs)) := by
  obtain ⟨r1, f1⟩ := rel.newF (o := .tup xs) hp
  exact k _ _ _ _ _ q (r1.consD (.tup (.inl (.inl upd_same)) (h.mono f1.ef))) f1
theorem fin_l {p : Addr} {xs : List V} {ds : List D} (rel : Rel K Hf H σ A) (hp : H p = none) (q : ∀ p, Q (.own p (.lst ds)) A) (h : DsL K Hf xs ds)
    (k : ∀ r A' v Hf' H', Q r A' → Rel K Hf' H' (some v :: σ) (r :: A') → Fr (owns A) Hf H (owns (r :: A')) Hf' H' → R v H') : R (.ref p) (upd H p (.lst xs)) := by
  obtain ⟨r1, f1, n1, n2⟩ := rel.newO (o := .lst xs) hp
  exact k _ _ _ _ _ (q p) (r1.cons ⟨rfl, n1, xs, upd_same, h⟩ fun a o e => by cases e; exact n2) f1
end
section
variable {X : Cx} {Z : ZT} {A : List SD} {e a b : Expr} {es : List Expr} {pos : Pos}
theorem ed_of {Q : D → List SD → Prop} (h : EX X Z A e fun r A' => ∃ d, r.frz = some d ∧ Q d A') : ED X Z A e Q := fun Hf H σ rel xo R k =>
  h Hf H σ rel xo R fun r A' v Hf' H' ⟨d, hd, q⟩ r1 f1 => by
    obtain ⟨Hf2, r2, s2, f2⟩ := r1.frz hd
    exact k d A' v Hf2 H' q r2 s2 (f1.trans f2)
theorem ex_of {Q : SD → List SD → Prop} (h : ED X Z A e fun d A' => Q (.dat d) A') : EX X Z A e Q := fun Hf H σ rel xo R k =>
  h Hf H σ rel xo R fun d A' v Hf' H' q r1 s1 f1 => k _ _ _ _ _ q (r1.consD s1) f1
theorem ex_mono {Q Q' : SD → List SD → Prop} (h : EX X Z A e Q) (w : ∀ r A', Q r A' → Q' r A') : EX X Z A e Q' := fun Hf H σ rel xo R k => h Hf H σ rel xo R fun r A' v Hf' H' q => k r A' v Hf' H' (w _ _ q)
theorem ed_mono {Q Q' : D → List SD → Prop} (h : ED X Z A e Q) (w : ∀ r A', Q r A' → Q' r A') : ED X Z A e Q' := fun Hf H σ rel xo R k => h Hf H σ rel xo R fun r A' v Hf' H' q => k r A' v Hf' H' (w _ _ q)
theorem tx_mono {Q Q' : Bool → List SD → Prop} (h : TX X Z A e Q) (w : ∀ r A', Q r A' → Q' r A') : TX X Z A e Q' := fun Hf H σ rel xo R k => h Hf H σ rel xo R fun r A' Hf' H' q => k r A' Hf' H' (w _ _ q)
/-- what evaluates by values, from data -/
theorem go_ans {Q : SD → List SD → Prop} {A1 : List SD} {Hf H Hf1 H1 : Hp} {σ : List (Option V)} {W : VK → Prop} (f1 : Fr (owns A) Hf H (owns A1) Hf1 H1) (h : Ans X.K Hf1 H1 σ A1 Q W) {R : VK}
    (k : ∀ r A' v Hf' H', Q r A' → Rel X.K Hf' H' (some v :: σ) (r :: A') → Fr (owns A) Hf H (owns (r :: A')) Hf' H' → R v H') : W R :=
  h R fun r A' v Hf' H' q r2 f2 => k r A' v Hf' H' q r2 (f1.trans f2)

/-! ### names, constants -/
theorem Rel.slot {Hf H : Hp} {σ : List (Option V)} {i : Nat} {d : D} (r : Rel X.K Hf H σ A) (h : A[i]? = some (.dat d)) : ∃ v, σ[i]? = some (some v) ∧ Ds X.K Hf v d := by
  obtain ⟨ov, h1, v, h2, h3⟩ := Paired.at r.al h
  subst h2
  exact ⟨v, h1, h3⟩
theorem ed_n (i : Nat) {x : Str} {d : D} {Q : D → List SD → Prop} (hA : A[i]? = some (.dat d)) (q : Q d A) (hN : X.N[i]? = some x := by kernel_rfl) (hv : Vis X.env.scope x := by exact vis_of (by kernel_rfl))
    (hd : (x == ("__debug__" : Str)) = false := by kernel_rfl) (hcd : (x == ("__classdict__" : Str)) = false := by kernel_rfl) : ED X Z A (.Name x pos) Q := fun Hf H σ rel xo R k => by
  obtain ⟨v, h1, h2⟩ := rel.slot hA
  exact ⟨_, pe_var hN hv hd hcd, v, h1, k _ _ _ _ _ q rel h2 (Fr.refl _ _ _)⟩
theorem ed_int {i : Int} {j} {Q : D → List SD → Prop} (q : Q (.int i) A) : ED X Z A (.Constant (.int i) j pos) Q := fun Hf H σ rel xo R k => ⟨_, pe_int, k _ _ _ _ _ q rel (.int i) (Fr.refl _ _ _)⟩
theorem ed_bl {i : Bool} {j} {Q : D → List SD → Prop} (q : Q (.bl i) A) : ED X Z A (.Constant (.bool i) j pos) Q := fun Hf H σ rel xo R k => ⟨_, pe_bl, k _ _ _ _ _ q rel (.bl i) (Fr.refl _ _ _)⟩
theorem ed_non {j} {Q : D → List SD → Prop} (q : Q .non A) : ED X Z A (.Constant .none j pos) Q := fun Hf H σ rel xo R k => ⟨_, pe_non, k _ _ _ _ _ q rel .non (Fr.refl _ _ _)⟩
theorem ed_str {i : Str} {j} {Q : D → List SD → Prop} (q : Q (.str i) A) : ED X Z A (.Constant (.str i) j pos) Q := fun Hf H σ rel xo R k => ⟨_, pe_str, k _ _ _ _ _ q rel (.str i) (Fr.refl _ _ _)⟩
/-- a built-in class as a value -/
theorem ed_cls (n : String) {x : Str} [c : Cok X] {Q : D → List SD → Prop} (q : Q (.ty n) A) (hg : Gl X x := by exact gl_of (by kernel_rfl)) (hb : x ∈ bnames := by exact mem_of_B (by kernel_rfl)) (hv : bootBuiltins x = some (.type n) := by kernel_rfl) (hn : x ≠ "__name__" := by exact ne_of_B (by kernel_rfl)) (hd : (x == ("__debug__" : Str)) = false := by kernel_rfl) : ED X Z A (.Name x pos) Q := fun Hf H σ rel xo R k =>
  ⟨_, pe_bltn hg (c.no x hb) hv (v := .ty n) rfl hn hd, k _ _ _ _ _ q rel (.ty n) (Fr.refl _ _ _)⟩
theorem Rel.setA {K : PySem.W.Frag} {Hf H : Hp} {σ : List (Option V)} {i : Nat} {ov : Option V} {s : SD} (r : Rel K Hf H σ A) (h : SdOk K Hf H ov s) (n : ∀ p o, s = .own p o → p ∉ owns A) : Rel K Hf H (σ.set i ov) (A.set i s) ∧ ∀ p ∈ owns (A.set i s), p ∈ owns (s :: A) := by
  have sub : ∀ (l : List SD) (i : Nat), (∀ p ∈ owns (l.set i s), p ∈ owns (s :: l)) ∧ ((owns l).Nodup → (∀ p o, s = .own p o → p ∉ owns l) → (owns (l.set i s)).Nodup) := by
    intro l
    induction l with
    | nil => intro i; exact ⟨fun p h => by simp [owns] at h, fun h _ => h⟩
    | cons y l ih =>
      intro i
      cases i with
      | zero =>
        refine ⟨fun p h => ?_, fun h hn => ?_⟩
        · have h : p ∈ owns (s :: l) := h
          cases s with
          | any => exact owns_tail y l _ h
          | dat d => exact owns_tail y l _ h
          | own q o =>
            rcases List.mem_cons.mp h with rfl | h
            · exact List.mem_cons_self
            · exact List.mem_cons_of_mem _ (owns_tail _ _ _ h)
        · show (owns (s :: l)).Nodup
          have h2 : (owns l).Nodup := by
            cases y with
            | any => exact h
            | dat d => exact h
            | own q o => exact (List.nodup_cons.mp h).2
          cases s with
          | any => exact h2
          | dat d => exact h2
          | own q o => exact List.nodup_cons.mpr ⟨fun z => hn q o rfl (owns_tail _ _ _ z), h2⟩
      | succ i =>
        obtain ⟨ih1, ih2⟩ := ih i
        refine ⟨fun p h => ?_, fun h hn => ?_⟩
        · have h : p ∈ owns (y :: l.set i s) := h
          have go : p ∈ owns (l.set i s) → p ∈ owns (s :: y :: l) := fun z => by
            have z := ih1 p z
            cases s with
            | any => exact owns_tail y l _ z
            | dat d => exact owns_tail y l _ z
            | own q o =>
              rcases List.mem_cons.mp z with rfl | z
              · exact List.mem_cons_self
              · exact List.mem_cons_of_mem _ (owns_tail _ _ _ z)
          cases y with
          | any => exact go h
          | dat d => exact go h
          | own q o =>
            rcases List.mem_cons.mp h with rfl | h
            · exact owns_tail s _ _ List.mem_cons_self
            · exact go h
        · show (owns (y :: l.set i s)).Nodup
          cases y with
          | any => exact ih2 h hn
          | dat d => exact ih2 h hn
          | own q o =>
            obtain ⟨n1, n2⟩ := List.nodup_cons.mp h
            refine List.nodup_cons.mpr ⟨fun z => ?_, ih2 n2 fun p u e z => hn p u e (List.mem_cons_of_mem _ z)⟩
            have z := ih1 q z
            cases s with
            | any => exact n1 z
            | dat d => exact n1 z
            | own q' o' =>
              rcases List.mem_cons.mp z with e | z
              · exact hn q' o' rfl (by rw [← e]; exact List.mem_cons_self)
              · exact n1 z
  exact ⟨⟨r.sm, Paired.set2 h r.al i, (sub A i).2 r.nd n⟩, (sub A i).1⟩
/-- an owned list's name, taken as data: frozen from here on -/
theorem Rel.freezeAt {K : PySem.W.Frag} {Hf H : Hp} {σ : List (Option V)} {i : Nat} {p : Addr} {o : OD} {d : D} (r : Rel K Hf H σ A) (hA : A[i]? = some (.own p o)) (hd : o.frz = some d) :
    ∃ Hf', σ[i]? = some (some (.ref p)) ∧ Rel K Hf' H σ (A.set i (.dat d)) ∧ Ds K Hf' (.ref p) d ∧ Fr (owns A) Hf H (owns (A.set i (.dat d))) Hf' H := by
  obtain ⟨ov, h1, h2, h3, h4⟩ := Paired.at r.al hA
  subst h2
  have hm : SD.own p o ∈ A := List.mem_of_getElem? hA
  have hp := mem_owns hm
  obtain ⟨u, hu⟩ := Option.ne_none_iff_exists'.mp (r.there hp)
  obtain ⟨e, e2⟩ := same_frz hu r.sm h3
  have hs : σ = σ.set i (some (.ref p)) := by
    apply List.ext_getElem?
    intro j
    by_cases hj : i = j
    · subst hj
      rw [List.getElem?_set_self (List.getElem?_eq_some_iff.mp h1).1, h1]
    · rw [List.getElem?_set_ne hj]
  have nd : ∀ (l : List SD) (j : Nat), (owns l).Nodup → l[j]? = some (.own p o) → p ∉ owns (l.set j (.dat d)) := by
    intro l
    induction l with
    | nil => intro j _ h; simp at h
    | cons y l ih =>
      intro j hn h
      cases j with
      | zero =>
        have h : y = .own p o := Option.some.inj h
        subst h
        exact (List.nodup_cons.mp hn).1
      | succ j =>
        have h : l[j]? = some (.own p o) := by simpa using h
        show p ∉ owns (y :: l.set j (.dat d))
        cases y with
        | any => exact ih j hn h
        | dat w => exact ih j hn h
        | own q w =>
          obtain ⟨n1, n2⟩ := List.nodup_cons.mp hn
          intro z
          rcases List.mem_cons.mp z with rfl | z
          · exact n1 (mem_owns (List.mem_of_getElem? h))
          · exact ih j n2 h z
  have hd' : Ds K (upd Hf p u) (.ref p) d := by
    cases o with
    | lst ds =>
      cases hd
      obtain ⟨xs, q1, q2⟩ := h4
      rw [hu] at q1; cases q1
      exact .lst upd_same (q2.mono e)
  obtain ⟨r1, r2⟩ := r.setA (i := i) (ov := some (V.ref p)) (s := .any) trivial fun _ _ z => by cases z
  have hq : ∀ q ∈ owns (A.set i (.dat d)), q ∈ owns A := by
    obtain ⟨_, z⟩ := r.setA (i := i) (ov := none) (s := .any) trivial fun _ _ z => by cases z
    have same : ∀ (l : List SD) (j : Nat), owns (l.set j (.dat d)) = owns (l.set j .any) := by
      intro l
      induction l with
      | nil => intro j; rfl
      | cons y l ih =>
        intro j
        cases j with
        | zero => rfl
        | succ j =>
          show owns (y :: l.set j (.dat d)) = owns (y :: l.set j .any)
          cases y with
          | any => exact ih j
          | dat w => exact ih j
          | own q w => show q :: _ = q :: _; rw [ih j]
    intro q hq
    rw [same] at hq
    exact z q hq
  have hn := nd A i r.nd hA
  have rel2 : Rel K (upd Hf p u) H σ (A.set i (.dat d)) := by
    refine ⟨e2, ?_, ?_⟩
    · rw [hs]
      refine Paired.ofGet (by rw [List.length_set, List.length_set]; exact Paired.length r.al) fun j a b ha hb => ?_
      by_cases hj : i = j
      · subst hj
        rw [List.getElem?_set_self (List.getElem?_eq_some_iff.mp h1).1] at ha
        rw [List.getElem?_set_self (List.getElem?_eq_some_iff.mp hA).1] at hb
        cases ha; cases hb
        exact ⟨_, rfl, hd'⟩
      · rw [List.getElem?_set_ne hj] at ha
        have hb' := hb
        rw [List.getElem?_set_ne hj] at hb
        obtain ⟨a', ha', g⟩ := Paired.at r.al hb
        rw [ha] at ha'; cases ha'
        refine g.keep e fun q w z => ?_
        subst z
        have ne : q ≠ p := fun z => by
          subst z
          exact hn (mem_owns (List.mem_of_getElem? hb'))
        rw [upd_ne ne]
        exact ⟨g.2.1, rfl⟩
    · have := r1.nd
      have same : ∀ (l : List SD) (j : Nat), owns (l.set j (.dat d)) = owns (l.set j .any) := by
        intro l
        induction l with
        | nil => intro j; rfl
        | cons y l ih =>
          intro j
          cases j with
          | zero => rfl
          | succ j =>
            show owns (y :: l.set j (.dat d)) = owns (y :: l.set j .any)
            cases y with
            | any => exact ih j
            | dat w => exact ih j
            | own q w => show q :: _ = q :: _; rw [ih j]
      rw [same]; exact this
  refine ⟨upd Hf p u, h1, rel2, hd', ⟨e, fun a h1 h2 h3 => ?_, fun _ _ h _ => h, fun q h => .inl (hq q h)⟩⟩
  rw [upd_ne (fun z => h3 (by rw [z]; exact hp))]; exact h2
theorem ed_nf (i : Nat) {x : Str} {p : Addr} {o : OD} {d : D} {Q : D → List SD → Prop} (hA : A[i]? = some (.own p o)) (hd : o.frz = some d) (q : Q d (A.set i (.dat d))) (hN : X.N[i]? = some x := by kernel_rfl) (hv : Vis X.env.scope x := by exact vis_of (by kernel_rfl))
    (hdb : (x == ("__debug__" : Str)) = false := by kernel_rfl) (hcd : (x == ("__classdict__" : Str)) = false := by kernel_rfl) : ED X Z A (.Name x pos) Q := fun Hf H σ rel xo R k => by
  obtain ⟨Hf', h1, h2, h3, h4⟩ := rel.freezeAt hA hd
  exact ⟨_, pe_var hN hv hdb hcd, _, h1, k _ _ _ _ _ q h2 h3 h4⟩
end
end Y

namespace Y
open PySem L2

section
variable {K : PySem.W.Frag} {Hf H : Hp} {σ : List (Option V)} {A : List SD}
theorem head_d {v : V} {d : D} (r : Rel K Hf H (some v :: σ) (.dat d :: A)) : Ds K Hf v d := by
  obtain ⟨w, h1, h2⟩ := r.head
  cases h1
  exact h2
theorem ds_bl {v : V} {b : Bool} (h : Ds K Hf v (.bl b)) : v = .bl b := by cases h; rfl
theorem ds_int {v : V} {i : Int} (h : Ds K Hf v (.int i)) : v = .int i := by cases h; rfl
theorem ds_str {v : V} {i : Str} (h : Ds K Hf v (.str i)) : v = .str i := by cases h; rfl
theorem ds_non {v : V} (h : Ds K Hf v .non) : v = .non := by cases h; rfl
theorem ds_ty {v : V} {n : String} (h : Ds K Hf v (.ty n)) : v = .ty n := by cases h; rfl
end

section
variable {X : Cx} {Z : ZT} {A : List SD} {e a b : Expr} {es : List Expr} {pos : Pos} {Q : SD → List SD → Prop}
/-! ### arguments, displays -/
theorem ea_nil {Q : List D → List SD → Prop} (q : Q [] A) : EA X Z A [] Q := fun Hf H σ rel xo R k => ⟨_, pa_nil, k _ _ _ _ _ q rel .nil (Fr.refl _ _ _)⟩
theorem ea_cons {Q : List D → List SD → Prop} (h : ED X Z A e fun d A1 => EA X Z A1 es fun ds A2 => Q (d :: ds) A2) (hs : starEach (e :: es) X.env = (false, eval e X.env) :: starEach es X.env := by kernel_rfl) : EA X Z A (e :: es) Q := fun Hf H σ rel xo R k =>
  ⟨_, pa_cons we wa hs, h Hf H σ rel xo _ fun d A1 v Hf1 H1 h1 r1 s1 f1 => h1 Hf1 H1 σ r1 (xo.step f1) _ fun ds A2 vs Hf2 H2 q2 r2 s2 f2 => k _ _ _ _ _ q2 r2 (.cons (s1.mono f2.ef) s2) (f1.trans f2)⟩
theorem ex_tup {x1} (h : EA X Z A es fun ds A1 => ds.length ≤ 1000000 ∧ Q (.dat (.tup ds)) A1) : EX X Z A (.Tuple es x1 pos) Q := fun Hf H σ rel xo R k =>
  ⟨_, pe_tup wa, h Hf H σ rel xo _ fun ds A1 vs Hf1 H1 ⟨hz, q⟩ r1 s1 f1 => ⟨by rw [s1.length]; exact Nat.le_trans hz (by decide), fun p hp => fin_t r1 hp q s1 fun r A' v Hf' H' q r2 f2 => k r A' v Hf' H' q r2 (f1.trans f2)⟩⟩
theorem ex_lst (h : EA X Z A es fun ds A1 => ds.length ≤ 1000000 ∧ ∀ p, Q (.own p (.lst ds)) A1) : EX X Z A (.List es pos) Q := fun Hf H σ rel xo R k =>
  ⟨_, pe_lst wa, h Hf H σ rel xo _ fun ds A1 vs Hf1 H1 ⟨hz, q⟩ r1 s1 f1 => ⟨by rw [s1.length]; exact Nat.le_trans hz (by decide), fun p hp => fin_l r1 hp q s1 fun r A' v Hf' H' q r2 f2 => k r A' v Hf' H' q r2 (f1.trans f2)⟩⟩

/-! ### operators -/
theorem ex_bin {op : Operator} (h : ED X Z A a fun d A1 => ED X Z A1 b fun e A2 => OS X A2 (binaryOp op) d e Q) : EX X Z A (.BinOp a op b pos) Q := fun Hf H σ rel xo R k =>
  ⟨_, pe_op wo we we, h Hf H σ rel xo _ fun d A1 v Hf1 H1 h1 r1 s1 f1 => h1 Hf1 H1 σ r1 (xo.step f1) _ fun e A2 u Hf2 H2 h2 r2 s2 f2 => go_ans (f1.trans f2) (h2 Hf2 H2 σ r2 v u (s1.mono f2.ef) s2) k⟩
theorem ex_un {op : UnaryOp} (h : ED X Z A a fun d A1 => US X A1 (unaryOp op) d Q) : EX X Z A (.UnaryOp op a pos) Q := fun Hf H σ rel xo R k =>
  ⟨_, pe_un wu we, h Hf H σ rel xo _ fun d A1 v Hf1 H1 h1 r1 s1 f1 => go_ans f1 (h1 Hf1 H1 σ r1 v s1) k⟩
theorem ex_cmp {op : CmpOp} (h : ED X Z A a fun d A1 => ED X Z A1 b fun e A2 => OS X A2 (compareOp op) d e Q) (hm : behindInMarks op b = false := by kernel_rfl) : EX X Z A (.Compare a [op] [b] pos) Q := fun Hf H σ rel xo R k =>
  ⟨_, pe_cmpR wo we we hm, h Hf H σ rel xo _ fun d A1 v Hf1 H1 h1 r1 s1 f1 => h1 Hf1 H1 σ r1 (xo.step f1) _ fun e A2 u Hf2 H2 h2 r2 s2 f2 => go_ans (f1.trans f2) (h2 Hf2 H2 σ r2 v u (s1.mono f2.ef) s2) k⟩
theorem tx_cmp {op : CmpOp} {Q : Bool → List SD → Prop} (h : ED X Z A a fun d A1 => ED X Z A1 b fun e A2 => OS X A2 (compareOp op) d e fun r A3 => ∃ k, r = .dat (.bl k) ∧ Q k A3) (hm : behindInMarks op b = false := by kernel_rfl) : TX X Z A (.Compare a [op] [b] pos) Q := fun Hf H σ rel xo R k =>
  ⟨_, pt_cmpR wo we we hm, h Hf H σ rel xo _ fun d A1 v Hf1 H1 h1 r1 s1 f1 => h1 Hf1 H1 σ r1 (xo.step f1) _ fun e A2 u Hf2 H2 h2 r2 s2 f2 => go_ans (f1.trans f2) (h2 Hf2 H2 σ r2 v u (s1.mono f2.ef) s2) fun r A' v Hf' H' ⟨c, e, q⟩ r3 f3 => by
    subst e
    exact ⟨c, ds_bl (head_d r3), k _ _ _ _ q r3.tail (f3.less (owns_tail _ _))⟩⟩
theorem ex_chain {op op' : CmpOp} {c : Expr} (h : ED X Z A a fun d A1 => ED X Z A1 b fun e A2 => OS X A2 (compareOp op) d e fun r A3 => ∃ k, r = .dat (.bl k) ∧ (k = true → ED X Z A3 c fun g A4 => OS X A4 (compareOp op') e g Q) ∧ (k = false → Q (.dat (.bl false)) A3))
    (hm : lastMarks [op, op'] [b, c] = false := by kernel_rfl) : EX X Z A (.Compare a [op, op'] [b, c] pos) Q := fun Hf H σ rel xo R k =>
  ⟨_, pe_chain wo wo we we we hm, h Hf H σ rel xo _ fun d A1 v Hf1 H1 h1 r1 s1 f1 => h1 Hf1 H1 σ r1 (xo.step f1) _ fun e A2 u Hf2 H2 h2 r2 s2 f2 => h2 Hf2 H2 σ r2 v u (s1.mono f2.ef) s2 _ fun r A3 w Hf3 H3 ⟨c, ec, q1, q2⟩ r3 f3 => by
    subst ec
    have f := (f1.trans f2).trans (f3.less (owns_tail _ _))
    refine ⟨c, ds_bl (head_d r3), ?_⟩
    cases c with
    | false => exact iteF (k _ _ _ _ _ (q2 rfl) (r3.tail.consD (.bl false)) f)
    | true => exact iteT (q1 rfl Hf3 H3 σ r3.tail (xo.step f) _ fun g A4 z Hf4 H4 h4 r4 s4 f4 => go_ans (f.trans f4) (h4 Hf4 H4 σ r4 u z ((s2.mono f3.ef).mono f4.ef) s4) k)⟩
theorem tx_chain {op op' : CmpOp} {c : Expr} {Q : Bool → List SD → Prop} (h : EX X Z A (.Compare a [op, op'] [b, c] pos) fun r A3 => ∃ k, r = .dat (.bl k) ∧ Q k A3) (he : ∀ whole, isTrue (.Compare a [op, op'] [b, c] pos) X.env whole = (do let v ← whole; standAt pos; holding [v] (truthy v)) := by intro _; kernel_rfl) :
    TX X Z A (.Compare a [op, op'] [b, c] pos) Q := fun Hf H σ rel xo R k =>
  ⟨_, pt_val we he, h Hf H σ rel xo _ fun r A' v Hf' H' ⟨c, e, q⟩ r3 f3 => by
    subst e
    exact ⟨c, ds_bl (head_d r3), k _ _ _ _ q r3.tail (f3.less (owns_tail _ _))⟩⟩
theorem tx_val {Q : Bool → List SD → Prop} (h : EX X Z A e fun r A3 => ∃ k, r = .dat (.bl k) ∧ Q k A3) (he : ∀ whole, isTrue e X.env whole = (do let v ← whole; standAt e.pos; holding [v] (truthy v)) := by intro _; kernel_rfl) :
    TX X Z A e Q := fun Hf H σ rel xo R k =>
  ⟨_, pt_val we he, h Hf H σ rel xo _ fun r A' v Hf' H' ⟨c, e, q⟩ r3 f3 => by
    subst e
    exact ⟨c, ds_bl (head_d r3), k _ _ _ _ q r3.tail (f3.less (owns_tail _ _))⟩⟩
/-- the truth of a thing -/
inductive TruD : D → Bool → Prop
  | non : TruD .non false
  | bl (b : Bool) : TruD (.bl b) b
  | int (i : Int) : TruD (.int i) (i != 0)
  | str (x : Str) : x.length ≤ sizeLine → TruD (.str x) ((x.length : Int) != 0)
  | lst (ds : List D) : TruD (.lst ds) (!ds.isEmpty)
  | rls (ds : List D) : TruD (.rls ds) (!ds.isEmpty)
  | tup (ds : List D) : TruD (.tup ds) (!ds.isEmpty)
theorem dsl_empty {K : PySem.W.Frag} {Hf : Hp} {xs : List V} {ds : List D} (h : DsL K Hf xs ds) : (!xs.isEmpty) = !ds.isEmpty := by cases h <;> rfl
theorem TruD.ok {Hf H : Hp} {d : D} {k : Bool} {v : V} (t : TruD d k) (sm : Same Hf H) (h : Ds X.K Hf v d) : TruV X.K v H k := by
  cases t with
  | non => cases h; rfl
  | bl b => cases h; rfl
  | int i => cases h; rfl
  | str x hz => cases h; exact ⟨hz, rfl⟩
  | lst ds => cases h with
    | lst h1 h2 => exact .inl ⟨_, .inl (.inl (sm _ _ h1)), (dsl_empty h2).symm⟩
  | rls ds => cases h with
    | rls h1 h2 => exact .inl ⟨_, sm.seq h1, (dsl_empty h2).symm⟩
  | tup ds => cases h with
    | tup h1 h2 => exact .inr (.inl ⟨_, seqT sm h1, (dsl_empty h2).symm⟩)
theorem tx_tru {Q : Bool → List SD → Prop} (h : ED X Z A e fun d A3 => ∃ k, TruD d k ∧ Q k A3) (he : ∀ whole, isTrue e X.env whole = (do let v ← whole; standAt e.pos; holding [v] (truthy v)) := by intro _; kernel_rfl) :
    TX X Z A e Q := fun Hf H σ rel xo R k =>
  ⟨_, pt_truth we he, h Hf H σ rel xo _ fun d A' v Hf' H' ⟨c, e, q⟩ r3 s3 f3 => ⟨c, e.ok r3.sm s3, k _ _ _ _ q r3 f3⟩⟩
theorem tx_not {Q : Bool → List SD → Prop} (h : TX X Z A a fun k A3 => Q (!k) A3) : TX X Z A (.UnaryOp .Not a pos) Q := fun Hf H σ rel xo R k => ⟨_, pt_not wt, h Hf H σ rel xo _ fun b A' Hf' H' q r f => k _ _ _ _ q r f⟩
theorem tx_w {Q : Bool → List SD → Prop} (h : TW X Z A e Q) : TX X Z A e Q := fun Hf H σ rel xo R k => ⟨_, ww.pt, h Hf H σ rel xo _ k⟩
theorem tw_and1 {Q : Bool → List SD → Prop} (h : TX X Z A a Q) : TW X Z A (.BoolOp .And [a] pos) Q := fun Hf H σ rel xo R k => ⟨_, pw_and1 wt, h Hf H σ rel xo _ k⟩
theorem tw_or1 {Q : Bool → List SD → Prop} (h : TX X Z A a Q) : TW X Z A (.BoolOp .Or [a] pos) Q := fun Hf H σ rel xo R k => ⟨_, pw_or1 wt, h Hf H σ rel xo _ k⟩
theorem tw_and {rest : List Expr} {Q : Bool → List SD → Prop} (h : TX X Z A a fun k A1 => (k = true → TW X Z A1 (.BoolOp .And (b :: rest) pos) Q) ∧ (k = false → Q false A1)) : TW X Z A (.BoolOp .And (a :: b :: rest) pos) Q := fun Hf H σ rel xo R k =>
  ⟨_, pw_and wt ww, h Hf H σ rel xo _ fun c A1 Hf1 H1 ⟨q1, q2⟩ r1 f1 => by
    cases c with
    | false => exact iteF (k _ _ _ _ (q2 rfl) r1 f1)
    | true => exact iteT (q1 rfl Hf1 H1 σ r1 (xo.step f1) _ fun c A' Hf' H' q r f => k _ _ _ _ q r (f1.trans f))⟩
theorem tw_or {rest : List Expr} {Q : Bool → List SD → Prop} (h : TX X Z A a fun k A1 => (k = false → TW X Z A1 (.BoolOp .Or (b :: rest) pos) Q) ∧ (k = true → Q true A1)) : TW X Z A (.BoolOp .Or (a :: b :: rest) pos) Q := fun Hf H σ rel xo R k =>
  ⟨_, pw_or wt ww, h Hf H σ rel xo _ fun c A1 Hf1 H1 ⟨q1, q2⟩ r1 f1 => by
    cases c with
    | true => exact iteT (k _ _ _ _ (q2 rfl) r1 f1)
    | false => exact iteF (q1 rfl Hf1 H1 σ r1 (xo.step f1) _ fun c A' Hf' H' q r f => k _ _ _ _ q r (f1.trans f))⟩
/-- and, or as values: all but the last True or False -/
theorem ex_one {op} (h : EX X Z A a Q) : EX X Z A (.BoolOp op [a] pos) Q := fun Hf H σ rel xo R k => ⟨_, pe_one we, h Hf H σ rel xo _ k⟩
theorem ex_and {rest : List Expr} (h : ED X Z A a fun d A1 => ∃ k, d = .bl k ∧ (k = true → EX X Z A1 (.BoolOp .And (b :: rest) pos) Q) ∧ (k = false → Q (.dat (.bl false)) A1)) : EX X Z A (.BoolOp .And (a :: b :: rest) pos) Q := fun Hf H σ rel xo R k =>
  ⟨_, pe_and we we, h Hf H σ rel xo _ fun d A1 v Hf1 H1 ⟨c, e, q1, q2⟩ r1 s1 f1 => by
    subst e
    refine ⟨c, ds_bl s1, ?_⟩
    cases c with
    | false => exact iteF (k _ _ _ _ _ (q2 rfl) (r1.consD (.bl false)) f1)
    | true => exact iteT (q1 rfl Hf1 H1 σ r1 (xo.step f1) _ fun r A' v Hf' H' q r f => k _ _ _ _ _ q r (f1.trans f))⟩
theorem ex_or {rest : List Expr} (h : ED X Z A a fun d A1 => ∃ k, d = .bl k ∧ (k = false → EX X Z A1 (.BoolOp .Or (b :: rest) pos) Q) ∧ (k = true → Q (.dat (.bl true)) A1)) : EX X Z A (.BoolOp .Or (a :: b :: rest) pos) Q := fun Hf H σ rel xo R k =>
  ⟨_, pe_or we we, h Hf H σ rel xo _ fun d A1 v Hf1 H1 ⟨c, e, q1, q2⟩ r1 s1 f1 => by
    subst e
    refine ⟨c, ds_bl s1, ?_⟩
    cases c with
    | true => exact iteT (k _ _ _ _ _ (q2 rfl) (r1.consD (.bl true)) f1)
    | false => exact iteF (q1 rfl Hf1 H1 σ r1 (xo.step f1) _ fun r A' v Hf' H' q r f => k _ _ _ _ _ q r (f1.trans f))⟩
theorem ex_not (h : ED X Z A a fun d A1 => ∃ k, d = .bl k ∧ Q (.dat (.bl (!k))) A1) : EX X Z A (.UnaryOp .Not a pos) Q := fun Hf H σ rel xo R k =>
  ⟨_, pe_not we, h Hf H σ rel xo _ fun d A1 v Hf1 H1 ⟨c, e, q⟩ r1 s1 f1 => by
    subst e
    exact ⟨c, ds_bl s1, k _ _ _ _ _ q (r1.consD (.bl (!c))) f1⟩⟩
theorem ex_if {c : Expr} (h : TX X Z A c fun t A1 => (t = true → EX X Z A1 a Q) ∧ (t = false → EX X Z A1 b Q)) : EX X Z A (.IfExp c a b pos) Q := fun Hf H σ rel xo R k =>
  ⟨_, pe_ifExp wt we we, h Hf H σ rel xo _ fun c A1 Hf1 H1 ⟨q1, q2⟩ r1 f1 => by
    cases c with
    | false => exact iteF (q2 rfl Hf1 H1 σ r1 (xo.step f1) _ fun r A' v Hf' H' q r f => k _ _ _ _ _ q r (f1.trans f))
    | true => exact iteT (q1 rfl Hf1 H1 σ r1 (xo.step f1) _ fun r A' v Hf' H' q r f => k _ _ _ _ _ q r (f1.trans f))⟩

/-! ### calls of what is built in -/
theorem ex_callB (id : String) {x : Str} {p : Pos} [c : Cok X] (h : EA X Z A (e :: es) fun ds A1 => CS X A1 (.builtin id) ds Q) (hg : Gl X x := by exact gl_of (by kernel_rfl)) (hx : x ∈ bnames := by exact mem_of_B (by kernel_rfl)) (hv : bootBuiltins x = some (.builtin id) := by kernel_rfl) (hn : x ≠ "__name__" := by exact ne_of_B (by kernel_rfl)) (hdb : (x == ("__debug__" : Str)) = false := by kernel_rfl)
    (he : starEach (e :: es) X.env = (false, eval e X.env) :: starEach es X.env := by kernel_rfl) (hpl : (backTo pos (starEach es X.env)).any (·.1) = false := by kernel_rfl) : EX X Z A (.Call (.Name x p) (e :: es) [] pos) Q := fun Hf H σ rel xo R k =>
  ⟨_, pe_callB wc hg (c.no x hx) hv wa hn hdb he hpl, h Hf H σ rel xo _ fun ds A1 vs Hf1 H1 h1 r1 s1 f1 => go_ans f1 (h1 Hf1 H1 σ r1 vs s1) k⟩
theorem ex_callT (id : String) {x : Str} {p : Pos} [c : Cok X] (h : EA X Z A (e :: es) fun ds A1 => CS X A1 (.type id) ds Q) (hg : Gl X x := by exact gl_of (by kernel_rfl)) (hx : x ∈ bnames := by exact mem_of_B (by kernel_rfl)) (hv : bootBuiltins x = some (.type id) := by kernel_rfl) (hn : x ≠ "__name__" := by exact ne_of_B (by kernel_rfl)) (hdb : (x == ("__debug__" : Str)) = false := by kernel_rfl)
    (he : starEach (e :: es) X.env = (false, eval e X.env) :: starEach es X.env := by kernel_rfl) (hpl : (backTo pos (starEach es X.env)).any (·.1) = false := by kernel_rfl) : EX X Z A (.Call (.Name x p) (e :: es) [] pos) Q := fun Hf H σ rel xo R k =>
  ⟨_, pe_callTy wc hg (c.no x hx) hv wa hn hdb he hpl, h Hf H σ rel xo _ fun ds A1 vs Hf1 H1 h1 r1 s1 f1 => go_ans f1 (h1 Hf1 H1 σ r1 vs s1) k⟩
theorem ex_seqB (id : String) {x : Str} {p : Pos} [c : Cok X] (h : ES X Z A e fun l ds A1 => CQ X A1 (.builtin id) l ds Q) (hg : Gl X x := by exact gl_of (by kernel_rfl)) (hx : x ∈ bnames := by exact mem_of_B (by kernel_rfl)) (hv : bootBuiltins x = some (.builtin id) := by kernel_rfl) (hn : x ≠ "__name__" := by exact ne_of_B (by kernel_rfl)) (hdb : (x == ("__debug__" : Str)) = false := by kernel_rfl)
    (he : starEach [e] X.env = [(false, eval e X.env)] := by kernel_rfl) (hpl : (backTo pos (starEach [] X.env)).any (·.1) = false := by kernel_rfl) : EX X Z A (.Call (.Name x p) [e] [] pos) Q := fun Hf H σ rel xo R k =>
  ⟨_, pe_callB wc hg (c.no x hx) hv (pa_cons we pa_nil he) hn hdb he hpl, h Hf H σ rel xo _ fun l ds A1 v Hf1 H1 h1 r1 s1 f1 => go_ans f1 (h1 Hf1 H1 σ r1 v s1) k⟩
theorem ex_seqT (id : String) {x : Str} {p : Pos} [c : Cok X] (h : ES X Z A e fun l ds A1 => CQ X A1 (.type id) l ds Q) (hg : Gl X x := by exact gl_of (by kernel_rfl)) (hx : x ∈ bnames := by exact mem_of_B (by kernel_rfl)) (hv : bootBuiltins x = some (.type id) := by kernel_rfl) (hn : x ≠ "__name__" := by exact ne_of_B (by kernel_rfl)) (hdb : (x == ("__debug__" : Str)) = false := by kernel_rfl)
    (he : starEach [e] X.env = [(false, eval e X.env)] := by kernel_rfl) (hpl : (backTo pos (starEach [] X.env)).any (·.1) = false := by kernel_rfl) : EX X Z A (.Call (.Name x p) [e] [] pos) Q := fun Hf H σ rel xo R k =>
  ⟨_, pe_callTy wc hg (c.no x hx) hv (pa_cons we pa_nil he) hn hdb he hpl, h Hf H σ rel xo _ fun l ds A1 v Hf1 H1 h1 r1 s1 f1 => go_ans f1 (h1 Hf1 H1 σ r1 v s1) k⟩

/-! ### sequences seen -/
theorem es_o (i : Nat) {x : Str} {p : Addr} {ds : List D} {Q : Bool → List D → List SD → Prop} (hA : A[i]? = some (.own p (.lst ds))) (q : Q true ds A) (hN : X.N[i]? = some x := by kernel_rfl) (hv : Vis X.env.scope x := by exact vis_of (by kernel_rfl))
    (hdb : (x == ("__debug__" : Str)) = false := by kernel_rfl) (hcd : (x == ("__classdict__" : Str)) = false := by kernel_rfl) : ES X Z A (.Name x pos) Q := fun Hf H σ rel xo R k => by
  obtain ⟨ov, h1, h2, h3, xs, h4, h5⟩ := Paired.at rel.al hA
  subst h2
  exact ⟨_, pe_var hN hv hdb hcd, _, h1, k _ _ _ _ _ _ q rel ⟨p, xs, rfl, iteT (.inl (.inl h4)), h5⟩ (Fr.refl _ _ _)⟩
def SD.seq : SD → Option (Bool × List D)
  | .dat (.lst ds) => some (true, ds)
  | .dat (.rls ds) => some (true, ds)
  | .dat (.tup ds) => some (false, ds)
  | .own _ (.lst ds) => some (true, ds)
  | _ => none
theorem Rel.seq {K : PySem.W.Frag} {Hf H : Hp} {σ : List (Option V)} {s : SD} {v : V} {l : Bool} {ds : List D} (r : Rel K Hf H (some v :: σ) (s :: A)) (h : s.seq = some (l, ds)) : SeqV K Hf H v l ds := by
  cases s with
  | any => cases h
  | dat d =>
    have g := head_d r
    cases d <;> simp only [SD.seq, Option.some.injEq, Prod.mk.injEq, reduceCtorEq] at h
    · obtain ⟨rfl, rfl⟩ := h
      cases g with
      | lst h1 h2 => exact ⟨_, _, rfl, iteT (.inl (.inl (r.sm _ _ h1))), h2⟩
    · obtain ⟨rfl, rfl⟩ := h
      cases g with
      | rls h1 h2 => exact ⟨_, _, rfl, iteT (r.sm.seq h1), h2⟩
    · obtain ⟨rfl, rfl⟩ := h
      cases g with
      | tup h1 h2 => exact ⟨_, _, rfl, iteF h1, h2⟩
  | own p o =>
    cases o with
    | lst ds' =>
      simp only [SD.seq, Option.some.injEq, Prod.mk.injEq] at h
      obtain ⟨rfl, rfl⟩ := h
      obtain ⟨h1, h2, xs, h3, h4⟩ := r.head
      cases h1
      exact ⟨_, _, rfl, iteT (.inl (.inl h3)), h4⟩
theorem es_of {Q : Bool → List D → List SD → Prop} (h : EX X Z A e fun r A1 => ∃ l ds, r.seq = some (l, ds) ∧ Q l ds A1) : ES X Z A e Q := fun Hf H σ rel xo R k =>
  h Hf H σ rel xo R fun r A' v Hf' H' ⟨l, ds, hs, q⟩ r1 f1 => k _ _ _ _ _ _ q r1.tail (r1.seq hs) (f1.less (owns_tail _ _))
theorem ex_ix (h : ED X Z A a fun d A1 => ED X Z A1 b fun e A2 => XS X A2 d e Q) (hs : PlainIx b := by intro _ _; kernel_rfl) : EX X Z A (.Subscript a b pos) Q := fun Hf H σ rel xo R k =>
  ⟨_, pe_ix wx we we hs, h Hf H σ rel xo _ fun d A1 v Hf1 H1 h1 r1 s1 f1 => h1 Hf1 H1 σ r1 (xo.step f1) _ fun e A2 u Hf2 H2 h2 r2 s2 f2 => go_ans (f1.trans f2) (h2 Hf2 H2 σ r2 v u (s1.mono f2.ef) s2) k⟩
/-- an owned list's item -/
theorem ex_ixo (i : Nat) {x : Str} {px : Pos} {p : Addr} {o : OD} (hA : A[i]? = some (.own p o)) (h : ED X Z A b fun e A2 => ∃ p ds j d, A2[i]? = some (.own p (.lst ds)) ∧ e = .int j ∧ atI ds j = some d ∧ Q (.dat d) A2) (hN : X.N[i]? = some x := by kernel_rfl)
    (hv : Vis X.env.scope x := by exact vis_of (by kernel_rfl)) (hdb : (x == ("__debug__" : Str)) = false := by kernel_rfl) (hcd : (x == ("__classdict__" : Str)) = false := by kernel_rfl) (hs : PlainIx b := by intro _ _; kernel_rfl) : EX X Z A (.Subscript (.Name x px) b pos) Q := fun Hf H σ rel xo R k => by
  obtain ⟨ov, h1, h2, h3, h4⟩ := Paired.at rel.al hA
  subst h2
  refine ⟨_, pe_ix ix_list (pe_var hN hv hdb hcd) we hs, _, h1, h Hf H σ rel xo _ fun e A2 u Hf2 H2 ⟨p', ds, j, d, q1, q2, q3, q4⟩ r2 s2 f2 => ?_⟩
  subst q2
  obtain ⟨ov, g1, g2, g3, xs, g4, g5⟩ := Paired.at r2.al q1
  rw [h1] at g1
  cases g1
  cases g2
  have hl := g5.length
  obtain ⟨m, m1, m2⟩ : ∃ m, ixN ds.length j = some m ∧ ds[m]? = some d := by
    unfold atI at q3
    cases hm : ixN ds.length j with
    | none => rw [hm] at q3; cases q3
    | some m => rw [hm] at q3; exact ⟨m, rfl, q3⟩
  obtain ⟨v, v1, v2⟩ := g5.get m2
  refine ⟨p, xs, j, v, rfl, ds_int s2, .inl (.inl g4), ?_, fin_d r2 q4 v2 fun r A' v Hf' H' q r f => k _ _ _ _ _ q r (f2.trans f)⟩
  unfold atI
  rw [hl, m1]
  exact v1
end
end Y

namespace Y
open PySem L2

section
variable {X : Cx} {A : List SD} {Q : SD → List SD → Prop}
/-! ### numbers -/
theorem os_add {i j : Int} (q : Q (.dat (.int (i + j))) A) : OS X A (binaryOp .Add) (.int i) (.int j) Q := fun Hf H σ rel v u hv hu R k => ⟨_, op_add, i, j, ds_int hv, ds_int hu, fin_d rel q (.int _) k⟩
theorem os_sub {i j : Int} (q : Q (.dat (.int (i - j))) A) : OS X A (binaryOp .Sub) (.int i) (.int j) Q := fun Hf H σ rel v u hv hu R k => ⟨_, op_sub, i, j, ds_int hv, ds_int hu, fin_d rel q (.int _) k⟩
theorem os_mul {i j : Int} (hc : CMulW i j) (q : Q (.dat (.int (i * j))) A) : OS X A (binaryOp .Mult) (.int i) (.int j) Q := fun Hf H σ rel v u hv hu R k => ⟨_, op_mulW, i, j, ds_int hv, ds_int hu, hc, fin_d rel q (.int _) k⟩
theorem os_mulL {i j : Int} (hc : CMul i j) (q : Q (.dat (.int (i * j))) A) : OS X A (binaryOp .Mult) (.int i) (.int j) Q := fun Hf H σ rel v u hv hu R k => ⟨_, op_mul, i, j, ds_int hv, ds_int hu, hc, fin_d rel q (.int _) k⟩
theorem os_mod {i j : Int} (hc : 0 < j) (q : Q (.dat (.int (i % j))) A) : OS X A (binaryOp .Mod) (.int i) (.int j) Q := fun Hf H σ rel v u hv hu R k => ⟨_, op_mod, i, j, ds_int hv, ds_int hu, hc, fin_d rel q (.int _) k⟩
theorem os_modN {i j : Int} (hc : j ≠ 0) (q : Q (.dat (.int (i.fmod j))) A) : OS X A (binaryOp .Mod) (.int i) (.int j) Q := fun Hf H σ rel v u hv hu R k => ⟨_, op_modN, i, j, ds_int hv, ds_int hu, hc, fin_d rel q (.int _) k⟩
theorem os_div {i j : Int} (hc : CDivW i j) (q : Q (.dat (.int (i / j))) A) : OS X A (binaryOp .FloorDiv) (.int i) (.int j) Q := fun Hf H σ rel v u hv hu R k => ⟨_, op_fdivW, i, j, ds_int hv, ds_int hu, hc, fin_d rel q (.int _) k⟩
theorem os_divN {i j : Int} (hc : CDivN i j) (q : Q (.dat (.int (i.fdiv j))) A) : OS X A (binaryOp .FloorDiv) (.int i) (.int j) Q := fun Hf H σ rel v u hv hu R k => ⟨_, op_fdivN, i, j, ds_int hv, ds_int hu, hc, fin_d rel q (.int _) k⟩
theorem os_pow {i j : Int} (hc : CPow i j) (q : Q (.dat (.int (i ^ j.toNat))) A) : OS X A (binaryOp .Pow) (.int i) (.int j) Q := fun Hf H σ rel v u hv hu R k => ⟨_, op_pow, i, j, ds_int hv, ds_int hu, hc, fin_d rel q (.int _) k⟩
theorem os_lt {i j : Int} (q : Q (.dat (.bl (decide (i < j)))) A) : OS X A (compareOp .Lt) (.int i) (.int j) Q := fun Hf H σ rel v u hv hu R k => ⟨_, op_lt, i, j, ds_int hv, ds_int hu, fin_d rel q (.bl _) k⟩
theorem os_le {i j : Int} (q : Q (.dat (.bl (decide (i ≤ j)))) A) : OS X A (compareOp .LtE) (.int i) (.int j) Q := fun Hf H σ rel v u hv hu R k => ⟨_, op_le, i, j, ds_int hv, ds_int hu, fin_d rel q (.bl _) k⟩
theorem os_gt {i j : Int} (q : Q (.dat (.bl (decide (j < i)))) A) : OS X A (compareOp .Gt) (.int i) (.int j) Q := fun Hf H σ rel v u hv hu R k => ⟨_, op_gt, i, j, ds_int hv, ds_int hu, fin_d rel q (.bl _) k⟩
theorem os_ge {i j : Int} (q : Q (.dat (.bl (decide (j ≤ i)))) A) : OS X A (compareOp .GtE) (.int i) (.int j) Q := fun Hf H σ rel v u hv hu R k => ⟨_, op_ge, i, j, ds_int hv, ds_int hu, fin_d rel q (.bl _) k⟩
theorem dec_int' {i j : Int} : decide (V.int i = V.int j) = decide (i = j) := by
  by_cases h : i = j
  · subst h; simp
  · simp [h]
theorem os_eq {i j : Int} (q : Q (.dat (.bl (decide (i = j)))) A) : OS X A (compareOp .Eq) (.int i) (.int j) Q := fun Hf H σ rel v u hv hu R k =>
  ⟨_, op_eq, by cases ds_int hv; cases ds_int hu; exact ⟨rfl, by rw [dec_int']; exact fin_d rel q (.bl _) k⟩⟩
theorem os_ne {i j : Int} (q : Q (.dat (.bl (!decide (i = j)))) A) : OS X A (compareOp .NotEq) (.int i) (.int j) Q := fun Hf H σ rel v u hv hu R k =>
  ⟨_, op_ne, by cases ds_int hv; cases ds_int hu; exact ⟨rfl, by rw [dec_int']; exact fin_d rel q (.bl _) k⟩⟩
theorem os_eqB {i j : Bool} (q : Q (.dat (.bl (decide (i = j)))) A) : OS X A (compareOp .Eq) (.bl i) (.bl j) Q := fun Hf H σ rel v u hv hu R k =>
  ⟨_, op_eq, by cases ds_bl hv; cases ds_bl hu; exact ⟨rfl, by rw [show decide (V.bl i = V.bl j) = decide (i = j) by cases i <;> cases j <;> rfl]; exact fin_d rel q (.bl _) k⟩⟩
theorem os_neB {i j : Bool} (q : Q (.dat (.bl (!decide (i = j)))) A) : OS X A (compareOp .NotEq) (.bl i) (.bl j) Q := fun Hf H σ rel v u hv hu R k =>
  ⟨_, op_ne, by cases ds_bl hv; cases ds_bl hu; exact ⟨rfl, by rw [show decide (V.bl i = V.bl j) = decide (i = j) by cases i <;> cases j <;> rfl]; exact fin_d rel q (.bl _) k⟩⟩
theorem us_neg {i : Int} (q : Q (.dat (.int (-i))) A) : US X A (unaryOp .USub) (.int i) Q := fun Hf H σ rel v hv R k => ⟨_, un_neg, i, ds_int hv, fin_d rel q (.int _) k⟩
theorem dsl1 {K : PySem.W.Frag} {Hf : Hp} {vs : List V} {d : D} (h : DsL K Hf vs [d]) : ∃ v, vs = [v] ∧ Ds K Hf v d := by
  cases h with
  | cons a b => cases b; exact ⟨_, rfl, a⟩
theorem dsl2 {K : PySem.W.Frag} {Hf : Hp} {vs : List V} {d e : D} (h : DsL K Hf vs [d, e]) : ∃ v u, vs = [v, u] ∧ Ds K Hf v d ∧ Ds K Hf u e := by
  cases h with
  | cons a b => cases b with
    | cons c b => cases b; exact ⟨_, _, rfl, a, c⟩
theorem cs_abs {i : Int} (q : Q (.dat (.int (if i < 0 then -i else i))) A) : CS X A (.builtin "abs") [.int i] Q := fun Hf H σ rel vs h R k => by
  obtain ⟨v, rfl, h'⟩ := dsl1 h
  cases ds_int h'
  exact ⟨_, call_abs, i, rfl, fin_d rel q (.int _) k⟩
theorem cs_int {i : Int} (q : Q (.dat (.int i)) A) : CS X A (.type "int") [.int i] Q := fun Hf H σ rel vs h R k => by
  obtain ⟨v, rfl, h'⟩ := dsl1 h
  cases ds_int h'
  exact ⟨_, call_int1, .inl ⟨i, rfl, fin_d rel q (.int _) k⟩⟩
theorem cs_intB {i : Bool} (q : Q (.dat (.int (if i then 1 else 0))) A) : CS X A (.type "int") [.bl i] Q := fun Hf H σ rel vs h R k => by
  obtain ⟨v, rfl, h'⟩ := dsl1 h
  cases ds_bl h'
  exact ⟨_, call_int1, .inr ⟨i, rfl, fin_d rel q (.int _) k⟩⟩
theorem cs_max {i j : Int} [c : Cok X] (q : Q (.dat (.int (if j > i then j else i))) A) : CS X A (.builtin "max") [.int i, .int j] Q := fun Hf H σ rel vs h R k => by
  obtain ⟨v, u, rfl, h2, h'⟩ := dsl2 h
  cases ds_int h2
  cases ds_int h'
  exact ⟨_, call_max2 c.calm, i, j, rfl, fin_d rel q (.int _) k⟩
theorem cs_min {i j : Int} [c : Cok X] (q : Q (.dat (.int (if j < i then j else i))) A) : CS X A (.builtin "min") [.int i, .int j] Q := fun Hf H σ rel vs h R k => by
  obtain ⟨v, u, rfl, h2, h'⟩ := dsl2 h
  cases ds_int h2
  cases ds_int h'
  exact ⟨_, call_min2 c.calm, i, j, rfl, fin_d rel q (.int _) k⟩

/-! ### equality at any depth -/
mutual
def D.py : D → PyData
  | .non => .none
  | .bl b => .bool b
  | .int i => .int i
  | .str x => .str x
  | .lst ds => .list (D.pys ds)
  | .tup ds => .tuple (D.pys ds)
  | _ => .dict []
def D.pys : List D → List PyData
  | [] => []
  | d :: ds => D.py d :: D.pys ds
end
/-! data of None, truths, numbers, texts, lists, tuples -/
mutual
def D.flat : D → Bool
  | .non => true
  | .bl _ => true
  | .int _ => true
  | .str x => PyData.canLay0 (.str x)
  | .lst ds => D.flats ds
  | .tup ds => D.flats ds
  | _ => false
def D.flats : List D → Bool
  | [] => true
  | d :: ds => D.flat d && D.flats ds
end
mutual
theorem dp_of {K : PySem.W.Frag} {Hf H : Hp} (sm : Same Hf H) : ∀ {v : V} {d : D}, Ds K Hf v d → d.flat = true → Dp K H v d.py
  | _, _, .non, _ => .non
  | _, _, .bl b, _ => .bl b
  | _, _, .int i, _ => .int i
  | _, _, .str x, _ => .str x
  | _, _, .ptr a, h => by simp [D.flat] at h
  | _, _, .ty a, h => by simp [D.flat] at h
  | _, _, .lst h q, e => .lst (.inl (.inl (sm _ _ h))) (dpl_of sm q (by simpa [D.flat] using e))
  | _, _, .rls h q, e => by simp [D.flat] at e
  | _, _, .tup h q, e => .tup (seqT sm h) (dpl_of sm q (by simpa [D.flat] using e))
  | _, _, .ins h q, e => by simp [D.flat] at e
theorem dpl_of {K : PySem.W.Frag} {Hf H : Hp} (sm : Same Hf H) : ∀ {vs : List V} {ds : List D}, DsL K Hf vs ds → D.flats ds = true → DpAll K H vs (D.pys ds)
  | _, _, .nil, _ => .nil
  | _, _, .cons h q, e => by
    simp only [D.flats, Bool.and_eq_true] at e
    exact .cons (dp_of sm h e.1) (dpl_of sm q e.2)
end
mutual
theorem flat_lay : ∀ {d : D}, d.flat = true → PyData.canLay0 d.py = true
  | .non, _ => rfl
  | .bl _, _ => rfl
  | .int _, _ => rfl
  | .str _, h => h
  | .lst ds, h => by simp only [D.py, PyData.canLay0]; exact flats_lay (by simpa [D.flat] using h)
  | .tup ds, h => by simp only [D.py, PyData.canLay0]; exact flats_lay (by simpa [D.flat] using h)
theorem flats_lay : ∀ {ds : List D}, D.flats ds = true → PyData.canLayAll0 (D.pys ds) = true
  | [], _ => rfl
  | d :: ds, h => by
    simp only [D.flats, Bool.and_eq_true] at h
    simp only [D.pys, PyData.canLayAll0, Bool.and_eq_true]
    exact ⟨flat_lay h.1, flats_lay h.2⟩
end
/-- flat, and at most n deep -/
def Pl (n : Nat) (d : D) : Prop := d.flat = true ∧ PyData.depth d.py ≤ n
theorem Pl.mono {n m : Nat} {d : D} (h : Pl n d) (e : n ≤ m) : Pl m d := ⟨h.1, Nat.le_trans h.2 e⟩
theorem Pl.shaped {n : Nat} {d : D} (h : Pl n d) (e : n ≤ 64) : SeqAt.shaped d.py = true := by
  unfold SeqAt.shaped
  rw [flat_lay h.1, Bool.true_and]
  exact decide_eq_true (Nat.le_trans h.2 e)
theorem pl_all {n : Nat} : ∀ {ds : List D}, (∀ d ∈ ds, Pl n d) → D.flats ds = true ∧ PyData.depthAll (D.pys ds) ≤ n
  | [], _ => ⟨rfl, by simp [D.pys, PyData.depthAll]⟩
  | d :: ds, h => by
    obtain ⟨h1, h2⟩ := pl_all (ds := ds) fun e he => h e (List.mem_cons_of_mem _ he)
    have h3 := h d List.mem_cons_self
    refine ⟨by simp [D.flats, h1, h3.1], ?_⟩
    simp only [D.pys, PyData.depthAll]
    exact Nat.max_le.mpr ⟨h3.2, h2⟩
theorem Pl.tup {n : Nat} {ds : List D} (h : ∀ d ∈ ds, Pl n d) : Pl (n + 1) (.tup ds) := by
  obtain ⟨h1, h2⟩ := pl_all h
  exact ⟨by simp [D.flat, h1], by simp only [D.py, PyData.depth]; omega⟩
theorem Pl.lst {n : Nat} {ds : List D} (h : ∀ d ∈ ds, Pl n d) : Pl (n + 1) (.lst ds) := by
  obtain ⟨h1, h2⟩ := pl_all h
  exact ⟨by simp [D.flat, h1], by simp only [D.py, PyData.depth]; omega⟩
theorem Pl.int {n : Nat} (i : Int) : Pl n (.int i) := ⟨rfl, Nat.zero_le _⟩
theorem Pl.bl {n : Nat} (i : Bool) : Pl n (.bl i) := ⟨rfl, Nat.zero_le _⟩
theorem Pl.non {n : Nat} : Pl n .non := ⟨rfl, Nat.zero_le _⟩
/-- Python's == of two flat things -/
def D.eqv (d e : D) : Bool := PyData.eqv d.py e.py
theorem os_eqD {d e : D} {n m : Nat} [c : Cok X] (hd : Pl n d) (he : Pl m e) (hn : n ≤ 64) (hm : m ≤ 64) (q : Q (.dat (.bl (d.eqv e))) A) : OS X A (compareOp .Eq) d e Q := fun Hf H σ rel v u hv hu R k =>
  ⟨_, op_eqD c.un, d.py, e.py, dp_of rel.sm hv hd.1, dp_of rel.sm hu he.1, hd.shaped hn, he.shaped hm, fin_d rel q (.bl _) k⟩
theorem os_neD {d e : D} {n m : Nat} [c : Cok X] (hd : Pl n d) (he : Pl m e) (hn : n ≤ 64) (hm : m ≤ 64) (q : Q (.dat (.bl (!d.eqv e))) A) : OS X A (compareOp .NotEq) d e Q := fun Hf H σ rel v u hv hu R k =>
  ⟨_, op_neD c.un, d.py, e.py, dp_of rel.sm hv hd.1, dp_of rel.sm hu he.1, hd.shaped hn, he.shaped hm, fin_d rel q (.bl _) k⟩
theorem os_isN {d : D} {b : Bool} (hb : ∀ K Hf v, Ds K Hf v d → decide (v = .non) = b) (q : Q (.dat (.bl b)) A) : OS X A (compareOp .Is) d .non Q := fun Hf H σ rel v u hv hu R k =>
  ⟨_, op_isN, ds_non hu, by rw [hb _ _ _ hv]; exact fin_d rel q (.bl _) k⟩
theorem os_notN {d : D} {b : Bool} (hb : ∀ K Hf v, Ds K Hf v d → decide (v = .non) = b) (q : Q (.dat (.bl (!b))) A) : OS X A (compareOp .IsNot) d .non Q := fun Hf H σ rel v u hv hu R k =>
  ⟨_, op_notN, ds_non hu, by rw [hb _ _ _ hv]; exact fin_d rel q (.bl _) k⟩

/-! ### lists and tuples by operators -/
theorem ds_lst {K : PySem.W.Frag} {Hf : Hp} {v : V} {ds : List D} (h : Ds K Hf v (.lst ds)) : ∃ a xs, v = .ref a ∧ Hf a = some (.lst xs) ∧ DsL K Hf xs ds := by
  cases h with
  | lst h1 h2 => exact ⟨_, _, rfl, h1, h2⟩
theorem ds_tup {K : PySem.W.Frag} {Hf : Hp} {v : V} {ds : List D} (h : Ds K Hf v (.tup ds)) : ∃ a xs, v = .ref a ∧ SqT K Hf a xs ∧ DsL K Hf xs ds := by
  cases h with
  | tup h1 h2 => exact ⟨_, _, rfl, h1, h2⟩
theorem mil {n : Nat} (h : n ≤ 1000000) : n ≤ sizeLine := Nat.le_trans h (by decide)
theorem os_catL {ds es : List D} (hz : ds.length + es.length ≤ 1000000) (q : ∀ p, Q (.own p (.lst (ds ++ es))) A) : OS X A (binaryOp .Add) (.lst ds) (.lst es) Q := fun Hf H σ rel v u hv hu R k => by
  obtain ⟨a, xs, rfl, h1, h2⟩ := ds_lst hv
  obtain ⟨b, ys, rfl, h3, h4⟩ := ds_lst hu
  exact ⟨_, op_cat, a, b, xs, ys, rfl, rfl, rel.sm _ _ h1, rel.sm _ _ h3, by rw [h2.length, h4.length]; exact mil hz, fun p hp => fin_l rel hp q (h2.append h4) k⟩
theorem dsl_flat {K : PySem.W.Frag} {Hf : Hp} {xs : List V} {ds : List D} (h : DsL K Hf xs ds) : ∀ n, DsL K Hf (List.replicate n xs).flatten (List.replicate n ds).flatten
  | 0 => .nil
  | n + 1 => by
    rw [List.replicate_succ, List.replicate_succ, List.flatten_cons, List.flatten_cons]
    exact h.append (dsl_flat h n)
theorem os_repL {ds : List D} {n : Int} (h0 : 0 ≤ n) (hn : n ≤ 1000000) (hz : ds.length * n.toNat ≤ 1000000) (q : ∀ p, Q (.own p (.lst (List.replicate n.toNat ds).flatten)) A) : OS X A (binaryOp .Mult) (.lst ds) (.int n) Q := fun Hf H σ rel v u hv hu R k => by
  obtain ⟨a, xs, rfl, h1, h2⟩ := ds_lst hv
  cases ds_int hu
  exact ⟨_, op_rep, a, n, xs, rfl, rfl, rel.sm _ _ h1, by omega, by omega, by rw [h2.length]; exact mil hz, fun p hp => fin_l rel hp q (dsl_flat h2 _) k⟩
theorem os_catT {ds es : List D} (hz : ds.length + es.length ≤ 1000000) (q : Q (.dat (.tup (ds ++ es))) A) : OS X A (binaryOp .Add) (.tup ds) (.tup es) Q := fun Hf H σ rel v u hv hu R k => by
  obtain ⟨a, xs, rfl, h1, h2⟩ := ds_tup hv
  obtain ⟨b, ys, rfl, h3, h4⟩ := ds_tup hu
  refine ⟨_, op_catA, a, b, xs, ys, rfl, rfl, seqT rel.sm h1, seqT rel.sm h3, by rw [h2.length, h4.length]; exact mil hz, fun e => ?_, fun _ e => ?_, fun _ _ p hp => fin_t rel hp q (h2.append h4) k⟩
  · subst e
    cases h2
    exact fin_d rel q (.tup h3 h4) k
  · subst e
    cases h4
    exact fin_d rel q (.tup h1 (by rw [List.append_nil]; exact h2)) k
theorem os_repT {ds : List D} {n : Int} (hd : ds ≠ []) (h0 : 2 ≤ n) (hn : n ≤ 1000) (hz : ds.length ≤ 1000) (q : Q (.dat (.tup (List.replicate n.toNat ds).flatten)) A) : OS X A (binaryOp .Mult) (.tup ds) (.int n) Q := fun Hf H σ rel v u hv hu R k => by
  obtain ⟨a, xs, rfl, h1, h2⟩ := ds_tup hv
  cases ds_int hu
  exact ⟨_, op_repT, a, n, xs, rfl, rfl, seqT rel.sm h1, fun e => hd (by subst e; cases h2; rfl), h0, hn, by rw [h2.length]; exact hz, fun p hp => fin_t rel hp q (dsl_flat h2 _) k⟩

/-! ### items -/
theorem at_ds {K : PySem.W.Frag} {Hf : Hp} {xs : List V} {ds : List D} {j : Int} {d : D} (h : DsL K Hf xs ds) (q : atI ds j = some d) : ∃ v, atI xs j = some v ∧ Ds K Hf v d := by
  unfold atI at q ⊢
  rw [h.length]
  cases hm : ixN ds.length j with
  | none => rw [hm] at q; cases q
  | some m =>
    rw [hm] at q
    exact h.get q
theorem xs_l {ds : List D} {j : Int} {d : D} (h : atI ds j = some d) (q : Q (.dat d) A) : XS X A (.lst ds) (.int j) Q := fun Hf H σ rel v u hv hu R k => by
  obtain ⟨a, xs, rfl, h1, h2⟩ := ds_lst hv
  cases ds_int hu
  obtain ⟨w, w1, w2⟩ := at_ds h2 h
  exact ⟨_, ix_list, a, xs, j, w, rfl, rfl, .inl (.inl (rel.sm _ _ h1)), w1, fin_d rel q w2 k⟩
theorem xs_r {ds : List D} {j : Int} {d : D} (h : atI ds j = some d) (q : Q (.dat d) A) : XS X A (.rls ds) (.int j) Q := fun Hf H σ rel v u hv hu R k => by
  cases ds_int hu
  cases hv with
  | rls h1 h2 =>
    obtain ⟨w, w1, w2⟩ := at_ds h2 h
    exact ⟨_, ix_list, _, _, j, w, rfl, rfl, rel.sm.seq h1, w1, fin_d rel q w2 k⟩
theorem xs_t {ds : List D} {j : Int} {d : D} (h : atI ds j = some d) (q : Q (.dat d) A) : XS X A (.tup ds) (.int j) Q := fun Hf H σ rel v u hv hu R k => by
  obtain ⟨a, xs, rfl, h1, h2⟩ := ds_tup hv
  cases ds_int hu
  obtain ⟨w, w1, w2⟩ := at_ds h2 h
  exact ⟨_, ix_tup, a, xs, j, w, rfl, rfl, seqT rel.sm h1, w1, fin_d rel q w2 k⟩

/-! ### of one sequence -/
theorem SeqV.l {K : PySem.W.Frag} {Hf H : Hp} {v : V} {ds : List D} (h : SeqV K Hf H v true ds) : ∃ a xs, v = .ref a ∧ SqL K H a xs ∧ DsL K Hf xs ds := by
  obtain ⟨a, xs, h1, h2, h3⟩ := h
  exact ⟨a, xs, h1, by simpa using h2, h3⟩
theorem SeqV.t {K : PySem.W.Frag} {Hf H : Hp} {v : V} {ds : List D} (h : SeqV K Hf H v false ds) : ∃ a xs, v = .ref a ∧ SqT K Hf a xs ∧ DsL K Hf xs ds := by
  obtain ⟨a, xs, h1, h2, h3⟩ := h
  exact ⟨a, xs, h1, by simpa using h2, h3⟩
theorem cq_len {l : Bool} {ds : List D} (q : Q (.dat (.int (ds.length : Nat))) A) : CQ X A (.builtin "len") l ds Q := fun Hf H σ rel v h R k => by
  cases l with
  | true =>
    obtain ⟨a, xs, rfl, h1, h2⟩ := h.l
    exact ⟨_, call_len_seq, a, xs, rfl, .inl h1, by rw [h2.length]; exact fin_d rel q (.int _) k⟩
  | false =>
    obtain ⟨a, xs, rfl, h1, h2⟩ := h.t
    exact ⟨_, call_len_seq, a, xs, rfl, .inr (seqT rel.sm h1), by rw [h2.length]; exact fin_d rel q (.int _) k⟩
theorem cq_sum {α : Type} {zs : List α} {f : α → Int} [c : Cok X] (q : Q (.dat (.int (zs.map f).sum)) A) : CQ X A (.builtin "sum") true (zs.map fun z => .int (f z)) Q := fun Hf H σ rel v h R k => by
  obtain ⟨a, xs, rfl, h1, h2⟩ := h.l
  have e : (zs.map fun z => D.int (f z)) = (zs.map f).map D.int := by rw [List.map_map]; rfl
  rw [e] at h2
  rw [h2.ints] at h1
  exact ⟨_, cr_sum c.calm, a, zs.map f, rfl, h1, fin_d rel q (.int _) k⟩
theorem cq_all {α : Type} {zs : List α} {f : α → Bool} [c : Cok X] (q : Q (.dat (.bl (zs.all f))) A) : CQ X A (.builtin "all") true (zs.map fun z => .bl (f z)) Q := fun Hf H σ rel v h R k => by
  obtain ⟨a, xs, rfl, h1, h2⟩ := h.l
  have e : (zs.map fun z => D.bl (f z)) = (zs.map f).map D.bl := by rw [List.map_map]; rfl
  rw [e] at h2
  rw [h2.bls] at h1
  refine ⟨_, cr_all c.calm, a, zs.map f, rfl, h1, ?_⟩
  have e2 : (zs.map f).all id = zs.all f := by rw [List.all_map]; rfl
  rw [e2]
  exact fin_d rel q (.bl _) k
theorem cq_any {α : Type} {zs : List α} {f : α → Bool} [c : Cok X] (q : Q (.dat (.bl (zs.any f))) A) : CQ X A (.builtin "any") true (zs.map fun z => .bl (f z)) Q := fun Hf H σ rel v h R k => by
  obtain ⟨a, xs, rfl, h1, h2⟩ := h.l
  have e : (zs.map fun z => D.bl (f z)) = (zs.map f).map D.bl := by rw [List.map_map]; rfl
  rw [e] at h2
  rw [h2.bls] at h1
  refine ⟨_, cr_any c.calm, a, zs.map f, rfl, h1, ?_⟩
  have e2 : (zs.map f).any id = zs.any f := by rw [List.any_map]; rfl
  rw [e2]
  exact fin_d rel q (.bl _) k
theorem cq_maxL {α : Type} {zs : List α} {f : α → Int} [c : Cok X] (hz : 0 < zs.length) (q : ∀ m, m ∈ zs.map f → (∀ z ∈ zs, f z ≤ m) → Q (.dat (.int m)) A) : CQ X A (.builtin "max") true (zs.map fun z => .int (f z)) Q := fun Hf H σ rel v h R k => by
  obtain ⟨a, xs, rfl, h1, h2⟩ := h.l
  have e : (zs.map fun z => D.int (f z)) = (zs.map f).map D.int := by rw [List.map_map]; rfl
  rw [e] at h2
  rw [h2.ints] at h1
  exact ⟨_, cr_max c.calm, a, zs.map f, rfl, h1, by simpa using hz, fun m hm hl => fin_d rel (q m hm fun z hz => hl _ (List.mem_map_of_mem hz)) (.int _) k⟩
theorem cq_minL {α : Type} {zs : List α} {f : α → Int} [c : Cok X] (hz : 0 < zs.length) (q : ∀ m, m ∈ zs.map f → (∀ z ∈ zs, m ≤ f z) → Q (.dat (.int m)) A) : CQ X A (.builtin "min") true (zs.map fun z => .int (f z)) Q := fun Hf H σ rel v h R k => by
  obtain ⟨a, xs, rfl, h1, h2⟩ := h.l
  have e : (zs.map fun z => D.int (f z)) = (zs.map f).map D.int := by rw [List.map_map]; rfl
  rw [e] at h2
  rw [h2.ints] at h1
  exact ⟨_, cr_min c.calm, a, zs.map f, rfl, h1, by simpa using hz, fun m hm hl => fin_d rel (q m hm fun z hz => hl _ (List.mem_map_of_mem hz)) (.int _) k⟩
theorem cq_list {l : Bool} {ds : List D} (q : ∀ p, Q (.own p (.lst ds)) A) : CQ X A (.type "list") l ds Q := fun Hf H σ rel v h R k => by
  cases l with
  | true =>
    obtain ⟨a, xs, rfl, h1, h2⟩ := h.l
    exact ⟨_, call_list_of, a, xs, rfl, .inl h1, fun p hp => fin_l rel hp q h2 k⟩
  | false =>
    obtain ⟨a, xs, rfl, h1, h2⟩ := h.t
    exact ⟨_, call_list_of, a, xs, rfl, .inr (seqT rel.sm h1), fun p hp => fin_l rel hp q h2 k⟩
theorem cq_tupT {ds : List D} (q : Q (.dat (.tup ds)) A) : CQ X A (.type "tuple") false ds Q := fun Hf H σ rel v h R k => by
  obtain ⟨a, xs, rfl, h1, h2⟩ := h.t
  exact ⟨_, call_tuple_of, a, xs, rfl, .inr ⟨seqT rel.sm h1, fin_d rel q (.tup h1 h2) k⟩⟩
theorem cq_tup {ds : List D} (q : Q (.dat (.tup ds)) A) : CQ X A (.type "tuple") true ds Q := fun Hf H σ rel v h R k => by
  obtain ⟨a, xs, rfl, h1, h2⟩ := h.l
  exact ⟨_, call_tuple_of, a, xs, rfl, .inl ⟨h1, fun p hp => fin_t rel hp q h2 k⟩⟩
end
end Y

namespace Y
open PySem L2

section
variable {K : PySem.W.Frag} {Hf H : Hp} {σ : List (Option V)} {A : List SD}
theorem owns_set {p : Addr} {o o2 : OD} : ∀ {A : List SD} {i : Nat}, A[i]? = some (.own p o) → owns (A.set i (.own p o2)) = owns A
  | [], i, h => by simp at h
  | y :: A, 0, h => by
    have h : y = .own p o := Option.some.inj h
    subst h
    rfl
  | y :: A, i + 1, h => by
    have ih := owns_set (A := A) (i := i) (o2 := o2) (by simpa using h)
    show owns (y :: A.set i (.own p o2)) = owns (y :: A)
    cases y with
    | any => exact ih
    | dat d => exact ih
    | own q w => show q :: _ = q :: _; rw [ih]
/-- an owned object changed -/
theorem Rel.upd {i : Nat} {p : Addr} {o o2 : OD} {u : HO} (r : Rel K Hf H σ A) (hA : A[i]? = some (.own p o)) (h2 : OdOk K Hf (upd H p u) p o2) :
    Rel K Hf (upd H p u) σ (A.set i (.own p o2)) ∧ Fr (owns A) Hf H (owns (A.set i (.own p o2))) Hf (upd H p u) := by
  obtain ⟨ov, h1, e1, e2, e3⟩ := Paired.at r.al hA
  have hp : p ∈ owns A := mem_owns (List.mem_of_getElem? hA)
  have hs : σ = σ.set i ov := by
    apply List.ext_getElem?
    intro j
    by_cases hj : i = j
    · subst hj
      rw [List.getElem?_set_self (List.getElem?_eq_some_iff.mp h1).1, h1]
    · rw [List.getElem?_set_ne hj]
  have nd : ∀ (l : List SD) (j m : Nat) (q : Addr) (w : OD), (owns l).Nodup → l[j]? = some (.own p o) → l[m]? = some (.own q w) → j ≠ m → q ≠ p := by
    intro l
    induction l with
    | nil => intro j m q w _ h; simp at h
    | cons y l ih =>
      intro j m q w hn h g hne e
      subst e
      cases j with
      | zero =>
        have h : y = .own q o := Option.some.inj h
        subst h
        cases m with
        | zero => exact hne rfl
        | succ m => exact (List.nodup_cons.mp hn).1 (mem_owns (List.mem_of_getElem? (by simpa using g)))
      | succ j =>
        cases m with
        | zero =>
          have g : y = .own q w := Option.some.inj g
          subst g
          exact (List.nodup_cons.mp hn).1 (mem_owns (List.mem_of_getElem? (by simpa using h)))
        | succ m =>
          have hn' : (owns l).Nodup := by
            cases y with
            | any => exact hn
            | dat d => exact hn
            | own q w => exact (List.nodup_cons.mp hn).2
          exact ih j m q w hn' (by simpa using h) (by simpa using g) (by omega) rfl
  refine ⟨⟨fun b w q => ?_, ?_, by rw [owns_set hA]; exact r.nd⟩, ⟨fun _ _ h => h, fun _ _ h _ => h, fun a w g1 g2 => ?_, fun q hq => ?_⟩⟩
  · have ne : b ≠ p := fun z => by subst z; rw [e2] at q; cases q
    rw [upd_ne ne]; exact r.sm b w q
  · rw [hs]
    refine Paired.ofGet (by rw [List.length_set, List.length_set]; exact Paired.length r.al) fun j a b ha hb => ?_
    by_cases hj : i = j
    · subst hj
      rw [List.getElem?_set_self (List.getElem?_eq_some_iff.mp h1).1] at ha
      rw [List.getElem?_set_self (List.getElem?_eq_some_iff.mp hA).1] at hb
      cases ha; cases hb
      exact ⟨e1, e2, h2⟩
    · rw [List.getElem?_set_ne hj] at ha
      rw [List.getElem?_set_ne hj] at hb
      obtain ⟨a', ha', g⟩ := Paired.at r.al hb
      rw [ha] at ha'; cases ha'
      refine g.keep (fun _ _ h => h) fun q w z => ?_
      subst z
      rw [upd_ne (nd A i j q w r.nd hA hb hj)]
      exact ⟨g.2.1, rfl⟩
  · rw [upd_ne (fun z => by subst z; exact g2 hp)]; exact g1
  · rw [owns_set hA] at hq; exact .inl hq
theorem Rel.ref {i : Nat} {p : Addr} {o : OD} (r : Rel K Hf H σ A) (hA : A[i]? = some (.own p o)) : σ[i]? = some (some (.ref p)) := by
  obtain ⟨ov, h1, h2, _⟩ := Paired.at r.al hA
  rw [h1, h2]
theorem Rel.olst {i : Nat} {p : Addr} {ds : List D} (r : Rel K Hf H σ A) (hA : A[i]? = some (.own p (.lst ds))) : ∃ xs, H p = some (.lst xs) ∧ DsL K Hf xs ds := by
  obtain ⟨ov, h1, h2, h3, h4⟩ := Paired.at r.al hA
  exact h4
end

/-! ### targets -/
def GX (X : Cx) (Z : ZT) (A : List SD) (tg : Expr) (vs : Nat → Bool) (d : D) (Q : List SD → Prop) : Prop :=
  ∀ Hf H σ v, Rel X.K Hf H σ A → XOk X Z (owns A) Hf H → Ds X.K Hf v d → ∀ R : St → Hp → Prop, (∀ A' σ' Hf' H', Q A' → Rel X.K Hf' H' σ' A' → Fr (owns A) Hf H (owns A') Hf' H' → (∀ j, vs j = false → σ'[j]? = σ[j]?) → σ'.length = σ.length → R σ' H') → WG X tg v σ H R
def GXs (X : Cx) (Z : ZT) (A : List SD) (tgs : List Expr) (vs : Nat → Bool) (ds : List D) (Q : List SD → Prop) : Prop :=
  ∀ Hf H σ us, Rel X.K Hf H σ A → XOk X Z (owns A) Hf H → DsL X.K Hf us ds → ∀ R : St → Hp → Prop, (∀ A' σ' Hf' H', Q A' → Rel X.K Hf' H' σ' A' → Fr (owns A) Hf H (owns A') Hf' H' → (∀ j, vs j = false → σ'[j]? = σ[j]?) → σ'.length = σ.length → R σ' H') → WGs X tgs us σ H R
section
variable {X : Cx} {Z : ZT} {A : List SD} {e a b : Expr} {es : List Expr} {pos : Pos} {vs : Nat → Bool} {Q : List SD → Prop}
theorem gx_n (i : Nat) {x : Str} {d : D} [c : Cok X] (q : Q (A.set i (.dat d))) (hi : vs i = true := by kernel_rfl) (hN : X.N[i]? = some x := by kernel_rfl) (hx : Loc X.env.scope x := by exact loc_of (by kernel_rfl))
    (hf : X.fn x = true ∨ X.env.scope.names.lookup x = some .local := by exact fn_B (by kernel_rfl)) : GX X Z A (.Name x pos) vs d Q := fun Hf H σ v rel xo hd R k => by
  obtain ⟨r1, s1⟩ := rel.setA (i := i) (ov := some v) (s := .dat d) ⟨v, rfl, hd⟩ fun _ _ z => by cases z
  refine ⟨_, pg_name c.nd hN hx hf, k _ _ _ _ q r1 ((Fr.refl _ _ _).less fun p hp => s1 p hp) (fun j hj => ?_) (by rw [List.length_set])⟩
  have ne : i ≠ j := fun z => by subst z; rw [hi] at hj; cases hj
  rw [List.getElem?_set_ne ne]
theorem gxs_nil (q : Q A) : GXs X Z A [] vs [] Q := fun Hf H σ us rel xo hd R k => ⟨_, pgs_nil, by cases hd; exact ⟨rfl, k _ _ _ _ q rel (Fr.refl _ _ _) (fun _ _ => rfl) rfl⟩⟩
theorem gxs_cons {d : D} {ds : List D} (h : GX X Z A e vs d fun A1 => GXs X Z A1 es vs ds Q) (hs : (assignEach (e :: es) X.env).map (·.2) = assign e X.env :: (assignEach es X.env).map (·.2) := by kernel_rfl) : GXs X Z A (e :: es) vs (d :: ds) Q := fun Hf H σ us rel xo hd R k => by
  cases hd with
  | cons h1 h2 =>
    exact ⟨_, pgs_cons wg wgs hs, _, _, rfl, h Hf H σ _ rel xo h1 _ fun A1 σ1 Hf1 H1 q1 r1 f1 u1 l1 => q1 Hf1 H1 σ1 _ r1 (xo.step f1) (h2.mono f1.ef) _ fun A2 σ2 Hf2 H2 q2 r2 f2 u2 l2 => k _ _ _ _ q2 r2 (f1.trans f2) (fun j hj => (u2 j hj).trans (u1 j hj)) (l2.trans l1)⟩
theorem gx_tup {ds : List D} {kk : Nat} [c : Cok X] (h : GXs X Z A es vs ds Q) (hl : ds.length = es.length := by kernel_rfl) (hn : (assignEach es X.env).length = es.length := by kernel_rfl) (hst : (assignEach es X.env).findIdx? (·.1) = none := by kernel_rfl) : GX X Z A (.Tuple es kk pos) vs (.tup ds) Q := fun Hf H σ v rel xo hd R k => by
  obtain ⟨a, xs, rfl, h1, h2⟩ := ds_tup hd
  exact ⟨_, pg_tup c.calm wgs hn hst, a, xs, rfl, seqT rel.sm h1, by rw [h2.length, hl], h Hf H σ xs rel xo h2 R k⟩
theorem gx_unl {ds : List D} {kk : Nat} [c : Cok X] (h : GXs X Z A es vs ds Q) (hl : ds.length = es.length := by kernel_rfl) (hn : (assignEach es X.env).length = es.length := by kernel_rfl) (hst : (assignEach es X.env).findIdx? (·.1) = none := by kernel_rfl) : GX X Z A (.Tuple es kk pos) vs (.lst ds) Q := fun Hf H σ v rel xo hd R k => by
  obtain ⟨a, xs, rfl, h1, h2⟩ := ds_lst hd
  exact ⟨_, pg_unl c.calm wgs hn hst, a, xs, rfl, .inl (.inl (rel.sm _ _ h1)), by rw [h2.length, hl], h Hf H σ xs rel xo h2 R k⟩
/-- xs[i] = .., xs an owned list -/
theorem gx_set (i : Nat) {x : Str} {px : Pos} {p : Addr} {o : OD} {d : D} (hA : A[i]? = some (.own p o)) (h : ED X Z A b fun e A2 => ∃ p ds j m, A2[i]? = some (.own p (.lst ds)) ∧ e = .int j ∧ ixN ds.length j = some m ∧ Q (A2.set i (.own p (.lst (ds.set m d)))))
    (hN : X.N[i]? = some x := by kernel_rfl) (hv : Vis X.env.scope x := by exact vis_of (by kernel_rfl)) (hdb : (x == ("__debug__" : Str)) = false := by kernel_rfl) (hcd : (x == ("__classdict__" : Str)) = false := by kernel_rfl)
    (ha : ∀ v, assign (.Subscript (.Name x px) b pos) X.env v = (do
      let ov ← holding [v] (eval (.Name x px) X.env)
      let iv ← holding [v, ov] (eval b X.env)
      standAt pos
      holding [v, ov, iv] (setItem ov iv v)
      release [v, ov, iv] []) := by intro _; kernel_rfl) : GX X Z A (.Subscript (.Name x px) b pos) vs d Q := fun Hf H σ v rel xo hd R k => by
  have h1 := rel.ref hA
  refine ⟨_, pg_sub (pe_var hN hv hdb hcd) we set_list ha, _, h1, h Hf H σ rel xo _ fun e A2 u Hf2 H2 ⟨p', ds, j, m, q1, q2, q3, q4⟩ r2 s2 f2 => ?_⟩
  subst q2
  have g1 := r2.ref q1
  rw [h1] at g1
  cases g1
  obtain ⟨xs, h3, h4⟩ := r2.olst q1
  obtain ⟨r3, f3⟩ := r2.upd (u := .lst (xs.set m v)) (o2 := .lst (ds.set m d)) q1 ⟨_, upd_same, DsL.set (hd.mono f2.ef) m h4⟩
  exact ⟨p, xs, j, m, rfl, ds_int s2, h3, by rw [h4.length]; exact q3, k _ _ _ _ q4 r3 (f2.trans f3) (fun _ _ => rfl) rfl⟩
end

/-! ### statements -/
structure AE where
  nx : List SD → Prop
  rt : SD → List SD → Prop
  bk : List SD → Prop := fun _ => False
  ct : List SD → Prop := fun _ => False
structure EndsOk (K : PySem.W.Frag) (o0 : List Addr) (Hf H : Hp) (E : AE) (D : Ends) : Prop where
  nx : ∀ A' σ' Hf' H', E.nx A' → Rel K Hf' H' σ' A' → Fr o0 Hf H (owns A') Hf' H' → D.nx σ' H'
  rt : ∀ r A' v σ' Hf' H', E.rt r A' → Rel K Hf' H' (some v :: σ') (r :: A') → Fr o0 Hf H (owns (r :: A')) Hf' H' → D.rt v H'
  bk : ∀ A' σ' Hf' H', E.bk A' → Rel K Hf' H' σ' A' → Fr o0 Hf H (owns A') Hf' H' → D.bk σ' H'
  ct : ∀ A' σ' Hf' H', E.ct A' → Rel K Hf' H' σ' A' → Fr o0 Hf H (owns A') Hf' H' → D.ct σ' H'
theorem EndsOk.step {K : PySem.W.Frag} {o0 o1 : List Addr} {Hf H Hf1 H1 : Hp} {E : AE} {D : Ends} (k : EndsOk K o0 Hf H E D) (f : Fr o0 Hf H o1 Hf1 H1) : EndsOk K o1 Hf1 H1 E D :=
  ⟨fun A' σ' Hf' H' q r f2 => k.nx A' σ' Hf' H' q r (f.trans f2), fun r A' v σ' Hf' H' q h f2 => k.rt r A' v σ' Hf' H' q h (f.trans f2), fun A' σ' Hf' H' q r f2 => k.bk A' σ' Hf' H' q r (f.trans f2), fun A' σ' Hf' H' q r f2 => k.ct A' σ' Hf' H' q r (f.trans f2)⟩
def SX (X : Cx) (Z : ZT) (A : List SD) (st : Stmt) (E : AE) : Prop :=
  ∀ Hf H σ, Rel X.K Hf H σ A → XOk X Z (owns A) Hf H → ∀ D : Ends, EndsOk X.K (owns A) Hf H E D → WS X st D σ H
def SSX (X : Cx) (Z : ZT) (A : List SD) (st : List Stmt) (E : AE) : Prop :=
  ∀ Hf H σ, Rel X.K Hf H σ A → XOk X Z (owns A) Hf H → ∀ D : Ends, EndsOk X.K (owns A) Hf H E D → WSs X st D σ H
section
variable {X : Cx} {Z : ZT} {A : List SD} {e a b : Expr} {es : List Expr} {pos : Pos} {E : AE} {st : Stmt} {sts us : List Stmt}
theorem ssx_nil (q : E.nx A) : SSX X Z A [] E := fun Hf H σ rel xo D k => ⟨_, pss_nil, k.nx _ _ _ _ q rel (Fr.refl _ _ _)⟩
theorem ssx_cons (h : SX X Z A st { E with nx := fun A1 => SSX X Z A1 sts E }) : SSX X Z A (st :: sts) E := fun Hf H σ rel xo D k =>
  ⟨_, pss_cons ws wss, h Hf H σ rel xo { D with nx := WSs X sts D } ⟨fun A' σ' Hf' H' q r f => q Hf' H' σ' r (xo.step f) D (k.step f), k.rt, k.bk, k.ct⟩⟩
theorem ssx_one (h : SX X Z A st E) : SSX X Z A [st] E := fun Hf H σ rel xo D k => ⟨_, pss_one ws, h Hf H σ rel xo D k⟩
theorem sx_pass (q : E.nx A) : SX X Z A (.Pass pos) E := fun Hf H σ rel xo D k => ⟨_, ps_pass, k.nx _ _ _ _ q rel (Fr.refl _ _ _)⟩
theorem sx_brk (q : E.bk A) : SX X Z A (.Break pos) E := fun Hf H σ rel xo D k => ⟨_, ps_break, k.bk _ _ _ _ q rel (Fr.refl _ _ _)⟩
theorem sx_cont (q : E.ct A) : SX X Z A (.Continue pos) E := fun Hf H σ rel xo D k => ⟨_, ps_continue, k.ct _ _ _ _ q rel (Fr.refl _ _ _)⟩
theorem sx_ret (h : EX X Z A e E.rt) : SX X Z A (.Return (some e) pos) E := fun Hf H σ rel xo D k => ⟨_, ps_ret we, h Hf H σ rel xo _ fun r A' v Hf' H' q r1 f1 => k.rt _ _ _ _ _ _ q r1 f1⟩
theorem sx_retN (q : E.rt (.dat .non) A) : SX X Z A (.Return none pos) E := fun Hf H σ rel xo D k => ⟨_, ps_retN, k.rt _ _ _ _ _ _ q (rel.consD .non) (Fr.refl _ _ _)⟩
theorem sx_expr (h : EX X Z A e fun _ A1 => E.nx A1) (hs : swapsWith e none pos.line X.env = pure false := by kernel_rfl) : SX X Z A (.Expr e pos) E := fun Hf H σ rel xo D k =>
  ⟨_, ps_expr we hs, h Hf H σ rel xo _ fun r A' v Hf' H' q r1 f1 => k.nx _ _ _ _ q r1.tail (f1.less (owns_tail _ _))⟩
theorem sx_if {c : Expr} (h : TX X Z A c fun t A1 => (t = true → SSX X Z A1 sts E) ∧ (t = false → SSX X Z A1 us E)) : SX X Z A (.If c sts us pos) E := fun Hf H σ rel xo D k =>
  ⟨_, ps_if wt wss wss, h Hf H σ rel xo _ fun c A1 Hf1 H1 ⟨q1, q2⟩ r1 f1 => by
    cases c with
    | true => exact iteT (q1 rfl Hf1 H1 σ r1 (xo.step f1) D (k.step f1))
    | false => exact iteF (q2 rfl Hf1 H1 σ r1 (xo.step f1) D (k.step f1))⟩
theorem sx_set (i : Nat) {x : Str} {pos' : Pos} [c : Cok X] (h : EX X Z A e fun r A1 => E.nx (A1.set i r)) (hN : X.N[i]? = some x := by kernel_rfl) (hx : Loc X.env.scope x := by exact loc_of (by kernel_rfl)) (hs : swapsWith e (some (.Name x pos')) pos.line X.env = pure false := by kernel_rfl)
    (hf : X.fn x = true ∨ X.env.scope.names.lookup x = some .local := by exact fn_B (by kernel_rfl)) : SX X Z A (.Assign [.Name x pos'] e pos) E := fun Hf H σ rel xo D k =>
  ⟨_, ps_set c.nd hN hx we hs hf, h Hf H σ rel xo _ fun r A' v Hf' H' q r1 f1 => by
    obtain ⟨r2, s2⟩ := r1.tail.setA (i := i) (ov := some v) (s := r) r1.head fun p o z => by subst z; exact r1.notTail
    exact k.nx _ _ _ _ q r2 (f1.less s2)⟩
/-- tg = e, tg of any form -/
theorem sx_asg {tg : Expr} (h : ED X Z A e fun d A1 => GX X Z A1 tg (fun _ => true) d E.nx) (hs : swapsWithSole [tg] e pos.line X.env = pure false := by kernel_rfl) (hw : swappedStores [tg] e X.env = pure none := by kernel_rfl)
    (h1 : (assignEach [tg] X.env).map (·.2) = [assign tg X.env] := by kernel_rfl) : SX X Z A (.Assign [tg] e pos) E := fun Hf H σ rel xo D k =>
  ⟨_, ps_asg we wg hs hw h1, h Hf H σ rel xo _ fun d A' v Hf' H' q r1 s1 f1 => q Hf' H' σ v r1 (xo.step f1) s1 _ fun A2 σ2 Hf2 H2 q2 r2 f2 _ _ => k.nx _ _ _ _ q2 r2 (f1.trans f2)⟩
/-- a, b = x, y, two local names -/
theorem sx_par (i j : Nat) {x y : Str} {px py pt : Pos} {kt k2 pt2} [c : Cok X] (h : EA X Z A [a, b] fun ds A1 => ∃ d g, ds = [d, g] ∧ E.nx ((A1.set i (.dat d)).set j (.dat g))) (hi : X.N[i]? = some x := by kernel_rfl) (hj : X.N[j]? = some y := by kernel_rfl) (hij : i ≠ j := by decide)
    (hx : X.env.scope.names.lookup x = some .local := by kernel_rfl) (hy : X.env.scope.names.lookup y = some .local := by kernel_rfl)
    (hw : swappedStores [.Tuple [.Name x px, .Name y py] kt pt] (.Tuple [a, b] k2 pt2) X.env = pure (some [x, y]) := by kernel_rfl)
    (hs : swapsWithSole [.Tuple [.Name x px, .Name y py] kt pt] (.Tuple [a, b] k2 pt2) pos.line X.env = pure false := by kernel_rfl) : SX X Z A (.Assign [.Tuple [.Name x px, .Name y py] kt pt] (.Tuple [a, b] k2 pt2) pos) E := fun Hf H σ rel xo D k =>
  ⟨_, ps_par c.calm c.nd hi hj hij hx hy wa hw hs, h Hf H σ rel xo _ fun ds A' vs Hf' H' ⟨d, g, e, q⟩ r1 s1 f1 => by
    subst e
    obtain ⟨v, u, rfl, g1, g2⟩ := dsl2 s1
    obtain ⟨r2, s2⟩ := r1.setA (i := i) (ov := some v) (s := .dat d) ⟨v, rfl, g1⟩ fun p o z => by cases z
    obtain ⟨r3, s3⟩ := r2.setA (i := j) (ov := some u) (s := .dat g) ⟨u, rfl, g2⟩ fun p o z => by cases z
    exact ⟨v, u, rfl, k.nx _ _ _ _ q r3 (f1.less fun p hp => s2 p (s3 p hp))⟩⟩
/-- x += e and its kin, x a name -/
theorem sx_aug (i : Nat) {x : Str} {pos' : Pos} {op : Operator} {d0 : D} [c : Cok X] (hA : A[i]? = some (.dat d0)) (h : ED X Z A e fun d A1 => OS X A1 (inplaceOp op) d0 d fun r A2 => E.nx (A2.set i r)) (hN : X.N[i]? = some x := by kernel_rfl) (hx : Loc X.env.scope x := by exact loc_of (by kernel_rfl))
    (hf : X.fn x = true ∨ X.env.scope.names.lookup x = some .local := by exact fn_B (by kernel_rfl)) : SX X Z A (.AugAssign (.Name x pos') op e pos) E := fun Hf H σ rel xo D k => by
  obtain ⟨w, h1, h2⟩ := rel.slot (X := X) hA
  have hp : PIp X op (WO X (inplaceOp op)) := fun pins s σ H x y v u Q I rx ry h => wo pins s σ H x y v u Q I rx ry h
  refine ⟨_, ps_aug c.nd hN hx we hp hf, w, h1, h Hf H σ rel xo _ fun d A' v Hf' H' q r1 s1 f1 => go_ans f1 (q Hf' H' σ r1 w v (h2.mono f1.ef) s1) fun r A2 z Hf2 H2 q2 r2 f2 => ?_⟩
  obtain ⟨r3, s3⟩ := r2.tail.setA (i := i) (ov := some z) (s := r) r2.head fun p o z => by subst z; exact r2.notTail
  exact k.nx _ _ _ _ q2 r3 (f2.less s3)
theorem os_iadd {i j : Int} {Q : SD → List SD → Prop} (q : Q (.dat (.int (i + j))) A) : OS X A (inplaceOp .Add) (.int i) (.int j) Q := fun Hf H σ rel v u hv hu R k => ⟨_, iop_add, i, j, ds_int hv, ds_int hu, fin_d rel q (.int _) k⟩
theorem os_isub {i j : Int} {Q : SD → List SD → Prop} (q : Q (.dat (.int (i - j))) A) : OS X A (inplaceOp .Sub) (.int i) (.int j) Q := fun Hf H σ rel v u hv hu R k => ⟨_, iop_sub, i, j, ds_int hv, ds_int hu, fin_d rel q (.int _) k⟩
/-- while: M falls at each turn -/
theorem sx_while {c : Expr} [cx : Cok X] (Inv : Nat → List SD → Prop) (m0 : Nat) (h0 : Inv m0 A)
    (turn : ∀ m A', Inv m A' → TX X Z A' c fun t A1 => (t = true → SSX X Z A1 sts { E with nx := fun A2 => ∃ m', m' < m ∧ Inv m' A2, ct := fun A2 => ∃ m', m' < m ∧ Inv m' A2, bk := E.nx }) ∧ (t = false → E.nx A1)) : SX X Z A (.While c sts [] pos) E := fun Hf H σ rel xo D k => by
  refine ⟨_, ps_while cx.po wt wss, ?_⟩
  refine ⟨fun m σ' H' => ∃ Hf' A', Inv m A' ∧ Rel X.K Hf' H' σ' A' ∧ Fr (owns A) Hf H (owns A') Hf' H', ⟨m0, Hf, A, h0, rel, Fr.refl _ _ _⟩, ?_⟩
  rintro m σ' H' ⟨Hf', A', hI, r, f⟩
  refine turn m A' hI Hf' H' σ' r (xo.step f) _ fun t A1 Hf1 H1 ⟨q1, q2⟩ r1 f1 => ?_
  have f' := f.trans f1
  cases t with
  | false => exact iteF (k.nx _ _ _ _ (q2 rfl) r1 f')
  | true =>
    refine iteT ⟨fun σ2 H2 => ∃ m', m' < m ∧ ∃ Hf2 A2, Inv m' A2 ∧ Rel X.K Hf2 H2 σ2 A2 ∧ Fr (owns A) Hf H (owns A2) Hf2 H2, fun _ _ h => h, q1 rfl Hf1 H1 σ' r1 (xo.step f') _ ⟨?_, ?_, ?_, ?_⟩⟩
    · rintro A2 σ2 Hf2 H2 ⟨m', hm, hI⟩ r2 f2
      exact ⟨m', hm, Hf2, A2, hI, r2, f'.trans f2⟩
    · intro r A2 v σ2 Hf2 H2 q r2 f2
      exact k.rt _ _ _ _ _ _ q r2 (f'.trans f2)
    · intro A2 σ2 Hf2 H2 q r2 f2
      exact k.nx _ _ _ _ q r2 (f'.trans f2)
    · rintro A2 σ2 Hf2 H2 ⟨m', hm, hI⟩ r2 f2
      exact ⟨m', hm, Hf2, A2, hI, r2, f'.trans f2⟩
end
end Y

namespace Y
open PySem L2

/-! ### what is walked -/
/-- an owned source: its slot, its place, what it holds -/
def guard (g : Option (Nat × Addr × List D)) (A : List SD) : Prop := match g with
  | none => True
  | some (i, p, ds) => A[i]? = some (.own p (.lst ds))
structure Iters (K : PySem.W.Frag) (J : It) (ds : List D) (Hf : Hp) (g : Option (Nat × Addr × List D)) : Prop where
  go : ∀ Hf1 H1 σ1 A1 i, Same Hf Hf1 → Rel K Hf1 H1 σ1 A1 → guard g A1 → i < ds.length → J.go i H1
  stop : ∀ Hf1 H1 σ1 A1, Same Hf Hf1 → Rel K Hf1 H1 σ1 A1 → guard g A1 → J.stop ds.length H1
  yld : ∀ Hf1 H1 σ1 A1 i d x H2, Same Hf Hf1 → Rel K Hf1 H1 σ1 A1 → guard g A1 → ds[i]? = some d → J.yld i H1 x H2 → ∃ Hf2, Rel K Hf2 H2 σ1 A1 ∧ Ds K Hf2 x d ∧ Fr (owns A1) Hf1 H1 (owns A1) Hf2 H2
section
variable {K : PySem.W.Frag} {Hf : Hp} {a b : Addr} {xs ys : List V} {ds es : List D}
theorem iters_l (h1 : SqL K Hf a xs) (h2 : DsL K Hf xs ds) : Iters K (Itl K a) ds Hf none where
  go := fun Hf1 H1 σ1 A1 i e r _ hi => ⟨xs, xs[i]'(by rw [h2.length]; exact hi), (e.trans r.sm).seq h1, by simp [h2.length, hi]⟩
  stop := fun Hf1 H1 σ1 A1 e r _ => ⟨xs, (e.trans r.sm).seq h1, by rw [h2.length]; exact Nat.le_refl _⟩
  yld := fun Hf1 H1 σ1 A1 i d x H2 e r _ hd y => by
    obtain ⟨rfl, q⟩ := y
    obtain ⟨v, v1, v2⟩ := h2.get hd
    have := q xs ((e.trans r.sm).seq h1)
    rw [v1] at this
    cases this
    exact ⟨Hf1, r, v2.mono e, Fr.refl _ _ _⟩
theorem iters_lo {i : Nat} {p : Addr} : Iters K (Itl K p) ds Hf (some (i, p, ds)) where
  go := fun Hf1 H1 σ1 A1 j e r g hi => by
    obtain ⟨xs, h1, h2⟩ := r.olst g
    exact ⟨xs, xs[j]'(by rw [h2.length]; exact hi), .inl (.inl h1), by simp [h2.length, hi]⟩
  stop := fun Hf1 H1 σ1 A1 e r g => by
    obtain ⟨xs, h1, h2⟩ := r.olst g
    exact ⟨xs, .inl (.inl h1), by rw [h2.length]; exact Nat.le_refl _⟩
  yld := fun Hf1 H1 σ1 A1 j d x H2 e r g hd y => by
    obtain ⟨xs, h1, h2⟩ := r.olst g
    obtain ⟨rfl, q⟩ := y
    obtain ⟨v, v1, v2⟩ := h2.get hd
    have := q xs (.inl (.inl h1))
    rw [v1] at this
    cases this
    exact ⟨Hf1, r, v2, Fr.refl _ _ _⟩
theorem iters_t (h1 : SqT K Hf a xs) (h2 : DsL K Hf xs ds) : Iters K (Itt K a) ds Hf none where
  go := fun Hf1 H1 σ1 A1 i e r _ hi => ⟨xs, xs[i]'(by rw [h2.length]; exact hi), seqT (e.trans r.sm) h1, by simp [h2.length, hi]⟩
  stop := fun Hf1 H1 σ1 A1 e r _ => ⟨xs, seqT (e.trans r.sm) h1, by rw [h2.length]; exact Nat.le_refl _⟩
  yld := fun Hf1 H1 σ1 A1 i d x H2 e r _ hd y => by
    obtain ⟨rfl, q⟩ := y
    obtain ⟨v, v1, v2⟩ := h2.get hd
    have := q xs (seqT (e.trans r.sm) h1)
    rw [v1] at this
    cases this
    exact ⟨Hf1, r, v2.mono e, Fr.refl _ _ _⟩
theorem iters_r {lo : Int} {n : Nat} : Iters K (Itr lo n) ((List.range n).map fun i => .int (lo + (i : Nat))) Hf none where
  go := fun Hf1 H1 σ1 A1 i e r _ hi => by
    show i < n
    simpa using hi
  stop := fun Hf1 H1 σ1 A1 e r _ => by
    show n ≤ _
    simp
  yld := fun Hf1 H1 σ1 A1 i d x H2 e r _ hd y => by
    obtain ⟨rfl, rfl⟩ := y
    rw [List.getElem?_map] at hd
    have hn : i < n := by
      by_cases h : i < n
      · exact h
      · rw [List.getElem?_eq_none (by simpa using h)] at hd; cases hd
    rw [List.getElem?_range hn] at hd
    cases hd
    exact ⟨Hf1, r, .int _, Fr.refl _ _ _⟩
/-- a new pair at each turn -/
theorem pair_new {K : PySem.W.Frag} {Hf1 H1 : Hp} {σ1 : List (Option V)} {A1 : List SD} (r : Rel K Hf1 H1 σ1 A1) {T : Addr} {x y : V} {d e : D} (hT : H1 T = none) (hx : Ds K Hf1 x d) (hy : Ds K Hf1 y e) :
    ∃ Hf2, Rel K Hf2 (upd H1 T (.tup [x, y])) σ1 A1 ∧ Ds K Hf2 (.ref T) (.tup [d, e]) ∧ Fr (owns A1) Hf1 H1 (owns A1) Hf2 (upd H1 T (.tup [x, y])) := by
  obtain ⟨r1, f1⟩ := r.newF (o := .tup [x, y]) hT
  exact ⟨_, r1, .tup (.inl (.inl upd_same)) (.cons (hx.mono f1.ef) (.cons (hy.mono f1.ef) .nil)), f1⟩
def zipD (ds es : List D) : List D := List.zipWith (fun d e => .tup [d, e]) ds es
theorem zipD_get {i : Nat} {d : D} (h : (zipD ds es)[i]? = some d) : ∃ x y, ds[i]? = some x ∧ es[i]? = some y ∧ d = .tup [x, y] := by
  unfold zipD at h
  rw [List.getElem?_zipWith] at h
  cases h1 : ds[i]? with
  | none => rw [h1] at h; simp at h
  | some x =>
    cases h2 : es[i]? with
    | none => rw [h1, h2] at h; simp at h
    | some y => rw [h1, h2] at h; simp at h; exact ⟨x, y, rfl, rfl, h.symm⟩
theorem zipD_len : (zipD ds es).length = min ds.length es.length := by unfold zipD; rw [List.length_zipWith]
theorem iters_z (h1 : SqL K Hf a xs) (h2 : DsL K Hf xs ds) (h3 : SqL K Hf b ys) (h4 : DsL K Hf ys es) : Iters K (Itz K a b) (zipD ds es) Hf none where
  go := fun Hf1 H1 σ1 A1 i e r _ hi => by
    rw [zipD_len] at hi
    exact ⟨xs, ys, xs[i]'(by rw [h2.length]; omega), ys[i]'(by rw [h4.length]; omega), (e.trans r.sm).seq h1, (e.trans r.sm).seq h3, by simp, by simp⟩
  stop := fun Hf1 H1 σ1 A1 e r _ => ⟨xs, ys, (e.trans r.sm).seq h1, (e.trans r.sm).seq h3, by rw [zipD_len, h2.length, h4.length]; omega⟩
  yld := fun Hf1 H1 σ1 A1 i d x H2 e r _ hd y => by
    obtain ⟨T, u, v, rfl, hT, rfl, q1, q2⟩ := y
    obtain ⟨dx, dy, g1, g2, rfl⟩ := zipD_get hd
    obtain ⟨u', u1, u2⟩ := h2.get g1
    obtain ⟨v', v1, v2⟩ := h4.get g2
    have e1 := q1 xs ((e.trans r.sm).seq h1)
    have e2 := q2 ys ((e.trans r.sm).seq h3)
    rw [u1] at e1
    rw [v1] at e2
    cases e1
    cases e2
    exact pair_new r hT (u2.mono e) (v2.mono e)
theorem iters_zt (h1 : SqT K Hf a xs) (h2 : DsL K Hf xs ds) (h3 : SqT K Hf b ys) (h4 : DsL K Hf ys es) : Iters K (RZ.ItzT K a b) (zipD ds es) Hf none where
  go := fun Hf1 H1 σ1 A1 i e r _ hi => by
    rw [zipD_len] at hi
    exact ⟨xs, ys, xs[i]'(by rw [h2.length]; omega), ys[i]'(by rw [h4.length]; omega), seqT (e.trans r.sm) h1, seqT (e.trans r.sm) h3, by simp, by simp⟩
  stop := fun Hf1 H1 σ1 A1 e r _ => ⟨xs, ys, seqT (e.trans r.sm) h1, seqT (e.trans r.sm) h3, by rw [zipD_len, h2.length, h4.length]; omega⟩
  yld := fun Hf1 H1 σ1 A1 i d x H2 e r _ hd y => by
    obtain ⟨T, u, v, rfl, hT, rfl, q1, q2⟩ := y
    obtain ⟨dx, dy, g1, g2, rfl⟩ := zipD_get hd
    obtain ⟨u', u1, u2⟩ := h2.get g1
    obtain ⟨v', v1, v2⟩ := h4.get g2
    have e1 := q1 xs (seqT (e.trans r.sm) h1)
    have e2 := q2 ys (seqT (e.trans r.sm) h3)
    rw [u1] at e1
    rw [v1] at e2
    cases e1
    cases e2
    exact pair_new r hT (u2.mono e) (v2.mono e)
def enumD (ds : List D) : List D := (List.range ds.length).map fun i => .tup [.int (i : Nat), ds.getD i .non]
theorem enumD_get {i : Nat} {d : D} (h : (enumD ds)[i]? = some d) : ∃ x, ds[i]? = some x ∧ d = .tup [.int (i : Nat), x] := by
  unfold enumD at h
  rw [List.getElem?_map] at h
  have hn : i < ds.length := by
    by_cases h' : i < ds.length
    · exact h'
    · rw [List.getElem?_eq_none (by simpa using h')] at h; cases h
  rw [List.getElem?_range hn] at h
  cases h
  exact ⟨ds[i], by simp [hn], by simp [hn]⟩
theorem iters_e (h1 : SqL K Hf a xs) (h2 : DsL K Hf xs ds) : Iters K (Ite K a) (enumD ds) Hf none where
  go := fun Hf1 H1 σ1 A1 i e r _ hi => by
    have hi : i < ds.length := by simpa [enumD] using hi
    exact ⟨xs, xs[i]'(by rw [h2.length]; exact hi), (e.trans r.sm).seq h1, by simp⟩
  stop := fun Hf1 H1 σ1 A1 e r _ => ⟨xs, (e.trans r.sm).seq h1, by rw [h2.length]; simp [enumD]⟩
  yld := fun Hf1 H1 σ1 A1 i d x H2 e r _ hd y => by
    obtain ⟨T, u, rfl, hT, rfl, q1⟩ := y
    obtain ⟨dx, g1, rfl⟩ := enumD_get hd
    obtain ⟨u', u1, u2⟩ := h2.get g1
    have e1 := q1 xs ((e.trans r.sm).seq h1)
    rw [u1] at e1
    cases e1
    exact pair_new r hT (.int _) (u2.mono e)
end
def EI (X : Cx) (Z : ZT) (A : List SD) (tg iter : Expr) (Q : List D → Option (Nat × Addr × List D) → List SD → Prop) : Prop :=
  ∀ Hf H σ, Rel X.K Hf H σ A → XOk X Z (owns A) Hf H → ∀ R : It → Hp → Prop, (∀ ds g A' J Hf' H', Q ds g A' → Rel X.K Hf' H' σ A' → Fr (owns A) Hf H (owns A') Hf' H' → Iters X.K J ds Hf' g → R J H') → WI X tg iter σ H R
section
variable {X : Cx} {Z : ZT} {A : List SD} {tg e a b : Expr} {es : List Expr} {pos : Pos} {Q : List D → Option (Nat × Addr × List D) → List SD → Prop}
theorem ei_l (h : ED X Z A e fun d A1 => ∃ ds, (d = .lst ds ∨ d = .rls ds) ∧ Q ds none A1) : EI X Z A tg e Q := fun Hf H σ rel xo R k =>
  ⟨_, pi_list we, h Hf H σ rel xo _ fun d A1 v Hf1 H1 ⟨ds, e, q⟩ r1 s1 f1 => by
    rcases e with rfl | rfl
    · obtain ⟨p, xs, rfl, h1, h2⟩ := ds_lst s1
      exact ⟨p, rfl, ⟨xs, .inl (.inl (r1.sm _ _ h1))⟩, k _ _ _ _ _ _ q r1 f1 (iters_l (.inl (.inl h1)) h2)⟩
    · cases s1 with
      | rls h1 h2 => exact ⟨_, rfl, ⟨_, r1.sm.seq h1⟩, k _ _ _ _ _ _ q r1 f1 (iters_l h1 h2)⟩⟩
theorem ei_t (h : ED X Z A e fun d A1 => ∃ ds, d = .tup ds ∧ Q ds none A1) : EI X Z A tg e Q := fun Hf H σ rel xo R k =>
  ⟨_, pi_tup we, h Hf H σ rel xo _ fun d A1 v Hf1 H1 ⟨ds, e, q⟩ r1 s1 f1 => by
    subst e
    obtain ⟨p, xs, rfl, h1, h2⟩ := ds_tup s1
    exact ⟨p, rfl, ⟨xs, seqT r1.sm h1⟩, k _ _ _ _ _ _ q r1 f1 (iters_t h1 h2)⟩⟩
/-- an owned list, walked as it stands -/
theorem ei_o (i : Nat) {x : Str} {p : Addr} {ds : List D} (hA : A[i]? = some (.own p (.lst ds))) (q : Q ds (some (i, p, ds)) A) (hN : X.N[i]? = some x := by kernel_rfl) (hv : Vis X.env.scope x := by exact vis_of (by kernel_rfl))
    (hdb : (x == ("__debug__" : Str)) = false := by kernel_rfl) (hcd : (x == ("__classdict__" : Str)) = false := by kernel_rfl) : EI X Z A tg (.Name x pos) Q := fun Hf H σ rel xo R k => by
  obtain ⟨xs, h1, h2⟩ := rel.olst hA
  exact ⟨_, pi_list (pe_var hN hv hdb hcd), _, rel.ref hA, p, rfl, ⟨xs, .inl (.inl h1)⟩, k _ _ _ _ _ _ q rel (Fr.refl _ _ _) iters_lo⟩
theorem ei_r1 {p : Pos} [c : Cok X] (h : ED X Z A a fun d A1 => ∃ n : Int, d = .int n ∧ (-1000000 ≤ n ∧ n ≤ 1000000) ∧ Q ((List.range n.toNat).map fun i => .int ((i : Nat) : Int)) none A1) (hg : Gl X "range" := by exact gl_of (by kernel_rfl)) (hs : starEach [a] X.env = [(false, eval a X.env)] := by kernel_rfl) :
    EI X Z A tg (.Call (.Name "range" p) [a] [] pos) Q := fun Hf H σ rel xo R k =>
  ⟨_, pi_range1 hg (c.no _ (by decide)) (pa_cons we pa_nil hs) hs, h Hf H σ rel xo _ fun d A1 v Hf1 H1 ⟨n, e, hn, q⟩ r1 s1 f1 => by
    subst e
    cases ds_int s1
    refine ⟨n, rfl, by omega, by omega, k _ _ _ _ _ _ q r1 f1 ?_⟩
    have := iters_r (K := X.K) (Hf := Hf1) (lo := 0) (n := n.toNat)
    simpa using this⟩
theorem ei_r2 {p : Pos} [c : Cok X] (h : EA X Z A [a, b] fun ds A1 => ∃ l n : Int, ds = [.int l, .int n] ∧ (-1000000 ≤ l ∧ l ≤ 1000000 ∧ -1000000 ≤ n ∧ n ≤ 1000000) ∧ Q ((List.range (n - l).toNat).map fun i => .int (l + ((i : Nat) : Int))) none A1) (hg : Gl X "range" := by exact gl_of (by kernel_rfl))
    (hs : starEach [a, b] X.env = [(false, eval a X.env), (false, eval b X.env)] := by kernel_rfl) (hs2 : starEach [b] X.env = [(false, eval b X.env)] := by kernel_rfl) : EI X Z A tg (.Call (.Name "range" p) [a, b] [] pos) Q := fun Hf H σ rel xo R k =>
  ⟨_, pi_range2 hg (c.no _ (by decide)) wa hs hs2, h Hf H σ rel xo _ fun d A1 v Hf1 H1 ⟨l, n, e, hn, q⟩ r1 s1 f1 => by
    subst e
    obtain ⟨v, u, rfl, g1, g2⟩ := dsl2 s1
    cases ds_int g1
    cases ds_int g2
    exact ⟨l, n, rfl, by omega, k _ _ _ _ _ _ q r1 f1 iters_r⟩⟩
theorem ei_z {p : Pos} {elts : List Expr} {kk : Nat} {tpos : Pos} [c : Cok X] (h : EA X Z A [a, b] fun ds A1 => ∃ xs ys, ((ds = [.lst xs, .lst ys]) ∨ (ds = [.tup xs, .tup ys])) ∧ Q (zipD xs ys) none A1) (hg : Gl X "zip" := by exact gl_of (by kernel_rfl))
    (hs : starEach [a, b] X.env = (false, eval a X.env) :: starEach [b] X.env := by kernel_rfl) (hpl : (backTo pos (starEach [b] X.env)).any (·.1) = false := by kernel_rfl) : EI X Z A (.Tuple elts kk tpos) (.Call (.Name "zip" p) [a, b] [] pos) Q := fun Hf H σ rel xo R k =>
  ⟨_, RZ.pi_zipA hg (c.no _ (by decide)) wa hs hpl, h Hf H σ rel xo _ fun d A1 v Hf1 H1 ⟨xs, ys, e, q⟩ r1 s1 f1 => by
    rcases e with rfl | rfl
    · obtain ⟨v, u, rfl, g1, g2⟩ := dsl2 s1
      obtain ⟨x, us, rfl, h1, h2⟩ := ds_lst g1
      obtain ⟨y, ws, rfl, h3, h4⟩ := ds_lst g2
      exact ⟨x, y, us, ws, rfl, .inl ⟨.inl (.inl (r1.sm _ _ h1)), .inl (.inl (r1.sm _ _ h3)), k _ _ _ _ _ _ q r1 f1 (iters_z (.inl (.inl h1)) h2 (.inl (.inl h3)) h4)⟩⟩
    · obtain ⟨v, u, rfl, g1, g2⟩ := dsl2 s1
      obtain ⟨x, us, rfl, h1, h2⟩ := ds_tup g1
      obtain ⟨y, ws, rfl, h3, h4⟩ := ds_tup g2
      exact ⟨x, y, us, ws, rfl, .inr ⟨seqT r1.sm h1, seqT r1.sm h3, k _ _ _ _ _ _ q r1 f1 (iters_zt h1 h2 h3 h4)⟩⟩⟩
theorem ei_e {p : Pos} {elts : List Expr} {kk : Nat} {tpos : Pos} [c : Cok X] (h : ED X Z A a fun d A1 => ∃ xs, d = .lst xs ∧ Q (enumD xs) none A1) (hg : Gl X "enumerate" := by exact gl_of (by kernel_rfl)) (hs : starEach [a] X.env = [(false, eval a X.env)] := by kernel_rfl) : EI X Z A (.Tuple elts kk tpos) (.Call (.Name "enumerate" p) [a] [] pos) Q := fun Hf H σ rel xo R k =>
  ⟨_, pi_enum hg (c.no _ (by decide)) (pa_cons we pa_nil hs) hs, h Hf H σ rel xo _ fun d A1 v Hf1 H1 ⟨xs, e, q⟩ r1 s1 f1 => by
    subst e
    obtain ⟨x, us, rfl, h1, h2⟩ := ds_lst s1
    exact ⟨x, us, rfl, .inl (.inl (r1.sm _ _ h1)), k _ _ _ _ _ _ q r1 f1 (iters_e (.inl (.inl h1)) h2)⟩⟩
end
/-! ### for -/
section
variable {X : Cx} {Z : ZT} {A : List SD} {tg e a b : Expr} {pos : Pos} {E : AE} {sts : List Stmt}
theorem sx_for [c : Cok X] (h : EI X Z A tg e fun ds g A1 => ∃ In : Nat → List SD → Prop, In 0 A1 ∧ (∀ i A', i ≤ ds.length → In i A' → guard g A') ∧
      (∀ i d A', ds[i]? = some d → In i A' → GX X Z A' tg (fun _ => true) d fun A2 => SSX X Z A2 sts { E with nx := In (i + 1), ct := In (i + 1), bk := E.nx }) ∧ (∀ A', In ds.length A' → E.nx A'))
    (hs : ∀ x, foldedSetIterable e X.env x = pure x := by intro _; kernel_rfl) : SX X Z A (.For tg e sts [] pos) E := fun Hf H σ rel xo D k => by
  refine ⟨_, ps_for c.po c.calm wi wg wss hs, h Hf H σ rel xo _ fun ds g A1 J Hf1 H1 ⟨In, i0, ig, turn, fin⟩ r1 f1 it => ?_⟩
  refine ⟨fun i m σ' H' => m = ds.length - i ∧ i ≤ ds.length ∧ ∃ Hf' A', In i A' ∧ Rel X.K Hf' H' σ' A' ∧ Fr (owns A1) Hf1 H1 (owns A') Hf' H', ⟨_, rfl, Nat.zero_le _, Hf1, A1, i0, r1, Fr.refl _ _ _⟩, ?_⟩
  rintro i m σ' H' ⟨rfl, hi, Hf', A', hI, r, f⟩
  by_cases hlt : i < ds.length
  · refine .inr ⟨it.go Hf' H' σ' A' i f.ef r (ig i A' hi hI) hlt, fun σ2 H2 => ∃ Hf2 A2, In (i + 1) A2 ∧ Rel X.K Hf2 H2 σ2 A2 ∧ Fr (owns A1) Hf1 H1 (owns A2) Hf2 H2, fun σ2 H2 ⟨Hf2, A2, q, r2, f2⟩ => ⟨ds.length - (i + 1), by omega, rfl, hlt, Hf2, A2, q, r2, f2⟩, fun x H2 y => ?_⟩
    have hd : ds[i]? = some ds[i] := by simp [hlt]
    obtain ⟨Hf2, r2, s2, f2⟩ := it.yld Hf' H' σ' A' i _ x H2 f.ef r (ig i A' hi hI) hd y
    have f' := f.trans f2
    refine turn i _ A' hd hI Hf2 H2 σ' x r2 (xo.step (f1.trans f')) s2 _ fun A3 σ3 Hf3 H3 q3 r3 f3 _ _ => ?_
    have f'' := f'.trans f3
    refine q3 Hf3 H3 σ3 r3 (xo.step (f1.trans f'')) _ ⟨?_, ?_, ?_, ?_⟩
    · intro A4 σ4 Hf4 H4 q r4 f4
      exact ⟨Hf4, A4, q, r4, f''.trans f4⟩
    · intro v A4 u σ4 Hf4 H4 q r4 f4
      exact k.rt _ _ _ _ _ _ q r4 (f1.trans (f''.trans f4))
    · intro A4 σ4 Hf4 H4 q r4 f4
      exact k.nx _ _ _ _ q r4 (f1.trans (f''.trans f4))
    · intro A4 σ4 Hf4 H4 q r4 f4
      exact ⟨Hf4, A4, q, r4, f''.trans f4⟩
  · have e : i = ds.length := by omega
    subst e
    exact .inl ⟨it.stop Hf' H' σ' A' f.ef r (ig _ A' hi hI), k.nx _ _ _ _ (fin A' hI) r (f1.trans f)⟩
end
end Y

namespace Y
open PySem L2

/-! ### slots of a comprehension's own names -/
def wipeA (A : List SD) : List Nat → List SD
  | [] => A
  | v :: vs => (wipeA A vs).set v .any
def strip : Option SD → SD
  | some (.dat d) => .dat d
  | _ => .any
/-- A' behind a comprehension: its own names are again what they were in A -/
def restA (A A' : List SD) : List Nat → List SD
  | [] => A'
  | v :: vs => (restA A A' vs).set v (strip A[v]?)
theorem wipe_at (σ : St) (j : Nat) : ∀ vs : List Nat, (wipe σ vs)[j]? = if j ∈ vs then σ[j]?.map (fun _ => none) else σ[j]?
  | [] => by simp [wipe]
  | v :: vs => by
    unfold wipe
    by_cases h : v = j
    · subst h
      rw [if_pos List.mem_cons_self]
      by_cases hl : v < σ.length
      · rw [List.getElem?_set_self (by rw [wipe_length]; exact hl), List.getElem?_eq_getElem hl]; rfl
      · rw [List.getElem?_eq_none (by rw [List.length_set, wipe_length]; omega), List.getElem?_eq_none (by omega)]; rfl
    · rw [List.getElem?_set_ne h, wipe_at σ j vs]
      by_cases hm : j ∈ vs
      · rw [if_pos hm, if_pos (List.mem_cons_of_mem _ hm)]
      · rw [if_neg hm, if_neg (by simp only [List.mem_cons, not_or]; exact ⟨fun e => h e.symm, hm⟩)]
theorem restA_len (A A' : List SD) : ∀ vs, (restA A A' vs).length = A'.length
  | [] => rfl
  | v :: vs => by unfold restA; rw [List.length_set, restA_len A A' vs]
theorem restA_at (A A' : List SD) (j : Nat) : ∀ vs : List Nat, (restA A A' vs)[j]? = if j ∈ vs then A'[j]?.map (fun _ => strip A[j]?) else A'[j]?
  | [] => by simp [restA]
  | v :: vs => by
    unfold restA
    by_cases h : v = j
    · subst h
      rw [if_pos List.mem_cons_self]
      by_cases hl : v < A'.length
      · rw [List.getElem?_set_self (by rw [restA_len]; exact hl), List.getElem?_eq_getElem hl]; rfl
      · rw [List.getElem?_eq_none (by rw [List.length_set, restA_len]; omega), show A'[v]? = none from List.getElem?_eq_none (by omega)]; rfl
    · rw [List.getElem?_set_ne h, restA_at A A' j vs]
      by_cases hm : j ∈ vs
      · rw [if_pos hm, if_pos (List.mem_cons_of_mem _ hm)]
      · rw [if_neg hm, if_neg (by simp only [List.mem_cons, not_or]; exact ⟨fun e => h e.symm, hm⟩)]
theorem owns_sub {s : SD} (hs : ∀ p o, s ≠ .own p o) : ∀ (l : List SD) (i : Nat), (owns (l.set i s)).Sublist (owns l)
  | [], _ => List.Sublist.refl _
  | y :: l, 0 => by
    show (owns (s :: l)).Sublist (owns (y :: l))
    cases s with
    | own p o => exact absurd rfl (hs p o)
    | any => cases y with
      | any => exact List.Sublist.refl _
      | dat d => exact List.Sublist.refl _
      | own q w => exact List.sublist_cons_self _ _
    | dat e => cases y with
      | any => exact List.Sublist.refl _
      | dat d => exact List.Sublist.refl _
      | own q w => exact List.sublist_cons_self _ _
  | y :: l, i + 1 => by
    have ih := owns_sub hs l i
    show (owns (y :: l.set i s)).Sublist (owns (y :: l))
    cases y with
    | any => exact ih
    | dat d => exact ih
    | own q w => exact List.Sublist.cons_cons _ ih
theorem strip_no (o : Option SD) : ∀ p w, strip o ≠ .own p w := fun p w h => by
  cases o with
  | none => cases h
  | some s => cases s <;> cases h
theorem owns_rest (A A' : List SD) : ∀ vs, (owns (restA A A' vs)).Sublist (owns A')
  | [] => List.Sublist.refl _
  | v :: vs => (owns_sub (strip_no _) _ _).trans (owns_rest A A' vs)
theorem owns_wipe (A : List SD) : ∀ vs, (owns (wipeA A vs)).Sublist (owns A)
  | [] => List.Sublist.refl _
  | v :: vs => (owns_sub (fun _ _ h => by cases h) _ _).trans (owns_wipe A vs)
section
variable {K : PySem.W.Frag} {Hf H Hf' H' : Hp} {σ : List (Option V)} {A A' : List SD}
theorem Rel.wipe (r : Rel K Hf H σ A) : ∀ vs, Rel K Hf H (L2.wipe σ vs) (wipeA A vs)
  | [] => r
  | v :: vs => (Rel.wipe r vs |>.setA (i := v) (ov := none) (s := .any) trivial fun _ _ e => by cases e).1
theorem Fr.wipe (vs : List Nat) : Fr (owns A) Hf H (owns (wipeA A vs)) Hf H := (Fr.refl _ _ _).less fun p hp => (owns_wipe A vs).subset hp
theorem Rel.rest {vs : List Nat} (r : Rel K Hf H σ A) (r' : Rel K Hf' H' (L2.wipe σ vs) A') (e : Same Hf Hf') : Rel K Hf' H' σ (restA A A' vs) := by
  have hl : σ.length = A'.length := by rw [← Paired.length r'.al, wipe_length]
  refine ⟨r'.sm, Paired.ofGet (by rw [restA_len]; exact hl) fun j a b ha hb => ?_, List.Nodup.sublist (owns_rest A A' vs) r'.nd⟩
  rw [restA_at] at hb
  by_cases hj : j ∈ vs
  · rw [if_pos hj] at hb
    cases hA' : A'[j]? with
    | none => rw [hA'] at hb; cases hb
    | some s' =>
      rw [hA'] at hb
      cases hb
      cases hA : A[j]? with
      | none => exact trivial
      | some s =>
        cases s with
        | any => exact trivial
        | own p o => exact trivial
        | dat d =>
          obtain ⟨ov, h1, v, h2, h3⟩ := Paired.at r.al hA
          rw [ha] at h1
          cases h1
          exact ⟨v, h2, h3.mono e⟩
  · rw [if_neg hj] at hb
    obtain ⟨ov, h1, h2⟩ := Paired.at r'.al hb
    rw [wipe_at, if_neg hj, ha] at h1
    cases h1
    exact h2
end
theorem wipe_same {σ σ2 : St} {vs : List Nat} (h : ∀ j, j ∉ vs → σ2[j]? = (wipe σ vs)[j]?) (hl : σ2.length = σ.length) : wipe σ2 vs = wipe σ vs := by
  apply List.ext_getElem?
  intro j
  rw [wipe_at, wipe_at]
  by_cases hj : j ∈ vs
  · rw [if_pos hj, if_pos hj]
    by_cases hl2 : j < σ.length
    · rw [List.getElem?_eq_getElem hl2, List.getElem?_eq_getElem (by omega)]; rfl
    · rw [List.getElem?_eq_none (by omega), List.getElem?_eq_none (by omega)]
  · rw [if_neg hj, if_neg hj, h j hj, wipe_at, if_neg hj]

/-! ### the block of a comprehension -/
abbrev Bk (X : Cx) (scope : Scope) (s : Shared) (H : Hp) (C : Addr) (cl : List (Str × Addr)) (fp : List Addr) : Cx := X.blk s H scope (compEnvC scope cl C X.env) fp
def WGb (X : Cx) (scope : Scope) (tg : Expr) : TG := fun v σ H Q => ∀ s H0 C cl fp, WG (Bk X scope s H0 C cl fp) tg v σ H Q
def WTb (X : Cx) (scope : Scope) (ifs : List Expr) : TT := fun σ H Q => ∀ s H0 C cl fp, WTs (Bk X scope s H0 C cl fp) ifs σ H Q
def WEb (X : Cx) (scope : Scope) (elt : Expr) : TE := fun σ H Q => ∀ s H0 C cl fp, WE (Bk X scope s H0 C cl fp) elt σ H Q
def EXt (X : Cx) (Z : ZT) (A : List SD) (t : TE) (Q : SD → List SD → Prop) : Prop :=
  ∀ Hf H σ, Rel X.K Hf H σ A → XOk X Z (owns A) Hf H → ∀ R : VK, (∀ r A' v Hf' H', Q r A' → Rel X.K Hf' H' (some v :: σ) (r :: A') → Fr (owns A) Hf H (owns (r :: A')) Hf' H' → R v H') → t σ H R
section
variable {X : Cx} {Z : ZT} {A : List SD} {tg e a b elt iter c : Expr} {es ifs : List Expr} {pos : Pos} {scope : Scope}
theorem txs_nil {Q : Bool → List SD → Prop} (q : Q true A) : TXs X Z A [] Q := fun Hf H σ rel xo R k => ⟨_, pts_nil, k _ _ _ _ q rel (Fr.refl _ _ _)⟩
theorem txs_one {Q : Bool → List SD → Prop} (h : TX X Z A c Q) : TXs X Z A [c] Q := fun Hf H σ rel xo R k => ⟨_, pts_one wt, h Hf H σ rel xo _ k⟩
/-- what is asked of a walk over ds that makes a list: In by the turn, the list so far, the slots -/
def LcBody (X : Cx) (scope : Scope) (elt tg : Expr) (ifs : List Expr) (vs : List Nat) (Q : SD → List SD → Prop) (ds : List D) (g : Option (Nat × Addr × List D)) (A1 : List SD) : Prop :=
  ds.length ≤ 1000000 ∧ ∃ In : Nat → List D → List SD → Prop, In 0 [] (wipeA A1 vs) ∧ (∀ i acc A', i ≤ ds.length → In i acc A' → guard g A') ∧
    (∀ i d acc A', ds[i]? = some d → In i acc A' → ∀ s H0 C cl fp, GX (Bk X scope s H0 C cl fp) Z0 A' tg (fun j => vs.contains j) d fun A2 => ∀ s H0 C cl fp, TXs (Bk X scope s H0 C cl fp) Z0 A2 ifs fun t A3 =>
      (t = true → ∀ s H0 C cl fp, ED (Bk X scope s H0 C cl fp) Z0 A3 elt fun y A4 => In (i + 1) (acc ++ [y]) (wipeA A4 vs)) ∧ (t = false → In (i + 1) acc (wipeA A3 vs))) ∧
    ∀ acc A', In ds.length acc A' → ∀ p, Q (.own p (.lst acc)) (restA A1 A' vs)
/-- what is asked of [elt for tg in iter if ..] -/
def LcAsk (X : Cx) (Z : ZT) (A : List SD) (scope : Scope) (elt tg iter : Expr) (ifs : List Expr) (vs : List Nat) (Q : SD → List SD → Prop) : Prop := EI X Z A tg iter (LcBody X scope elt tg ifs vs Q)
theorem lc_ext {vs : List Nat} {Q : SD → List SD → Prop} (h : LcAsk X Z A scope elt tg iter ifs vs Q) : EXt X Z A (tLc (WI X tg iter) (WGb X scope tg) (WTb X scope ifs) (WEb X scope elt) vs) Q := fun Hf H σ rel xo R k =>
  h Hf H σ rel xo _ fun ds g A1 J Hf1 H1 ⟨hz, In, i0, ig, turn, fin⟩ r1 f1 it Dl hD => by
    obtain ⟨rn, fn, nf, no⟩ := r1.newO (o := .lst []) hD
    have rw0 : Rel X.K Hf1 (upd H1 Dl (.lst [])) (some (.ref Dl) :: L2.wipe σ vs) (.own Dl (.lst []) :: wipeA A1 vs) :=
      (rn.wipe vs).cons ⟨rfl, nf, [], upd_same, .nil⟩ fun p o e hp => by cases e; exact no ((owns_wipe A1 vs).subset hp)
    have f0 : Fr (owns A1) Hf1 H1 (owns (.own Dl (.lst []) :: wipeA A1 vs)) Hf1 (upd H1 Dl (.lst [])) := fn.less fun p hp => by
      rcases List.mem_cons.mp hp with rfl | hp
      · exact List.mem_cons_self
      · exact List.mem_cons_of_mem _ ((owns_wipe A1 vs).subset hp)
    refine ⟨fun i m H' => m = ds.length - i ∧ i ≤ ds.length ∧ ∃ Hf' acc A', In i acc A' ∧ acc.length ≤ i ∧ Rel X.K Hf' H' (some (.ref Dl) :: L2.wipe σ vs) (.own Dl (.lst acc) :: A') ∧ Fr (owns A1) Hf1 H1 (owns (.own Dl (.lst acc) :: A')) Hf' H',
      ⟨_, rfl, Nat.zero_le _, Hf1, [], wipeA A1 vs, i0, Nat.le_refl _, rw0, f0⟩, ?_⟩
    rintro i m H' ⟨rfl, hi, Hf', acc, A', hI, hacc, r, f⟩
    by_cases hlt : i < ds.length
    · refine .inr ⟨it.go Hf' H' _ A' i f.ef r.tail (ig i acc A' hi hI) hlt, fun H2 => ∃ Hf2 acc2 A2, In (i + 1) acc2 A2 ∧ acc2.length ≤ i + 1 ∧ Rel X.K Hf2 H2 (some (.ref Dl) :: L2.wipe σ vs) (.own Dl (.lst acc2) :: A2) ∧ Fr (owns A1) Hf1 H1 (owns (.own Dl (.lst acc2) :: A2)) Hf2 H2,
        fun H2 ⟨Hf2, acc2, A2, q, hl2, r2, f2⟩ => ⟨ds.length - (i + 1), by omega, rfl, hlt, Hf2, acc2, A2, q, hl2, r2, f2⟩, fun x H2 y => ?_⟩
      have hd : ds[i]? = some ds[i] := by simp [hlt]
      obtain ⟨Hf2, r2, s2, f2⟩ := it.yld Hf' H' _ A' i _ x H2 f.ef r.tail (ig i acc A' hi hI) hd y
      have r2c := r.frame r2 f2
      have f2c := f.trans (Fr.frame r f2)
      intro s H0 C cl fp
      refine turn i _ acc A' hd hI s H0 C cl fp Hf2 H2 _ x r2 XOk.zero s2 _ fun A3 σ3 Hf3 H3 q3 r3 f3 u3 l3 => ?_
      have r3c := r2c.frame r3 f3
      have f3c := f2c.trans (Fr.frame r2c f3)
      have ew : L2.wipe σ3 vs = L2.wipe σ vs := wipe_same (fun j hj => u3 j (by simpa using hj)) (by rw [l3, wipe_length])
      refine ⟨ew, fun s H0 C cl fp => q3 s H0 C cl fp Hf3 H3 σ3 r3 XOk.zero _ fun t A4 Hf4 H4 ⟨q4, q4'⟩ r4 f4 => ?_⟩
      have r4c := r3c.frame r4 f4
      have f4c := f3c.trans (Fr.frame r3c f4)
      cases t with
      | false =>
        refine iteF ⟨Hf4, acc, wipeA A4 vs, q4' rfl, by omega, ?_, f4c.less fun p hp => ?_⟩
        · have := r4.wipe vs
          rw [ew] at this
          exact this.cons r4c.head fun p o e hp => by cases e; exact r4c.notTail ((owns_wipe A4 vs).subset hp)
        · rcases List.mem_cons.mp hp with rfl | hp
          · exact List.mem_cons_self
          · exact List.mem_cons_of_mem _ ((owns_wipe A4 vs).subset hp)
      | true =>
        refine iteT fun s H0 C cl fp => q4 rfl s H0 C cl fp Hf4 H4 σ3 r4 XOk.zero _ fun d A5 v Hf5 H5 q5 r5 s5 f5 => ?_
        have r5c := r4c.frame r5 f5
        have f5c := f4c.trans (Fr.frame r4c f5)
        obtain ⟨xs, h1, h2⟩ := r5c.olst (i := 0) rfl
        obtain ⟨r6, f6⟩ := r5c.upd (i := 0) (u := .lst (xs ++ [v])) (o2 := .lst (acc ++ [d])) rfl ⟨_, upd_same, h2.append (.cons s5 .nil)⟩
        have r6 : Rel X.K Hf5 (upd H5 Dl (.lst (xs ++ [v]))) (some (.ref Dl) :: σ3) (.own Dl (.lst (acc ++ [d])) :: A5) := r6
        refine ⟨xs, h1, by rw [h2.length]; exact Nat.lt_of_lt_of_le (Nat.lt_of_le_of_lt hacc hlt) (mil hz), Hf5, acc ++ [d], wipeA A5 vs, q5, by rw [List.length_append, List.length_singleton]; omega, ?_, (f5c.trans f6).less fun p hp => ?_⟩
        · have := r6.tail.wipe vs
          rw [ew] at this
          exact this.cons r6.head fun p o e hp => by cases e; exact r6.notTail ((owns_wipe A5 vs).subset hp)
        · rcases List.mem_cons.mp hp with rfl | hp
          · exact List.mem_cons_self
          · exact List.mem_cons_of_mem _ ((owns_wipe A5 vs).subset hp)
    · have e : i = ds.length := by omega
      subst e
      refine .inl ⟨it.stop Hf' H' _ A' f.ef r.tail (ig _ acc A' hi hI), ?_⟩
      have rr := r1.rest r.tail f.ef
      refine k _ _ _ _ _ (fin acc A' hI Dl) (rr.cons r.head fun p o e hp => by cases e; exact r.notTail ((owns_rest A1 A' vs).subset hp)) ((f1.trans f).less fun p hp => ?_)
      rcases List.mem_cons.mp hp with rfl | hp
      · exact List.mem_cons_self
      · exact List.mem_cons_of_mem _ ((owns_rest A1 A' vs).subset hp)
theorem ex_lc (own : List (Str × Nat)) {Q : SD → List SD → Prop} [cx : Cok X] (h : LcAsk X Z A scope elt tg iter ifs (own.map (·.2)) Q) (ok : BlkOk X.N X.env.scope scope own := by exact blkOk_by (by kernel_rfl)) (hs : ∀ x, foldedSetIterable iter X.env x = pure x := by intro _; kernel_rfl) :
    EX X Z A (.ListComp elt [⟨tg, iter, ifs, 0⟩] scope pos) Q := fun Hf H σ rel xo R k =>
  ⟨_, pe_lc cx.calm cx.nd wi ok (fun s H C cl fp => ⟨fun pins sh σ H v u Q I r h => wg.run pins sh σ H v u Q I r (h _ _ _ _ _)⟩) (fun s H C cl fp => ⟨fun pins sh σ H Q I h => wts.run pins sh σ H Q I (h _ _ _ _ _)⟩)
    (fun s H C cl fp => ⟨fun pins sh σ H Q I h => we.run pins sh σ H Q I (h _ _ _ _ _)⟩) hs, lc_ext h Hf H σ rel xo R k⟩
/-- x = [..], on one line, x a local -/
theorem sx_setLc (i : Nat) {x : Str} {px : Pos} {spos : Pos} {E : AE} (own : List (Str × Nat)) [cx : Cok X] (h : LcAsk X Z A scope elt tg iter ifs (own.map (·.2)) fun r A1 => E.nx (A1.set i r)) (hN : X.N[i]? = some x := by kernel_rfl) (hxl : X.env.scope.names.lookup x = some .local := by kernel_rfl)
    (hsw : swapsWith (.ListComp elt [⟨tg, iter, ifs, 0⟩] scope pos) (some (.Name x px)) spos.line X.env = pure true := by exact sw_true (by kernel_rfl) (by kernel_rfl) (by kernel_rfl) (by kernel_rfl))
    (ok : BlkOk X.N X.env.scope scope own := by exact blkOk_by (by kernel_rfl)) (hs : ∀ x, foldedSetIterable iter X.env x = pure x := by intro _; kernel_rfl) :
    SX X Z A (.Assign [.Name x px] (.ListComp elt [⟨tg, iter, ifs, 0⟩] scope pos) spos) E := fun Hf H σ rel xo D k =>
  ⟨_, ps_setLc cx.calm cx.nd hN hxl hsw wi ok (fun s H C cl fp => ⟨fun pins sh σ H v u Q I r h => wg.run pins sh σ H v u Q I r (h _ _ _ _ _)⟩) (fun s H C cl fp => ⟨fun pins sh σ H Q I h => wts.run pins sh σ H Q I (h _ _ _ _ _)⟩)
    (fun s H C cl fp => ⟨fun pins sh σ H Q I h => we.run pins sh σ H Q I (h _ _ _ _ _)⟩) hs, lc_ext h Hf H σ rel xo _ fun r A' v Hf' H' q r1 f1 => by
    obtain ⟨r2, s2⟩ := r1.tail.setA (i := i) (ov := some v) (s := r) r1.head fun p o z => by subst z; exact r1.notTail
    exact k.nx _ _ _ _ q r2 (f1.less s2)⟩
/-- a comprehension that changes nothing: over zs, told by F; f what it makes -/
theorem lc_map {vs : List Nat} {Q : SD → List SD → Prop} {α : Type} (zs : List α) (F : α → D) (f : α → D) {g : Option (Nat × Addr × List D)} {A1 : List SD} (hz : zs.length ≤ 1000000) (hg : guard g (wipeA A1 vs))
    (turn : ∀ z ∈ zs, ∀ s H0 C cl fp, GX (Bk X scope s H0 C cl fp) Z0 (wipeA A1 vs) tg (fun j => vs.contains j) (F z) fun A2 => ∀ s H0 C cl fp, ED (Bk X scope s H0 C cl fp) Z0 A2 elt fun y A4 => y = f z ∧ wipeA A4 vs = wipeA A1 vs)
    (fin : ∀ p, Q (.own p (.lst (zs.map f))) (restA A1 (wipeA A1 vs) vs)) :
    LcBody X scope elt tg [] vs Q (zs.map F) g A1 := by
  refine ⟨by simpa using hz, fun i acc A' => A' = wipeA A1 vs ∧ acc = (zs.take i).map f, ⟨rfl, rfl⟩, fun i acc A' _ h => by rw [h.1]; exact hg, ?_, ?_⟩
  · rintro i d acc A' hd ⟨rfl, rfl⟩ s H0 C cl fp
    rw [List.getElem?_map] at hd
    cases hzi : zs[i]? with
    | none => rw [hzi] at hd; cases hd
    | some z =>
      rw [hzi] at hd
      cases hd
      have hm : z ∈ zs := List.mem_of_getElem? hzi
      intro Hf H σ v rel xo hv R k
      refine turn z hm s H0 C cl fp Hf H σ v rel xo hv R fun A2 σ2 Hf2 H2 q r f u l => k A2 σ2 Hf2 H2 (fun s H0 C cl fp => txs_nil ⟨fun _ s H0 C cl fp => ?_, fun e => by cases e⟩) r f u l
      refine ed_mono (q s H0 C cl fp) fun y A4 ⟨e1, e2⟩ => ⟨e2, ?_⟩
      rw [e1, List.take_succ, hzi, List.map_append]
      rfl
  · rintro acc A' ⟨rfl, rfl⟩ p
    rw [List.length_map, List.take_length]
    exact fin p
theorem take_filter {α : Type} (c : α → Bool) {zs : List α} {i : Nat} {z : α} (h : zs[i]? = some z) : (zs.take (i + 1)).filter c = (zs.take i).filter c ++ (if c z = true then [z] else []) := by
  rw [List.take_succ, h, List.filter_append]
  cases hc : c z with
  | true => simp [hc]
  | false => simp [hc]
/-- .. with a test -/
theorem lc_filter {vs : List Nat} {Q : SD → List SD → Prop} {α : Type} (zs : List α) (F : α → D) (c : α → Bool) (f : α → D) {tst : Expr} {g : Option (Nat × Addr × List D)} {A1 : List SD} (hz : zs.length ≤ 1000000) (hg : guard g (wipeA A1 vs))
    (turn : ∀ z ∈ zs, ∀ s H0 C cl fp, GX (Bk X scope s H0 C cl fp) Z0 (wipeA A1 vs) tg (fun j => vs.contains j) (F z) fun A2 => ∀ s H0 C cl fp, TX (Bk X scope s H0 C cl fp) Z0 A2 tst fun t A3 => t = c z ∧ wipeA A3 vs = wipeA A1 vs ∧ (t = true → ∀ s H0 C cl fp, ED (Bk X scope s H0 C cl fp) Z0 A3 elt fun y A4 => y = f z ∧ wipeA A4 vs = wipeA A1 vs))
    (fin : ∀ p, Q (.own p (.lst ((zs.filter c).map f))) (restA A1 (wipeA A1 vs) vs)) :
    LcBody X scope elt tg [tst] vs Q (zs.map F) g A1 := by
  refine ⟨by simpa using hz, fun i acc A' => A' = wipeA A1 vs ∧ acc = ((zs.take i).filter c).map f, ⟨rfl, rfl⟩, fun i acc A' _ h => by rw [h.1]; exact hg, ?_, ?_⟩
  · rintro i d acc A' hd ⟨rfl, rfl⟩ s H0 C cl fp
    rw [List.getElem?_map] at hd
    cases hzi : zs[i]? with
    | none => rw [hzi] at hd; cases hd
    | some z =>
      rw [hzi] at hd
      cases hd
      have hm : z ∈ zs := List.mem_of_getElem? hzi
      intro Hf H σ v rel xo hv R k
      refine turn z hm s H0 C cl fp Hf H σ v rel xo hv R fun A2 σ2 Hf2 H2 q r f u l => k A2 σ2 Hf2 H2 (fun s H0 C cl fp => txs_one (tx_mono (q s H0 C cl fp) fun t A3 ⟨e1, e2, e3⟩ => ⟨fun ht s H0 C cl fp => ?_, fun ht => ?_⟩)) r f u l
      · refine ed_mono (e3 ht s H0 C cl fp) fun y A4 ⟨g1, g2⟩ => ⟨g2, ?_⟩
        rw [take_filter c hzi, ← e1, if_pos ht, List.map_append, g1]
        rfl
      · refine ⟨e2, ?_⟩
        rw [take_filter c hzi, ← e1, ht, List.map_append]
        simp
  · rintro acc A' ⟨rfl, rfl⟩ p
    rw [List.length_map, List.take_length]
    exact fin p
end
end Y

namespace Y
open PySem L2 PySem.Spec
open PyProof.Rows hiding St

/-! ### defs: what they promise, over abstract states -/
structure Good (k : Nat) (A : Around) : Prop where
  rm : Room k A
  gd : A.guards = some []
theorem Good.mono {j k : Nat} {A : Around} (g : Good k A) (h : j ≤ k) : Good j A := ⟨g.rm.mono h, g.gd⟩
/-- as the layer's promise of a def, where besides nothing is being shown (guards) -/
structure GOk (P : Program) (w : World) (K : PySem.W.Frag) (mg : Str → Option Value) (base : Heap) (k : Nat) (f : Addr) (fd : FuncData) (ps : List Str) (sp : Sp) : Prop where
  len : ∀ vs H Q E, sp vs H Q E → vs.length = ps.length
  run : ∀ (A : Around) (fr : List Env) (s : Shared) (H : Hp) (ar : Args) (us : List Value) (vs : List V) (Q : VK) (E : XK), Good k A → Env0 P w K mg base A fr s H → BindsTo s fd ar (ps.zip us) → Vals vs us → sp vs H Q E →
    codeAny (model P w) A (.call (.ref f) ar) (CR (L2.CX P w) fr P w H s Q E) s
theorem GOk.mono {P : Program} {w : World} {K : PySem.W.Frag} {mg : Str → Option Value} {base : Heap} {j k : Nat} {f : Addr} {fd : FuncData} {ps : List Str} {sp : Sp} (G : GOk P w K mg base j f fd ps sp) (h : j ≤ k) : GOk P w K mg base k f fd ps sp :=
  ⟨G.len, fun A fr s H ar us vs Q E g => G.run A fr s H ar us vs Q E (g.mono h)⟩
abbrev FSp := List SD → (SD → List SD → Prop) → ZT → Prop
def SpOf (K : PySem.W.Frag) (S : FSp) : Sp := fun vs H Q E => ∃ Hf A Post Z, Rel K Hf H (vs.map some) A ∧ S A Post Z ∧
  (∀ r A' v Hf' H', Post r A' → Rel K Hf' H' (some v :: vs.map some) (r :: A') → Fr (owns A) Hf H (owns (r :: A')) Hf' H' → Q v H') ∧
  (∀ c fs A' d Hf' H', Z c fs A' → Rel K Hf' H' (vs.map some) A' → XD K Hf' d fs → Fr (owns A) Hf H (owns A') Hf' H' → E c d H')
/-- the arguments behind the def's run: data as it was, what is owned as the slots tell -/
inductive Aft (B : List SD) : List SD → List SD → Prop
  | nil : Aft B [] []
  | dat {d : D} {A A' : List SD} : Aft B A A' → Aft B (.dat d :: A) (.dat d :: A')
  | own {p : Addr} {o u : OD} {A A' : List SD} : SD.own p u ∈ B → Aft B A A' → Aft B (.own p o :: A) (.own p u :: A')
  | any {s : SD} {A A' : List SD} : Aft B A A' → Aft B (s :: A) (.any :: A')
section
variable {K : PySem.W.Frag} {Hf H Hf' H' : Hp} {σ τ : List (Option V)} {A A' B : List SD}
theorem Aft.sub (h : Aft B A A') : (owns A').Sublist (owns A) ∧ ∀ p ∈ owns A', p ∈ owns B := by
  induction h with
  | nil => exact ⟨List.Sublist.refl _, fun p h => by cases h⟩
  | dat _ ih => exact ih
  | own hm _ ih =>
    refine ⟨List.Sublist.cons_cons _ ih.1, fun q hq => ?_⟩
    rcases List.mem_cons.mp hq with rfl | hq
    · exact mem_owns hm
    · exact ih.2 q hq
  | any h ih =>
    rename_i s _ _
    refine ⟨?_, ih.2⟩
    cases s with
    | any => exact ih.1
    | dat d => exact ih.1
    | own p o => exact ih.1.trans (List.sublist_cons_self _ _)
theorem Aft.rel (h : Aft B A A') (r : Rel K Hf H σ A) (r' : Rel K Hf' H' τ B) (e : Same Hf Hf') : Rel K Hf' H' σ A' := by
  refine ⟨r'.sm, ?_, List.Nodup.sublist h.sub.1 r.nd⟩
  have al := r.al
  clear r
  induction h generalizing σ with
  | nil => cases al; exact .nil
  | dat _ ih =>
    cases al with
    | cons g t => exact .cons (g.keep e fun _ _ z => by cases z) (ih t)
  | own hm _ ih =>
    cases al with
    | cons g t =>
      obtain ⟨ov, _, q⟩ := Paired.mem r'.al hm
      exact .cons ⟨g.1, q.2.1, q.2.2⟩ (ih t)
  | any _ ih =>
    cases al with
    | cons g t => exact .cons trivial (ih t)
theorem Paired.app {α β : Type} {G : α → β → Prop} : ∀ {l₁ m₁ : List α} {l₂ m₂ : List β}, Paired G l₁ l₂ → Paired G m₁ m₂ → Paired G (l₁ ++ m₁) (l₂ ++ m₂)
  | _, _, _, _, .nil, q => q
  | _, _, _, _, .cons r t, q => .cons r (Paired.app t q)
theorem owns_pad (A : List SD) (n : Nat) : owns (A ++ List.replicate n .any) = owns A := by
  induction A with
  | nil =>
    induction n with
    | zero => rfl
    | succ n ih => exact ih
  | cons s A ih =>
    cases s with
    | any => exact ih
    | dat d => exact ih
    | own p o => show p :: owns (A ++ List.replicate n .any) = p :: _; rw [ih]
theorem Rel.pad {vs : List V} (r : Rel K Hf H (vs.map some) A) (n : Nat) : Rel K Hf H (vs.map some ++ List.replicate n none) (A ++ List.replicate n .any) := by
  refine ⟨r.sm, Paired.app r.al ?_, by rw [owns_pad]; exact r.nd⟩
  induction n with
  | zero => exact .nil
  | succ n ih => exact .cons trivial ih
end
/-- the ends of a def's body -/
def BodyE (A : List SD) (Post : SD → List SD → Prop) : AE where
  nx := fun B => ∃ A', Aft B A A' ∧ Post (.dat .non) A'
  rt := fun r B => ∃ A', Aft B A A' ∧ Post r A'
def BodyZ (A : List SD) (Z : ZT) : ZT := fun c fs B => ∃ A', Aft B A A' ∧ Z c fs A'
section
variable {P : Program} {w : World} {K : PySem.W.Frag} {mg : Str → Option Value} {base : Heap}
/-- a def's body keeps its promise -/
theorem g_of {x qual : Str} {st : Stmt} {f : Addr} {fd : FuncData} {N ps : List Str} {k : Nat} {S : FSp} (F : Fun K x qual st f fd) (sc : FnScope N ps (defScope st)) (no : ∀ x ∈ bnames, mg x = none) (hl : ∀ A Post Z, S A Post Z → A.length = ps.length) (hN : ps.length ≤ N.length)
    (hb : ∀ (cdv : Value) (A : Around) (fr : List Env) (s : Shared) (H : Hp) (E : XK), Cok (cxOf (L2.CX P w) P w K mg base N qual (defScope st) f cdv A fr s H E) → Good k (cxOf (L2.CX P w) P w K mg base N qual (defScope st) f cdv A fr s H E).A →
      ∀ B Post Z, S B Post Z → SSX (cxOf (L2.CX P w) P w K mg base N qual (defScope st) f cdv A fr s H E) (BodyZ B Z) (B ++ List.replicate (N.length - ps.length) .any) (defBody st) (BodyE B Post)) :
    GOk P w K mg base (k + 1) f fd ps (SpOf K S) := by
  obtain ⟨oc, od, kV, doc, pm, an, cdv, ct, osl, rfl, lk, hcd⟩ := F.ex
  have hlen : ∀ vs H Q E, SpOf K S vs H Q E → vs.length = ps.length := fun vs H Q E ⟨Hf, B, Post, Z, r, h, _, _⟩ => by
    have := Paired.length r.al
    rw [List.length_map] at this
    rw [this, hl B Post Z h]
  refine ⟨hlen, fun A fr s H ar us vs Q E g e0 bt rv hs => ?_⟩
  have lv := hlen _ _ _ _ hs
  obtain ⟨Hf, B, Post, Z, rel, hS, kQ, kE⟩ := hs
  have inK : K.In s.heap := e0.mod.kin.keeps fun b o q => (e0.bs b o q).1
  have noLim := e0.mod.nolimit.keeps fun b o q => (e0.bs b o q).1
  have kinds : ∀ y ∈ ps.zip us, (defScope st).names.lookup y.1 = some .local ∨ ((defScope st).names.lookup y.1 = some .cell ∧ ((cellsFrom (s.heap.objs.size + 1) (defScope st).names []).lookup y.1).isSome = true) := by
    rintro ⟨n, v⟩ hy
    exact (sc.par n (List.of_mem_zip hy).1).imp id fun q => ⟨q, PySem.W.cellsFrom_some _ _ _ (.inl q)⟩
  refine codeAny_call_function g.rm.depth (inK _ _ lk) rfl sc.co sc.gen rfl (PySem.W.codeRec_of inK hcd) (bt _ _ _ _ ?_)
  refine wpAny_newFunctionEnv_cells sc.kind kinds ?_
  rintro env rfl s1 x1
  refine ⟨noLim.keeps x1.toInCall.keep, codeAny_func ?_⟩
  have inv := inv_start (CX := L2.CX P w) (E := E) (N := N) sc g.rm.hd e0 lv rv x1
  have room := g.rm.deeper (envOfC qual (defScope st) s.heap.objs.size f cdv)
  have cok : Cok (cxOf (L2.CX P w) P w K mg base N qual (defScope st) f cdv A fr s H E) := ⟨rfl, sc.nd, no, room.units, g.gd, passes_of rfl⟩
  have hz := hl B Post Z hS
  have rel0 : Rel K Hf H (L2.start N vs) (B ++ List.replicate (N.length - ps.length) .any) := by
    unfold L2.start
    rw [lv]
    exact rel.pad _
  have own0 : owns (B ++ List.replicate (N.length - ps.length) .any) = owns B := owns_pad _ _
  have body := hb cdv A fr s H E cok ⟨room, g.gd⟩ B Post Z hS
  have good : ∀ {σ' : L2.St} {H' : Hp} {v : V} {u : Value} {s' : Shared}, L2.Inv (cxOf (L2.CX P w) P w K mg base N qual (defScope st) f cdv A fr s H E) [] σ' H' s' → RelV v u → Q v H' → CE fr P w H s Q u s' := by
    intro σ' H' v u s' J ru q
    exact ⟨v, H', J.os, J.bare, J.base, J.hok, ru, q⟩
  have run := wss.run [] s1 (L2.start N vs) H { nx := fun _ H' => Q .non H', rt := Q } inv (body Hf H _ rel0 ⟨_, takes_of rfl rfl rfl rfl, ?_⟩ _ ⟨?_, ?_, ?_, ?_⟩)
  · refine wpAny_mono run (fun fl s' e => ?_) fun _ _ e => e
    cases fl with
    | ret u => obtain ⟨v, σ', H', J, ru, q⟩ := e; exact good J ru q
    | next => obtain ⟨σ', H', J, q⟩ := e; exact good (v := V.non) (u := Value.none) J rfl q
    | brk => obtain ⟨_, _, _, q⟩ := e; cases q
    | cont => obtain ⟨_, _, _, q⟩ := e; cases q
  · rintro c fs B' d σ' Hf' H' ⟨A', aft, z⟩ r' xd f'
    rw [own0] at f'
    exact kE c fs A' d Hf' H' z (aft.rel rel r' f'.ef) xd (f'.less aft.sub.2)
  · rintro B' σ' Hf' H' ⟨A', aft, q⟩ r' f'
    rw [own0] at f'
    exact kQ _ _ _ _ _ q ((aft.rel rel r' f'.ef).consD .non) (f'.less aft.sub.2)
  · rintro r B' v σ' Hf' H' ⟨A', aft, q⟩ r' f'
    rw [own0] at f'
    have e := aft.rel rel r'.tail f'.ef
    refine kQ _ _ _ _ _ q (e.cons r'.head fun p o z hp => ?_) (f'.less fun p hp => ?_)
    · subst z
      exact r'.notTail (aft.sub.2 p hp)
    · cases r with
      | any => exact aft.sub.2 p hp
      | dat d => exact aft.sub.2 p hp
      | own q o =>
        rcases List.mem_cons.mp hp with rfl | hp
        · exact List.mem_cons_self
        · exact List.mem_cons_of_mem _ (aft.sub.2 p hp)
  · rintro _ _ _ _ z
    exact z.elim
  · rintro _ _ _ _ z
    exact z.elim
end
/-- a def of the program that stands, with its promise -/
structure Fn (P : Program) (w : World) (K : PySem.W.Frag) (mg : Str → Option Value) (base : Heap) (k : Nat) (x qual : Str) (st : Stmt) (ps : List Str) (S : FSp) : Prop where
  ex : ∃ (f : Addr) (fd : FuncData), mg x = some (.ref f) ∧ Fun K qual qual st f fd ∧ GOk P w K mg base k f fd ps (SpOf K S)
section
variable {X : Cx} {Z : ZT} {A : List SD} {e a b : Expr} {es : List Expr} {pos p : Pos} {k : Nat} {f : Addr} {fd : FuncData} {ps ks : List Str} {S : FSp} {x qual : Str} {st : Stmt} {Q : SD → List SD → Prop}
theorem run_g {sp : Sp} {E : XK} {W : L2.WX} {pins : List (Addr × Obj)} {σ : L2.St} {H : Hp} {s : Shared} {R : VK} {us : List Value} {vs : List V} {ar : Args} (G : GOk X.prog X.w X.K X.mg X.base k f fd ps sp) (g : Good k X.A) (I : L2.Inv X pins σ H s) (hb : BindsTo s fd ar (ps.zip us)) (r : Vals vs us)
    (tk : Takes X W) (hW : ∀ c d H, E c d H → W c d σ H) (h : sp vs H R E) : codeAny (model X.prog X.w) X.A (.call (.ref f) ar) (fun r s' => match r with | .ok (.ret u) => EP X pins σ R u s' | .ok _ => False | .error e => X.xe e s') s := by
  refine codeAny_mono (G.run X.A X.stack s H ar us vs R E g I.env0 hb r h) ?_
  intro r s' hr
  match r, hr with
  | .error e, hr => exact tk e s' (XE.of_call I hW hr)
  | .ok (.ret u), hr => exact I.after hr
  | .ok .next, hr => exact hr.elim
  | .ok .brk, hr => exact hr.elim
  | .ok .cont, hr => exact hr.elim
/-- what stands beside a call -/
theorem Rel.through {K : PySem.W.Frag} {Hf H Hf' H' : Hp} {σ : List (Option V)} {o1 : List Addr} (r : Rel K Hf H σ A) (f : Fr [] Hf H o1 Hf' H') (sm : Same Hf' H') : Rel K Hf' H' σ A :=
  ⟨sm, Paired.weak r.al fun a b hb g => g.frame f fun _ _ _ z => (by cases z), r.nd⟩
theorem pe_callG {W : L2.WX} {t : TA} {sp : Sp} (hm : X.mg x = some (.ref f)) (F : Fun X.K qual qual st f fd) (G : GOk X.prog X.w X.K X.mg X.base k f fd ps sp) (g : Good k X.A) (hg : Gl X x) (tk : Takes X W)
    (hb : ∀ (s : Shared) (us : List Value), us.length = ps.length → BindsTo s fd ⟨us, []⟩ (ps.zip us)) (ha : PA X (e :: es) t) (hdb : (x == ("__debug__" : Str)) = false := by kernel_rfl)
    (he : starEach (e :: es) X.env = (false, eval e X.env) :: starEach es X.env := by kernel_rfl) (hpl : (backTo pos (starEach es X.env)).any (·.1) = false := by kernel_rfl) : PE X (.Call (.Name x p) (e :: es) [] pos) (fun σ H R => t σ H fun vs H1 => sp vs H1 R fun c d H2 => W c d σ H2) := by
  constructor
  intro pins s σ H R I h
  refine wpAny_Call_Name_kw (ld_glob I hg hm ?_ hdb)
  refine PySem.W.callWith_K (h₀ := X.base) I.ok.mod.kin F.kp (thn (ha.run pos pins s σ H _ I h) ?_) he hpl
  rintro us s1 ⟨vs, H1, I1, r, q⟩
  refine ⟨I1.kIn, wpAny_call (codeAny_mono (run_g G g I1 (hb s1 us (by rw [← r.length]; exact G.len _ _ _ _ q)) r tk (fun _ _ _ h => h) q) ?_)⟩
  intro r s' hr
  match r, hr with
  | .error e, hr => exact hr
  | .ok (.ret u), hr => exact hr
  | .ok .next, hr => exact hr.elim
  | .ok .brk, hr => exact hr.elim
  | .ok .cont, hr => exact hr.elim
theorem owns_dats : ∀ ds : List D, owns (ds.map SD.dat) = []
  | [] => rfl
  | _ :: ds => owns_dats ds
theorem dats_rel {K : PySem.W.Frag} {Hf H : Hp} {vs : List V} {ds : List D} (sm : Same Hf H) (h : DsL K Hf vs ds) : Rel K Hf H (vs.map some) (ds.map .dat) ∧ owns (ds.map SD.dat) = [] := by
  have o := owns_dats ds
  refine ⟨⟨sm, ?_, by rw [o]; exact List.nodup_nil⟩, o⟩
  clear o
  induction vs generalizing ds with
  | nil => cases h; exact .nil
  | cons v vs ih => cases h with
    | cons a b => exact .cons ⟨v, rfl, a⟩ (ih b)
/-- the arguments as they are bound, none by name -/
abbrev Bnd (st : Stmt) (qual : Str) (ps : List Str) : Prop := ∀ (kV doc pm : Value) (an : Option Addr) (cdv ct : Value) (us : List Value), us.length = ps.length →
  bindArgs (PySem.W.fnOf qual qual (defArgs st) (defBody st) (defScope st) .none kV doc pm an cdv ct) ⟨us, []⟩ = pure (ps.zip us)
theorem Bnd.to {K : PySem.W.Frag} (F : Fun K qual qual st f fd) (h : Bnd st qual ps) : ∀ (s : Shared) (us : List Value), us.length = ps.length → BindsTo s fd ⟨us, []⟩ (ps.zip us) := by
  obtain ⟨oc, od, kV, doc, pm, an, cdv, ct, osl, rfl, _, _⟩ := F.ex
  intro s us hl
  exact .of_eq (h kV doc pm an cdv ct us hl)
theorem Fr.wide {Hf H Hf' H' : Hp} {o1 : List Addr} (f : Fr [] Hf H o1 Hf' H') {A' : List SD} (s : ∀ p ∈ owns A', p ∈ owns A ∨ p ∈ o1) : Fr (owns A) Hf H (owns A') Hf' H' :=
  ⟨f.ef, fun a h1 h2 _ => f.st a h1 h2 (by simp), fun a o h1 _ => f.kp a o h1 (by simp), fun p hp => (s p hp).imp id fun z => (f.gr p z).resolve_left (by simp)⟩
theorem own_head {r : SD} {A : List SD} : ∀ p ∈ owns (r :: A), p ∈ owns A ∨ ∃ o, r = .own p o := fun p hp => by
  cases r with
  | any => exact .inl hp
  | dat d => exact .inl hp
  | own q o =>
    rcases List.mem_cons.mp hp with rfl | hp
    · exact .inr ⟨o, rfl⟩
    · exact .inl hp
theorem ex_call (F : Fn X.prog X.w X.K X.mg X.base k x qual st ps S) (g : Good k X.A) (hb : Bnd st qual ps) (h : EA X Z A (e :: es) fun ds A1 => S (ds.map .dat) (fun r _ => Q r A1) (fun c fs _ => Z c fs A1)) (hg : Gl X x := by exact gl_of (by kernel_rfl)) (hdb : (x == ("__debug__" : Str)) = false := by kernel_rfl)
    (he : starEach (e :: es) X.env = (false, eval e X.env) :: starEach es X.env := by kernel_rfl) (hpl : (backTo pos (starEach es X.env)).any (·.1) = false := by kernel_rfl) : EX X Z A (.Call (.Name x p) (e :: es) [] pos) Q := by
  obtain ⟨f, fd, hm, F, G⟩ := F.ex
  intro Hf H σ rel xo R kk
  obtain ⟨W, tk, kz⟩ := xo
  refine ⟨_, pe_callG hm F G g hg tk (hb.to F) wa hdb he hpl, h Hf H σ rel ⟨W, tk, kz⟩ _ ?_⟩
  rintro ds A1 vs Hf1 H1 hS r1 s1 f1
  obtain ⟨rv, ro⟩ := dats_rel r1.sm s1
  refine ⟨Hf1, _, _, _, rv, hS, ?_, ?_⟩
  · intro r A' v Hf' H' q r2 f2
    rw [ro] at f2
    have t := r1.through f2 r2.sm
    refine kk r A1 v Hf' H' q (t.cons r2.head fun p o z hp => ?_) (f1.trans (f2.wide fun p hp => ?_))
    · subst z
      rcases f2.gr p List.mem_cons_self with z | z
      · cases z
      · exact r1.there hp z
    · exact (own_head p hp).imp id fun ⟨o, e⟩ => by subst e; exact List.mem_cons_self
  · intro c fs A' d Hf' H' z r2 xd f2
    rw [ro] at f2
    exact kz c fs A1 d σ Hf' H' z (r1.through f2 r2.sm) xd (f1.trans (f2.wide fun p hp => .inl hp))
/-- f(x, ..), x an owned list that f may change -/
theorem ex_callO (i : Nat) {y : Str} {py : Pos} {q : Addr} {o : OD} (F : Fn X.prog X.w X.K X.mg X.base k x qual st ps S) (g : Good k X.A) (hb : Bnd st qual ps) (hA : A[i]? = some (.own q o))
    (h : EA X Z A es fun ds A1 => ∃ o1, A1[i]? = some (.own q o1) ∧ S (.own q o1 :: ds.map .dat) (fun r B => ∃ o2 B', B = .own q o2 :: B' ∧ Q r (A1.set i (.own q o2))) (fun c fs B => ∃ o2 B', B = .own q o2 :: B' ∧ Z c fs (A1.set i (.own q o2))))
    (hN : X.N[i]? = some y := by kernel_rfl) (hv : Vis X.env.scope y := by exact vis_of (by kernel_rfl)) (hdy : (y == ("__debug__" : Str)) = false := by kernel_rfl) (hcd : (y == ("__classdict__" : Str)) = false := by kernel_rfl)
    (hg : Gl X x := by exact gl_of (by kernel_rfl)) (hdb : (x == ("__debug__" : Str)) = false := by kernel_rfl)
    (he : starEach (.Name y py :: es) X.env = (false, eval (.Name y py) X.env) :: starEach es X.env := by kernel_rfl) (hpl : (backTo pos (starEach es X.env)).any (·.1) = false := by kernel_rfl) : EX X Z A (.Call (.Name x p) (.Name y py :: es) [] pos) Q := by
  obtain ⟨f, fd, hm, F, G⟩ := F.ex
  intro Hf H σ rel xo R kk
  obtain ⟨W, tk, kz⟩ := xo
  refine ⟨_, pe_callG hm F G g hg tk (hb.to F) (pa_cons (pe_var hN hv hdy hcd) wa he) hdb he hpl, _, rel.ref hA, h Hf H σ rel ⟨W, tk, kz⟩ _ ?_⟩
  rintro ds A1 vs Hf1 H1 ⟨o1, hA1, hS⟩ r1 s1 f1
  obtain ⟨rv, ro⟩ := dats_rel r1.sm s1
  obtain ⟨ov, g1, g2, g3, g4⟩ := Paired.at r1.al hA1
  have ri : σ[i]? = some (some (.ref q)) := by rw [g1, g2]
  have rv2 : Rel X.K Hf1 H1 (some (.ref q) :: vs.map some) (.own q o1 :: ds.map .dat) := rv.cons ⟨rfl, g3, g4⟩ fun p o e hp => by rw [ro] at hp; cases hp
  have hm1 : q ∈ owns A1 := mem_owns (List.mem_of_getElem? hA1)
  -- what the callee's end tells of the caller's slots
  have back : ∀ {o2 : OD} {B' : List SD} {o3 : List Addr} {τ : List (Option V)} {Hf' H' : Hp}, Fr (owns (.own q o1 :: ds.map SD.dat)) Hf1 H1 o3 Hf' H' → Rel X.K Hf' H' (some (.ref q) :: τ) (.own q o2 :: B') → Rel X.K Hf' H' σ (A1.set i (.own q o2)) := by
    intro o2 B' o3 τ Hf' H' f2 r2
    have f2' : Fr [q] Hf1 H1 o3 Hf' H' := f2.more fun p hp => by
      rcases List.mem_cons.mp hp with rfl | hp
      · exact List.mem_cons_self
      · rw [ro] at hp; cases hp
    have hs : σ = σ.set i (some (.ref q)) := by
      apply List.ext_getElem?
      intro j
      by_cases hj : i = j
      · subst hj
        rw [List.getElem?_set_self (List.getElem?_eq_some_iff.mp ri).1, ri]
      · rw [List.getElem?_set_ne hj]
    refine ⟨r2.sm, ?_, by rw [owns_set hA1]; exact r1.nd⟩
    rw [hs]
    refine Paired.ofGet (by rw [List.length_set, List.length_set]; exact Paired.length r1.al) fun j a b ha hb => ?_
    by_cases hj : i = j
    · subst hj
      rw [List.getElem?_set_self (List.getElem?_eq_some_iff.mp ri).1] at ha
      rw [List.getElem?_set_self (List.getElem?_eq_some_iff.mp hA1).1] at hb
      cases ha; cases hb
      exact r2.head
    · rw [List.getElem?_set_ne hj] at ha
      have hb0 := hb
      rw [List.getElem?_set_ne hj] at hb
      obtain ⟨a', ha', gg⟩ := Paired.at r1.al hb
      rw [ha] at ha'; cases ha'
      refine gg.frame f2' fun p o z hp => ?_
      subst z
      rw [List.mem_singleton] at hp
      subst hp
      -- two slots can't own the same
      have nd := r1.nd
      have : ∀ (l : List SD) (j m : Nat) (w w' : OD), (owns l).Nodup → l[j]? = some (.own p w) → l[m]? = some (.own p w') → j = m := by
        intro l
        induction l with
        | nil => intro j m w w' _ h; simp at h
        | cons y l ih =>
          intro j m w w' hn h h'
          have hn' : (owns l).Nodup := by
            cases y with
            | any => exact hn
            | dat d => exact hn
            | own q w => exact (List.nodup_cons.mp hn).2
          cases j with
          | zero =>
            have h : y = .own p w := Option.some.inj h
            subst h
            cases m with
            | zero => rfl
            | succ m => exact absurd (mem_owns (List.mem_of_getElem? (by simpa using h'))) (List.nodup_cons.mp hn).1
          | succ j =>
            cases m with
            | zero =>
              have h' : y = .own p w' := Option.some.inj h'
              subst h'
              exact absurd (mem_owns (List.mem_of_getElem? (by simpa using h))) (List.nodup_cons.mp hn).1
            | succ m => rw [ih j m w w' hn' (by simpa using h) (by simpa using h')]
      exact hj (this A1 i j _ _ nd hA1 hb)
  have fr2 : ∀ {o2 : OD} {B' C : List SD} {r : SD} {Hf' H' : Hp}, Fr (owns (.own q o1 :: ds.map SD.dat)) Hf1 H1 (owns C) Hf' H' → (∀ p ∈ owns (r :: A1.set i (.own q o2)), p ∈ owns A1 ∨ p ∈ owns C) → Fr (owns A1) Hf1 H1 (owns (r :: A1.set i (.own q o2))) Hf' H' := by
    intro o2 B' C r Hf' H' f2 hsub
    have f2' : Fr (owns A1) Hf1 H1 (owns C) Hf' H' := f2.more fun p hp => by
      rcases List.mem_cons.mp hp with rfl | hp
      · exact hm1
      · rw [ro] at hp; cases hp
    exact ⟨f2'.ef, f2'.st, f2'.kp, fun p hp => (hsub p hp).elim .inl (f2'.gr p)⟩
  refine ⟨Hf1, _, _, _, rv2, hS, ?_, ?_⟩
  · rintro r B v Hf' H' ⟨o2, B', rfl, qq⟩ r2 f2
    have t := back f2 r2.tail
    refine kk r _ v Hf' H' qq (t.cons r2.head fun p o z hp => ?_) (f1.trans (fr2 (B' := B') f2 fun p hp => ?_))
    · subst z
      rw [owns_set hA1] at hp
      rcases f2.gr p List.mem_cons_self with z | z
      · rcases List.mem_cons.mp z with rfl | z
        · exact r2.notTail List.mem_cons_self
        · rw [ro] at z; cases z
      · exact r1.there hp z
    · rcases own_head p hp with z | ⟨o, z⟩
      · rw [owns_set hA1] at z; exact .inl z
      · subst z; exact .inr List.mem_cons_self
  · rintro c fs B d Hf' H' ⟨o2, B', rfl, z⟩ r2 xd f2
    have ff := fr2 (o2 := o2) (B' := B') (r := .any) f2 fun p hp => by
      have hp : p ∈ owns (A1.set i (.own q o2)) := hp
      rw [owns_set hA1] at hp; exact .inl hp
    exact kz c fs _ d σ Hf' H' z (back f2 r2) xd (f1.trans ff)
end
end Y

namespace Y
open PySem L2 PySem.Spec
open PyProof.Rows hiding St

/-! ### the end: the law's own def, called by whoever asks -/
section
variable {P : Program} {w : World} {K : PySem.W.Frag} {mg mb : Str → Option Value}
/-- from a heap where at most the script is told of -/
theorem at_top {k : Nat} {fa a : Addr} {fd : FuncData} {x : Str} {S : FSp} {s : Shared} {vs : List Value} {ns : List Int} {H : Hp} (inK : K.In s.heap) (nsG : s.heap.Ns mainGlobals mg) (nsB : s.heap.Ns builtinsNs mb) (bB : ∀ x : Str, x ≠ "__name__" → mb x = bootBuiltins x)
    (lim : s.heap.NoLimit) (gens : s.gens = #[]) (ha : s.heap.get? a = some { cls := .type "list", data := .seq vs.toArray }) (hr : Room k callerA) (G : ∀ base : Heap, K.In base → base.Ns mainGlobals mg → GOk P w K mg base k fa fd [x] (SpOf K S))
    (bd : ∀ (s : Shared) (u : Value), BindsTo s fd ⟨[u], []⟩ [(x, u)]) (hS : S [.dat (.rls (ns.map .int))] (fun r _ => r = .dat (.bl true)) Z0) (hL : SqL K H a (ns.map V.int)) (hok : HOk P w H s.heap)
    (only : ∀ b u, H b = some u → b = a ∧ K.lookup a = none ∧ ∃ xs, u = .frz { cls := .type "list", data := .seq vs.toArray } (.lst xs)) :
    codeAny (model P w) callerA (.call (.ref fa) ⟨[.ref a], []⟩) (fun r s' => r = .ok (.ret (.bool true)) ∧ OldK s.heap s'.heap ∧ s'.os = s.os ∧ AllBare s'.gens) s := by
  have free : ∀ b o, s.heap.get? b = some o → (∀ es ep, o.data = .dict es ep → H b = none) := by
    intro b o hb es ep hd
    cases hH : H b with
    | none => rfl
    | some u =>
      obtain ⟨rfl, _, _⟩ := only b u hH
      rw [ha] at hb
      cases hb
      cases hd
  have nsOf : ∀ {b : Addr} {m : Str → Option Value}, s.heap.Ns b m → (hidT s.heap H).Ns b m := by
    rintro b m ⟨o, es, ep, ho, hd, rest⟩
    exact ⟨o, es, ep, hidT_get ho (free b o ho es ep hd), hd, rest⟩
  have inB : K.In (hidT s.heap H) := by
    intro b o ho
    refine hidT_get (inK b o ho) ?_
    cases hH : H b with
    | none => rfl
    | some u =>
      obtain ⟨rfl, hk, _⟩ := only b u hH
      rw [hk] at ho
      cases ho
  obtain ⟨mc, lim1, lim2⟩ := lim
  have env : Env0 P w K mg (hidT s.heap H) callerA [] s H :=
    { frames := rfl, mod := ⟨inB, nsOf nsG, ⟨mb, nsOf nsB, bB⟩, mc, nsOf lim1, lim2⟩, bs := fun b o h => of_hidT h, bsz := Nat.le_of_eq (hidT_size _ _), funs := trivial,
      frf := fun b hb => (List.not_mem_nil (show b ∈ ([] : List Addr) from hb)).elim, hok := hok, bare := .of_eq gens }
  have sp : SpOf K S [.ref a] H (fun v _ => v = .bl true) (fun _ _ _ => False) := by
    have hd : Ds K H (.ref a) (.rls (ns.map .int)) := by
      refine .rls hL ?_
      clear hL hS
      induction ns with
      | nil => exact .nil
      | cons n ns ih => exact .cons (.int n) ih
    have rel0 : Rel K H H ([V.ref a].map some) [.dat (.rls (ns.map .int))] := ⟨fun _ _ h => h, .cons ⟨_, rfl, hd⟩ .nil, List.nodup_nil⟩
    refine ⟨H, _, _, _, rel0, hS, ?_, fun c fs A' d Hf' H' z => z.elim⟩
    rintro r A' v Hf' H' rfl rel _
    exact ds_bl (head_d rel)
  refine codeAny_mono ((G _ inB (nsOf nsG)).run callerA [] s H ⟨[.ref a], []⟩ [.ref a] [.ref a] _ _ ⟨hr, rfl⟩ env (bd s (.ref a)) (.cons rfl .nil) sp) ?_
  intro r s' h
  match r, h with
  | .error e, h => exact (by obtain ⟨_, _, _, _, _, _, _, _, _, _, _, _, z⟩ := h; exact z.elim)
  | .ok .next, h => exact h.elim
  | .ok .brk, h => exact h.elim
  | .ok .cont, h => exact h.elim
  | .ok (.ret u), ⟨v, H', os, bare, un, hok', ru, q⟩ =>
    have q : v = .bl true := q
    subst q
    cases (show u = Value.bool true from ru)
    refine ⟨rfl, OldK.of_keep ?_, os, bare⟩
    intro b o hb
    cases hH : H b with
    | none => exact un.keep b o hb hH (fun z => List.not_mem_nil (show b ∈ ([] : List Addr) from z)) List.not_mem_nil
    | some u =>
      obtain ⟨rfl, _, xs, rfl⟩ := only b u hH
      rw [ha] at hb
      cases hb
      exact (hok' b _ (un.frzs b _ _ hH)).1
theorem ints_vals : ∀ {vs : List Value} {ns : List Int}, IntsAre vs ns → Vals (ns.map V.int) vs
  | _, _, .nil => .nil
  | _, _, .cons n t h => .cons ⟨t, rfl⟩ (ints_vals h)
end
theorem walk_g {l : PySem.W.OpenLaw} {n k : Nat} {q : Program} {loose : List Str} {XP : (Str → Option Value) → Heap → Prop} {YP : World → Heap → Prop} {d : DefRec} {K : Params → PySem.W.Frag} {S : FSp} {x : Str} (hm : l.most = some n) (hn : n ≤ sizeLine) (hd : d.params.defaults = []) (hr : Room k callerA)
    (hY : ∀ (w : World) (h : Heap), YP w h → (K w.params).In h)
    (hF : ∀ (w : World) (mg : Str → Option Value) (fa : Addr) (h : Heap), (K w.params).In h → h.Ns mainGlobals mg → mg d.name = some (.ref fa) → ∃ fd : FuncData, (∀ (s : Shared) (u : Value), BindsTo s fd ⟨[u], []⟩ [(x, u)]) ∧
      ∀ base : Heap, (K w.params).In base → base.Ns mainGlobals mg → GOk l.prog w (K w.params) mg base k fa fd [x] (SpOf (K w.params) S))
    (hS : ∀ ns : List Int, ns.length ≤ n → S [.dat (.rls (ns.map .int))] (fun r _ => r = .dat (.bl true)) Z0) : PySem.W.WalkO q loose XP YP l.row.toRowW d [] (fun f vs => PySem.call f vs) := by
  refine Att.attach_call hm hd ?_
  intro w s₀ s mg mb fa o pm cd doc a vs ns G y ho hdd hcd hmg hobj hints hlen hg
  have inK := hY w _ y
  obtain ⟨fd, bd, hG⟩ := hF w mg fa _ inK G.T.g hmg
  have rv := ints_vals hints
  have hz : (ns.map V.int).length ≤ sizeLine := by rw [List.length_map]; exact Nat.le_trans hlen hn
  have le : vs.length = ns.length := by rw [← rv.length, List.length_map]
  cases hk : (K w.params).lookup a with
  | some ob =>
    have e := inK a ob hk
    rw [hobj] at e
    cases e
    refine at_top (H := fun _ => none) inK G.T.g G.T.b G.T.builtins G.T.nolimit hg hobj hr hG bd (hS ns hlen) (.inr ⟨_, vs.toArray, _, hk, rfl, rfl, rfl, ?_, by simpa using rv⟩) (fun b u z => by cases z) (fun b u z => by cases z)
    rw [List.size_toArray, le]
    exact Nat.le_trans hlen hn
  | none =>
    refine at_top (H := fun b => if b = a then some (.frz { cls := .type "list", data := .seq vs.toArray } (.lst (ns.map V.int))) else none) inK G.T.g G.T.b G.T.builtins G.T.nolimit hg hobj hr hG bd (hS ns hlen) (.inl (.inr ⟨_, if_pos rfl⟩)) ?_ ?_
    · intro b u z
      by_cases hb : b = a
      · subst hb
        cases (if_pos rfl).symm.trans z
        exact ⟨hobj, hz, vs, _, rv, hobj⟩
      · cases (if_neg hb).symm.trans z
    · intro b u z
      by_cases hb : b = a
      · subst hb
        cases (if_pos rfl).symm.trans z
        exact ⟨rfl, hk, _, rfl⟩
      · cases (if_neg hb).symm.trans z
end Y

namespace Y
open PySem L2 PySem.Spec
open PyProof.Rows hiding St

/-! ### a, *b = xs -/
theorem star_items {prog : Program} {w : World} {A : Around} {E : Value → Shared → Prop} {s : Shared} {l : Addr} {v : Value} {us : List Value} {Q : List Value → Shared → Prop} (hh : A.handled = none) (hl : s.heap.IsList l (v :: us).toArray) (hz : us.length ≤ 1000000)
    (h : ∀ (h' : Heap) (tk : Nat), (∀ b o, s.heap.get? b = some o → h'.get? b = some o) → Q [v, .ref h'.objs.size] { s with heap := h'.push { cls := .type "list", data := .seq us.toArray }, toks := tk }) : wpAny (model prog w) A (unpackItems (.ref l) 2 (some 1)) Q E s := by
  have hlt : l < s.heap.objs.size := let ⟨_, e, _⟩ := hl; Heap.lt_size e
  have hne : l ≠ s.heap.objs.size := Nat.ne_of_lt hlt
  have bigger : (v :: us).toArray.size = us.length + 1 := by simp
  unfold unpackItems
  refine wpAny_bind (show wpAny _ _ (notIterableAtAll (.ref l)) _ _ _ from ?_)
  unfold notIterableAtAll
  refine wpAny_bind (wpAny_specialOf hl.typeIs slot_list_iter.lookup (wpAny_pure ?_))
  rw [if_neg (by decide)]
  refine wpAny_bind (wpAny_holding (wpAny_pyIter_list hl ?_))
  refine wpAny_bind (wpAny_holding (PySem.W.kun_draw hne 1 0 _ _ ⟨_, Heap.get?_push_size _ rfl, rfl, rfl⟩ (hl.push _) (by rw [bigger]; omega) ?_))
  intro h₁ it₁ same₁
  have l₁ := (hl.push { cls := .type "list_iterator", data := .fields #[.ref l, .int 0 0] }).extBut same₁.extBut hne
  rw [if_neg (by simp)]
  refine wpAny_bind (wpAny_holding (PySem.W.kun_collect (s := { s with heap := h₁ }) (T := "list_iterator") (.inr (.inr (.inl rfl))) (Walks.list (A := A.in1) hh s.heap.objs.size l hne (v :: us).toArray) (fun j u st => st.1.typeIs) (k := 1) (by rw [bigger]; omega) ⟨it₁, l₁⟩ ?_ ?_ ?_ ?_))
  · exact let ⟨_, e, _⟩ := it₁; Heap.lt_size e
  · exact let ⟨_, e, _⟩ := l₁; Heap.lt_size e
  · intro h₂ tk k₂
    have e1 : ((v :: us).toArray.toList.drop 1) = us := by simp
    have e2 : List.take 1 (List.drop 0 (v :: us).toArray.toList) = [v] := by simp
    rw [e1, e2]
    show wpAny _ _ (if us.length < 0 then _ else _) _ _ _
    rw [if_neg (Nat.not_lt_zero _)]
    refine wpAny_bind (wpAny_newObj_type (wpAny_pure ?_) ?_)
    · have e3 : List.take (us.length - (2 - 1 - 1)) us = us := by simp
      have e4 : List.drop (us.length - (2 - 1 - 1)) us = [] := by simp
      rw [e3, e4]
      refine h h₂ tk fun b o q => k₂ b o (Nat.ne_of_lt (Heap.lt_size q)) (same₁.extBut b o (Nat.ne_of_lt (Heap.lt_size q)) (Heap.get?_push_of_some _ q))
    · show Array.size _ ≤ sizeLine
      rw [List.size_toArray, List.length_take]
      exact Nat.le_trans (Nat.min_le_right _ _) (mil hz)
  · rw [bigger]
    exact Nat.le_trans (Nat.succ_le_succ hz) (by decide)
theorem obj_get {P : Program} {w : World} {H : Hp} {h : Heap} {a : Addr} {o : HO} (x : ObjOk P w H h a o) : ∃ u, h.get? a = some u := by
  cases o with
  | lst xs => obtain ⟨_, _, _, _, e⟩ := x; exact ⟨_, e⟩
  | tup xs => obtain ⟨_, _, _, o, e, _⟩ := x; exact ⟨o, e⟩
  | dK kvs => obtain ⟨_, _, _, _, o, _, _, e, _⟩ := x; exact ⟨o, e⟩
  | dT kvs => obtain ⟨_, _, _, _, o, _, _, e, _⟩ := x; exact ⟨o, e⟩
  | set S n => obtain ⟨o, _, _, _, e, _⟩ := x; exact ⟨o, e⟩
  | ins C dx fs => obtain ⟨_, _, _, e, _⟩ := x; exact ⟨_, e⟩
  | own y => exact x
  | xd fs => obtain ⟨_, ⟨o, _, _, e, _⟩, _⟩ := x; exact ⟨o, e⟩
  | rng lo hi => obtain ⟨_, _, _, e⟩ := x; exact ⟨_, e⟩
  | frz ob u => exact ⟨_, x.1⟩
  | tbl ps => exact ⟨_, x⟩
  | met f y => exact ⟨_, x⟩
  | ext φ => exact x.2.1
/-- a new object, at a place where nothing stood -/
theorem inv_laid {X : Cx} {pins : List (Addr × Obj)} {σ : L2.St} {H : Hp} {s : Shared} {h' : Heap} {a : Addr} {o : HO} {t' : Nat} (I : L2.Inv X pins σ H s) (k : ∀ b u, s.heap.get? b = some u → h'.get? b = some u) (hp : ∀ b u, s.heap.get? b = some u → b ≠ a)
    (new : ObjOk X.prog X.w (upd H a o) h' a o) : H a = none ∧ L2.Inv X pins σ (upd H a o) { s with heap := h', toks := t' } := by
  have hn : H a = none := by
    cases q : H a with
    | none => rfl
    | some u =>
      obtain ⟨v, e⟩ := obj_get (I.hok a u q)
      exact absurd rfl (hp a v e)
  have far : ∀ {b : Addr} {u : HO}, H b = some u → upd H a o b = some u := fun q => by rw [upd_ne (ne_of_none q hn)]; exact q
  refine ⟨hn, I.un { keep := fun b u q _ _ _ => k b u q, slot := fun b u q _ _ _ => ⟨u.slots, k b u q⟩, free := fun b u q n _ => by rw [upd_ne (hp b u q)]; exact n, there := fun b u q _ => ⟨u, k b u q⟩, tups := fun b xs q => far q, frzs := fun b u xs q => far q, tbls := fun b ps q => ⟨#[], by rw [far q]; simp⟩ } ?_⟩
  intro b u e
  by_cases hb : b = a
  · subst hb
    rw [upd_same] at e
    cases e
    exact new
  · rw [upd_ne hb] at e
    exact (I.hok b u e).stay (fun c v _ q => k c v q) (fun c q => far q) fun c xs q => far q
def gStar2 (K : PySem.W.Frag) (t : TGs) : TG := fun v σ H R => ∃ a x xs, v = .ref a ∧ SqL K H a (x :: xs) ∧ xs.length ≤ 1000000 ∧ ∀ p, H p = none → t [x, .ref p] σ (upd H p (.lst xs)) R
section
variable {X : Cx} {Z : ZT} {A : List SD} {e a b : Expr} {es : List Expr} {pos : Pos}
theorem pg_star2 {k : Nat} {sp : Pos} {t : TGs} [c : Cok X] (h : PGs X [a, b] t) (hm : (assignEach [a, .Starred b sp] X.env).map (·.2) = (assignEach [a, b] X.env).map (·.2) := by kernel_rfl) (hl : (assignEach [a, .Starred b sp] X.env).length = 2 := by kernel_rfl)
    (hi : (assignEach [a, .Starred b sp] X.env).findIdx? (·.1) = some 1 := by kernel_rfl) : PG X (.Tuple [a, .Starred b sp] k pos) (gStar2 X.K t) := by
  constructor
  rintro pins s σ H v u R I ru ⟨l, x, xs, rfl, hS, hz, q⟩
  cases ru
  obtain ⟨its, rv, pl, _⟩ := I.list hS
  cases rv with
  | cons r0 rs =>
    rename_i u0 us
    rw [assign_Tuple]
    refine wpAny_bind (wpAny_standAt ?_)
    unfold unpack
    rw [hl, hi, hm]
    refine wpAny_bind (wpAny_holding (star_items (I.ok.hd c.calm) pl.isList (by rw [← rs.length]; exact hz) fun h' tk k => ?_))
    obtain ⟨nf, I2⟩ := inv_laid (o := .lst xs) (t' := tk) I (fun b o q => Heap.get?_push_of_some { cls := .type "list", data := .seq us.toArray } (k b o q)) (fun b o q => Nat.ne_of_lt (Heap.lt_size (k b o q))) ⟨mil hz, us, 0, rs, Heap.get?_push_size _ rfl⟩
    exact h.run pins _ σ _ [x, .ref h'.objs.size] [u0, .ref h'.objs.size] R I2 (.cons r0 (.cons rfl .nil)) (q _ nf)
theorem gx_star2 {k : Nat} {sp : Pos} {vs : Nat → Bool} {d : D} {ds : List D} {Q : List SD → Prop} [c : Cok X] (hz : ds.length ≤ 1000000) (h : GX X Z A a vs d fun A1 => GX X Z A1 b vs (.lst ds) Q)
    (hm : (assignEach [a, .Starred b sp] X.env).map (·.2) = (assignEach [a, b] X.env).map (·.2) := by kernel_rfl) (hl : (assignEach [a, .Starred b sp] X.env).length = 2 := by kernel_rfl)
    (hi : (assignEach [a, .Starred b sp] X.env).findIdx? (·.1) = some 1 := by kernel_rfl) (h1 : (assignEach [a, b] X.env).map (·.2) = assign a X.env :: (assignEach [b] X.env).map (·.2) := by kernel_rfl) (h2 : (assignEach [b] X.env).map (·.2) = assign b X.env :: (assignEach [] X.env).map (·.2) := by kernel_rfl) :
    GX X Z A (.Tuple [a, .Starred b sp] k pos) vs (.lst (d :: ds)) Q := fun Hf H σ v rel xo hd R kk => by
  obtain ⟨l, xs, rfl, g1, g2⟩ := ds_lst hd
  cases g2 with
  | cons r0 rs =>
    refine ⟨_, pg_star2 (pgs_cons wg (pgs_cons wg pgs_nil h2) h1) hm hl hi, l, _, _, rfl, .inl (.inl (rel.sm _ _ g1)), by rw [rs.length]; exact hz, fun p hp => ?_⟩
    obtain ⟨r1, f1⟩ := rel.newF (o := .lst _) hp
    exact ⟨_, _, rfl, h _ _ σ _ r1 (xo.step f1) (r0.mono f1.ef) _ fun A1 σ1 Hf1 H1 q1 r2 f2 u2 l2 => ⟨_, _, rfl, q1 Hf1 H1 σ1 _ r2 (xo.step (f1.trans f2)) (.lst (f2.ef _ _ upd_same) ((rs.mono f1.ef).mono f2.ef)) _ fun A2 σ2 Hf2 H2 q2 r3 f3 u3 l3 =>
      ⟨rfl, kk _ _ _ _ q2 r3 (f1.trans (f2.trans f3)) (fun j hj => (u3 j hj).trans (u2 j hj)) (l3.trans l2)⟩⟩⟩
end

/-! ### any, all of numbers and truths, in lists and tuples -/
def tru1 : V → Option Bool
  | .bl b => some b
  | .int i => some (i != 0)
  | .non => some false
  | _ => none
theorem tru_items {prog : Program} {w : World} {A : Around} {xs : List V} {its : List Value} {bs : List Bool} (r : Vals xs its) (h : xs.map tru1 = bs.map some) : TruthOf prog w A (fun i v => its.toArray[i]? = some v) (fun i => bs.getD i false) := by
  intro i v s Q E hv hq
  have hv' : its[i]? = some v := by simpa using hv
  obtain ⟨x, hx, rx⟩ : ∃ x, xs[i]? = some x ∧ RelV x v := by
    have lx : i < xs.length := by rw [r.length]; exact (List.getElem?_eq_some_iff.mp hv').1
    obtain ⟨u, hu, ru⟩ := r.get (List.getElem?_eq_getElem lx)
    rw [hv'] at hu
    cases hu
    exact ⟨_, List.getElem?_eq_getElem lx, ru⟩
  have e : (xs.map tru1)[i]? = (bs.map some)[i]? := by rw [h]
  rw [List.getElem?_map, List.getElem?_map, hx] at e
  obtain ⟨b, hb, eb⟩ := Option.map_eq_some_iff.mp e.symm
  have hq : Q b s := by
    have q : Q (bs.getD i false) s := hq
    rw [List.getD_eq_getElem?_getD, hb] at q
    exact q
  cases x with
  | bl k =>
    cases rx
    cases eb
    exact wpAny_truthy_bool hq
  | int k =>
    obtain ⟨t, rfl⟩ := rx
    cases eb
    exact PySem.P.truthy_int hq
  | non =>
    cases rx
    cases eb
    exact truthy_none hq
  | _ => cases eb
def rQuant (K : PySem.W.Frag) (f : List Bool → Bool) : List V → Hp → VK → Prop := fun vs H R => ∃ (a : Addr) (xs : List V) (bs : List Bool), vs = [.ref a] ∧ (SqL K H a xs ∨ SqT K H a xs) ∧ xs.map tru1 = bs.map some ∧ R (.bl (f bs)) H
theorem quant_ok {X : Cx} [c : Cok X] {id : String} {f : List Bool → Bool} {g : List Nat → (Nat → Bool) → Bool} (hf : ∀ bs : List Bool, g (List.range bs.length) (fun i => bs.getD i false) = f bs)
    (rule : ∀ {prog : Program} {w : World} {A : Around} {E : Value → Shared → Prop} {s : Shared} {x : Value} {Q : Value → Shared → Prop}, wpAny (model prog w) A.in1 (pyIter x) (fun it s₂ => ∃ I fp wr n P St tr, it = .ref I ∧ Walks prog w A.in1 I fp wr n P St ∧ St 0 s₂.heap ∧ TruthOf prog w A.in1 P tr ∧
      ∀ h' tk, (∀ b o, b ∉ wr → s₂.heap.get? b = some o → h'.get? b = some o) → Q (.bool (g (List.range n) tr)) { s₂ with heap := h', toks := tk }) E s → wpAny (model prog w) A (call (.builtin id) [x]) Q E s) : CallR X (.builtin id) (rQuant X.K f) := by
  rintro pins s σ H vs us R I r ⟨a, xs, bs, rfl, hS, hb, q⟩
  rw [Vals.ref1 r]
  have hlen : xs.length = bs.length := by have := congrArg List.length hb; simpa using this
  have old : ∀ (o : Obj) (h' : Heap), (∀ b u, b ∉ [s.heap.objs.size] → (s.heap.push o).get? b = some u → h'.get? b = some u) → ∀ b u, s.heap.get? b = some u → h'.get? b = some u := by
    intro o h' k b u hu
    refine k b u (fun hm => ?_) (Heap.get?_push_of_some _ hu)
    rw [List.mem_singleton.mp hm] at hu
    exact Nat.lt_irrefl _ (Heap.lt_size hu)
  rcases hS with hS | hS
  · obtain ⟨its, rv, pl, _⟩ := I.list hS
    have hlt : a ≠ s.heap.objs.size := let ⟨_, e, _⟩ := pl.isList; Nat.ne_of_lt (Heap.lt_size e)
    refine rule (wpAny_pyIter_list pl.isList ⟨_, _, _, _, _, _, _, rfl, Walks.list (A := X.A.in1) (I.ok.hd c.calm) _ a hlt its.toArray, ⟨⟨_, Heap.get?_push_size _ rfl, rfl, rfl⟩, pl.isList.push _⟩, tru_items rv hb, ?_⟩)
    intro h' tk k
    refine ⟨.bl (f bs), H, I.kept (old _ h' k), ?_, q⟩
    show Value.bool _ = Value.bool _
    rw [List.size_toArray, ← rv.length, hlen, hf]
  · obtain ⟨its, rv, pl, _⟩ := I.tuple hS
    have it : s.heap.IsTuple a its.toArray := pl
    have hlt : a ≠ s.heap.objs.size := let ⟨_, e, _⟩ := it; Nat.ne_of_lt (Heap.lt_size e)
    refine rule (wpAny_pyIter_tuple it ⟨_, _, _, _, _, _, _, rfl, Walks.tuple (A := X.A.in1) (I.ok.hd c.calm) _ a hlt its.toArray, ⟨⟨_, Heap.get?_push_size _ rfl, rfl, rfl⟩, it.push _⟩, tru_items rv hb, ?_⟩)
    intro h' tk k
    refine ⟨.bl (f bs), H, I.kept (old _ h' k), ?_, q⟩
    show Value.bool _ = Value.bool _
    rw [List.size_toArray, ← rv.length, hlen, hf]
theorem cr_anyQ {X : Cx} [c : Cok X] : CallR X (.builtin "any") (rQuant X.K fun bs => bs.any id) := quant_ok (g := fun l t => l.any t) any_range fun h => call_any_walk h
theorem cr_allQ {X : Cx} [c : Cok X] : CallR X (.builtin "all") (rQuant X.K fun bs => bs.all id) := quant_ok (g := fun l t => l.all t) all_range fun h => call_all_walk h
theorem tru_ints {K : PySem.W.Frag} {Hf : Hp} {xs : List V} {α : Type} {zs : List α} {f : α → Int} (h : DsL K Hf xs (zs.map fun z => .int (f z))) : xs.map tru1 = (zs.map fun z => f z != 0).map some := by
  have e : (zs.map fun z => D.int (f z)) = (zs.map f).map D.int := by rw [List.map_map]; rfl
  rw [e] at h
  rw [h.ints, List.map_map, List.map_map, List.map_map]
  rfl
section
variable {X : Cx} {A : List SD} {Q : SD → List SD → Prop}
theorem cq_anyI {l : Bool} {α : Type} {zs : List α} {f : α → Int} [c : Cok X] (q : Q (.dat (.bl (zs.any fun z => f z != 0))) A) : CQ X A (.builtin "any") l (zs.map fun z => .int (f z)) Q := fun Hf H σ rel v h R k => by
  have e : (fun bs : List Bool => bs.any id) (zs.map fun z => f z != 0) = zs.any fun z => f z != 0 := by show (zs.map fun z => f z != 0).any id = _; rw [List.any_map]; rfl
  cases l with
  | true =>
    obtain ⟨a, xs, rfl, h1, h2⟩ := h.l
    exact ⟨_, cr_anyQ, a, xs, _, rfl, .inl h1, tru_ints h2, by rw [e]; exact fin_d rel q (.bl _) k⟩
  | false =>
    obtain ⟨a, xs, rfl, h1, h2⟩ := h.t
    exact ⟨_, cr_anyQ, a, xs, _, rfl, .inr (seqT rel.sm h1), tru_ints h2, by rw [e]; exact fin_d rel q (.bl _) k⟩
theorem cq_allI {l : Bool} {α : Type} {zs : List α} {f : α → Int} [c : Cok X] (q : Q (.dat (.bl (zs.all fun z => f z != 0))) A) : CQ X A (.builtin "all") l (zs.map fun z => .int (f z)) Q := fun Hf H σ rel v h R k => by
  have e : (fun bs : List Bool => bs.all id) (zs.map fun z => f z != 0) = zs.all fun z => f z != 0 := by show (zs.map fun z => f z != 0).all id = _; rw [List.all_map]; rfl
  cases l with
  | true =>
    obtain ⟨a, xs, rfl, h1, h2⟩ := h.l
    exact ⟨_, cr_allQ, a, xs, _, rfl, .inl h1, tru_ints h2, by rw [e]; exact fin_d rel q (.bl _) k⟩
  | false =>
    obtain ⟨a, xs, rfl, h1, h2⟩ := h.t
    exact ⟨_, cr_allQ, a, xs, _, rfl, .inr (seqT rel.sm h1), tru_ints h2, by rw [e]; exact fin_d rel q (.bl _) k⟩

/-! ### isinstance -/
inductive TyD : D → String → Prop
  | non : TyD .non "NoneType"
  | bl (b : Bool) : TyD (.bl b) "bool"
  | int (i : Int) : TyD (.int i) "int"
  | str (x : Str) : TyD (.str x) "str"
  | lst (ds : List D) : TyD (.lst ds) "list"
  | tup (ds : List D) : TyD (.tup ds) "tuple"
theorem TyD.ok {K : PySem.W.Frag} {Hf H : Hp} {d : D} {T : String} {v : V} (t : TyD d T) (sm : Same Hf H) (h : Ds K Hf v d) : TyX K H v (.type T) := by
  cases t with
  | non => cases h; exact .base .non
  | bl b => cases h; exact .base (.bl b)
  | int i => cases h; exact .base (.int i)
  | str x => cases h; exact .base (.str x)
  | lst ds =>
    obtain ⟨a, xs, rfl, h1, _⟩ := ds_lst h
    exact .base (.lst (sm _ _ h1))
  | tup ds =>
    obtain ⟨a, xs, rfl, h1, _⟩ := ds_tup h
    rcases seqT sm h1 with (h1 | ⟨o, h1⟩) | ⟨o, its, n, h1, h2, _⟩
    · exact .base (.tup h1)
    · exact .fTuple h1
    · exact .kTuple h1 h2
theorem cs_isi {d : D} {T c : String} {b : Bool} (t : TyD d T) (h : kitB T c = some b) (q : Q (.dat (.bl b)) A) : CS X A (.builtin "isinstance") [d, .ty c] Q := fun Hf H σ rel vs hv R k => by
  obtain ⟨v, u, rfl, h1, h2⟩ := dsl2 hv
  cases ds_ty h2
  exact ⟨_, call_isi, v, .ty c, .type T, .type c, b, rfl, .ty c, t.ok rel.sm h1, kit_ty h, fin_d rel q (.bl _) k⟩
/-- of a tuple of built-in classes -/
def kitAnyB (T : String) : List String → Option Bool
  | [] => some false
  | c :: cs => match kitB T c with
    | some true => some true
    | some false => kitAnyB T cs
    | none => none
theorem kitAny_ok {K : PySem.W.Frag} {T : String} : ∀ {cs : List String} {b : Bool}, kitAnyB T cs = some b → PySem.W.kitAny K (.type T) (cs.map Value.type) = some b
  | [], b, h => by cases h; rfl
  | c :: cs, b, h => by
    unfold kitAnyB at h
    cases hc : kitB T c with
    | none => rw [hc] at h; cases h
    | some x =>
      rw [hc] at h
      cases x with
      | true => cases h; exact kitAny_cons (kit_ty hc) (fun z => by cases z) fun _ => rfl
      | false => exact kitAny_cons (kit_ty hc) (fun _ => kitAny_ok h) fun z => by cases z
/-- isinstance(x, (c, ..)), the tuple of classes laid on the way: its own rule, for the tuple must be H's own -/
theorem ex_isiT {Z : ZT} {a : Expr} {es : List Expr} {p p2 pos : Pos} {k : Nat} {cs : List String} [c : Cok X] (h : ED X Z A a fun d A1 => EA X Z A1 es fun ds A2 => ∃ T b, ds = cs.map .ty ∧ TyD d T ∧ kitAnyB T cs = some b ∧ Q (.dat (.bl b)) A2) (hz : cs.length ≤ 1000000)
    (hg : Gl X "isinstance" := by exact gl_of (by kernel_rfl)) (h1 : starEach [a, .Tuple es k p2] X.env = (false, eval a X.env) :: starEach [.Tuple es k p2] X.env := by kernel_rfl) (h2 : starEach [.Tuple es k p2] X.env = [(false, eval (.Tuple es k p2) X.env)] := by kernel_rfl)
    (hpl : (backTo pos (starEach [.Tuple es k p2] X.env)).any (·.1) = false := by kernel_rfl) : EX X Z A (.Call (.Name "isinstance" p) [a, .Tuple es k p2] [] pos) Q := fun Hf H σ rel xo R kk => by
  refine ⟨_, pe_callB call_isiT hg (c.no _ (by decide)) (by kernel_rfl) (pa_cons we (pa_cons (pe_tup wa) pa_nil h2) h1) (by decide) (by kernel_rfl) h1 hpl, h Hf H σ rel xo _ fun d A1 v Hf1 H1 q1 r1 s1 f1 => q1 Hf1 H1 σ r1 (xo.step f1) _ fun ds A2 vs Hf2 H2 ⟨T, b, e, t, hb, q⟩ r2 s2 f2 => ?_⟩
  have hl : vs.length = cs.length := by rw [s2.length, e, List.length_map]
  refine ⟨by rw [hl]; exact mil hz, fun p hp => ?_⟩
  obtain ⟨r3, f3⟩ := r2.newF (o := .tup vs) hp
  have cls : ∀ {vs : List V} {cs : List String}, DsL X.K Hf2 vs (cs.map .ty) → Paired ClsV vs (cs.map Value.type) := by
    intro vs cs h
    induction cs generalizing vs with
    | nil => cases h; exact .nil
    | cons c cs ih => cases h with
      | cons a b => cases ds_ty a; exact .cons (.ty c) (ih b)
  subst e
  exact ⟨v, p, vs, .type T, cs.map Value.type, b, rfl, upd_same, cls s2, t.ok r3.sm ((s1.mono f2.ef).mono f3.ef), kitAny_ok hb, fin_d r3 q (.bl _) fun r A' v Hf' H' q r4 f4 => kk r A' v Hf' H' q r4 (((f1.trans f2).trans f3).trans f4)⟩
end
end Y

namespace Y
open PySem L2 PySem.Spec
open PyProof.Rows hiding St

/-! ### xs.append(e), xs.extend(e), xs an owned list -/
section
variable {X : Cx} {Z : ZT} {A : List SD} {e a b : Expr} {es : List Expr} {pos apos spos : Pos} {E : AE}
theorem sx_app (i : Nat) {y : Str} {py : Pos} {p : Addr} {o : OD} (hA : A[i]? = some (.own p o)) (h : ED X Z A e fun d A1 => ∃ p ds, A1[i]? = some (.own p (.lst ds)) ∧ ds.length < 1000000 ∧ E.nx (A1.set i (.own p (.lst (ds ++ [d])))))
    (hN : X.N[i]? = some y := by kernel_rfl) (hv : Vis X.env.scope y := by exact vis_of (by kernel_rfl)) (hdy : (y == ("__debug__" : Str)) = false := by kernel_rfl) (hcd : (y == ("__classdict__" : Str)) = false := by kernel_rfl)
    (hbase : attributeBase (.Name y py) "append" X.env (eval (.Name y py) X.env) = eval (.Name y py) X.env := by kernel_rfl)
    (hfew : ((backTo pos (starEach [e] X.env)).all (fun x => !x.1) && (backToKw pos (keywordEach [] X.env)).all (fun x => x.1.isSome) && decide (([e] : List Expr).length + ([] : List Keyword).length + (if ([] : List Keyword).isEmpty then 0 else 1) < 30)) = true := by kernel_rfl)
    (hline : (apos.endLine == pos.line) = true := by kernel_rfl) (hs : starEach [e] X.env = (false, eval e X.env) :: starEach [] X.env := by kernel_rfl) (hplain : (backTo pos (starEach [] X.env)).any (·.1) = false := by kernel_rfl)
    (hsw : swapsWith (.Call (.Attribute (.Name y py) "append" apos) [e] [] pos) none spos.line X.env = pure false := by kernel_rfl) : SX X Z A (.Expr (.Call (.Attribute (.Name y py) "append" apos) [e] [] pos) spos) E := fun Hf H σ rel xo D k => by
  obtain ⟨ov, g1, g2, g3, g4⟩ := Paired.at rel.al hA
  have hr := rel.ref hA
  have ty : tyV X.K "list" (.ref p) H := by
    cases o with
    | lst ds => obtain ⟨xs, q, _⟩ := g4; exact .inl ⟨rfl, _, .inl (.inl q)⟩
  refine ⟨_, ps_expr (pe_bm PySem.F.plainAttrs_list PySem.F.slot_list_append PySem.F.type_list_append mt_append (pe_var hN hv hdy hcd) (pa_cons we pa_nil hs) hbase hfew hline hs hplain) hsw, _, hr, ty, h Hf H σ rel xo _ fun d A1 v Hf1 H1 ⟨q, ds, hA1, hz, nx⟩ r1 s1 f1 => ?_⟩
  have hr1 := r1.ref hA1
  rw [hr] at hr1
  cases hr1
  obtain ⟨xs, h3, h4⟩ := r1.olst hA1
  obtain ⟨r2, f2⟩ := r1.upd (u := .lst (xs ++ [v])) (o2 := .lst (ds ++ [d])) hA1 ⟨_, upd_same, h4.append (.cons s1 .nil)⟩
  exact ⟨p, xs, v, rfl, rfl, h3, by rw [h4.length]; exact Nat.lt_of_lt_of_le hz (by decide), k.nx _ _ _ _ nx r2 (f1.trans f2)⟩
theorem sx_ext (i : Nat) {y : Str} {py : Pos} {p : Addr} {o : OD} (hA : A[i]? = some (.own p o)) (h : ED X Z A e fun d A1 => ∃ p ds es, d = .lst es ∧ A1[i]? = some (.own p (.lst ds)) ∧ ds.length + es.length ≤ 1000000 ∧ E.nx (A1.set i (.own p (.lst (ds ++ es)))))
    (hN : X.N[i]? = some y := by kernel_rfl) (hv : Vis X.env.scope y := by exact vis_of (by kernel_rfl)) (hdy : (y == ("__debug__" : Str)) = false := by kernel_rfl) (hcd : (y == ("__classdict__" : Str)) = false := by kernel_rfl)
    (hbase : attributeBase (.Name y py) "extend" X.env (eval (.Name y py) X.env) = eval (.Name y py) X.env := by kernel_rfl)
    (hfew : ((backTo pos (starEach [e] X.env)).all (fun x => !x.1) && (backToKw pos (keywordEach [] X.env)).all (fun x => x.1.isSome) && decide (([e] : List Expr).length + ([] : List Keyword).length + (if ([] : List Keyword).isEmpty then 0 else 1) < 30)) = true := by kernel_rfl)
    (hline : (apos.endLine == pos.line) = true := by kernel_rfl) (hs : starEach [e] X.env = (false, eval e X.env) :: starEach [] X.env := by kernel_rfl) (hplain : (backTo pos (starEach [] X.env)).any (·.1) = false := by kernel_rfl)
    (hsw : swapsWith (.Call (.Attribute (.Name y py) "extend" apos) [e] [] pos) none spos.line X.env = pure false := by kernel_rfl) : SX X Z A (.Expr (.Call (.Attribute (.Name y py) "extend" apos) [e] [] pos) spos) E := fun Hf H σ rel xo D k => by
  obtain ⟨ov, g1, g2, g3, g4⟩ := Paired.at rel.al hA
  have hr := rel.ref hA
  have ty : tyV X.K "list" (.ref p) H := by
    cases o with
    | lst ds => obtain ⟨xs, q, _⟩ := g4; exact .inl ⟨rfl, _, .inl (.inl q)⟩
  refine ⟨_, ps_expr (pe_bm PySem.F.plainAttrs_list PySem.F.slot_list_extend PySem.F.type_list_extend mt_extend (pe_var hN hv hdy hcd) (pa_cons we pa_nil hs) hbase hfew hline hs hplain) hsw, _, hr, ty, h Hf H σ rel xo _ fun d A1 v Hf1 H1 ⟨q, ds, gs, e, hA1, hz, nx⟩ r1 s1 f1 => ?_⟩
  subst e
  have hr1 := r1.ref hA1
  rw [hr] at hr1
  cases hr1
  obtain ⟨b, ys, rfl, h5, h6⟩ := ds_lst s1
  obtain ⟨xs, h3, h4⟩ := r1.olst hA1
  obtain ⟨r2, f2⟩ := r1.upd (u := .lst (xs ++ ys)) (o2 := .lst (ds ++ gs)) hA1 ⟨_, upd_same, h4.append h6⟩
  exact ⟨p, b, xs, ys, rfl, rfl, h3, r1.sm _ _ h5, by rw [h4.length, h6.length]; exact mil hz, k.nx _ _ _ _ nx r2 (f1.trans f2)⟩

/-! ### slices -/
def PX (X : Cx) (Z : ZT) (A : List SD) (e : Option Expr) (Q : Option Int → List SD → Prop) : Prop := match e with
  | none => Q none A
  | some e => ED X Z A e fun d A1 => ∃ i, d = .int i ∧ Q (some i) A1
def cutD (ds : List D) (lo hi : Option Int) : List D := (ds.drop (HT.sIx ds.length 0 lo)).take (HT.sIx ds.length ds.length hi - HT.sIx ds.length 0 lo)
theorem dsl_cut {K : PySem.W.Frag} {Hf : Hp} {xs : List V} {ds : List D} (h : DsL K Hf xs ds) (lo hi : Option Int) : DsL K Hf (cutV xs lo hi) (cutD ds lo hi) := by
  unfold cutV cutD
  rw [h.length]
  exact (h.drop _).take _
theorem po_run {Q : Option Int → List SD → Prop} {lo : Option Expr} (h : PX X Z A lo Q) : ∃ t : TO, PO X lo t ∧ ∀ Hf H σ, Rel X.K Hf H σ A → XOk X Z (owns A) Hf H → ∀ R : Option Int → Hp → Prop, (∀ i A' Hf' H', Q i A' → Rel X.K Hf' H' σ A' → Fr (owns A) Hf H (owns A') Hf' H' → R i H') → t σ H R := by
  cases lo with
  | none => exact ⟨_, po_none, fun Hf H σ rel xo R k => k _ _ _ _ h rel (Fr.refl _ _ _)⟩
  | some e => exact ⟨_, po_some we, fun Hf H σ rel xo R k => h Hf H σ rel xo _ fun d A1 v Hf1 H1 ⟨i, e, q⟩ r1 s1 f1 => by subst e; exact ⟨i, ds_int s1, k _ _ _ _ q r1 f1⟩⟩
def WPO (X : Cx) (e : Option Expr) : TO := fun σ H R => ∃ t, PO X e t ∧ t σ H R
theorem wpo {e : Option Expr} : PO X e (WPO X e) := by
  constructor
  intro pins s σ H Q I h
  obtain ⟨t, ht, h⟩ := h
  exact ht.run pins s σ H Q I h
/-- xs[a:b], of a list or a tuple: a new one -/
theorem ex_slL {lo hi : Option Expr} {p2 : Pos} {Q : SD → List SD → Prop} (h : ED X Z A e fun d A1 => ∃ ds, d = .lst ds ∧ PX X Z A1 lo fun i A2 => PX X Z A2 hi fun j A3 => ∀ p, Q (.own p (.lst (cutD ds i j))) A3) : EX X Z A (.Subscript e (.Slice lo hi none p2) pos) Q := fun Hf H σ rel xo R k =>
  ⟨_, pe_slice sl_list we wpo wpo, h Hf H σ rel xo _ fun d A1 v Hf1 H1 ⟨ds, e, hp⟩ r1 s1 f1 => by
    subst e
    obtain ⟨t1, ht1, run1⟩ := po_run hp
    refine ⟨t1, ht1, run1 Hf1 H1 σ r1 (xo.step f1) _ fun i A2 Hf2 H2 q2 r2 f2 => ?_⟩
    obtain ⟨t2, ht2, run2⟩ := po_run q2
    refine ⟨t2, ht2, run2 Hf2 H2 σ r2 (xo.step (f1.trans f2)) _ fun j A3 Hf3 H3 q3 r3 f3 => ?_⟩
    obtain ⟨a, xs, rfl, h1, h2⟩ := ds_lst s1
    have ff := f2.ef.trans f3.ef
    exact ⟨a, xs, rfl, .inl (.inl (r3.sm _ _ (ff _ _ h1))), fun p hp => fin_l r3 hp q3 (dsl_cut (h2.mono ff) i j) fun r A' v Hf' H' q r4 f4 => k _ _ _ _ _ q r4 (((f1.trans f2).trans f3).trans f4)⟩⟩
theorem ex_revL {kk : Nat} {p1 p2 p3 : Pos} {Q : SD → List SD → Prop} (h : ES X Z A e fun l ds A1 => l = true ∧ ∀ p, Q (.own p (.lst ds.reverse)) A1) : EX X Z A (.Subscript e (.Slice none none (some (.UnaryOp .USub (.Constant (.int 1) kk p1) p2)) p3) pos) Q := fun Hf H σ rel xo R k =>
  ⟨_, pe_revL we, h Hf H σ rel xo _ fun l ds A1 v Hf1 H1 ⟨e, q⟩ r1 s1 f1 => by
    subst e
    obtain ⟨a, xs, rfl, h1, h2⟩ := s1.l
    exact ⟨a, xs, rfl, h1, fun p hp => fin_l r1 hp q h2.reverse fun r A' v Hf' H' q r4 f4 => k _ _ _ _ _ q r4 (f1.trans f4)⟩⟩

/-! ### f(e, k = v) -/
def pick {α : Type} (perm : List Nat) (l : List α) : List α := perm.filterMap fun i => l[i]?
theorem pick_paired {α β : Type} {G : α → β → Prop} {l₁ : List α} {l₂ : List β} (h : Paired G l₁ l₂) : ∀ perm, Paired G (pick perm l₁) (pick perm l₂)
  | [] => .nil
  | i :: perm => by
    have ih := pick_paired h perm
    unfold pick at ih ⊢
    rw [List.filterMap_cons, List.filterMap_cons]
    have hl := Paired.length h
    cases h2 : l₂[i]? with
    | none =>
      have : l₁[i]? = none := List.getElem?_eq_none (by rw [hl]; exact List.getElem?_eq_none_iff.mp h2)
      rw [this]
      exact ih
    | some b =>
      obtain ⟨a, h1, g⟩ := Paired.at h h2
      rw [h1]
      exact .cons g ih
theorem dsl_paired {K : PySem.W.Frag} {Hf : Hp} : ∀ {vs : List V} {ds : List D}, DsL K Hf vs ds → Paired (Ds K Hf) vs ds
  | _, _, .nil => .nil
  | _, _, .cons a b => .cons a (dsl_paired b)
theorem paired_dsl {K : PySem.W.Frag} {Hf : Hp} : ∀ {vs : List V} {ds : List D}, Paired (Ds K Hf) vs ds → DsL K Hf vs ds
  | _, _, .nil => .nil
  | _, _, .cons a b => .cons a (paired_dsl b)
def WK (X : Cx) (kws : List Keyword) : TA := fun σ H R => ∃ t, PK X kws t ∧ t σ H R
theorem wk {kws : List Keyword} : PK X kws (WK X kws) := ⟨fun p pins s σ H Q I h => let ⟨_, ht, h⟩ := h; ht.run p pins s σ H Q I h⟩
def EK (X : Cx) (Z : ZT) (A : List SD) (kws : List Keyword) (Q : List D → List SD → Prop) : Prop :=
  ∀ Hf H σ, Rel X.K Hf H σ A → XOk X Z (owns A) Hf H → ∀ R : List V → Hp → Prop, (∀ ds A' vs Hf' H', Q ds A' → Rel X.K Hf' H' σ A' → DsL X.K Hf' vs ds → Fr (owns A) Hf H (owns A') Hf' H' → R vs H') → WK X kws σ H R
theorem ek_nil {Q : List D → List SD → Prop} (q : Q [] A) : EK X Z A [] Q := fun Hf H σ rel xo R k => ⟨_, pk_nil, k _ _ _ _ _ q rel .nil (Fr.refl _ _ _)⟩
theorem ek_cons {nm : Option Str} {kp : Pos} {kws : List Keyword} {Q : List D → List SD → Prop} (h : ED X Z A e fun d A1 => EK X Z A1 kws fun ds A2 => Q (d :: ds) A2) : EK X Z A (⟨nm, e, kp⟩ :: kws) Q := fun Hf H σ rel xo R k =>
  ⟨_, pk_cons we wk, h Hf H σ rel xo _ fun d A1 v Hf1 H1 h1 r1 s1 f1 => h1 Hf1 H1 σ r1 (xo.step f1) _ fun ds A2 vs Hf2 H2 q2 r2 s2 f2 => k _ _ _ _ _ q2 r2 (.cons (s1.mono f2.ef) s2) (f1.trans f2)⟩
abbrev BndK (st : Stmt) (qual : Str) (ps : List Str) (n : Nat) (ks : List Str) (perm : List Nat) : Prop := ∀ (kV doc pm : Value) (an : Option Addr) (cdv ct : Value) (us ws : List Value), us.length = n → ws.length = ks.length →
  bindArgs (PySem.W.fnOf qual qual (defArgs st) (defBody st) (defScope st) .none kV doc pm an cdv ct) ⟨us, ks.zip ws⟩ = pure (ps.zip (pick perm (us ++ ws)))
variable {k n : Nat} {ps ks : List Str} {perm : List Nat} {S : FSp} {x qual : Str} {st : Stmt} {p : Pos} {kws : List Keyword} {Q : SD → List SD → Prop}
/-- what follows the arguments of a call, all data -/
theorem call_end {f : Addr} {fd : FuncData} {W : L2.WX} {σ : St} {Hf H : Hp} {R : VK} {vs : List V} {ds : List D} (rel : Rel X.K Hf H σ A) (hv : DsL X.K Hf vs ds) (hS : S (ds.map .dat) (fun r _ => Q r A) (fun c fs _ => Z c fs A))
    (kk : ∀ r A' v Hf' H', Q r A' → Rel X.K Hf' H' (some v :: σ) (r :: A') → Fr (owns A) Hf H (owns (r :: A')) Hf' H' → R v H')
    (kz : ∀ c fs A' d σ' Hf' H', Z c fs A' → Rel X.K Hf' H' σ' A' → XD X.K Hf' d fs → Fr (owns A) Hf H (owns A') Hf' H' → W c d σ' H') : SpOf X.K S vs H R (fun c d H2 => W c d σ H2) := by
  obtain ⟨rv, ro⟩ := dats_rel rel.sm hv
  refine ⟨Hf, _, _, _, rv, hS, ?_, ?_⟩
  · intro r A' v Hf' H' q r2 f2
    rw [ro] at f2
    refine kk r A v Hf' H' q ((rel.through f2 r2.sm).cons r2.head fun p o z hp => ?_) (f2.wide fun p hp => ?_)
    · subst z
      rcases f2.gr p List.mem_cons_self with z | z
      · cases z
      · exact rel.there hp z
    · exact (own_head p hp).imp id fun ⟨o, e⟩ => by subst e; exact List.mem_cons_self
  · intro c fs A' d Hf' H' z r2 xd f2
    rw [ro] at f2
    exact kz c fs A d σ Hf' H' z (rel.through f2 r2.sm) xd (f2.wide fun p hp => .inl hp)
theorem run_k {f : Addr} {fd : FuncData} {sp : Sp} {W : L2.WX} {pins : List (Addr × Obj)} {σ : St} {H : Hp} {s : Shared} {R : VK} {us ws : List Value} {vs zs : List V} (G : GOk X.prog X.w X.K X.mg X.base k f fd ps sp) (g : Good k X.A) (F : Fun X.K qual qual st f fd) (hb : BndK st qual ps n ks perm) (I : L2.Inv X pins σ H s)
    (r : Vals vs us) (rz : Vals zs ws) (hn : vs.length = n) (hk : zs.length = ks.length) (tk : Takes X W) (h : sp (pick perm (vs ++ zs)) H R fun c d H2 => W c d σ H2) : wpAny (model X.prog X.w) X.A (call (.ref f) us (ks.zip ws)) (EP X pins σ R) X.xe s := by
  have bt : BindsTo s fd ⟨us, ks.zip ws⟩ (ps.zip (pick perm (us ++ ws))) := by
    obtain ⟨oc, od, kV, doc, pm, an, cdv, ct, osl, rfl, _, _⟩ := F.ex
    exact .of_eq (hb kV doc pm an cdv ct us ws (r.length.symm.trans hn) (rz.length.symm.trans hk))
  refine wpAny_call (codeAny_mono (run_g G g I bt (pick_paired (Paired.app r rz) perm) tk (fun _ _ _ h => h) h) ?_)
  intro r s' hr
  match r, hr with
  | .error e, hr => exact hr
  | .ok (.ret u), hr => exact hr
  | .ok .next, hr => exact hr.elim
  | .ok .brk, hr => exact hr.elim
  | .ok .cont, hr => exact hr.elim
theorem ex_callK (perm : List Nat) (ks : List Str) (F : Fn X.prog X.w X.K X.mg X.base k x qual st ps S) (g : Good k X.A) (hb : BndK st qual ps n ks perm) (h : EA X Z A (e :: es) fun ds A1 => EK X Z A1 kws fun zs A2 => ds.length = n ∧ zs.length = ks.length ∧ S ((pick perm (ds ++ zs)).map .dat) (fun r _ => Q r A2) (fun c fs _ => Z c fs A2))
    (hks : (backToKw pos (keywordEach kws X.env)).filterMap (·.1) = ks := by kernel_rfl) (hall : (backToKw pos (keywordEach kws X.env)).all (·.1.isSome) = true := by kernel_rfl) (hg : Gl X x := by exact gl_of (by kernel_rfl)) (hdb : (x == ("__debug__" : Str)) = false := by kernel_rfl)
    (he : starEach (e :: es) X.env = (false, eval e X.env) :: starEach es X.env := by kernel_rfl) (hpl : ((backTo pos (starEach (e :: es) X.env)).any (·.1) || (backToKw pos (keywordEach kws X.env)).any (·.1.isNone)) = false := by kernel_rfl) : EX X Z A (.Call (.Name x p) (e :: es) kws pos) Q := by
  obtain ⟨f, fd, hm, F, G⟩ := F.ex
  intro Hf H σ rel xo R kk
  obtain ⟨W, tk, kz⟩ := xo
  have pe : PE X (.Call (.Name x p) (e :: es) kws pos) (fun σ H R => WA X (e :: es) σ H fun vs H1 => WK X kws σ H1 fun zs H2 => vs.length = n ∧ zs.length = ks.length ∧ SpOf X.K S (pick perm (vs ++ zs)) H2 R fun c d H3 => W c d σ H3) := by
    constructor
    intro pins s σ H R I h
    refine wpAny_Call_Name_kw (ld_glob I hg hm ?_ hdb)
    refine PySem.W.callWith_KW (h₀ := X.base) I.ok.mod.kin F.kp hall (thn (wa.run pos pins s σ H _ I h) ?_) hpl he
    rintro us s1 ⟨vs, H1, I1, r, q⟩
    refine thn (wk.run pos pins s1 σ H1 _ I1 q) ?_
    rintro ws s2 ⟨zs, H2, I2, rz, l1, l2, q2⟩
    refine ⟨I2.kIn, ?_⟩
    rw [hks]
    exact run_k G g F hb I2 r rz l1 l2 tk q2
  refine ⟨_, pe, h Hf H σ rel ⟨W, tk, kz⟩ _ ?_⟩
  rintro ds A1 vs Hf1 H1 h1 r1 s1 f1
  refine h1 Hf1 H1 σ r1 ⟨W, tk, fun c fs A' d σ' Hf' H' z r xd f => kz c fs A' d σ' Hf' H' z r xd (f1.trans f)⟩ _ ?_
  rintro zs A2 ws Hf2 H2 ⟨l1, l2, hS⟩ r2 s2 f2
  have f12 := f1.trans f2
  exact ⟨s1.length.trans l1, s2.length.trans l2, call_end (f := f) (fd := fd) r2 (paired_dsl (pick_paired (Paired.app (dsl_paired (s1.mono f2.ef)) (dsl_paired s2)) perm)) hS (fun r A' v Hf' H' q r3 f3 => kk r A' v Hf' H' q r3 (f12.trans f3)) fun c fs A' d σ' Hf' H' z r3 xd f3 => kz c fs A' d σ' Hf' H' z r3 xd (f12.trans f3)⟩
/-- .. none by place -/
theorem ex_callK0 (perm : List Nat) (ks : List Str) (F : Fn X.prog X.w X.K X.mg X.base k x qual st ps S) (g : Good k X.A) (hb : BndK st qual ps 0 ks perm) (h : EK X Z A kws fun zs A2 => zs.length = ks.length ∧ S ((pick perm zs).map .dat) (fun r _ => Q r A2) (fun c fs _ => Z c fs A2))
    (hks : (backToKw pos (keywordEach kws X.env)).filterMap (·.1) = ks := by kernel_rfl) (hall : (backToKw pos (keywordEach kws X.env)).all (·.1.isSome) = true := by kernel_rfl) (hg : Gl X x := by exact gl_of (by kernel_rfl)) (hdb : (x == ("__debug__" : Str)) = false := by kernel_rfl)
    (hpl : ((backTo pos (starEach [] X.env)).any (·.1) || (backToKw pos (keywordEach kws X.env)).any (·.1.isNone)) = false := by kernel_rfl) : EX X Z A (.Call (.Name x p) [] kws pos) Q := by
  obtain ⟨f, fd, hm, F, G⟩ := F.ex
  intro Hf H σ rel xo R kk
  obtain ⟨W, tk, kz⟩ := xo
  have pe : PE X (.Call (.Name x p) [] kws pos) (fun σ H R => WK X kws σ H fun zs H2 => zs.length = ks.length ∧ SpOf X.K S (pick perm zs) H2 R fun c d H3 => W c d σ H3) := by
    constructor
    intro pins s σ H R I h
    refine wpAny_Call_Name_kw (ld_glob I hg hm ?_ hdb)
    refine PySem.W.callWith_KW0 (h₀ := X.base) I.ok.mod.kin F.kp hall (thn (wk.run pos pins s σ H _ I h) ?_) hpl
    rintro ws s2 ⟨zs, H2, I2, rz, l2, q2⟩
    refine ⟨I2.kIn, ?_⟩
    rw [hks]
    exact run_k (vs := []) G g F hb I2 .nil rz rfl l2 tk q2
  refine ⟨_, pe, h Hf H σ rel ⟨W, tk, kz⟩ _ ?_⟩
  rintro zs A2 ws Hf2 H2 ⟨l2, hS⟩ r2 s2 f2
  exact ⟨s2.length.trans l2, call_end (f := f) (fd := fd) r2 (paired_dsl (pick_paired (dsl_paired s2) perm)) hS (fun r A' v Hf' H' q r3 f3 => kk r A' v Hf' H' q r3 (f2.trans f3)) fun c fs A' d σ' Hf' H' z r3 xd f3 => kz c fs A' d σ' Hf' H' z r3 xd (f2.trans f3)⟩
end
end Y

namespace Y
open PySem L2
open PyProof.Rows hiding St

/-! ### zip of a list and a tuple, either way about -/
def sqB (K : PySem.W.Frag) (l : Bool) (H : Hp) (a : Addr) (xs : List V) : Prop := match l with
  | true => SqL K H a xs
  | false => SqT K H a xs
def arB (l : Bool) (h : Heap) (a : Addr) (us : Array Value) : Prop := match l with
  | true => h.IsList a us
  | false => h.IsTuple a us
def itB (l : Bool) (h : Heap) (it a : Addr) (i : Nat) : Prop := match l with
  | true => h.IsListIter it a i
  | false => h.IsTupleIter it a i
theorem drB {P : Program} {w : World} {A : Around} (q : A.handled = none) (l : Bool) (it a : Addr) (n : a ≠ it) (us : Array Value) : Draws P w A it [it, a] us.size (fun i v => us[i]? = some v) fun i h => itB l h it a i ∧ arB l h a us := by
  cases l with
  | true => exact Draws.list q it a n us
  | false => exact Draws.tuple q it a n us
theorem itB_obj {l : Bool} {h : Heap} {it a : Addr} {i : Nat} (q : itB l h it a i) : ∃ o, h.get? it = some o ∧ ∀ v, o.data ≠ .cell v := by
  cases l with
  | true => exact let ⟨o, e, _, d⟩ := q; ⟨o, e, fun v z => by rw [d] at z; cases z⟩
  | false => exact let ⟨o, e, _, d⟩ := q; ⟨o, e, fun v z => by rw [d] at z; cases z⟩
theorem itB_at {l : Bool} {h h' : Heap} {it a : Addr} {i : Nat} (q : itB l h it a i) (k : ∀ o, h.get? it = some o → h'.get? it = some o) : itB l h' it a i := by
  cases l with
  | true => exact q.at k
  | false => exact q.at k
theorem itB_lt {l : Bool} {h : Heap} {it a : Addr} {i : Nat} (q : itB l h it a i) : it < h.objs.size := let ⟨_, e, _⟩ := itB_obj q; Heap.lt_size e
theorem arB_lt {l : Bool} {h : Heap} {a : Addr} {us : Array Value} (q : arB l h a us) : a < h.objs.size := by
  cases l with
  | true => exact let ⟨_, e, _⟩ := q; Heap.lt_size e
  | false => exact let ⟨_, e, _⟩ := q; Heap.lt_size e
theorem sqB_in {X : Cx} {pins : List (Addr × Obj)} {σ : L2.St} {H : Hp} {s : Shared} {l : Bool} {a : Addr} {xs : List V} (I : L2.Inv X pins σ H s) (q : sqB X.K l H a xs) : ∃ us : List Value, Vals xs us ∧ arB l s.heap a us.toArray := by
  cases l with
  | true => exact let ⟨us, r, p, _⟩ := I.list q; ⟨us, r, p.isList⟩
  | false => exact let ⟨us, r, p, _⟩ := I.tuple q; ⟨us, r, p⟩
theorem sqB_inj {X : Cx} {pins : List (Addr × Obj)} {σ : L2.St} {H : Hp} {s : Shared} {l : Bool} {a : Addr} {xs ys : List V} (I : L2.Inv X pins σ H s) (q : sqB X.K l H a xs) (q2 : sqB X.K l H a ys) : xs = ys := by
  cases l with
  | true => exact I.list_inj q q2
  | false => exact I.tuple_inj q q2
theorem sqB_mono {K : PySem.W.Frag} {H H' : Hp} {l : Bool} {a : Addr} {xs : List V} (e : Same H H') (q : sqB K l H a xs) : sqB K l H' a xs := by
  cases l with
  | true => exact e.seq q
  | false => exact seqT e q
def begO (l : Bool) (a : Addr) : Obj := match l with
  | true => { cls := .type "list_iterator", data := .fields #[.ref a, .int 0 0] }
  | false => { cls := .type "tuple_iterator", data := .fields #[.ref a, .int 0 0] }
theorem begB (l : Bool) (a : Addr) (us : Array Value) : Begins (.ref a) (begO l a) fun h => arB l h a us := by
  cases l with
  | true => exact begins_list a us
  | false => exact begins_tuple a us
theorem begB_it {l : Bool} {a it : Addr} {h : Heap} (q : h.get? it = some (begO l a)) : itB l h it a 0 := by
  cases l with
  | true => exact ⟨_, q, rfl, rfl⟩
  | false => exact ⟨_, q, rfl, rfl⟩
theorem vals_back {xs : List V} {us : List Value} {i : Nat} {u : Value} (r : Vals xs us) (h : us[i]? = some u) : ∃ v, xs[i]? = some v ∧ RelV v u := by
  have lt : i < xs.length := by
    rw [r.length]
    exact (List.getElem?_eq_some_iff.mp h).1
  obtain ⟨u2, e, q⟩ := r.get (List.getElem?_eq_getElem lt)
  cases h.symm.trans e
  exact ⟨_, List.getElem?_eq_getElem lt, q⟩
def ItzB (K : PySem.W.Frag) (l m : Bool) (a b : Addr) : It where
  go i H := ∃ xs ys, sqB K l H a xs ∧ sqB K m H b ys ∧ i < xs.length ∧ i < ys.length
  yld i H v H' := ∃ T x y, v = .ref T ∧ H T = none ∧ H' = upd H T (.tup [x, y]) ∧ (∀ xs, sqB K l H a xs → xs[i]? = some x) ∧ ∀ ys, sqB K m H b ys → ys[i]? = some y
  stop i H := ∃ xs ys, sqB K l H a xs ∧ sqB K m H b ys ∧ i ≤ xs.length ∧ i ≤ ys.length ∧ (i = xs.length ∨ i = ys.length)
theorem mem5 {c z a b d e : Addr} (h : c ∈ [z, a, b, d, e]) : c = z ∨ c = a ∨ c = b ∨ c = d ∨ c = e := by simpa using h
theorem sep_of {z TI TO i1 i2 a b : Addr} (D : ZipApart z TI TO i1 i2 a b) : ZipSep2 z TI TO i1 i2 [i1, a] [i2, b] where
  TIz := D.TIz
  TOz := D.TOz
  TITO := D.TITO
  TIi1 := D.TIi1
  TIi2 := D.TIi2
  mem1 := List.mem_cons_self
  mem2 := List.mem_cons_self
  zf1 := by simp [D.i1z.symm, D.l1z.symm]
  zf2 := by simp [D.i2z.symm, D.l2z.symm]
  Tf1 := by simp [D.TOi1, D.l1TO.symm]
  Tf2 := by simp [D.TOi2, D.l2TO.symm]
  sep1_2 := by simp [D.i12, D.l2i1.symm]
  sep2_1 := by simp [D.i12.symm, D.l1i2.symm]
theorem turn_zipB {P : Program} {w : World} {K : PySem.W.Frag} {es : List Expr} {n : Nat} {tp : Pos} {l m : Bool} {a b z TI TO i1 i2 : Addr} (D : ZipApart z TI TO i1 i2 a b) :
    Turn P w K (.Tuple es n tp) (ItzB K l m a b) [z, TI, TO, i1, i2] z fun i h => IsZip h z TI TO .none ∧ IsPair h TI (.ref i1) (.ref i2) ∧ (∃ x y, IsPair h TO x y) ∧ itB l h i1 a i ∧ itB m h i2 b i where
  mem := List.mem_cons_self
  obj := fun i h ⟨q0, q1, ⟨x, y, q2⟩, q3, q4⟩ c hc => by
    rcases mem5 hc with rfl | rfl | rfl | rfl | rfl
    · exact ⟨_, q0, fun v e => by cases e⟩
    · exact ⟨_, q1, fun v e => by cases e⟩
    · exact ⟨_, q2, fun v e => by cases e⟩
    · exact itB_obj q3
    · exact itB_obj q4
  keep := fun i h h' ⟨q0, q1, ⟨x, y, q2⟩, q3, q4⟩ k => ⟨k _ (by simp) _ q0, k _ (by simp) _ q1, ⟨x, y, k _ (by simp) _ q2⟩, itB_at q3 (k i1 (by simp)), itB_at q4 (k i2 (by simp))⟩
  item := by
    rintro X rfl rfl rfl calm i pins s σ H E I free ⟨q0, q1, ⟨x0, y0, q2⟩, q3, q4⟩ ⟨xs, ys, sx, sy, lx, ly⟩
    obtain ⟨us, rx, ax⟩ := sqB_in I sx
    obtain ⟨ws, ry, ay⟩ := sqB_in I sy
    have hh : X.A.in1.handled = none := I.ok.hd calm
    refine wpAny_pyNext_zipD2_item (sep_of D) (drB hh l i1 a D.l1i1 us.toArray) (drB hh m i2 b D.l2i2 ws.toArray) q0 q1 q2 ⟨q3, ax⟩ ⟨q4, ay⟩ (by rw [List.size_toArray, ← rx.length]; exact lx) (by rw [List.size_toArray, ← ry.length]; exact ly) fun x1 x2 h1 tk e1 e2 p0 p2 p3 p4 p5 sz k => ?_
    refine ⟨_, rfl, wpAny_letOwnedTupleGo_zip (s := { s with heap := h1, toks := tk }) p0 fun h2 p0' sb => ?_⟩
    have zl : z < s.heap.objs.size := Heap.lt_size q0
    obtain ⟨v1, g1, r1⟩ := vals_back rx (by simpa using e1)
    obtain ⟨v2, g2, r2⟩ := vals_back ry (by simpa using e2)
    have up : ∀ c o, c ≠ z → c ≠ TO → c ≠ i1 → c ≠ i2 → s.heap.get? c = some o → h2.get? c = some o := fun c o n0 n1 n2 n3 q => (sb.2 c n0).trans (k c o n0 n1 n2 n3 q)
    have laid : ObjOk X.prog X.w (upd H s.heap.objs.size (.tup [v1, v2])) h2 s.heap.objs.size (.tup [v1, v2]) := ⟨(by decide : 2 ≤ sizeLine), [x1, x2], .cons r1 (.cons r2 .nil), _, (sb.2 _ (Nat.ne_of_gt zl)).trans p5, rfl, _, rfl⟩
    refine ⟨.ref s.heap.objs.size, _, I.turnedNew (t' := tk) (ch := [z, TI, TO, i1, i2]) (fun c o hb q => up c o (fun e => hb (by simp [e])) (fun e => hb (by simp [e])) (fun e => hb (by simp [e])) (fun e => hb (by simp [e])) q) free (Nat.le_refl _) laid, rfl,
      ⟨_, v1, v2, rfl, I.hok.fresh (Nat.le_refl _), rfl, fun zs hz => by rw [sqB_inj I hz sx]; exact g1, fun zs hz => by rw [sqB_inj I hz sy]; exact g2⟩,
      ⟨p0', up _ _ D.TIz D.TITO D.TIi1 D.TIi2 q1, ⟨x1, x2, (sb.2 _ D.TOz).trans p2⟩, itB_at p3.1 fun o q => (sb.2 _ D.i1z).trans q, itB_at p4.1 fun o q => (sb.2 _ D.i2z).trans q⟩, fun c hc => ?_⟩
    have lt : c < s.heap.objs.size := by
      rcases mem5 hc with rfl | rfl | rfl | rfl | rfl
      · exact zl
      · exact Heap.lt_size q1
      · exact Heap.lt_size q2
      · exact itB_lt q3
      · exact itB_lt q4
    rw [upd_ne (Nat.ne_of_lt lt)]
    exact (free c hc).1
  done := by
    rintro X rfl rfl rfl calm i pins s σ H E I free ⟨q0, q1, ⟨x0, y0, q2⟩, q3, q4⟩ ⟨xs, ys, sx, sy, lx, ly, le⟩
    obtain ⟨us, rx, ax⟩ := sqB_in I sx
    obtain ⟨ws, ry, ay⟩ := sqB_in I sy
    have hh : X.A.in1.handled = none := I.ok.hd calm
    have e1 := rx.length
    have e2 := ry.length
    refine wpAny_pyNext_zipD2_end (sep_of D) (drB hh l i1 a D.l1i1 us.toArray) (drB hh m i2 b D.l2i2 ws.toArray) q0 q1 q2 ⟨q3, ax⟩ ⟨q4, ay⟩ (by rw [List.size_toArray]; omega) (by rw [List.size_toArray]; omega) (by rw [List.size_toArray, List.size_toArray]; omega) fun h1 tk k =>
      ⟨rfl, I.turnedL (t' := tk) (ch := [z, TI, TO, i1, i2]) (fun c o hb q => k c o (fun e => hb (by simp [e])) (fun e => hb (by simp [e])) (fun e => hb (by simp [e])) (fun e => hb (by simp [e])) q) free⟩
  self := fun A i s Q E q h => wpAny_pyIter_zip q.1 h
def iZipB (K : PySem.W.Frag) (ta : TA) : TI := fun σ H R => ta σ H fun vs H1 => ∃ l m a b xs ys, vs = [.ref a, .ref b] ∧ sqB K l H1 a xs ∧ sqB K m H1 b ys ∧ R (ItzB K l m a b) H1
theorem pi_zipB {X : Cx} {e e2 : Expr} {ta : TA} {p pos tp : Pos} {es : List Expr} {n : Nat} (hg : Gl X "zip") (hm : X.mg "zip" = none) (ha : PA X [e, e2] ta)
    (hs : starEach [e, e2] X.env = (false, eval e X.env) :: starEach [e2] X.env) (hpl : (backTo pos (starEach [e2] X.env)).any (·.1) = false) : PI X (.Tuple es n tp) (.Call (.Name "zip" p) [e, e2] [] pos) (iZipB X.K ta) := by
  constructor
  intro pins s σ H R I h
  refine Call_ (ld_blt I hg hm boot_zip (callWith_type1 (thn (ha.run pos pins s σ H _ I h) ?_) hs hpl))
  rintro us s1 ⟨vs, H1, I1, r1, l, m, a, b, xs, ys, rfl, sx, sy, q⟩
  cases r1 with
  | cons ra rr =>
    cases rr with
    | cons rb rr =>
      cases rr
      cases ra
      cases rb
      obtain ⟨us, rx, ax⟩ := sqB_in I1 sx
      obtain ⟨ws, ry, ay⟩ := sqB_in I1 sy
      refine zip_begins2 (begB l a us.toArray) (begB m b ws.toArray) ax ay fun h' p0 p1 p2 p3 p4 sz k => wpAny_pyIter_zip p0 ?_
      refine ⟨s1.heap.objs.size + 4, [s1.heap.objs.size + 4, s1.heap.objs.size + 2, s1.heap.objs.size + 3, s1.heap.objs.size, s1.heap.objs.size + 1], _, _, H1, rfl, I1.kept (t' := s1.toks) k, turn_zipB (PySem.W.ktu_apart s1.heap.objs.size a b (arB_lt ax) (arB_lt ay)), ⟨p0, p1, ⟨_, _, p2⟩, begB_it p3, begB_it p4⟩, fun c hc => ?_, q⟩
      have le : s1.heap.objs.size ≤ c := by
        rcases mem5 hc with rfl | rfl | rfl | rfl | rfl <;> omega
      exact I1.fpOk le (I1.hok.fresh le)
section
variable {K : PySem.W.Frag} {Hf : Hp} {a b : Addr} {xs ys : List V} {ds es : List D} {l m : Bool}
theorem iters_zB (h1 : sqB K l Hf a xs) (h2 : DsL K Hf xs ds) (h3 : sqB K m Hf b ys) (h4 : DsL K Hf ys es) : Iters K (ItzB K l m a b) (zipD ds es) Hf none where
  go := fun Hf1 H1 σ1 A1 i e r _ hi => by
    rw [zipD_len, ← h2.length, ← h4.length] at hi
    exact ⟨xs, ys, sqB_mono (e.trans r.sm) h1, sqB_mono (e.trans r.sm) h3, by omega, by omega⟩
  stop := fun Hf1 H1 σ1 A1 e r _ => ⟨xs, ys, sqB_mono (e.trans r.sm) h1, sqB_mono (e.trans r.sm) h3, by rw [zipD_len, ← h2.length, ← h4.length]; omega⟩
  yld := fun Hf1 H1 σ1 A1 i d x H2 e r _ hd y => by
    obtain ⟨T, u, v, rfl, hT, rfl, q1, q2⟩ := y
    obtain ⟨dx, dy, g1, g2, rfl⟩ := zipD_get hd
    obtain ⟨u', u1, u2⟩ := h2.get g1
    obtain ⟨v', v1, v2⟩ := h4.get g2
    cases u1.symm.trans (q1 xs (sqB_mono (e.trans r.sm) h1))
    cases v1.symm.trans (q2 ys (sqB_mono (e.trans r.sm) h3))
    exact pair_new r hT (u2.mono e) (v2.mono e)
end
section
variable {X : Cx} {Z : ZT} {A : List SD} {tg e a b : Expr} {es : List Expr} {pos : Pos} {Q : List D → Option (Nat × Addr × List D) → List SD → Prop}
theorem ds_sqB {K : PySem.W.Frag} {Hf : Hp} {v : V} {d : D} {l : Bool} {ds : List D} (h : Ds K Hf v d) (e : d = if l = true then .lst ds else .tup ds) : ∃ a xs, v = .ref a ∧ sqB K l Hf a xs ∧ DsL K Hf xs ds := by
  subst e
  cases l with
  | true =>
    obtain ⟨a, xs, rfl, h1, h2⟩ := ds_lst h
    exact ⟨a, xs, rfl, .inl (.inl h1), h2⟩
  | false =>
    obtain ⟨a, xs, rfl, h1, h2⟩ := ds_tup h
    exact ⟨a, xs, rfl, h1, h2⟩
/-- zip of lists and tuples, mixed -/
theorem ei_zB {p : Pos} {elts : List Expr} {kk : Nat} {tpos : Pos} [c : Cok X] (h : EA X Z A [a, b] fun ds A1 => ∃ l m xs ys, (ds = [if l = true then .lst xs else .tup xs, if m = true then .lst ys else .tup ys]) ∧ Q (zipD xs ys) none A1) (hg : Gl X "zip" := by exact gl_of (by kernel_rfl))
    (hs : starEach [a, b] X.env = (false, eval a X.env) :: starEach [b] X.env := by kernel_rfl) (hpl : (backTo pos (starEach [b] X.env)).any (·.1) = false := by kernel_rfl) : EI X Z A (.Tuple elts kk tpos) (.Call (.Name "zip" p) [a, b] [] pos) Q := fun Hf H σ rel xo R k =>
  ⟨_, pi_zipB hg (c.no _ (by decide)) wa hs hpl, h Hf H σ rel xo _ fun d A1 v Hf1 H1 ⟨l, m, xs, ys, e, q⟩ r1 s1 f1 => by
    subst e
    obtain ⟨v, u, rfl, g1, g2⟩ := dsl2 s1
    obtain ⟨x, us, rfl, h1, h2⟩ := ds_sqB g1 rfl
    obtain ⟨y, ws, rfl, h3, h4⟩ := ds_sqB g2 rfl
    exact ⟨l, m, x, y, us, ws, rfl, sqB_mono r1.sm h1, sqB_mono r1.sm h3, k _ _ _ _ _ _ q r1 f1 (iters_zB h1 h2 h3 h4)⟩⟩
/-- a name for a list or a tuple -/
theorem ei_sq (i : Nat) {x : Str} {px : Pos} {l : Bool} {ds : List D} {d : D} (hA : A[i]? = some (.dat d)) (hd : d = if l = true then .lst ds else .tup ds) (q : Q ds none A) (hN : X.N[i]? = some x := by kernel_rfl) (hv : Vis X.env.scope x := by exact vis_of (by kernel_rfl))
    (hdb : (x == ("__debug__" : Str)) = false := by kernel_rfl) (hcd : (x == ("__classdict__" : Str)) = false := by kernel_rfl) : EI X Z A tg (.Name x px) Q := by
  subst hd
  cases l with
  | true => exact ei_l (ed_n i hA ⟨ds, .inl rfl, q⟩ hN hv hdb hcd)
  | false => exact ei_t (ed_n i hA ⟨ds, rfl, q⟩ hN hv hdb hcd)
end
end Y

namespace Y
open PySem L2
/-! the state, written anew -/
section
variable {X : Cx} {Z : ZT} {A B : List SD} {e : Expr} {es : List Expr} {st : List Stmt} {E : AE}
theorem ssx_at (h : SSX X Z B st E) (q : A = B) : SSX X Z A st E := by rw [q]; exact h
theorem ed_at {Q : D → List SD → Prop} (h : ED X Z B e Q) (q : A = B) : ED X Z A e Q := by rw [q]; exact h
theorem ex_at {Q : SD → List SD → Prop} (h : EX X Z B e Q) (q : A = B) : EX X Z A e Q := by rw [q]; exact h
theorem ea_at {Q : List D → List SD → Prop} (h : EA X Z B es Q) (q : A = B) : EA X Z A es Q := by rw [q]; exact h
theorem tx_at {Q : Bool → List SD → Prop} (h : TX X Z B e Q) (q : A = B) : TX X Z A e Q := by rw [q]; exact h
/-- both ways through a statement meet at Q -/
theorem ssx_mid {s0 : Stmt} (Q : List SD → Prop) (h : SX X Z A s0 { E with nx := Q }) (k : ∀ A1, Q A1 → SSX X Z A1 st E) : SSX X Z A (s0 :: st) E :=
  ssx_cons fun Hf H σ rel xo D w => h Hf H σ rel xo D { w with nx := fun A' σ' Hf' H' q => w.nx A' σ' Hf' H' (k A' q) }
/-- an own list that is data from here on -/
theorem ssx_frz (i : Nat) {p : Addr} {o : OD} {d : D} (hA : A[i]? = some (.own p o)) (hd : o.frz = some d) (h : SSX X Z (A.set i (.dat d)) st E) : SSX X Z A st E := fun Hf H σ rel xo D k => by
  obtain ⟨Hf', h1, h2, h3, h4⟩ := rel.freezeAt hA hd
  exact h Hf' H σ h2 (xo.step h4) D (k.step h4)
/-- a comprehension that may change what is held -/
theorem lc_run {tg elt : Expr} {scope : Scope} {vs : List Nat} {Q : SD → List SD → Prop} {ds : List D} {g : Option (Nat × Addr × List D)} {A1 : List SD} (hz : ds.length ≤ 1000000) (In : Nat → List D → List SD → Prop) (h0 : In 0 [] (wipeA A1 vs))
    (hg : ∀ i acc A', i ≤ ds.length → In i acc A' → guard g A')
    (turn : ∀ i d acc A', ds[i]? = some d → In i acc A' → ∀ s H0 C cl fp, GX (Bk X scope s H0 C cl fp) Z0 A' tg (fun j => vs.contains j) d fun A2 => ∀ s H0 C cl fp, ED (Bk X scope s H0 C cl fp) Z0 A2 elt fun y A4 => In (i + 1) (acc ++ [y]) (wipeA A4 vs))
    (fin : ∀ acc A', In ds.length acc A' → ∀ p, Q (.own p (.lst acc)) (restA A1 A' vs)) : LcBody X scope elt tg [] vs Q ds g A1 := by
  refine ⟨hz, In, h0, hg, fun i d acc A' hd hI s H0 C cl fp Hf H σ v rel xo hv R k => ?_, fin⟩
  exact turn i d acc A' hd hI s H0 C cl fp Hf H σ v rel xo hv R fun A2 σ2 Hf2 H2 q r f u l => k A2 σ2 Hf2 H2 (fun s H0 C cl fp => txs_nil ⟨fun _ s H0 C cl fp => q s H0 C cl fp, fun e => by cases e⟩) r f u l
end
end Y

namespace Y
open PySem L2
open PyProof.Rows hiding St

/-! ### enumerate of a list or a tuple -/
theorem enum_meets {v : Value} {o : Obj} {H : Heap → Prop} (B : Begins v o H) : Meets (Builtin.«enumerate.__new__» ⟨[.type "enumerate", v], []⟩) fun _ R s => H s.heap ∧
    R (.ok (.ret (.ref (s.heap.push o).objs.size))) { s with heap := (s.heap.push o).push { cls := .type "enumerate", data := .fields #[.none, .bool false, .ref s.heap.objs.size, rawInt 0, .none, .none] } } := Meets.of_wp fun P w A R s ht => by
  obtain ⟨hp, g, d, tk, os⟩ := s
  obtain ⟨h1, ht⟩ := ht
  have subt := sub_enumerate
  have start : ∀ {A' : Around} {E : Value → Shared → Prop} {Q : Value → Shared → Prop}, Q (.ref hp.objs.size) ⟨hp.push o, g, d, tk, os⟩ → wpAny (model P w) A' (pyIter v) Q E ⟨hp, g, d, tk, os⟩ := fun q => B.iter P w _ _ ⟨hp, g, d, tk, os⟩ _ h1 q
  wp_walk using start
  refine wpAny_stack_any (fun _ => wpAny_pure ?_)
  split
  · rename_i c _ _ _ _ _
    cases (c == Value.type "enumerate") <;> (wp_walk using start; exact ⟨_, rfl, ht⟩)
  · wp_walk using start
    exact ⟨_, rfl, ht⟩
theorem enum_new {P : Program} {w : World} {A : Around} {E : Value → Shared → Prop} {s : Shared} {v : Value} {o : Obj} {H : Heap → Prop} {Q : Value → Shared → Prop} (B : Begins v o H) (h1 : H s.heap)
    (ht : ∀ h', IsEnum h' (s.heap.objs.size + 1) s.heap.objs.size 0 .none → h'.get? s.heap.objs.size = some o → (∀ b u, s.heap.get? b = some u → h'.get? b = some u) → Q (.ref (s.heap.objs.size + 1)) { s with heap := h' }) :
    wpAny (model P w) A (call (.type "enumerate") [v]) Q E s := by
  refine callType_new F.called_enumerate (by decide) (F.typeCall_enumerate_1 _) (F.newCall_enumerate_1 _) (fun x => F.args_object_init_2 x _) F.entry_enumerate_new (enum_meets B) ⟨h1, ?_⟩
  have sz : (s.heap.push o).objs.size = s.heap.objs.size + 1 := Heap.size_push ..
  have last := Heap.get?_push_size (s.heap.push o) (o := { cls := .type "enumerate", data := .fields #[.none, .bool false, .ref s.heap.objs.size, rawInt 0, .none, .none] }) rfl
  show _ ∧ _
  rw [sz] at last ⊢
  exact ⟨⟨_, last, rfl⟩, ht _ last (Heap.get?_push_of_some _ (Heap.get?_push_size _ B.free)) fun b u x => Heap.get?_push_of_some _ (Heap.get?_push_of_some _ x)⟩
def IteB (K : PySem.W.Frag) (l : Bool) (a : Addr) : It where
  go i H := ∃ xs, sqB K l H a xs ∧ i < xs.length
  yld i H v H' := ∃ T x, v = .ref T ∧ H T = none ∧ H' = upd H T (.tup [.int (i : Nat), x]) ∧ ∀ xs, sqB K l H a xs → xs[i]? = some x
  stop i H := ∃ xs, sqB K l H a xs ∧ i = xs.length
theorem mem2 {c e it : Addr} (h : c ∈ [e, it]) : c = e ∨ c = it := by simpa using h
theorem turn_enumB {P : Program} {w : World} {K : PySem.W.Frag} {es : List Expr} {n : Nat} {tp : Pos} {l : Bool} {a e it : Addr} (ne : e ≠ it) (na : a ≠ it) (nb : a ≠ e) :
    Turn P w K (.Tuple es n tp) (IteB K l a) [e, it] e fun i h => (∃ old, IsEnum h e it ((i : Nat) : Int) old) ∧ itB l h it a i where
  mem := List.mem_cons_self
  obj := fun i h ⟨⟨old, q0⟩, q1⟩ c hc => by
    rcases mem2 hc with rfl | rfl
    · exact ⟨_, q0, fun v z => by cases z⟩
    · exact itB_obj q1
  keep := fun i h h' ⟨⟨old, q0⟩, q1⟩ k => ⟨⟨old, k _ (by simp) _ q0⟩, itB_at q1 (k it (by simp))⟩
  item := by
    rintro X rfl rfl rfl calm i pins s σ H E I free ⟨⟨old, q0⟩, q1⟩ ⟨xs, sx, lx⟩
    obtain ⟨us, rx, ax⟩ := sqB_in I sx
    have hh : X.A.in1.handled = none := I.ok.hd calm
    refine wpAny_pyNext_enum_itemD (drB hh l it a na us.toArray) q0 ⟨q1, ax⟩ (by rw [List.size_toArray, ← rx.length]; exact lx) ne (by simp [ne, nb.symm]) fun x1 h1 tk e1 p0 p1 p2 sz k => ?_
    refine ⟨_, rfl, wpAny_letOwnedTupleGo_enum (s := { s with heap := h1, toks := tk + 1 }) p0 fun h2 p0' sb => ?_⟩
    have el : e < s.heap.objs.size := Heap.lt_size q0
    obtain ⟨v1, g1, r1⟩ := vals_back rx (by simpa using e1)
    have laid : ObjOk X.prog X.w (upd H s.heap.objs.size (.tup [.int (i : Nat), v1])) h2 s.heap.objs.size (.tup [.int (i : Nat), v1]) := ⟨(by decide : 2 ≤ sizeLine), [.int i tk, x1], .cons ⟨_, rfl⟩ (.cons r1 .nil), _, (sb.2 _ (Nat.ne_of_gt el)).trans p2, rfl, _, rfl⟩
    refine ⟨.ref s.heap.objs.size, _, I.turnedNew (t' := tk + 1) (ch := [e, it]) (fun c o hb q => (sb.2 c fun z => hb (by simp [z])).trans (k c o (fun z => hb (by simp [z])) (fun z => hb (by simp [z])) q)) free (Nat.le_refl _) laid, rfl,
      ⟨_, v1, rfl, I.hok.fresh (Nat.le_refl _), rfl, fun zs hz => by rw [sqB_inj I hz sx]; exact g1⟩, ⟨⟨x1, ?_⟩, itB_at p1.1 fun o q => (sb.2 _ ne.symm).trans q⟩, fun c hc => ?_⟩
    · have e2 : ((i + 1 : Nat) : Int) = (i : Int) + 1 := by omega
      rw [e2]
      exact p0'
    · have lt : c < s.heap.objs.size := by
        rcases mem2 hc with rfl | rfl
        · exact el
        · exact itB_lt q1
      rw [upd_ne (Nat.ne_of_lt lt)]
      exact (free c hc).1
  done := by
    rintro X rfl rfl rfl calm i pins s σ H E I free ⟨⟨old, q0⟩, q1⟩ ⟨xs, sx, le⟩
    obtain ⟨us, rx, ax⟩ := sqB_in I sx
    have hh : X.A.in1.handled = none := I.ok.hd calm
    have e1 := rx.length
    refine wpAny_pyNext_enum_endD (drB hh l it a na us.toArray) q0 (by rw [List.size_toArray, ← e1, ← le]; exact ⟨q1, ax⟩) fun h1 eb => ⟨rfl, I.turnedL (t' := s.toks) (ch := [e, it]) (fun c o hb q => eb c o (fun z => hb (by simp [z])) q) free⟩
  self := fun A i s Q E q h => let ⟨⟨_, q0⟩, _⟩ := q; wpAny_pyIter_enum q0 h
def iEnumB (K : PySem.W.Frag) (ta : TA) : TI := fun σ H R => ta σ H fun vs H1 => ∃ l a xs, vs = [.ref a] ∧ sqB K l H1 a xs ∧ R (IteB K l a) H1
theorem pi_enumB {X : Cx} {e : Expr} {ta : TA} {p pos tp : Pos} {es : List Expr} {n : Nat} (hg : Gl X "enumerate") (hm : X.mg "enumerate" = none) (ha : PA X [e] ta) (hs : starEach [e] X.env = [(false, eval e X.env)]) :
    PI X (.Tuple es n tp) (.Call (.Name "enumerate" p) [e] [] pos) (iEnumB X.K ta) := by
  constructor
  intro pins s σ H R I h
  refine Call_ (ld_blt I hg hm boot_enumerate (callWith_type1 (thn (ha.run pos pins s σ H _ I h) ?_) hs rfl))
  rintro us s1 ⟨vs, H1, I1, r1, l, a, xs, rfl, sx, q⟩
  cases r1 with
  | cons ra rr =>
    cases rr
    cases ra
    obtain ⟨us, rx, ax⟩ := sqB_in I1 sx
    have la := arB_lt ax
    refine enum_new (begB l a us.toArray) ax fun h' p0 p1 k => wpAny_pyIter_enum p0 ?_
    refine ⟨s1.heap.objs.size + 1, [s1.heap.objs.size + 1, s1.heap.objs.size], _, _, H1, rfl, I1.kept (t' := s1.toks) k, turn_enumB (Nat.succ_ne_self _) (Nat.ne_of_lt la) (Nat.ne_of_lt (Nat.lt_succ_of_lt la)), ⟨⟨_, p0⟩, begB_it p1⟩, fun c hc => ?_, q⟩
    have le : s1.heap.objs.size ≤ c := by
      rcases mem2 hc with rfl | rfl
      · exact Nat.le_succ _
      · exact Nat.le_refl _
    exact I1.fpOk le (I1.hok.fresh le)
section
variable {K : PySem.W.Frag} {Hf : Hp} {a : Addr} {xs : List V} {ds : List D} {l : Bool}
theorem iters_eB (h1 : sqB K l Hf a xs) (h2 : DsL K Hf xs ds) : Iters K (IteB K l a) (enumD ds) Hf none where
  go := fun Hf1 H1 σ1 A1 i e r _ hi => ⟨xs, sqB_mono (e.trans r.sm) h1, by rw [h2.length]; simpa [enumD] using hi⟩
  stop := fun Hf1 H1 σ1 A1 e r _ => ⟨xs, sqB_mono (e.trans r.sm) h1, by rw [h2.length]; simp [enumD]⟩
  yld := fun Hf1 H1 σ1 A1 i d x H2 e r _ hd y => by
    obtain ⟨T, u, rfl, hT, rfl, q1⟩ := y
    obtain ⟨dx, g1, rfl⟩ := enumD_get hd
    obtain ⟨u', u1, u2⟩ := h2.get g1
    cases u1.symm.trans (q1 xs (sqB_mono (e.trans r.sm) h1))
    exact pair_new r hT (.int _) (u2.mono e)
end
section
variable {X : Cx} {Z : ZT} {A : List SD} {tg e a b : Expr} {es : List Expr} {pos : Pos}
theorem ei_eB {p : Pos} {elts : List Expr} {kk : Nat} {tpos : Pos} {Q : List D → Option (Nat × Addr × List D) → List SD → Prop} [c : Cok X] (h : ED X Z A a fun d A1 => ∃ l xs, d = (if l = true then .lst xs else .tup xs) ∧ Q (enumD xs) none A1) (hg : Gl X "enumerate" := by exact gl_of (by kernel_rfl))
    (hs : starEach [a] X.env = [(false, eval a X.env)] := by kernel_rfl) : EI X Z A (.Tuple elts kk tpos) (.Call (.Name "enumerate" p) [a] [] pos) Q := fun Hf H σ rel xo R k =>
  ⟨_, pi_enumB hg (c.no _ (by decide)) (pa_cons we pa_nil hs) hs, h Hf H σ rel xo _ fun d A1 v Hf1 H1 ⟨l, xs, e, q⟩ r1 s1 f1 => by
    obtain ⟨x, us, rfl, h1, h2⟩ := ds_sqB s1 e
    exact ⟨l, x, us, rfl, sqB_mono r1.sm h1, k _ _ _ _ _ _ q r1 f1 (iters_eB h1 h2)⟩⟩

/-! ### repr of lists and tuples; texts compared -/
theorem call_reprD [c : Cok X] : CallR X (.builtin "repr") fun vs H Q => ∃ a d, vs = [.ref a] ∧ Dp X.K H (.ref a) d ∧ d.showable = true ∧ d.hasDict = false ∧ d.depth ≤ 60 ∧ d.shown.length ≤ sizeLine ∧ Q (.str d.shown) H := by
  rintro pins s σ H vs us R I r ⟨a, d, rfl, hd, h1, h2, h3, h4, q⟩
  cases r with
  | cons ra rr =>
    cases rr
    cases ra
    obtain ⟨as, rd⟩ := Dp.reads I d (.ref a) _ hd rfl
    have := c.un
    exact repr_of_reads' rd h1 (fun e => by rw [h2] at e; cases e) c.gd (by omega) (fun _ _ e => e) (fun h' u tk k => ⟨.str _, H, I.kept (t' := tk) k, ⟨_, rfl⟩, q⟩) h4
theorem cs_repr {d : D} {n : Nat} {Q : SD → List SD → Prop} [c : Cok X] (hd : (∃ ds, d = .lst ds) ∨ ∃ ds, d = .tup ds) (hp : Pl n d) (hn : n ≤ 60) (h1 : d.py.showable = true) (h2 : d.py.hasDict = false) (h4 : d.py.shown.length ≤ sizeLine) (q : Q (.dat (.str d.py.shown)) A) : CS X A (.builtin "repr") [d] Q := fun Hf H σ rel vs hv R k => by
  obtain ⟨v, rfl, g⟩ := dsl1 hv
  have dp := dp_of rel.sm g hp.1
  have : ∃ a, v = .ref a := by
    rcases hd with ⟨ds, rfl⟩ | ⟨ds, rfl⟩
    · obtain ⟨a, _, rfl, _⟩ := ds_lst g; exact ⟨a, rfl⟩
    · obtain ⟨a, _, rfl, _⟩ := ds_tup g; exact ⟨a, rfl⟩
  obtain ⟨a, rfl⟩ := this
  exact ⟨_, call_reprD, a, d.py, rfl, dp, h1, h2, Nat.le_trans hp.2 hn, h4, fin_d rel q (.str _) k⟩
theorem os_neS {x y : Str} {Q : SD → List SD → Prop} (q : Q (.dat (.bl (!decide (x = y)))) A) : OS X A (compareOp .NotEq) (.str x) (.str y) Q := fun Hf H σ rel v u hv hu R k =>
  ⟨_, op_ne, by
    cases ds_str hv
    cases ds_str hu
    refine ⟨rfl, ?_⟩
    have e : decide (V.str x = V.str y) = decide (x = y) := by
      by_cases h : x = y
      · subst h; simp
      · simp [h]
    rw [e]
    exact fin_d rel q (.bl _) k⟩
end
/-! how long the texts are -/
theorem len_of (x : String) : (Str.ofString x).length = x.length := PySem.ofString_length x
theorem from_le : ∀ (ts : List Str) (k : Nat) (acc : Str), (textFrom k acc ts).length ≤ acc.length + piled ts
  | [], k, acc => by
    show acc.length ≤ _
    omega
  | t :: r, k, acc => by
    have h := from_le r (k + 1) (acc ++ (if k > 0 then ", " else "" : String) ++ t)
    rw [strLen_append, strLen_append] at h
    rw [piled_cons]
    show (textFrom (k + 1) (acc ++ (if k > 0 then ", " else "" : String) ++ t) r).length ≤ _
    have e : (Str.ofString (if k > 0 then ", " else "" : String)).length ≤ 2 := by
      rw [len_of]
      split <;> decide
    omega
theorem list_le (ts : List Str) : (listText ts).length ≤ piled ts + 2 := by
  unfold listText
  rw [strLen_append]
  have h := from_le ts 0 "["
  have e1 : (Str.ofString "[").length = 1 := rfl
  have e2 : (Str.ofString "]").length = 1 := rfl
  omega
theorem tuple_le (ts : List Str) : (tupleText ts).length ≤ piled ts + 3 := by
  unfold tupleText
  rw [strLen_append, strLen_append]
  have e1 : (Str.ofString "(").length = 1 := rfl
  have e3 : (Str.ofString (if (ts.length == 1) = true then ",)" else ")" : String)).length ≤ 2 := by
    rw [len_of]
    split <;> decide
  have e2 : (Str.join ", " ts).length ≤ piled ts := by
    by_cases h : ts = []
    · subst h; decide
    · have := join_length_add ts h; omega
  omega
/-- data of small numbers, n deep, no list longer than m -/
inductive Tiny (m : Nat) : Nat → D → Prop
  | int (n : Nat) (i : Int) : i.natAbs < 1000 → Tiny m n (.int i)
  | lst {n : Nat} {ds : List D} : ds.length ≤ m → (∀ x ∈ ds, Tiny m n x) → Tiny m (n + 1) (.lst ds)
  | tup {n : Nat} {ds : List D} : ds.length ≤ m → (∀ x ∈ ds, Tiny m n x) → Tiny m (n + 1) (.tup ds)
def tinyLen (m : Nat) : Nat → Nat
  | 0 => 4
  | n + 1 => m * (tinyLen m n + 2) + 5
theorem tiny_four (m : Nat) : ∀ n, 4 ≤ tinyLen m n
  | 0 => Nat.le_refl _
  | n + 1 => by show 4 ≤ m * (tinyLen m n + 2) + 5; omega
theorem tiny_all {L : Nat} : ∀ {ds : List D}, (∀ x ∈ ds, x.flat = true ∧ x.py.showable = true ∧ x.py.hasDict = false ∧ x.py.shown.length ≤ L) →
    D.flats ds = true ∧ PyData.showableAll (D.pys ds) = true ∧ PyData.hasDictAll (D.pys ds) = false ∧ piled (PyData.shownAll (D.pys ds)) ≤ ds.length * (L + 2)
  | [], _ => ⟨rfl, rfl, rfl, by simp [D.pys, PyData.shownAll, piled]⟩
  | d :: ds, h => by
    obtain ⟨h1, h2, h3, h4⟩ := tiny_all (L := L) (ds := ds) fun x hx => h x (List.mem_cons_of_mem _ hx)
    obtain ⟨g1, g2, g3, g4⟩ := h d List.mem_cons_self
    refine ⟨by simp [D.flats, h1, g1], by simp [D.pys, PyData.showableAll, h2, g2], by simp [D.pys, PyData.hasDictAll, h3, g3], ?_⟩
    simp only [D.pys, PyData.shownAll, List.length_cons]
    rw [piled_cons, Nat.succ_mul]
    omega
theorem tiny_ok {m : Nat} : ∀ {n : Nat} {d : D}, Tiny m n d → d.flat = true ∧ d.py.showable = true ∧ d.py.hasDict = false ∧ d.py.shown.length ≤ tinyLen m n := by
  intro n d h
  induction h with
  | int n i hi =>
    have lg : i.natAbs.log2 < 1920 := by
      by_cases h0 : i.natAbs = 0
      · rw [h0]; decide
      · exact Nat.lt_of_lt_of_le ((Nat.log2_lt h0).mpr (Nat.lt_of_lt_of_le hi (by decide : 1000 ≤ 2 ^ 10))) (by decide)
    refine ⟨rfl, decide_eq_true lg, rfl, Nat.le_trans ?_ (tiny_four m n)⟩
    show (Str.ofString (toString i)).length ≤ 4
    rw [len_of]
    exact int_text_length_le10 (k := 3) (by decide) hi
  | @lst n ds hl hx ih =>
    obtain ⟨a1, a2, a3, a4⟩ := tiny_all (L := tinyLen m n) (ds := ds) ih
    have a5 : piled (PyData.shownAll (D.pys ds)) ≤ m * (tinyLen m n + 2) := Nat.le_trans a4 (Nat.mul_le_mul_right _ hl)
    refine ⟨by simp [D.flat, a1], by simp [D.py, PyData.showable, a2], by simp [D.py, PyData.hasDict, a3], ?_⟩
    have := list_le (PyData.shownAll (D.pys ds))
    show (listText (PyData.shownAll (D.pys ds))).length ≤ m * (tinyLen m n + 2) + 5
    omega
  | @tup n ds hl hx ih =>
    obtain ⟨a1, a2, a3, a4⟩ := tiny_all (L := tinyLen m n) (ds := ds) ih
    have a5 : piled (PyData.shownAll (D.pys ds)) ≤ m * (tinyLen m n + 2) := Nat.le_trans a4 (Nat.mul_le_mul_right _ hl)
    refine ⟨by simp [D.flat, a1], by simp [D.py, PyData.showable, a2], by simp [D.py, PyData.hasDict, a3], ?_⟩
    have := tuple_le (PyData.shownAll (D.pys ds))
    show (tupleText (PyData.shownAll (D.pys ds))).length ≤ m * (tinyLen m n + 2) + 5
    omega
theorem tiny_pl {m : Nat} : ∀ {n : Nat} {d : D}, Tiny m n d → Pl n d := by
  intro n d h
  induction h with
  | int n i hi => exact Pl.int i
  | lst hl hx ih => exact Pl.lst ih
  | tup hl hx ih => exact Pl.tup ih
end Y

namespace Y
open PySem L2
open PyProof.Rows hiding St

section
variable {K : PySem.W.Frag} {Hf : Hp}
theorem iters_c {lo c : Int} {n : Nat} : Iters K (Itc lo c n) ((List.range n).map fun i => .int (lo + (i : Nat) * c)) Hf none where
  go := fun Hf1 H1 σ1 A1 i e r _ hi => show i < n by simpa using hi
  stop := fun Hf1 H1 σ1 A1 e r _ => show n ≤ _ by simp
  yld := fun Hf1 H1 σ1 A1 i d x H2 e r _ hd y => by
    obtain ⟨rfl, rfl⟩ := y
    have hn : i < n := by simpa using (List.getElem?_eq_some_iff.mp hd).1
    rw [List.getElem?_map, List.getElem?_range hn] at hd
    cases hd
    exact ⟨Hf1, r, .int _, Fr.refl _ _ _⟩
end
section
variable {X : Cx} {Z : ZT} {A : List SD} {tg e a b c : Expr} {es : List Expr} {pos : Pos}
/-- range(i, j, -1) -/
theorem ei_r3 {p : Pos} {Q : List D → Option (Nat × Addr × List D) → List SD → Prop} [cx : Cok X] (h : EA X Z A [a, b, c] fun ds A1 => ∃ l n : Int, ds = [.int l, .int n, .int (-1)] ∧ (-1000000 ≤ l ∧ l ≤ 1000000 ∧ -1000000 ≤ n ∧ n ≤ 1000000) ∧ Q ((List.range (l - n).toNat).map fun i => .int (l + ((i : Nat) : Int) * (-1))) none A1)
    (hg : Gl X "range" := by exact gl_of (by kernel_rfl)) (hs : starEach [a, b, c] X.env = (false, eval a X.env) :: starEach [b, c] X.env := by kernel_rfl) (hpl : (backTo pos (starEach [b, c] X.env)).any (·.1) = false := by kernel_rfl) : EI X Z A tg (.Call (.Name "range" p) [a, b, c] [] pos) Q := fun Hf H σ rel xo R k =>
  ⟨_, pi_range3 hg (cx.no _ (by decide)) wa hs hpl, h Hf H σ rel xo _ fun d A1 v Hf1 H1 ⟨l, n, e, hn, q⟩ r1 s1 f1 => by
    subst e
    cases s1 with
    | cons g1 s1 =>
      obtain ⟨u, w, rfl, g2, g3⟩ := dsl2 s1
      cases ds_int g1
      cases ds_int g2
      cases ds_int g3
      exact ⟨l, n, -1, _, rfl, RgC.neg (by omega) (by omega) (by omega) (by omega), k _ _ _ _ _ _ q r1 f1 iters_c⟩⟩
theorem dsl_ints {K : PySem.W.Frag} {Hf : Hp} : ∀ {xs : List V} {js : List Int}, DsL K Hf xs (js.map .int) → xs = js.map V.int
  | _, [], .nil => rfl
  | _, j :: js, .cons h t => by cases ds_int h; rw [dsl_ints t]; rfl
/-- i not in a tuple of numbers -/
theorem os_notInT {i : Int} {js : List Int} {Q : SD → List SD → Prop} (q : Q (.dat (.bl (!js.contains i))) A) : OS X A (compareOp .NotIn) (.int i) (.tup (js.map .int)) Q := fun Hf H σ rel v u hv hu R k => by
  cases ds_int hv
  obtain ⟨a, xs, rfl, h1, h2⟩ := ds_tup hu
  have e := dsl_ints h2
  subst e
  refine ⟨_, op_notIn_seq, a, _, rfl, .inr (seqT rel.sm h1), rfl, by simp [flatV], ?_⟩
  have e2 : inV (.int i) (js.map V.int) = js.contains i := by
    unfold inV
    rw [List.any_map, List.contains_eq_any_beq]
    congr 1
    funext j
    show (j == i) = (i == j)
    exact Bool.beq_comm
  rw [e2]
  exact fin_d rel q (.bl _) k
theorem os_isB {i j : Bool} {Q : SD → List SD → Prop} (q : Q (.dat (.bl (decide (i = j)))) A) : OS X A (compareOp .Is) (.bl i) (.bl j) Q := fun Hf H σ rel v u hv hu R k =>
  ⟨_, op_isBl, i, j, ds_bl hv, ds_bl hu, fin_d rel q (.bl _) k⟩
/-- a part of a tuple, not all of it -/
theorem ex_slT {lo hi : Option Expr} {p2 : Pos} {Q : SD → List SD → Prop} (h : ED X Z A e fun d A1 => ∃ ds, d = .tup ds ∧ PX X Z A1 lo fun i A2 => PX X Z A2 hi fun j A3 => ¬ (HT.sIx ds.length 0 i = 0 ∧ HT.sIx ds.length ds.length j = ds.length) ∧ Q (.dat (.tup (cutD ds i j))) A3) : EX X Z A (.Subscript e (.Slice lo hi none p2) pos) Q := fun Hf H σ rel xo R k =>
  ⟨_, pe_slice sl_tup we wpo wpo, h Hf H σ rel xo _ fun d A1 v Hf1 H1 ⟨ds, e, hp⟩ r1 s1 f1 => by
    subst e
    obtain ⟨t1, ht1, run1⟩ := po_run hp
    refine ⟨t1, ht1, run1 Hf1 H1 σ r1 (xo.step f1) _ fun i A2 Hf2 H2 q2 r2 f2 => ?_⟩
    obtain ⟨t2, ht2, run2⟩ := po_run q2
    refine ⟨t2, ht2, run2 Hf2 H2 σ r2 (xo.step (f1.trans f2)) _ fun j A3 Hf3 H3 ⟨ne, q3⟩ r3 f3 => ?_⟩
    obtain ⟨a, xs, rfl, h1, h2⟩ := ds_tup s1
    have ff := f2.ef.trans f3.ef
    exact ⟨a, xs, rfl, seqT r3.sm (seqT ff h1), by rw [h2.length]; exact ne, fun p hp => fin_t r3 hp q3 (dsl_cut (h2.mono ff) i j) fun r A' v Hf' H' q r4 f4 => k _ _ _ _ _ q r4 (((f1.trans f2).trans f3).trans f4)⟩⟩
/-! repr of one thing by itself -/
theorem call_reprV : CallR X (.builtin "repr") fun vs H Q => ∃ v x, vs = [v] ∧ ((v = .non ∧ x = PyData.none) ∨ (∃ b, v = .bl b ∧ x = .bool b) ∨ (∃ i, v = .int i ∧ i.natAbs.log2 < 1920 ∧ x = .int i) ∨ ∃ s, v = .str s ∧ x = .str s ∧ (reprText s).length ≤ sizeLine) ∧ Q (.str x.shown) H := by
  rintro pins s σ H vs us R I r ⟨v, x, rfl, hv, q⟩
  obtain ⟨u, rfl, ru⟩ := vals1 r
  rcases hv with ⟨rfl, rfl⟩ | ⟨b, rfl, rfl⟩ | ⟨i, rfl, hi, rfl⟩ | ⟨y, rfl, rfl, hy⟩
  · cases ru
    exact PySem.P.repr_of_none ⟨.str _, H, I.tok _, ⟨_, rfl⟩, q⟩
  · cases ru
    exact PySem.P.repr_of_bool ⟨.str _, H, I.tok _, ⟨_, rfl⟩, q⟩
  · obtain ⟨t, rfl⟩ := ru
    exact PySem.P.repr_of_int hi ⟨.str _, H, I.tok _, ⟨_, rfl⟩, q⟩
  · obtain ⟨t, rfl⟩ := ru
    exact PySem.P.repr_of_str ⟨.str _, H, I.tok _, ⟨_, rfl⟩, q⟩ hy
end
/-! ### tuple * 1 is the tuple -/
theorem tuple_mul1 (l : Addr) (items : Array Value) (n : Nat) (dd : Option Addr) (sl : Array (Option Value)) (u : Tok) :
    Meets (Builtin.«tuple.__mul__» ⟨[.ref l, .int 1 u], []⟩) fun _ R s => s.heap.get? l = some { cls := .type "tuple", dict := dd, data := .seq items n, slots := sl } ∧ R (.ok (.ret (.ref l))) s := Meets.of_wp fun P w A R s h => by
  obtain ⟨hp, g, d, tk, os⟩ := s
  obtain ⟨hl, h⟩ := h
  have f1 := AutoSeq1.idx_int
  wp_walk using wpAny_loadPart' hl
  exact ⟨_, rfl, h⟩
theorem op_rep1 {X : Cx} : OpR X (binaryOp .Mult) fun x y H Q => ∃ l xs, x = .ref l ∧ y = .int 1 ∧ SqT X.K H l xs ∧ Q (.ref l) H := by
  rintro pins s σ H x y v u Q I rx ry ⟨l, xs, rfl, rfl, hT, q⟩
  cases rx
  obtain ⟨t, rfl⟩ := ry
  obtain ⟨its, r, ⟨⟨cls, dd, data, sl⟩, ho, hc, n, hd⟩, _⟩ := I.tuple hT
  simp only at hc hd
  subst hc hd
  have t1 : s.TypeIs (.ref l) "tuple" := ⟨_, ho, rfl⟩
  exact wpAny_binaryOp_repeat_ref (T := "tuple") (U := "int") (by decide) t1 (fun s' => typeIs_int s' 1 t) noFill_tuple_mul F.fills_int_mul F.slot_int_rmul repeat_tuple F.slot_int_index.lookup
    (call_meets F.slot_int_rmul (typeIs_int s 1 t) F.entry_int_rmul (F.args_int_rmul_2 _ _) (int_rmul_tuple 1 t l its.toArray n dd sl) ⟨ho, rfl, t1, call_meets F.slot_tuple_mul t1 F.entry_tuple_mul (F.args_tuple_mul_2 _ _) (tuple_mul1 l its.toArray n dd sl t) ⟨ho, .ref l, H, I, rfl, q⟩⟩)
theorem os_repT1 {X : Cx} {A : List SD} {ds : List D} {Q : SD → List SD → Prop} (q : Q (.dat (.tup ds)) A) : OS X A (binaryOp .Mult) (.tup ds) (.int 1) Q := fun Hf H σ rel v u hv hu R k => by
  obtain ⟨a, xs, rfl, h1, h2⟩ := ds_tup hv
  cases ds_int hu
  exact ⟨_, op_rep1, a, xs, rfl, rfl, seqT rel.sm h1, fin_d rel q (.tup h1 h2) k⟩
/-! repr of any thing that is small -/
inductive Lil : D → Prop
  | non : Lil .non
  | bl (b : Bool) : Lil (.bl b)
  | int (i : Int) : i.natAbs < 191 → Lil (.int i)
  | str (x : Str) : PyData.canLay0 (.str x) = true → (reprText x).length ≤ 100 → Lil (.str x)
/-- small, n deep, no list longer than m -/
inductive Sml (m : Nat) : Nat → D → Prop
  | lil {n : Nat} {d : D} : Lil d → Sml m n d
  | lst {n : Nat} {ds : List D} : ds.length ≤ m → (∀ x ∈ ds, Sml m n x) → Sml m (n + 1) (.lst ds)
  | tup {n : Nat} {ds : List D} : ds.length ≤ m → (∀ x ∈ ds, Sml m n x) → Sml m (n + 1) (.tup ds)
def smlLen (m : Nat) : Nat → Nat
  | 0 => 100
  | n + 1 => m * (smlLen m n + 2) + 100
theorem sml_low (m : Nat) : ∀ n, 100 ≤ smlLen m n
  | 0 => Nat.le_refl _
  | n + 1 => by show 100 ≤ m * (smlLen m n + 2) + 100; omega
theorem log_small {i : Int} (hi : i.natAbs < 1000) : i.natAbs.log2 < 1920 := by
  by_cases h0 : i.natAbs = 0
  · rw [h0]; decide
  · exact Nat.lt_of_lt_of_le ((Nat.log2_lt h0).mpr (Nat.lt_of_lt_of_le hi (by decide : 1000 ≤ 2 ^ 10))) (by decide)
theorem sml_ok {m : Nat} : ∀ {n : Nat} {d : D}, Sml m n d → d.flat = true ∧ d.py.showable = true ∧ d.py.hasDict = false ∧ d.py.shown.length ≤ smlLen m n := by
  intro n d h
  induction h with
  | @lil n d h =>
    have low := sml_low m n
    cases h with
    | non => exact ⟨rfl, rfl, rfl, Nat.le_trans (by decide) low⟩
    | bl b => exact ⟨rfl, rfl, rfl, Nat.le_trans (by cases b <;> decide) low⟩
    | int i hi =>
      refine ⟨rfl, decide_eq_true (log_small (by omega)), rfl, Nat.le_trans ?_ low⟩
      show (Str.ofString (toString i)).length ≤ 100
      rw [len_of]
      exact Nat.le_trans (int_text_length_le10 (k := 3) (by decide) (by omega)) (by decide)
    | str x hx hl => exact ⟨hx, rfl, rfl, Nat.le_trans hl low⟩
  | @lst n ds hl hx ih =>
    obtain ⟨a1, a2, a3, a4⟩ := tiny_all (L := smlLen m n) (ds := ds) ih
    have a5 : piled (PyData.shownAll (D.pys ds)) ≤ m * (smlLen m n + 2) := Nat.le_trans a4 (Nat.mul_le_mul_right _ hl)
    refine ⟨by simp [D.flat, a1], by simp [D.py, PyData.showable, a2], by simp [D.py, PyData.hasDict, a3], ?_⟩
    have := list_le (PyData.shownAll (D.pys ds))
    show (listText (PyData.shownAll (D.pys ds))).length ≤ m * (smlLen m n + 2) + 100
    omega
  | @tup n ds hl hx ih =>
    obtain ⟨a1, a2, a3, a4⟩ := tiny_all (L := smlLen m n) (ds := ds) ih
    have a5 : piled (PyData.shownAll (D.pys ds)) ≤ m * (smlLen m n + 2) := Nat.le_trans a4 (Nat.mul_le_mul_right _ hl)
    refine ⟨by simp [D.flat, a1], by simp [D.py, PyData.showable, a2], by simp [D.py, PyData.hasDict, a3], ?_⟩
    have := tuple_le (PyData.shownAll (D.pys ds))
    show (tupleText (PyData.shownAll (D.pys ds))).length ≤ m * (smlLen m n + 2) + 100
    omega
theorem lil_pl {n : Nat} {d : D} (h : Lil d) : Pl n d := by
  cases h with
  | non => exact Pl.non
  | bl b => exact Pl.bl b
  | int i _ => exact Pl.int i
  | str x hx _ => exact ⟨hx, Nat.zero_le _⟩
theorem sml_pl {m : Nat} : ∀ {n : Nat} {d : D}, Sml m n d → Pl n d := by
  intro n d h
  induction h with
  | lil h => exact lil_pl h
  | lst hl hx ih => exact Pl.lst ih
  | tup hl hx ih => exact Pl.tup ih
theorem cs_reprS {X : Cx} {A : List SD} {d : D} {m n : Nat} {Q : SD → List SD → Prop} [c : Cok X] (h : Sml m n d) (hn : n ≤ 60) (hz : smlLen m n ≤ sizeLine) (q : Q (.dat (.str d.py.shown)) A) : CS X A (.builtin "repr") [d] Q := by
  obtain ⟨h1, h2, h3, h4⟩ := sml_ok h
  have h5 := Nat.le_trans h4 hz
  cases h with
  | lst hl hx => exact cs_repr (.inl ⟨_, rfl⟩) (Pl.lst fun x hxm => sml_pl (hx x hxm)) hn h2 h3 h5 q
  | tup hl hx => exact cs_repr (.inr ⟨_, rfl⟩) (Pl.tup fun x hxm => sml_pl (hx x hxm)) hn h2 h3 h5 q
  | lil hl =>
    intro Hf H σ rel vs hv R k
    obtain ⟨v, rfl, g⟩ := dsl1 hv
    refine ⟨_, call_reprV, v, d.py, rfl, ?_, fin_d rel q (.str _) k⟩
    cases hl with
    | non => cases g; exact .inl ⟨rfl, rfl⟩
    | bl b => cases g; exact .inr (.inl ⟨b, rfl, rfl⟩)
    | int i hi => cases g; exact .inr (.inr (.inl ⟨i, rfl, log_small (by omega), rfl⟩))
    | str x hx hl => cases g; exact .inr (.inr (.inr ⟨x, rfl, rfl, h5⟩))
end Y

namespace K2
open PySem L2 Y
def top (i : Nat) : Stmt := PySem.Challenge.pw_wedgelight_k01_told_divided_and_arrows.main.body.getD i (.Pass ⟨0, 0, 0, 0⟩)
abbrev sIsNumber : Stmt := top 1
abbrev nIsNumber : List Str := ["thing"]
abbrev pIsNumber : List Str := ["thing"]
theorem bIsNumber : Bnd sIsNumber "is_number" pIsNumber := fun _ _ _ _ _ _ us hl => match us, hl with | [_], _ => rfl
theorem scIsNumber : FnScope nIsNumber pIsNumber (defScope sIsNumber) := ⟨rfl, rfl, rfl, by decide +kernel, rfl, by decide +kernel, by decide +kernel⟩
abbrev sIsRow : Stmt := top 2
abbrev nIsRow : List Str := ["thing", "side", "one"]
abbrev pIsRow : List Str := ["thing", "side"]
theorem bIsRow : Bnd sIsRow "is_row" pIsRow := fun _ _ _ _ _ _ us hl => match us, hl with | [_, _], _ => rfl
theorem scIsRow : FnScope nIsRow pIsRow (defScope sIsRow) := ⟨rfl, rfl, rfl, by decide +kernel, rfl, by decide +kernel, by decide +kernel⟩
abbrev sTimes : Stmt := top 4
abbrev nTimes : List Str := ["one", "other", "mine", "its"]
abbrev pTimes : List Str := ["one", "other"]
theorem bTimes : Bnd sTimes "times" pTimes := fun _ _ _ _ _ _ us hl => match us, hl with | [_, _], _ => rfl
theorem scTimes : FnScope nTimes pTimes (defScope sTimes) := ⟨rfl, rfl, rfl, by decide +kernel, rfl, by decide +kernel, by decide +kernel⟩
abbrev sCommon : Stmt := top 5
abbrev nCommon : List Str := ["row", "found", "number", "one", "other"]
abbrev pCommon : List Str := ["row"]
theorem bCommon : Bnd sCommon "common" pCommon := fun _ _ _ _ _ _ us hl => match us, hl with | [_], _ => rfl
theorem scCommon : FnScope nCommon pCommon (defScope sCommon) := ⟨rfl, rfl, rfl, by decide +kernel, rfl, by decide +kernel, by decide +kernel⟩
abbrev sPlain : Stmt := top 6
abbrev nPlain : List Str := ["row", "by", "number"]
abbrev pPlain : List Str := ["row"]
theorem bPlain : Bnd sPlain "plain" pPlain := fun _ _ _ _ _ _ us hl => match us, hl with | [_], _ => rfl
theorem scPlain : FnScope nPlain pPlain (defScope sPlain) := ⟨rfl, rfl, rfl, by decide +kernel, rfl, by decide +kernel, by decide +kernel⟩
abbrev sIsArrow : Stmt := top 7
abbrev nIsArrow : List Str := ["thing"]
abbrev pIsArrow : List Str := ["thing"]
theorem bIsArrow : Bnd sIsArrow "is_arrow" pIsArrow := fun _ _ _ _ _ _ us hl => match us, hl with | [_], _ => rfl
theorem scIsArrow : FnScope nIsArrow pIsArrow (defScope sIsArrow) := ⟨rfl, rfl, rfl, by decide +kernel, rfl, by decide +kernel, by decide +kernel⟩
abbrev sLawCellAt : Stmt := top 9
abbrev nLawCellAt : List Str := ["script", "k"]
abbrev pLawCellAt : List Str := ["script", "k"]
theorem bLawCellAt : Bnd sLawCellAt "_law_cell_at" pLawCellAt := fun _ _ _ _ _ _ us hl => match us, hl with | [_, _], _ => rfl
theorem scLawCellAt : FnScope nLawCellAt pLawCellAt (defScope sLawCellAt) := ⟨rfl, rfl, rfl, by decide +kernel, rfl, by decide +kernel, by decide +kernel⟩
abbrev sLawBox : Stmt := top 10
abbrev nLawBox : List Str := ["script", "k", "cell"]
abbrev pLawBox : List Str := ["script", "k"]
theorem bLawBox : Bnd sLawBox "_law_box" pLawBox := fun _ _ _ _ _ _ us hl => match us, hl with | [_, _], _ => rfl
theorem scLawBox : FnScope nLawBox pLawBox (defScope sLawBox) := ⟨rfl, rfl, rfl, by decide +kernel, rfl, by decide +kernel, by decide +kernel⟩
abbrev sLawTake : Stmt := top 11
abbrev nLawTake : List Str := ["box", "size", "found", "once", "twice"]
abbrev pLawTake : List Str := ["box", "size"]
theorem bLawTake : Bnd sLawTake "_law_take" pLawTake := fun _ _ _ _ _ _ us hl => match us, hl with | [_, _], _ => rfl
theorem scLawTake : FnScope nLawTake pLawTake (defScope sLawTake) := ⟨rfl, rfl, rfl, by decide +kernel, rfl, by decide +kernel, by decide +kernel⟩
abbrev sLawSame : Stmt := top 12
abbrev nLawSame : List Str := ["found", "due", "here", "two"]
abbrev pLawSame : List Str := ["found", "due"]
theorem bLawSame : Bnd sLawSame "_law_same" pLawSame := fun _ _ _ _ _ _ us hl => match us, hl with | [_, _], _ => rfl
theorem scLawSame : FnScope nLawSame pLawSame (defScope sLawSame) := ⟨rfl, rfl, rfl, by decide +kernel, rfl, by decide +kernel, by decide +kernel⟩
abbrev sLawOf : Stmt := top 13
abbrev nLawOf : List Str := ["box", "some"]
abbrev pLawOf : List Str := ["box", "some"]
theorem bLawOf : Bnd sLawOf "_law_of" pLawOf := fun _ _ _ _ _ _ us hl => match us, hl with | [_, _], _ => rfl
theorem scLawOf : FnScope nLawOf pLawOf (defScope sLawOf) := ⟨rfl, rfl, rfl, by decide +kernel, rfl, by decide +kernel, by decide +kernel⟩
abbrev sLawRow : Stmt := top 14
abbrev nLawRow : List Str := ["box", "wide", "top", "some", "turn"]
abbrev pLawRow : List Str := ["box", "wide"]
theorem bLawRow : Bnd sLawRow "_law_row" pLawRow := fun _ _ _ _ _ _ us hl => match us, hl with | [_, _], _ => rfl
theorem scLawRow : FnScope nLawRow pLawRow (defScope sLawRow) := ⟨rfl, rfl, rfl, by decide +kernel, rfl, by decide +kernel, by decide +kernel⟩
abbrev sLawDivided : Stmt := top 15
abbrev nLawDivided : List Str := ["some", "by", "digit"]
abbrev pLawDivided : List Str := ["some"]
theorem bLawDivided : Bnd sLawDivided "_law_divided" pLawDivided := fun _ _ _ _ _ _ us hl => match us, hl with | [_], _ => rfl
theorem scLawDivided : FnScope nLawDivided pLawDivided (defScope sLawDivided) := ⟨rfl, rfl, rfl, by decide +kernel, rfl, by decide +kernel, by decide +kernel⟩
abbrev sLawIsArrow : Stmt := top 16
abbrev nLawIsArrow : List Str := ["some", "digit"]
abbrev pLawIsArrow : List Str := ["some"]
theorem bLawIsArrow : Bnd sLawIsArrow "_law_is_arrow" pLawIsArrow := fun _ _ _ _ _ _ us hl => match us, hl with | [_], _ => rfl
theorem scLawIsArrow : FnScope nLawIsArrow pLawIsArrow (defScope sLawIsArrow) := ⟨rfl, rfl, rfl, by decide +kernel, rfl, by decide +kernel, by decide +kernel⟩
abbrev sLawBent : Stmt := top 17
abbrev nLawBent : List Str := ["box", "some", "way", "at", "odd"]
abbrev pLawBent : List Str := ["box", "some"]
theorem bLawBent : Bnd sLawBent "_law_bent" pLawBent := fun _ _ _ _ _ _ us hl => match us, hl with | [_, _], _ => rfl
theorem scLawBent : FnScope nLawBent pLawBent (defScope sLawBent) := ⟨rfl, rfl, rfl, by decide +kernel, rfl, by decide +kernel, by decide +kernel⟩
abbrev sLaw : Stmt := top 18
abbrev nLaw : List Str := ["script", "k", "box", "wide", "mine", "its", "many", "digit", "due", "at", "found", "often", "things", "turn", "thing", "before"]
abbrev pLaw : List Str := ["script"]
theorem bLaw : Bnd sLaw "law" pLaw := fun _ _ _ _ _ _ us hl => match us, hl with | [_], _ => rfl
theorem scLaw : FnScope nLaw pLaw (defScope sLaw) := ⟨rfl, rfl, rfl, by decide +kernel, rfl, by decide +kernel, by decide +kernel⟩
end K2

namespace K2
open PySem L2 Y
/-! the law's helpers that every law has -/
/-- a box of draws: at most n drawn so far -/
def BoxOk (n : Nat) (ds : List D) : Prop := ∃ a b c : Int, ds = [.int a, .int b, .int c] ∧ 0 ≤ a ∧ 0 ≤ b ∧ b < 4611686018427387904 ∧ 0 ≤ c ∧ c ≤ n
theorem BoxOk.mono {n m : Nat} {ds : List D} (h : BoxOk n ds) (e : n ≤ m) : BoxOk m ds := by
  obtain ⟨a, b, c, e0, h1, h2, h3, h4, h5⟩ := h
  exact ⟨a, b, c, e0, h1, h2, h3, h4, by omega⟩
def spCell : FSp := fun A Post _ => ∃ (ns : List Int) (i : Nat), A = [.dat (.rls (ns.map .int)), .dat (.int i)] ∧ ∀ j : Int, Post (.dat (.int j)) A
def spBox : FSp := fun A Post _ => ∃ (ns : List Int) (i : Nat), A = [.dat (.rls (ns.map .int)), .dat (.int i)] ∧ i ≤ 1000 ∧ ∀ p ds, BoxOk 0 ds → Post (.own p (.lst ds)) A
def spTake : FSp := fun A Post _ => ∃ (p : Addr) (ds : List D) (n : Nat) (size : Int), A = [.own p (.lst ds), .dat (.int size)] ∧ BoxOk n ds ∧ n ≤ 1000000 ∧ 0 < size ∧ size ≤ 1000000 ∧
  ∀ r ds', 0 ≤ r → r < size → BoxOk (n + 1) ds' → Post (.dat (.int r)) [.own p (.lst ds'), .dat (.int size)]
def spOf : FSp := fun A Post _ => ∃ (p : Addr) (ds es : List D) (n : Nat), A = [.own p (.lst ds), .dat (.lst es)] ∧ BoxOk n ds ∧ n ≤ 1000000 ∧ es ≠ [] ∧ es.length ≤ 1000000 ∧
  ∀ d ds', d ∈ es → BoxOk (n + 1) ds' → Post (.dat d) [.own p (.lst ds'), .dat (.lst es)]
/-- flat, at most n deep, no list too long -/
inductive Sc : D → Prop
  | non : Sc .non
  | bl (b : Bool) : Sc (.bl b)
  | int (i : Int) : Sc (.int i)
  | str (x : Str) : PyData.canLay0 (.str x) = true → Sc (.str x)
def Sm : Nat → D → Prop
  | 0, d => Sc d
  | n + 1, d => Sc d ∨ ∃ ds : List D, (d = .lst ds ∨ d = .tup ds) ∧ ds.length ≤ 1000000 ∧ ∀ x ∈ ds, Sm n x
theorem Sc.pl {n : Nat} {d : D} (h : Sc d) : Pl n d := by
  cases h with
  | non => exact Pl.non
  | bl b => exact Pl.bl b
  | int i => exact Pl.int i
  | str x h => exact ⟨h, Nat.zero_le _⟩
theorem Sm.pl : ∀ {n : Nat} {d : D}, Sm n d → Pl n d
  | 0, _, h => Sc.pl h
  | n + 1, _, .inl h => h.pl
  | n + 1, _, .inr ⟨ds, .inl e, _, h⟩ => by subst e; exact Pl.lst fun x hx => (h x hx).pl
  | n + 1, _, .inr ⟨ds, .inr e, _, h⟩ => by subst e; exact Pl.tup fun x hx => (h x hx).pl
theorem Sm.sc {n : Nat} {d : D} (h : Sc d) : Sm n d := by cases n with
  | zero => exact h
  | succ n => exact .inl h
def spSame (n : Nat) : FSp := fun A Post _ => ∃ d : D, A = [.dat d, .dat d] ∧ Sm n d ∧ Post (.dat (.bl true)) A
section
variable {P : Program} {w : World} {K : PySem.W.Frag} {mg : Str → Option Value} {base : Heap} {f : Addr} {fd : FuncData}
theorem get_nat {α : Type} {ns : List α} {i : Nat} (h : i < ns.length) : atI ns (i : Int) = some ns[i] := atI_nat (by simp)
theorem cm_b (i : Int) (k : Bool) : CMul i (if k = true then 1 else 0) := .inr (by cases k <;> decide)
theorem bi (k : Bool) : (0 : Int) ≤ if k = true then 1 else 0 := by cases k <;> decide
theorem small_div {i j : Int} (h : 0 < j) (h2 : j ≤ 1000000) : CDivW i j := wide_div h (b := 20) (by omega) (by decide) (by decide)
theorem ok_cell (F : Fun K "_law_cell_at" "_law_cell_at" sLawCellAt f fd) (no : ∀ x ∈ bnames, mg x = none) : GOk P w K mg base 1 f fd pLawCellAt (SpOf K spCell) := by
  refine g_of F scLawCellAt no (fun A Post Z h => by obtain ⟨_, _, rfl, _⟩ := h; rfl) (by decide) ?_
  rintro cdv A fr s H E cok g B Post Z ⟨ns, i, rfl, q⟩
  refine ssx_cons (sx_if (tx_cmp ?_))
  refine ed_n 1 rfl (ed_of (ex_seqB "len" (es_of (ex_of (ed_n 0 rfl ⟨_, _, rfl, cq_len ⟨_, rfl, os_lt ⟨_, rfl, fun h => ?_, fun h => ?_⟩⟩⟩)))))
  · have h := of_decide_eq_true h
    refine ssx_one (sx_ret (ex_ix (ed_n 0 rfl (ed_n 1 rfl (xs_r (get_nat (by simpa using h)) ?_)))))
    rw [List.getElem_map]
    exact ⟨_, .dat (.dat .nil), q _⟩
  · refine ssx_nil (ssx_one (sx_ret (ex_of (ed_int ?_))))
    exact ⟨_, .dat (.dat .nil), q _⟩
theorem ok_box (F : Fun K "_law_box" "_law_box" sLawBox f fd) (no : ∀ x ∈ bnames, mg x = none) (Cl : Fn P w K mg base 1 "_law_cell_at" "_law_cell_at" sLawCellAt pLawCellAt spCell) : GOk P w K mg base 2 f fd pLawBox (SpOf K spBox) := by
  refine g_of F scLawBox no (fun A Post Z h => by obtain ⟨_, _, rfl, _⟩ := h; rfl) (by decide) ?_
  rintro cdv A fr s H E cok g B Post Z ⟨ns, i, rfl, hi, q⟩
  refine ssx_cons (sx_set 2 (ex_call Cl g bLawCellAt (ea_cons (ed_n 0 rfl (ea_cons (ed_n 1 rfl (ea_nil ⟨ns, i, rfl, fun j => ?_⟩)))))))
  refine ssx_one (sx_ret (ex_lst (ea_cons (ed_of (ex_bin ?_)))))
  refine ed_of (ex_callB "abs" (ea_cons (ed_n 2 rfl (ea_nil (cs_abs ⟨_, rfl, ?_⟩)))))
  refine ed_of (ex_callT "int" (ea_cons (ed_of (ex_cmp ?_))))
  refine ed_of (ex_callB "abs" (ea_cons (ed_n 2 rfl (ea_nil (cs_abs ⟨_, rfl, ?_⟩)))))
  refine ed_of (ex_bin (ed_int (ed_int (os_pow ⟨by decide, by decide, by decide⟩ ⟨_, rfl, os_ge ⟨_, rfl, ?_⟩⟩))))
  refine ea_nil (cs_intB ⟨_, rfl, os_mulL (cm_b _ _) ⟨_, rfl, ?_⟩⟩)
  refine ea_cons (ed_of (ex_bin ?_))
  refine ed_of (ex_bin ?_)
  refine ed_of (ex_bin (ed_n 2 rfl (ed_int (os_mod (by decide) ⟨_, rfl, ?_⟩))))
  refine ed_of (ex_bin (ed_int (ed_n 1 rfl (os_mulL (.inl (by decide)) ⟨_, rfl, os_add ⟨_, rfl, ?_⟩⟩))))
  refine ed_int (os_add ⟨_, rfl, ea_cons (ed_int (ea_nil ⟨by simp, fun p => ?_⟩))⟩)
  refine ⟨_, .dat (.dat .nil), q p _ ⟨_, _, _, rfl, ?_, ?_, ?_, by decide, by decide⟩⟩
  · refine Int.mul_nonneg ?_ ?_
    · split <;> omega
    · exact bi _
  · omega
  · omega
theorem ok_take (F : Fun K "_law_take" "_law_take" sLawTake f fd) (no : ∀ x ∈ bnames, mg x = none) : GOk P w K mg base 1 f fd pLawTake (SpOf K spTake) := by
  refine g_of F scLawTake no (fun A Post Z h => by obtain ⟨_, _, _, _, rfl, _⟩ := h; rfl) (by decide) ?_
  rintro cdv A fr s H E cok g B Post Z ⟨p, ds, n, size, rfl, ⟨a, b, c, rfl, ha, hb, hb2, hc, hcn⟩, hn, hs, hs2, q⟩
  have ml : ∀ {i j : Int}, (0 ≤ j ∧ j < 10000000000) → CMul i j := fun h => .inr (by omega)
  refine ssx_cons (sx_if (tx_cmp ?_))
  refine ed_of (ex_ixo 0 rfl (ed_int ⟨_, _, _, _, rfl, rfl, rfl, _, rfl, ed_int (os_gt ⟨_, rfl, fun h => ?_, fun h => ?_⟩)⟩))
  · have h := of_decide_eq_true h
    refine ssx_cons (sx_set 2 (ex_bin (ed_of (ex_ixo 0 rfl (ed_int ⟨_, _, _, _, rfl, rfl, rfl, _, rfl, ed_n 1 rfl (os_mod hs ?_)⟩)))))
    refine ssx_cons (sx_asg (ed_of (ex_bin (ed_of (ex_ixo 0 rfl (ed_int ⟨_, _, _, _, rfl, rfl, rfl, _, rfl, ed_n 1 rfl (os_div (small_div hs hs2) ⟨_, rfl, ?_⟩)⟩))))))
    · refine gx_set 0 rfl (ed_int ⟨_, _, _, 0, rfl, rfl, rfl, ?_⟩)
      refine ssx_one (sx_ret (ex_of (ed_n 2 rfl ?_)))
      refine ⟨_, .own (List.mem_cons_self) (.dat .nil), q _ _ (Int.emod_nonneg _ (by omega)) (Int.emod_lt_of_pos _ hs) ⟨_, _, _, rfl, ?_, hb, hb2, hc, by omega⟩⟩
      exact Int.ediv_nonneg ha (by omega)
  · refine ssx_nil (ssx_cons (sx_asg (ed_of (ex_bin (ed_of (ex_ixo 0 rfl (ed_int ⟨_, _, _, _, rfl, rfl, rfl, _, rfl, ed_int (os_add ⟨_, rfl, ?_⟩)⟩)))))))
    refine gx_set 0 rfl (ed_int ⟨_, _, _, 2, rfl, rfl, rfl, ?_⟩)
    refine ssx_cons (sx_set 3 (ex_bin (ed_of (ex_bin (ed_of (ex_bin ?_))))))
    refine ed_of (ex_ixo 0 rfl (ed_int ⟨_, _, _, _, rfl, rfl, rfl, _, rfl, ?_⟩))
    refine ed_of (ex_bin (ed_int (ed_of (ex_ixo 0 rfl (ed_int ⟨_, _, _, _, rfl, rfl, rfl, _, rfl, os_mulL (.inl (by decide)) ⟨_, rfl, os_add ⟨_, rfl, ?_⟩⟩⟩)))))
    refine ed_of (ex_bin (ed_int (ed_of (ex_ixo 0 rfl (ed_int ⟨_, _, _, _, rfl, rfl, rfl, _, rfl, os_add ⟨_, rfl, os_mulL (ml (by omega)) ⟨_, rfl, ed_int (os_mod (by decide) ?_)⟩⟩⟩)))))
    generalize hx : (b + 48271 * (c + 1)) * (39373 + (c + 1)) % 2147483647 = x
    have x1 : 0 ≤ x ∧ x < 2147483647 := by omega
    refine ssx_cons (sx_set 4 (ex_bin (ed_of (ex_bin (ed_of (ex_bin (ed_of (ex_bin (ed_n 3 rfl ?_)))))))))
    refine ed_of (ex_ixo 0 rfl (ed_int ⟨_, _, _, _, rfl, rfl, rfl, _, rfl, os_add ⟨_, rfl, ?_⟩⟩))
    refine ed_of (ex_bin (ed_of (ex_ixo 0 rfl (ed_int ⟨_, _, _, _, rfl, rfl, rfl, _, rfl, ed_int (os_div ⟨by decide, by decide⟩ ⟨_, rfl, os_add ⟨_, rfl, ?_⟩⟩)⟩))))
    refine ed_of (ex_bin (ed_of (ex_bin (ed_n 3 rfl (ed_int (os_mod (by decide) ⟨_, rfl, ed_int (os_add ⟨_, rfl, os_mulL (ml (by omega)) ⟨_, rfl, ed_int (os_mod (by decide) ?_)⟩⟩)⟩))))))
    generalize hy : (x + (c + 1) + b / 1000003) * (x % 40009 + 7) % 2147483629 = y
    have y1 : 0 ≤ y ∧ y < 2147483629 := by omega
    refine ssx_one (sx_ret (ex_bin (ed_of (ex_bin (ed_of (ex_bin (ed_of (ex_bin (ed_of (ex_bin (ed_n 4 rfl (ed_int (os_mulL (.inr (by decide)) ⟨_, rfl, ?_⟩)))))))))))))
    refine ed_n 3 rfl (os_add ⟨_, rfl, ed_int (os_mod (by decide) ⟨_, rfl, ed_int (os_div ⟨by decide, by decide⟩ ⟨_, rfl, ed_n 1 rfl (os_mod hs ?_)⟩)⟩)⟩)
    exact ⟨_, .own (List.mem_cons_self) (.dat .nil), q _ _ (Int.emod_nonneg _ (by omega)) (Int.emod_lt_of_pos _ hs) ⟨_, _, _, rfl, ha, hb, hb2, by omega, by omega⟩⟩
theorem ok_of (F : Fun K "_law_of" "_law_of" sLawOf f fd) (no : ∀ x ∈ bnames, mg x = none) (Tk : Fn P w K mg base 1 "_law_take" "_law_take" sLawTake pLawTake spTake) : GOk P w K mg base 2 f fd pLawOf (SpOf K spOf) := by
  refine g_of F scLawOf no (fun A Post Z h => by obtain ⟨_, _, _, _, rfl, _⟩ := h; rfl) (by decide) ?_
  rintro cdv A fr s H E cok g B Post Z ⟨p, ds, es, n, rfl, hB, hn, he, hz, q⟩
  refine ssx_one (sx_ret (ex_ix (ed_n 1 rfl (ed_of (ex_callO 0 Tk g bLawTake rfl (ea_cons (ed_of (ex_seqB "len" (es_of (ex_of (ed_n 1 rfl ⟨_, _, rfl, cq_len ⟨_, rfl, ea_nil ?_⟩⟩)))))))))))
  have hp : 0 < es.length := List.length_pos_iff.mpr he
  refine ⟨_, rfl, p, ds, n, _, rfl, hB, hn, by omega, by omega, fun r ds' h0 h1 hb => ⟨_, _, rfl, _, rfl, ?_⟩⟩
  obtain ⟨j, rfl⟩ := Int.eq_ofNat_of_zero_le h0
  have hj : j < es.length := by omega
  refine xs_l (get_nat hj) ⟨_, .own List.mem_cons_self (.dat .nil), q _ _ (List.getElem_mem hj) hb⟩
theorem zip_same : ∀ ds : List D, zipD ds ds = ds.map fun d => .tup [d, d]
  | [] => rfl
  | d :: ds => by
    show D.tup [d, d] :: zipD ds ds = _
    rw [zip_same ds]
    rfl
theorem eqv_same {n : Nat} {d : D} (h : Pl n d) : d.eqv d = true := SeqAt.eqv_refl d.py (flat_lay h.1)
theorem ok_same (F : Fun K "_law_same" "_law_same" sLawSame f fd) (no : ∀ x ∈ bnames, mg x = none) (hm : mg "_law_same" = some (.ref f)) : ∀ n, GOk P w K mg base (n + 1) f fd pLawSame (SpOf K (spSame n)) := by
  intro n
  have step : ∀ n, (∀ m, n = m + 1 → GOk P w K mg base n f fd pLawSame (SpOf K (spSame m))) → GOk P w K mg base (n + 1) f fd pLawSame (SpOf K (spSame n)) := by
    intro n ih
    refine g_of F scLawSame no (fun A Post Z h => by obtain ⟨_, rfl, _⟩ := h; rfl) (by decide) ?_
    rintro cdv A fr s H E cok g B Post Z ⟨d, rfl, hd, q⟩
    -- numbers, truths, None, texts
    have scal : ∀ T b1 b2, Sc d → TyD d T → kitAnyB T ["list", "tuple"] = some false → kitB T "bool" = some b1 → kitB T "int" = some b2 → SSX (cxOf (CX P w) P w K mg base nLawSame "_law_same" (defScope sLawSame) f cdv A fr s H E) (BodyZ [.dat d, .dat d] Z) ([.dat d, .dat d] ++ List.replicate (nLawSame.length - pLawSame.length) .any) (defBody sLawSame) (BodyE [.dat d, .dat d] Post) := by
      intro T b1 b2 hs ht k0 k1 k2
      refine ssx_cons (sx_if (tx_val (ex_isiT (cs := ["list", "tuple"]) ?_ (by decide))))
      refine ed_n 1 rfl (ea_cons (ed_cls "list" (ea_cons (ed_cls "tuple" (ea_nil ?_)))))
      refine ⟨T, false, rfl, ht, k0, _, rfl, fun h => ?_, fun _ => ?_⟩
      · cases h
      refine ssx_nil (ssx_cons (sx_if (tx_w (tw_or (tx_cmp ?_)))))
      refine ed_of (ex_callB "isinstance" (ea_cons (ed_n 0 rfl (ea_cons (ed_cls "bool" (ea_nil (cs_isi ht k1 ⟨_, rfl, ?_⟩)))))))
      refine ed_of (ex_callB "isinstance" (ea_cons (ed_n 1 rfl (ea_cons (ed_cls "bool" (ea_nil (cs_isi ht k1 ⟨_, rfl, os_neB ⟨_, rfl, fun _ => ?_, fun h => ?_⟩⟩)))))))
      · refine tw_or1 (tx_cmp ?_)
        refine ed_of (ex_callB "isinstance" (ea_cons (ed_n 0 rfl (ea_cons (ed_cls "int" (ea_nil (cs_isi ht k2 ⟨_, rfl, ?_⟩)))))))
        refine ed_of (ex_callB "isinstance" (ea_cons (ed_n 1 rfl (ea_cons (ed_cls "int" (ea_nil (cs_isi ht k2 ⟨_, rfl, os_neB ⟨_, rfl, fun h => ?_, fun _ => ?_⟩⟩)))))))
        · simp at h
        · refine ssx_nil (ssx_one (sx_ret (ex_cmp (ed_n 0 rfl (ed_n 1 rfl (os_eqD (n := 0) (m := 0) hs.pl hs.pl (by decide) (by decide) ?_))))))
          rw [eqv_same (n := 0) hs.pl]
          exact ⟨_, .dat (.dat .nil), q⟩
      · simp at h
    have sc : Sc d → SSX (cxOf (CX P w) P w K mg base nLawSame "_law_same" (defScope sLawSame) f cdv A fr s H E) (BodyZ [.dat d, .dat d] Z) ([.dat d, .dat d] ++ List.replicate (nLawSame.length - pLawSame.length) .any) (defBody sLawSame) (BodyE [.dat d, .dat d] Post) := fun hs => by
      cases hs with
      | non => exact scal "NoneType" false false .non .non (by decide +kernel) (by decide +kernel) (by decide +kernel)
      | bl b => exact scal "bool" true true (.bl b) (.bl b) (by decide +kernel) (by decide +kernel) (by decide +kernel)
      | int i => exact scal "int" false true (.int i) (.int i) (by decide +kernel) (by decide +kernel) (by decide +kernel)
      | str x hx => exact scal "str" false false (.str x hx) (.str x) (by decide +kernel) (by decide +kernel) (by decide +kernel)
    -- lists, tuples
    have seq : ∀ T b1 b2 ds, (d = .lst ds ∨ d = .tup ds) → TyD d T → kitAnyB T ["list", "tuple"] = some true → kitB T "list" = some b1 → kitB T "tuple" = some b2 → ds.length ≤ 1000000 → (∀ x ∈ ds, ∃ m, n = m + 1 ∧ Sm m x) →
        SSX (cxOf (CX P w) P w K mg base nLawSame "_law_same" (defScope sLawSame) f cdv A fr s H E) (BodyZ [.dat d, .dat d] Z) ([.dat d, .dat d] ++ List.replicate (nLawSame.length - pLawSame.length) .any) (defBody sLawSame) (BodyE [.dat d, .dat d] Post) := by
      intro T b1 b2 ds hds ht k0 k1 k2 hz hx
      have hseq : ∃ l, (SD.dat d).seq = some (l, ds) := by rcases hds with rfl | rfl; exact ⟨_, rfl⟩; exact ⟨_, rfl⟩
      obtain ⟨l, hseq⟩ := hseq
      refine ssx_cons (sx_if (tx_val (ex_isiT (cs := ["list", "tuple"]) ?_ (by decide))))
      refine ed_n 1 rfl (ea_cons (ed_cls "list" (ea_cons (ed_cls "tuple" (ea_nil ?_)))))
      refine ⟨T, true, rfl, ht, k0, _, rfl, fun _ => ?_, fun h => ?_⟩
      rotate_left
      · cases h
      refine ssx_cons (sx_if (tx_w (tw_or (tx_cmp ?_))))
      refine ed_of (ex_callB "isinstance" (ea_cons (ed_n 0 rfl (ea_cons (ed_cls "list" (ea_nil (cs_isi ht k1 ⟨_, rfl, ?_⟩)))))))
      refine ed_of (ex_callB "isinstance" (ea_cons (ed_n 1 rfl (ea_cons (ed_cls "list" (ea_nil (cs_isi ht k1 ⟨_, rfl, os_neB ⟨_, rfl, fun _ => ?_, fun h => ?_⟩⟩)))))))
      · refine tw_or1 (tx_cmp ?_)
        refine ed_of (ex_callB "isinstance" (ea_cons (ed_n 0 rfl (ea_cons (ed_cls "tuple" (ea_nil (cs_isi ht k2 ⟨_, rfl, ?_⟩)))))))
        refine ed_of (ex_callB "isinstance" (ea_cons (ed_n 1 rfl (ea_cons (ed_cls "tuple" (ea_nil (cs_isi ht k2 ⟨_, rfl, os_neB ⟨_, rfl, fun h => ?_, fun _ => ?_⟩⟩)))))))
        · simp at h
        · refine ssx_nil (ssx_one (sx_ret (ex_and (ed_of (ex_cmp ?_)))))
          refine ed_of (ex_seqB "len" (es_of (ex_of (ed_n 0 rfl ⟨_, _, hseq, cq_len ⟨_, rfl, ?_⟩⟩))))
          refine ed_of (ex_seqB "len" (es_of (ex_of (ed_n 1 rfl ⟨_, _, hseq, cq_len ⟨_, rfl, os_eq ⟨_, rfl, _, rfl, fun _ => ?_, fun h => ?_⟩⟩⟩))))
          · refine ex_one (ex_seqB "all" (es_of (ex_lc [("here", 2), ("two", 3)] (ei_z (ea_cons (ed_n 0 rfl (ea_cons (ed_n 1 rfl (ea_nil ⟨ds, ds, by rcases hds with rfl | rfl; exact .inl rfl; exact .inr rfl, ?_⟩)))))))))
            rw [zip_same]
            refine lc_map ds _ (fun _ => .bl true) hz (by exact trivial) ?_ ?_
            · intro x hxs s H0 C cl fp
              obtain ⟨m, hm', hsm⟩ := hx x hxs
              subst hm'
              have Rec : Fn P w K mg base (m + 1) "_law_same" "_law_same" sLawSame pLawSame (spSame m) := ⟨f, fd, hm, F, ih m rfl⟩
              refine gx_tup (gxs_cons (gx_n 2 (gxs_cons (gx_n 3 (gxs_nil ?_)))))
              intro s H0 C cl fp
              refine ed_of (ex_call Rec g bLawSame (ea_cons (ed_n 2 rfl (ea_cons (ed_n 3 rfl (ea_nil ⟨x, rfl, hsm, _, rfl, rfl, rfl⟩))))))
            · intro p
              refine ⟨_, _, rfl, cq_all ?_⟩
              have e : (ds.all fun _ => true) = true := by simp
              rw [e]
              exact ⟨_, .dat (.dat .nil), q⟩
          · simp at h
      · simp at h
    cases n with
    | zero => exact sc hd
    | succ n =>
      rcases hd with hd | ⟨ds, rfl | rfl, hz, hx⟩
      · exact sc hd
      · exact seq "list" true false ds (.inl rfl) (.lst ds) (by decide +kernel) (by decide +kernel) (by decide +kernel) hz fun x hxs => ⟨n, rfl, hx x hxs⟩
      · exact seq "tuple" false true ds (.inr rfl) (.tup ds) (by decide +kernel) (by decide +kernel) (by decide +kernel) hz fun x hxs => ⟨n, rfl, hx x hxs⟩
  induction n with
  | zero => exact step 0 fun m e => by omega
  | succ n ih => exact step (n + 1) fun m e => by cases e; exact ih
end
end K2

namespace K2
def dot (xs ys : List Int) : Int := ((xs.zip ys).map fun p => p.1 * p.2).sum
def co (p : Nat) (r : List Int) : Int := r.getD p 0
def Bd (n : Nat) (r : List Int) : Prop := ∀ x ∈ r, x.natAbs ≤ n
theorem dot_comm : ∀ a b : List Int, dot a b = dot b a
  | [], [] => rfl
  | [], _ :: _ => rfl
  | _ :: _, [] => rfl
  | x :: a, y :: b => by
    have ih := dot_comm a b
    show x * y + dot a b = y * x + dot b a
    rw [ih, Int.mul_comm]
/-- the greatest number that divides all -/
def gcs (g : Nat) (r : List Int) : Nat := r.foldl (fun g x => Nat.gcd x.natAbs g) g
def gc (r : List Int) : Nat := gcs 0 r
theorem gcs_dvd : ∀ (r : List Int) (g d : Nat), d ∣ gcs g r ↔ d ∣ g ∧ ∀ x ∈ r, d ∣ x.natAbs
  | [], g, d => by simp [gcs]
  | x :: r, g, d => by
    have ih := gcs_dvd r (Nat.gcd x.natAbs g) d
    show d ∣ gcs (Nat.gcd x.natAbs g) r ↔ _
    rw [ih, Nat.dvd_gcd_iff]
    constructor
    · rintro ⟨⟨h1, h2⟩, h3⟩
      refine ⟨h2, fun y hy => ?_⟩
      rcases List.mem_cons.mp hy with rfl | hy
      · exact h1
      · exact h3 y hy
    · rintro ⟨h1, h2⟩
      exact ⟨⟨h2 x List.mem_cons_self, h1⟩, fun y hy => h2 y (List.mem_cons_of_mem _ hy)⟩
theorem gc_dvd {r : List Int} {d : Nat} : d ∣ gc r ↔ ∀ x ∈ r, d ∣ x.natAbs := by
  unfold gc
  rw [gcs_dvd]
  exact ⟨fun h => h.2, fun h => ⟨Nat.dvd_zero d, h⟩⟩
def anyN (r : List Int) : Bool := r.any fun x => x != 0
theorem gc_pos {r : List Int} (h : anyN r = true) : 0 < gc r := by
  obtain ⟨x, hx, n⟩ := List.any_eq_true.mp h
  have := (gc_dvd (d := gc r)).mp (Nat.dvd_refl _) x hx
  rcases Nat.eq_zero_or_pos (gc r) with z | z
  · rw [z, Nat.zero_dvd] at this
    have : x ≠ 0 := by simpa using n
    omega
  · exact z
theorem gc_zero {r : List Int} (h : anyN r = false) : gc r = 0 := by
  have : 0 ∣ gc r := gc_dvd.mpr fun x hx => by
    have : x = 0 := by
      apply Classical.byContradiction
      intro n
      have : anyN r = true := List.any_eq_true.mpr ⟨x, hx, by simpa using n⟩
      rw [h] at this
      cases this
    rw [this]
    exact Nat.dvd_refl 0
  exact Nat.zero_dvd.mp this
theorem gc_any {r : List Int} : anyN r = decide (0 < gc r) := by
  cases h : anyN r with
  | true => rw [decide_eq_true (gc_pos h)]
  | false => rw [gc_zero h]; rfl
theorem gc_le {r : List Int} {n : Nat} (h : Bd n r) : gc r ≤ n := by
  cases e : anyN r with
  | false => rw [gc_zero e]; exact Nat.zero_le _
  | true =>
    obtain ⟨x, hx, ne⟩ := List.any_eq_true.mp e
    have d := (gc_dvd (d := gc r)).mp (Nat.dvd_refl _) x hx
    have : x ≠ 0 := by simpa using ne
    exact Nat.le_trans (Nat.le_of_dvd (by omega) d) (h x hx)
def allDiv (b : Nat) (r : List Int) : Bool := r.all fun x => decide (x % (b : Int) = 0)
theorem allDiv_iff {b : Nat} {r : List Int} : allDiv b r = true ↔ b ∣ gc r := by
  unfold allDiv
  rw [List.all_eq_true, gc_dvd]
  have key : ∀ x : Int, x % (b : Int) = 0 ↔ b ∣ x.natAbs := fun x => by
    rw [← Int.dvd_iff_emod_eq_zero, Int.ofNat_dvd_left]
  exact ⟨fun h x hx => (key x).mp (of_decide_eq_true (h x hx)), fun h x hx => decide_eq_true ((key x).mpr (h x hx))⟩
def plainL (r : List Int) : List Int := if 0 < gc r then r.map fun x => x / (gc r : Int) else r
/-- what is found first, from above -/
theorem found_gc {r : List Int} {b : Nat} (hb : 0 < b) (hbd : Bd 190 r) (ha : anyN r = true) (hd : allDiv b r = true) (no : ∀ c : Nat, b < c → c ≤ 200 → allDiv c r = false) : b = gc r := by
  have g0 := gc_pos ha
  have d := allDiv_iff.mp hd
  have le := Nat.le_of_dvd g0 d
  rcases Nat.lt_or_ge b (gc r) with h | h
  · have := no (gc r) h (Nat.le_trans (gc_le hbd) (by decide))
    rw [allDiv_iff.mpr (Nat.dvd_refl _)] at this
    cases this
  · omega
theorem none_gc {r : List Int} (hbd : Bd 190 r) (ha : anyN r = true) (no : ∀ c : Nat, 1 < c → c ≤ 200 → allDiv c r = false) : gc r = 1 := by
  have g0 := gc_pos ha
  rcases Nat.lt_or_ge 1 (gc r) with h | h
  · have := no (gc r) h (Nat.le_trans (gc_le hbd) (by decide))
    rw [allDiv_iff.mpr (Nat.dvd_refl _)] at this
    cases this
  · omega
theorem div_one (r : List Int) : (r.map fun x => x / (1 : Int)) = r := by
  have : (fun x : Int => x / 1) = id := by funext x; exact Int.ediv_one x
  rw [this, List.map_id]
theorem plain_one {r : List Int} (h : gc r = 1) : plainL r = r := by
  unfold plainL
  rw [h, if_pos (by decide)]
  exact div_one r
theorem plain_none {r : List Int} (h : anyN r = false) : plainL r = r := by
  unfold plainL
  rw [gc_zero h, if_neg (by decide)]
theorem plain_pos {r : List Int} (h : anyN r = true) : plainL r = r.map fun x => x / (gc r : Int) := by
  unfold plainL
  rw [if_pos (gc_pos h)]
theorem gc_unique {r : List Int} {g : Nat} (h : ∀ d : Nat, d ∣ g ↔ ∀ x ∈ r, d ∣ x.natAbs) : gc r = g := by
  apply Nat.dvd_antisymm
  · exact (h _).mpr (gc_dvd.mp (Nat.dvd_refl _))
  · exact gc_dvd.mpr ((h _).mp (Nat.dvd_refl _))
theorem div_abs {x : Int} {g : Nat} (hg : 0 < g) (h : g ∣ x.natAbs) : (x / (g : Int)).natAbs * g = x.natAbs := by
  have e : x / (g : Int) * (g : Int) = x := Int.ediv_mul_cancel (Int.ofNat_dvd_left.mpr h)
  have := congrArg Int.natAbs e
  rw [Int.natAbs_mul] at this
  simpa using this
theorem gc_plain {r : List Int} (h : anyN r = true) : gc (plainL r) = 1 := by
  have g0 := gc_pos h
  rw [plain_pos h]
  generalize hg : gc r = g at g0
  apply gc_unique
  intro d
  constructor
  · intro hd x hx
    have : d = 1 := Nat.dvd_one.mp hd
    rw [this]
    exact Nat.one_dvd _
  · intro hd
    have : d * g ∣ gc r := gc_dvd.mpr fun x hx => by
      have h1 := hd _ (List.mem_map_of_mem hx)
      have h2 := (gc_dvd (d := g)).mp (by rw [hg]; exact Nat.dvd_refl _) x hx
      rw [← div_abs g0 h2]
      exact Nat.mul_dvd_mul_right h1 g
    rw [hg] at this
    have le := Nat.le_of_dvd g0 this
    have d1 : d ≤ 1 := by
      rcases Nat.lt_or_ge 1 d with h2 | h2
      · have : 2 * g ≤ d * g := Nat.mul_le_mul_right _ h2
        omega
      · exact h2
    rcases Nat.eq_zero_or_pos d with z | z
    · rw [z] at this
      have := Nat.eq_zero_of_zero_dvd (by simpa using this)
      omega
    · have : d = 1 := by omega
      rw [this]
      exact Nat.dvd_refl 1
theorem plain_again {r : List Int} : plainL (plainL r) = plainL r := by
  cases h : anyN r with
  | true => exact plain_one (gc_plain h)
  | false => rw [plain_none h, plain_none h]
def mulL (c : Int) (a : List Int) : List Int := a.map fun x => c * x
theorem any_mul {m : Nat} (hm : 0 < m) (r : List Int) : anyN (mulL m r) = anyN r := by
  unfold anyN mulL
  rw [List.any_map]
  congr 1
  funext x
  rw [Bool.eq_iff_iff]
  simp
  omega
theorem gc_mul {m : Nat} (hm : 0 < m) (r : List Int) : gc (mulL m r) = m * gc r := by
  have go : ∀ (r : List Int) (g : Nat), gcs (m * g) (mulL m r) = m * gcs g r := by
    intro r
    induction r with
    | nil => intro g; rfl
    | cons x r ih =>
      intro g
      show gcs (Nat.gcd ((m : Int) * x).natAbs (m * g)) (mulL m r) = m * gcs (Nat.gcd x.natAbs g) r
      rw [Int.natAbs_mul]
      have : ((m : Int)).natAbs = m := Int.natAbs_natCast m
      rw [this, Nat.gcd_mul_left]
      exact ih _
  have := go r 0
  simpa [gc] using this
theorem plain_mul {m : Nat} (hm : 0 < m) (r : List Int) (h : anyN r = true) : plainL (mulL m r) = plainL r := by
  rw [plain_pos h, plain_pos (by rw [any_mul hm]; exact h), gc_mul hm]
  unfold mulL
  rw [List.map_map]
  apply List.map_congr_left
  intro x hx
  show (m : Int) * x / ((m * gc r : Nat) : Int) = x / (gc r : Int)
  rw [Int.natCast_mul]
  exact Int.mul_ediv_mul_of_pos _ _ (by omega)
theorem zero_mul {m : Nat} {r : List Int} (h : anyN r = false) : mulL m r = r := by
  unfold mulL
  have : ∀ x ∈ r, (m : Int) * x = x := fun x hx => by
    have : x = 0 := by
      apply Classical.byContradiction
      intro n
      have : anyN r = true := List.any_eq_true.mpr ⟨x, hx, by simpa using n⟩
      rw [h] at this
      cases this
    rw [this]
    simp
  exact (List.map_congr_left this).trans (List.map_id' r)
theorem plain_often {m : Nat} (hm : 0 < m) (r : List Int) : plainL (mulL m r) = plainL r := by
  cases h : anyN r with
  | true => exact plain_mul hm r h
  | false => rw [zero_mul h]
/-- an arrow is what is so divided -/
theorem arrow_iff {r : List Int} : decide (gc r = 1) = (anyN r && decide (plainL r = r)) := by
  cases h : anyN r with
  | false =>
    rw [gc_zero h]
    rfl
  | true =>
    rw [Bool.true_and]
    by_cases e : gc r = 1
    · rw [decide_eq_true e, decide_eq_true (plain_one e)]
    · rw [decide_eq_false e, decide_eq_false fun q => e (by rw [← q]; exact gc_plain h)]
theorem dot_step (xs ys : List Int) (i : Nat) (h1 : i < xs.length) (h2 : i < ys.length) : ((xs.take i).zip ys |>.map fun p => p.1 * p.2).sum + xs[i] * ys[i] = ((xs.take (i + 1)).zip ys |>.map fun p => p.1 * p.2).sum := by
  induction i generalizing xs ys with
  | zero =>
    cases xs with
    | nil => cases h1
    | cons x xs => cases ys with
      | nil => cases h2
      | cons y ys => simp
  | succ i ih =>
    cases xs with
    | nil => cases h1
    | cons x xs => cases ys with
      | nil => cases h2
      | cons y ys =>
        have := ih xs ys (by simpa using h1) (by simpa using h2)
        simp only [List.take_succ_cons, List.zip_cons_cons, List.map_cons, List.sum_cons, List.getElem_cons_succ]
        rw [← this]
        omega
end K2

namespace K2
open PySem L2 Y
def row (r : List Int) : D := .tup (r.map .int)
theorem row_of {α : Type} (zs : List α) (f : α → Int) : (D.tup (zs.map fun z => .int (f z))) = row (zs.map f) := by unfold row; rw [List.map_map]; rfl
theorem zip_rows (xs ys : List Int) : zipD (xs.map .int) (ys.map .int) = (xs.zip ys).map fun p => .tup [.int p.1, .int p.2] := by
  unfold zipD
  rw [List.zipWith_map, List.zip, List.map_zipWith]
theorem rng_get {α : Type} {m i : Nat} {F : Nat → α} {d : α} (h : ((List.range m).map F)[i]? = some d) : i < m ∧ d = F i := by
  have hi : i < m := by
    have := (List.getElem?_eq_some_iff.mp h).1
    simpa using this
  rw [List.getElem?_map, List.getElem?_range hi] at h
  cases h
  exact ⟨hi, rfl⟩
theorem co_get {x : List Int} {i : Nat} (h : i < x.length) : x[i] = co i x := by unfold co; rw [List.getD_eq_getElem?_getD, List.getElem?_eq_getElem h]; rfl
theorem atI_row {x : List Int} {i : Nat} (h : i < x.length) : atI (x.map D.int) ((i : Nat) : Int) = some (.int (co i x)) := by
  rw [← co_get h]
  exact atI_nat (by rw [List.getElem?_map, List.getElem?_eq_getElem h]; rfl)
theorem bd_mul {x y : Int} {m n : Nat} (h : x.natAbs ≤ m) (h2 : y.natAbs ≤ n) (hm : m ≤ 100000 := by omega) (hn : n ≤ 100000 := by omega) : CMulW x y :=
  wide_mul (a := 30) (b := 30) (Nat.lt_of_le_of_lt (Nat.le_trans h hm) (by decide)) (Nat.lt_of_le_of_lt (Nat.le_trans h2 hn) (by decide)) (by decide) (by decide) (by decide)
def isNum : D → Bool
  | .int _ => true
  | _ => false
def isRow (d : D) (side : Nat) : Bool := match d with
  | .tup ds => ds.length == side && ds.all isNum
  | _ => false
def numsOf : D → List Int
  | .tup ds => ds.map fun d => match d with | .int i => i | _ => 0
  | _ => []
def arr (d : D) : Bool := (isRow d 2 || isRow d 3) && decide (gc (numsOf d) = 1)
theorem nums_of : ∀ {ds : List D}, ds.all isNum = true → ds = (ds.map fun d => match d with | .int i => i | _ => 0).map .int
  | [], _ => rfl
  | d :: ds, h => by
    rw [List.all_cons, Bool.and_eq_true] at h
    obtain ⟨h1, h2⟩ := h
    have ih := nums_of h2
    cases d <;> simp [isNum] at h1
    rw [List.map_cons, List.map_cons, ← ih]
theorem isRow_of {d : D} {n : Nat} (h : isRow d n = true) : d = row (numsOf d) ∧ (numsOf d).length = n := by
  cases d <;> simp [isRow] at h
  obtain ⟨h1, h2⟩ := h
  have e := nums_of (List.all_eq_true.mpr h2)
  refine ⟨congrArg D.tup e, ?_⟩
  show (List.map _ _).length = n
  rw [List.length_map]
  exact h1
theorem ints_row (r : List Int) : numsOf (row r) = r := by
  show (r.map D.int).map _ = r
  rw [List.map_map]
  exact List.map_id' r
/-- a small thing -/
abbrev Th (d : D) : Prop := Sml 20 2 d
theorem th_ty {n : Nat} {d : D} (h : Sml 20 n d) : ∃ T b1 b2 b3, TyD d T ∧ kitB T "int" = some b1 ∧ kitB T "bool" = some b2 ∧ kitB T "tuple" = some b3 ∧ isNum d = (b1 && !b2) ∧ (b3 = true ↔ ∃ ds, d = .tup ds) := by
  cases h with
  | lst _ _ => exact ⟨"list", false, false, false, .lst _, by decide +kernel, by decide +kernel, by decide +kernel, rfl, by simp⟩
  | tup _ _ => exact ⟨"tuple", false, false, true, .tup _, by decide +kernel, by decide +kernel, by decide +kernel, rfl, by simp⟩
  | lil h =>
    cases h with
    | non => exact ⟨"NoneType", false, false, false, .non, by decide +kernel, by decide +kernel, by decide +kernel, rfl, by simp⟩
    | bl b => exact ⟨"bool", true, true, false, .bl b, by decide +kernel, by decide +kernel, by decide +kernel, rfl, by simp⟩
    | int i _ => exact ⟨"int", true, false, false, .int i, by decide +kernel, by decide +kernel, by decide +kernel, rfl, by simp⟩
    | str x _ _ => exact ⟨"str", false, false, false, .str x, by decide +kernel, by decide +kernel, by decide +kernel, rfl, by simp⟩
theorem th_items {n : Nat} {ds : List D} (h : Sml 20 (n + 1) (.tup ds)) : ds.length ≤ 20 ∧ ∀ x ∈ ds, Sml 20 n x := by
  cases h with
  | tup h1 h2 => exact ⟨h1, h2⟩
  | lil h => cases h
theorem th_bd {r : List Int} {n : Nat} (h : Sml 20 (n + 1) (row r)) : Bd 190 r := fun x hx => by
  have := (th_items h).2 (.int x) (List.mem_map_of_mem hx)
  cases this with
  | lil h => cases h with | int i hi => omega
def spNum : FSp := fun A Post _ => ∃ d : D, A = [.dat d] ∧ Sml 20 1 d ∧ Post (.dat (.bl (isNum d))) A
def spRow : FSp := fun A Post _ => ∃ (d : D) (n : Nat), A = [.dat d, .dat (.int n)] ∧ Th d ∧ Post (.dat (.bl (isRow d n))) A
def spTimes : FSp := fun A Post _ => ∃ xs ys : List Int, A = [.dat (row xs), .dat (row ys)] ∧ xs.length ≤ 100 ∧ Bd 1000 xs ∧ Bd 1000 ys ∧ Post (.dat (.int (dot xs ys))) A
def spCommon : FSp := fun A Post _ => ∃ r : List Int, A = [.dat (row r)] ∧ r.length ≤ 100 ∧ Bd 1000 r ∧ Post (.dat (.int (gc r))) A
def spPlain : FSp := fun A Post _ => ∃ r : List Int, A = [.dat (row r)] ∧ r.length ≤ 100 ∧ Bd 1000 r ∧ Post (.dat (row (plainL r))) A
def spArrow : FSp := fun A Post _ => ∃ d : D, A = [.dat d] ∧ Th d ∧ Post (.dat (.bl (arr d))) A
def spDivided : FSp := fun A Post _ => ∃ r : List Int, A = [.dat (row r)] ∧ r.length ≤ 100 ∧ Bd 190 r ∧ Post (.dat (row (plainL r))) A
theorem cdw {x : Int} {g : Nat} (h : 0 < g) (hg : g ≤ 1000000) : CDivW x (g : Int) := small_div (by omega) (by omega)
theorem lc_id {X : Cx} {scope : Scope} {elt tg : Expr} {vs : List Nat} {Q : SD → List SD → Prop} (zs : List D) (f : D → D) {g : Option (Nat × Addr × List D)} {A1 : List SD} (hz : zs.length ≤ 1000000) (hg : guard g (wipeA A1 vs))
    (turn : ∀ z ∈ zs, ∀ s H0 C cl fp, GX (Bk X scope s H0 C cl fp) Z0 (wipeA A1 vs) tg (fun j => vs.contains j) z fun A2 => ∀ s H0 C cl fp, ED (Bk X scope s H0 C cl fp) Z0 A2 elt fun y A4 => y = f z ∧ wipeA A4 vs = wipeA A1 vs)
    (fin : ∀ p, Q (.own p (.lst (zs.map f))) (restA A1 (wipeA A1 vs) vs)) : LcBody X scope elt tg [] vs Q zs g A1 := by
  have h := lc_map (X := X) (scope := scope) (elt := elt) (tg := tg) (vs := vs) (Q := Q) zs id f (g := g) (A1 := A1) hz hg turn fin
  rw [List.map_id] at h
  exact h
section
variable {P : Program} {w : World} {K : PySem.W.Frag} {mg : Str → Option Value} {base : Heap} {f : Addr} {fd : FuncData}
theorem ok_num (F : Fun K "is_number" "is_number" sIsNumber f fd) (no : ∀ x ∈ bnames, mg x = none) : GOk P w K mg base 1 f fd pIsNumber (SpOf K spNum) := by
  refine g_of F scIsNumber no (fun A Post Z h => by obtain ⟨_, rfl, _⟩ := h; rfl) (by decide) ?_
  rintro cdv A fr s H E cok g B Post Z ⟨d, rfl, hd, q⟩
  obtain ⟨T, b1, b2, b3, ty, k1, k2, k3, e, _⟩ := th_ty hd
  rw [e] at q
  refine ssx_one (sx_ret (ex_and (ed_of (ex_callB "isinstance" (ea_cons (ed_n 0 rfl (ea_cons (ed_cls "int" (ea_nil (cs_isi ty k1 ⟨_, rfl, _, rfl, fun h => ?_, fun h => ?_⟩))))))))))
  · refine ex_one (ex_not (ed_of (ex_callB "isinstance" (ea_cons (ed_n 0 rfl (ea_cons (ed_cls "bool" (ea_nil (cs_isi ty k2 ⟨_, rfl, _, rfl, ?_⟩)))))))))
    subst h
    exact ⟨_, .dat .nil, q⟩
  · subst h
    exact ⟨_, .dat .nil, q⟩
theorem ok_row (F : Fun K "is_row" "is_row" sIsRow f fd) (no : ∀ x ∈ bnames, mg x = none) (Nu : Fn P w K mg base 1 "is_number" "is_number" sIsNumber pIsNumber spNum) : GOk P w K mg base 2 f fd pIsRow (SpOf K spRow) := by
  refine g_of F scIsRow no (fun A Post Z h => by obtain ⟨_, _, rfl, _⟩ := h; rfl) (by decide) ?_
  rintro cdv A fr s H E cok g B Post Z ⟨d, n, rfl, hd, q⟩
  obtain ⟨T, b1, b2, b3, ty, k1, k2, k3, _, e⟩ := th_ty hd
  refine ssx_one (sx_ret (ex_and (ed_of (ex_callB "isinstance" (ea_cons (ed_n 0 rfl (ea_cons (ed_cls "tuple" (ea_nil (cs_isi ty k3 ⟨_, rfl, _, rfl, fun h => ?_, fun h => ?_⟩))))))))))
  rotate_left
  · subst h
    have : isRow d n = false := by
      cases d <;> first | rfl | (exact absurd (e.mpr ⟨_, rfl⟩) (by decide))
    rw [this] at q
    exact ⟨_, .dat (.dat .nil), q⟩
  obtain ⟨ds, rfl⟩ := e.mp h
  obtain ⟨hl, hx⟩ := th_items hd
  refine ex_and (ed_of (ex_cmp (ed_of (ex_seqB "len" (es_of (ex_of (ed_n 0 rfl ⟨_, _, rfl, cq_len ⟨_, rfl, ed_n 1 rfl (os_eq ⟨_, rfl, _, rfl, fun h => ?_, fun h => ?_⟩)⟩⟩)))))))
  rotate_left
  · have h := of_decide_eq_false h
    have : isRow (.tup ds) n = false := by
      show (ds.length == n && ds.all isNum) = false
      have : (ds.length == n) = false := beq_eq_false_iff_ne.mpr (by omega)
      rw [this]
      rfl
    rw [this] at q
    exact ⟨_, .dat (.dat .nil), q⟩
  have h := of_decide_eq_true h
  refine ex_one (ex_seqB "all" (es_of (ex_lc [("one", 2)] (ei_t (ed_n 0 rfl ⟨_, rfl, ?_⟩)))))
  refine lc_id ds (fun x => .bl (isNum x)) (by omega) (by exact trivial) ?_ ?_
  · intro x hxm s H0 C cl fp
    refine gx_n 2 ?_
    intro s H0 C cl fp
    exact ed_of (ex_call Nu g bIsNumber (ea_cons (ed_n 2 rfl (ea_nil ⟨x, rfl, hx x hxm, _, rfl, rfl, rfl⟩))))
  · intro p
    refine ⟨_, _, rfl, cq_all ?_⟩
    have : isRow (.tup ds) n = ds.all isNum := by
      show (ds.length == n && ds.all isNum) = _
      have : (ds.length == n) = true := beq_iff_eq.mpr (by omega)
      rw [this]
      rfl
    rw [this] at q
    exact ⟨_, .dat (.dat .nil), q⟩
theorem ok_times (F : Fun K "times" "times" sTimes f fd) (no : ∀ x ∈ bnames, mg x = none) : GOk P w K mg base 1 f fd pTimes (SpOf K spTimes) := by
  refine g_of F scTimes no (fun A Post Z h => by obtain ⟨_, _, rfl, _⟩ := h; rfl) (by decide) ?_
  rintro cdv A fr s H E cok g B Post Z ⟨xs, ys, rfl, hl, hx, hy, q⟩
  refine ssx_one (sx_ret (ex_seqB "sum" (es_of (ex_lc [("mine", 2), ("its", 3)] (ei_z (ea_cons (ed_n 0 rfl (ea_cons (ed_n 1 rfl (ea_nil ⟨_, _, .inr rfl, ?_⟩))))))))))
  rw [zip_rows]
  refine lc_map (xs.zip ys) _ (fun p => .int (p.1 * p.2)) ?_ (by exact trivial) ?_ ?_
  · rw [List.length_zip]; omega
  · intro p hp s H0 C cl fp
    refine gx_tup (gxs_cons (gx_n 2 (gxs_cons (gx_n 3 (gxs_nil ?_)))))
    intro s H0 C cl fp
    have hp := List.of_mem_zip hp
    refine ed_of (ex_bin (ed_n 2 rfl (ed_n 3 rfl (os_mul (bd_mul (hx _ hp.1) (hy _ hp.2)) ⟨_, rfl, rfl, rfl⟩))))
  · intro p
    refine ⟨_, _, rfl, cq_sum ?_⟩
    exact ⟨_, .dat (.dat .nil), q⟩
theorem ok_common (F : Fun K "common" "common" sCommon f fd) (no : ∀ x ∈ bnames, mg x = none) : GOk P w K mg base 1 f fd pCommon (SpOf K spCommon) := by
  refine g_of F scCommon no (fun A Post Z h => by obtain ⟨_, rfl, _⟩ := h; rfl) (by decide) ?_
  rintro cdv A fr s H E cok g B Post Z ⟨r, rfl, hl, hr, q⟩
  refine ssx_cons (sx_set 1 (ex_of (ed_int ?_)))
  refine ssx_cons (sx_for (ei_t (ed_n 0 rfl ⟨_, rfl, ?_⟩)))
  refine ⟨fun i A' => ∃ s2 s3 s4 : SD, A' = [.dat (row r), .dat (.int (gcs 0 (r.take i) : Nat)), s2, s3, s4], ⟨_, _, _, rfl⟩, fun _ _ _ _ => trivial, ?_, ?_⟩
  · rintro i d A' hd ⟨s2, s3, s4, rfl⟩
    have hi : i < r.length := by simpa using (List.getElem?_eq_some_iff.mp hd).1
    have ei := List.getElem?_eq_getElem hi
    rw [List.getElem?_map, ei] at hd
    cases hd
    have tk : gcs 0 (r.take (i + 1)) = Nat.gcd r[i].natAbs (gcs 0 (r.take i)) := by
      rw [List.take_succ, ei]
      unfold gcs
      rw [List.foldl_append]
      rfl
    generalize r[i] = x at tk ⊢
    generalize gcs 0 (r.take i) = g0 at tk ⊢
    refine gx_n 2 ?_
    refine ssx_cons (sx_par 3 4 (ea_cons (ed_of (ex_callB "abs" (ea_cons (ed_n 2 rfl (ea_nil (cs_abs ⟨_, rfl, ea_cons (ed_n 1 rfl (ea_nil ⟨_, _, rfl, ?_⟩))⟩))))))))
    have ea : (if x < 0 then -x else x) = ((x.natAbs : Nat) : Int) := by split <;> omega
    rw [ea]
    refine ssx_cons (sx_while (fun m A' => ∃ a : Nat, Nat.gcd a m = Nat.gcd x.natAbs g0 ∧ A' = [.dat (row r), .dat (.int (g0 : Nat)), .dat (.int x), .dat (.int (a : Nat)), .dat (.int (m : Nat))]) g0 ⟨x.natAbs, rfl, rfl⟩ ?_)
    rintro m A' ⟨a, hg, rfl⟩
    refine tx_cmp (ed_n 4 rfl (ed_int (os_gt ⟨_, rfl, fun k => ?_, fun k => ?_⟩)))
    · have hm : 0 < m := by have := of_decide_eq_true k; omega
      refine ssx_one (sx_par 3 4 (ea_cons (ed_n 4 rfl (ea_cons (ed_of (ex_bin (ed_n 3 rfl (ed_n 4 rfl (os_mod (by omega) ⟨_, rfl, ea_nil ⟨_, _, rfl, ?_⟩⟩)))))))))
      refine ⟨a % m, Nat.mod_lt _ hm, m, ?_, ?_⟩
      · rw [← hg, Nat.gcd_comm m, ← Nat.gcd_rec, Nat.gcd_comm]
      · rw [← Int.natCast_emod]
        rfl
    · have hm : m = 0 := by have := of_decide_eq_false k; omega
      subst hm
      rw [Nat.gcd_zero_right] at hg
      subst hg
      refine ssx_one (sx_set 1 (ex_of (ed_n 3 rfl ?_)))
      refine ⟨?_, ?_, ?_, ?_⟩
      rotate_left 3
      · rw [tk]
        rfl
  · rintro A' ⟨s2, s3, s4, rfl⟩
    rw [List.length_map, List.take_length]
    exact ssx_one (sx_ret (ex_of (ed_n 1 rfl ⟨_, .dat .nil, q⟩)))
theorem gc_1000 {r : List Int} (h : Bd 1000 r) : gc r ≤ 1000000 := Nat.le_trans (gc_le h) (by decide)
theorem ok_plain (F : Fun K "plain" "plain" sPlain f fd) (no : ∀ x ∈ bnames, mg x = none) (Co : Fn P w K mg base 1 "common" "common" sCommon pCommon spCommon) : GOk P w K mg base 2 f fd pPlain (SpOf K spPlain) := by
  refine g_of F scPlain no (fun A Post Z h => by obtain ⟨_, rfl, _⟩ := h; rfl) (by decide) ?_
  rintro cdv A fr s H E cok g B Post Z ⟨r, rfl, hl, hr, q⟩
  refine ssx_cons (sx_set 1 (ex_call Co g bCommon (ea_cons (ed_n 0 rfl (ea_nil ⟨r, rfl, hl, hr, ?_⟩)))))
  refine ssx_one (sx_ret (ex_if (tx_cmp (ed_n 1 rfl (ed_int (os_gt ⟨_, rfl, fun k => ?_, fun k => ?_⟩))))))
  · have k : 0 < gc r := by have := of_decide_eq_true k; omega
    refine ex_seqT "tuple" (es_of (ex_lc [("number", 2)] (ei_t (ed_n 0 rfl ⟨_, rfl, ?_⟩))))
    refine lc_map r _ (fun x => .int (x / (gc r : Int))) (by omega) (by exact trivial) ?_ ?_
    · intro x hx s H0 C cl fp
      refine gx_n 2 ?_
      intro s H0 C cl fp
      exact ed_of (ex_bin (ed_n 2 rfl (ed_n 1 rfl (os_div (cdw k (gc_1000 hr)) ⟨_, rfl, rfl, rfl⟩))))
    · intro p
      refine ⟨_, _, rfl, cq_tup ?_⟩
      rw [row_of]
      have e : plainL r = r.map fun x => x / (gc r : Int) := by unfold plainL; rw [if_pos k]
      rw [e] at q
      exact ⟨_, .dat .nil, q⟩
  · have k : ¬ 0 < gc r := by have := of_decide_eq_false k; omega
    refine ex_seqT "tuple" (es_of (ex_of (ed_n 0 rfl ⟨false, r.map .int, rfl, cq_tupT ?_⟩)))
    have e : plainL r = r := by unfold plainL; rw [if_neg k]
    rw [e] at q
    exact ⟨_, .dat .nil, q⟩
theorem row_small {d : D} {n : Nat} (hd : Th d) (h : isRow d n = true) : Bd 190 (numsOf d) ∧ d = row (numsOf d) ∧ (numsOf d).length = n := by
  obtain ⟨e, l⟩ := isRow_of h
  rw [e] at hd
  exact ⟨th_bd hd, e, l⟩
theorem bd_up {m n : Nat} {r : List Int} (h : Bd m r) (e : m ≤ n) : Bd n r := fun x hx => Nat.le_trans (h x hx) e
theorem ok_arrow (F : Fun K "is_arrow" "is_arrow" sIsArrow f fd) (no : ∀ x ∈ bnames, mg x = none) (Ro : Fn P w K mg base 2 "is_row" "is_row" sIsRow pIsRow spRow) (Co : Fn P w K mg base 1 "common" "common" sCommon pCommon spCommon) : GOk P w K mg base 3 f fd pIsArrow (SpOf K spArrow) := by
  refine g_of F scIsArrow no (fun A Post Z h => by obtain ⟨_, rfl, _⟩ := h; rfl) (by decide) ?_
  rintro cdv A fr s H E cok g B Post Z ⟨d, rfl, hd, q⟩
  have g1 : Good 1 (cxOf (CX P w) P w K mg base nIsArrow "is_arrow" (defScope sIsArrow) f cdv A fr s H E).A := g.mono (by omega)
  refine ssx_one (sx_ret (ex_and (ed_of (ex_or (ed_of (ex_call Ro g bIsRow (ea_cons (ed_n 0 rfl (ea_cons (ed_int (ea_nil ⟨d, 2, rfl, hd, _, rfl, _, rfl, fun h2 => ?_, fun h2 => ?_⟩)))))))))))
  · refine ex_one (ex_call Ro g bIsRow (ea_cons (ed_n 0 rfl (ea_cons (ed_int (ea_nil ⟨d, 3, rfl, hd, _, rfl, _, rfl, fun h3 => ?_, fun h3 => ?_⟩))))))
    · obtain ⟨b, e, l⟩ := row_small hd h3
      refine ex_one (ex_cmp (ed_of (ex_call Co g1 bCommon (ea_cons (ed_n 0 rfl (ea_nil ⟨numsOf d, (by rw [← e]; rfl), by omega, bd_up b (by decide), _, rfl, ed_int (os_eq ?_)⟩))))))
      unfold arr at q
      rw [h2, h3] at q
      have e1 : decide ((gc (numsOf d) : Int) = 1) = decide (gc (numsOf d) = 1) := by
        by_cases h : gc (numsOf d) = 1
        · simp [h]
        · have : ¬ ((gc (numsOf d) : Int) = 1) := by omega
          simp [h, this]
      rw [e1]
      exact ⟨_, .dat .nil, q⟩
    · unfold arr at q
      rw [h2, h3] at q
      exact ⟨_, .dat .nil, q⟩
  · obtain ⟨b, e, l⟩ := row_small hd h2
    refine ⟨_, rfl, _, rfl, fun _ => ?_, fun k => by cases k⟩
    refine ex_one (ex_cmp (ed_of (ex_call Co g1 bCommon (ea_cons (ed_n 0 rfl (ea_nil ⟨numsOf d, (by rw [← e]; rfl), by omega, bd_up b (by decide), _, rfl, ed_int (os_eq ?_)⟩))))))
    unfold arr at q
    rw [h2] at q
    have e1 : decide ((gc (numsOf d) : Int) = 1) = decide (gc (numsOf d) = 1) := by
      by_cases h : gc (numsOf d) = 1
      · simp [h]
      · have : ¬ ((gc (numsOf d) : Int) = 1) := by omega
        simp [h, this]
    rw [e1]
    exact ⟨_, .dat .nil, q⟩
theorem ok_divided (F : Fun K "_law_divided" "_law_divided" sLawDivided f fd) (no : ∀ x ∈ bnames, mg x = none) : GOk P w K mg base 1 f fd pLawDivided (SpOf K spDivided) := by
  refine g_of F scLawDivided no (fun A Post Z h => by obtain ⟨_, rfl, _⟩ := h; rfl) (by decide) ?_
  rintro cdv A fr s H E cok g B Post Z ⟨r, rfl, hl, hr, q⟩
  refine ssx_cons (sx_for (ei_r3 (ea_cons (ed_int (ea_cons (ed_int (ea_cons (ed_of (ex_un (ed_int (us_neg ⟨_, rfl, ea_nil ⟨200, 1, rfl, by decide, ?_⟩⟩)))))))))))
  refine ⟨fun i A' => ∃ s1 : SD, (anyN r = true → ∀ c : Nat, 200 - i < c → c ≤ 200 → allDiv c r = false) ∧ A' = [.dat (row r), s1, .any], ⟨_, fun _ c h1 h2 => by omega, rfl⟩, fun _ _ _ _ => trivial, ?_, ?_⟩
  · rintro i d A' hd ⟨s1, hno, rfl⟩
    obtain ⟨hi, rfl⟩ := rng_get hd
    have hi : i < 199 := hi
    obtain ⟨b, eb, hb⟩ : ∃ b : Nat, (200 + ((i : Nat) : Int) * -1) = b ∧ b = 200 - i := ⟨200 - i, by omega, rfl⟩
    rw [eb]
    refine gx_n 1 ?_
    refine ssx_one (sx_if (tx_w (tw_and (tx_val (ex_seqB "all" (es_of (ex_lc [("digit", 2)] (ei_t (ed_n 0 rfl ⟨_, rfl, ?_⟩)))))))))
    refine lc_map r _ (fun x => .bl (decide (x % (b : Int) = 0))) (by omega) (by exact trivial) ?_ ?_
    · intro x hx s H0 C cl fp
      refine gx_n 2 ?_
      intro s H0 C cl fp
      exact ed_of (ex_cmp (ed_of (ex_bin (ed_n 2 rfl (ed_n 1 rfl (os_mod (by omega) ⟨_, rfl, ed_int (os_eq ⟨_, rfl, rfl, rfl⟩)⟩))))))
    intro p
    refine ⟨_, _, rfl, cq_all ⟨_, rfl, fun h => ?_, fun h => ?_⟩⟩
    · have h : allDiv b r = true := h
      refine tw_and1 (tx_val (ex_seqB "any" (es_of (ex_of (ed_n 0 rfl ⟨false, r.map .int, rfl, cq_anyI (f := fun x => x) ⟨_, rfl, fun k => ?_, fun k => ?_⟩⟩)))))
      · have k : anyN r = true := k
        have e := found_gc (by omega) hr k h fun c h1 h2 => hno k c (by omega) h2
        refine ssx_one (sx_ret (ex_seqT "tuple" (es_of (ex_lc [("digit", 2)] (ei_t (ed_n 0 rfl ⟨_, rfl, ?_⟩))))))
        refine lc_map r _ (fun x => .int (x / (b : Int))) (by omega) (by exact trivial) ?_ ?_
        · intro x hx s H0 C cl fp
          refine gx_n 2 ?_
          intro s H0 C cl fp
          exact ed_of (ex_bin (ed_n 2 rfl (ed_n 1 rfl (os_div (cdw (by omega) (by omega)) ⟨_, rfl, rfl, rfl⟩))))
        · intro p
          refine ⟨_, _, rfl, cq_tup ?_⟩
          rw [row_of]
          rw [plain_pos k, ← e] at q
          exact ⟨_, .dat .nil, q⟩
      · have k : anyN r = false := k
        exact ssx_nil ⟨_, fun z => (by rw [k] at z; cases z), rfl⟩
    · have h : allDiv b r = false := h
      refine ⟨fun e => (by cases e), fun _ => ssx_nil ⟨_, fun z c h1 h2 => ?_, rfl⟩⟩
      by_cases e : c = b
      · rw [e]; exact h
      · exact hno z c (by omega) h2
  · rintro A' ⟨s1, hno, rfl⟩
    have e : plainL r = r := by
      cases k : anyN r with
      | false => exact plain_none k
      | true => exact plain_one (none_gc hr k fun c h1 h2 => hno k c (by simp; omega) h2)
    rw [e] at q
    exact ssx_one (sx_ret (ex_of (ed_n 0 rfl ⟨_, .dat .nil, q⟩)))
end
end K2

namespace K2
open PySem L2 Y
theorem pys_ints : ∀ r : List Int, D.pys (r.map .int) = r.map PyData.int
  | [] => rfl
  | x :: r => congrArg _ (pys_ints r)
theorem eqv_ints : ∀ a b : List Int, PyData.eqvAll (a.map PyData.int) (b.map PyData.int) = decide (a = b)
  | [], [] => by simp [PyData.eqvAll]
  | [], y :: b => by simp [PyData.eqvAll]
  | x :: a, [] => by simp [PyData.eqvAll]
  | x :: a, y :: b => by
    have ih := eqv_ints a b
    simp only [List.map_cons, PyData.eqvAll, PyData.eqv]
    rw [ih, Bool.eq_iff_iff]
    simp
theorem eqv_row (a b : List Int) : (row a).eqv (row b) = decide (a = b) := by
  show PyData.eqv (.tuple (D.pys (a.map .int))) (.tuple (D.pys (b.map .int))) = _
  rw [pys_ints, pys_ints]
  simp only [PyData.eqv]
  exact eqv_ints a b
theorem pl_row (r : List Int) : Pl 1 (row r) := Pl.tup fun y hy => by
  obtain ⟨z, _, rfl⟩ := List.mem_map.mp hy
  exact Pl.int z
theorem rep_flat {α : Type} (x : α) : ∀ n : Nat, (List.replicate n [x]).flatten = List.replicate n x
  | 0 => rfl
  | n + 1 => by rw [List.replicate_succ, List.flatten_cons, rep_flat x n]; rfl
theorem os_repZ {X : Cx} {A : List SD} {n : Int} {Q : SD → List SD → Prop} (h1 : 1 ≤ n) (hn : n ≤ 1000) (q : Q (.dat (row (List.replicate n.toNat 0))) A) : OS X A (binaryOp .Mult) (.tup [.int 0]) (.int n) Q := by
  by_cases h : n = 1
  · subst h
    exact os_repT1 q
  · refine os_repT (by simp) (by omega) hn (by simp) ?_
    rw [rep_flat]
    have e : row (List.replicate n.toNat 0) = .tup (List.replicate n.toNat (D.int 0)) := by unfold row; rw [List.map_replicate]
    rw [e] at q
    exact q
theorem not_all {n k : Nat} (h : k < n) : ¬ (HT.sIx n 0 none = 0 ∧ HT.sIx n n (some (k : Int)) = n) := fun z => by
  have := z.2
  rw [HT.sIx_nat] at this
  omega
theorem not_all2 {n k : Nat} (h : 0 < k) (h2 : 0 < n) : ¬ (HT.sIx n 0 (some (k : Int)) = 0 ∧ HT.sIx n n none = n) := fun z => by
  have := z.1
  rw [HT.sIx_nat] at this
  omega
theorem cut_take (ds : List D) (i : Nat) (h : i ≤ ds.length) : cutD ds none (some (i : Int)) = ds.take i := by
  unfold cutD
  have e1 : HT.sIx ds.length 0 none = 0 := rfl
  have e2 : HT.sIx ds.length ds.length (some (i : Int)) = i := by rw [HT.sIx_nat]; omega
  rw [e1, e2]
  rfl
theorem cut_drop (ds : List D) (i : Nat) : ∃ es, cutD ds (some (i : Int)) none = es ∧ es.length ≤ ds.length ∧ ∀ x ∈ es, x ∈ ds := ⟨_, rfl, by unfold cutD; rw [List.length_take, List.length_drop]; omega, fun x hx => by
  unfold cutD at hx
  exact List.mem_of_mem_drop (List.mem_of_mem_take hx)⟩
theorem bd_rep (n wd : Nat) : Bd n (List.replicate wd 0) := fun x hx => by rw [(List.mem_replicate.mp hx).2]; exact Nat.zero_le _
theorem th_row {n : Nat} {r : List Int} (h : Bd 190 r) (hl : r.length ≤ 20) : Sml 20 (n + 1) (row r) := .tup (by rw [List.length_map]; exact hl) fun x hx => by
  obtain ⟨y, hy, rfl⟩ := List.mem_map.mp hx
  exact .lil (.int y (Nat.lt_of_le_of_lt (h y hy) (by decide)))
def spLRow : FSp := fun A Post _ => ∃ (p : Addr) (ds : List D) (n wd : Nat), A = [.own p (.lst ds), .dat (.int wd)] ∧ BoxOk n ds ∧ n ≤ 900000 ∧ (wd = 2 ∨ wd = 3) ∧ ∀ ds' r, BoxOk (n + 5) ds' → r.length = wd → Bd 9 r → Post (.dat (row r)) [.own p (.lst ds'), .dat (.int wd)]
def spBent : FSp := fun A Post _ => ∃ (p : Addr) (ds : List D) (n : Nat) (r : List Int), A = [.own p (.lst ds), .dat (row r)] ∧ BoxOk n ds ∧ n ≤ 900000 ∧ (r.length = 2 ∨ r.length = 3) ∧ Bd 9 r ∧ ∀ d ds', Th d → BoxOk (n + 3) ds' → Post (.dat d) [.own p (.lst ds'), .dat (row r)]
section
variable {P : Program} {w : World} {K : PySem.W.Frag} {mg : Str → Option Value} {base : Heap} {f : Addr} {fd : FuncData}
theorem ok_lrow (F : Fun K "_law_row" "_law_row" sLawRow f fd) (no : ∀ x ∈ bnames, mg x = none) (Of : Fn P w K mg base 2 "_law_of" "_law_of" sLawOf pLawOf spOf) (Tk : Fn P w K mg base 1 "_law_take" "_law_take" sLawTake pLawTake spTake) : GOk P w K mg base 3 f fd pLawRow (SpOf K spLRow) := by
  refine g_of F scLawRow no (fun A Post Z h => by obtain ⟨_, _, _, _, rfl, _⟩ := h; rfl) (by decide) ?_
  rintro cdv A fr s H E cok g B Post Z ⟨p, ds, n, wd, rfl, hB, hn, hw, q⟩
  have g1 : Good 1 (cxOf (CX P w) P w K mg base nLawRow "_law_row" (defScope sLawRow) f cdv A fr s H E).A := g.mono (by omega)
  refine ssx_cons (sx_set 2 (ex_callO 0 Of g bLawOf rfl (ea_cons (ed_of (ex_lst (ea_cons (ed_int (ea_cons (ed_int (ea_cons (ed_int (ea_nil ⟨by simp, fun p9 => ⟨_, rfl, ea_nil ?_⟩⟩))))))))))))
  refine ⟨_, rfl, p, ds, _, n, rfl, hB, by omega, by simp, by simp, fun d ds1 hd hb1 => ⟨_, _, rfl, ?_⟩⟩
  obtain ⟨t, rfl, t1, t9⟩ : ∃ t : Int, d = .int t ∧ 1 ≤ t ∧ t ≤ 9 := by
    simp at hd
    rcases hd with rfl | rfl | rfl <;> exact ⟨_, rfl, by decide, by decide⟩
  refine ssx_cons (sx_set 3 (ex_seqT "tuple" (es_of (ex_lc [("turn", 4)] (ei_r1 (ed_n 1 rfl ⟨_, rfl, by omega, ?_⟩))))))
  refine lc_run (by simp; omega) (fun j acc' A2 => ∃ (dsj : List D) (xs : List Int), BoxOk (n + 1 + j) dsj ∧ xs.length = j ∧ acc' = xs.map .int ∧ Bd 9 xs ∧
    A2 = [.own p (.lst dsj), .dat (.int wd), .dat (.int t), .any, .any]) ⟨ds1, [], hb1, rfl, rfl, (by unfold Bd; simp), rfl⟩ (fun _ _ _ _ _ => trivial) ?_ ?_
  · rintro j d acc' A2 hd ⟨dsj, xs, hbj, hlj, rfl, hx, rfl⟩ s H0 C cl fp
    obtain ⟨hj, rfl⟩ := rng_get hd
    refine gx_n 4 ?_
    intro s H0 C cl fp
    refine ed_of (ex_bin (ed_of (ex_callO 0 Tk g1 bLawTake rfl (ea_cons (ed_of (ex_bin (ed_of (ex_bin (ed_int (ed_n 2 rfl (os_mulL (.inl (by decide)) ⟨_, rfl, ed_int (os_add ⟨_, rfl, ea_nil ?_⟩)⟩)))))))))))
    refine ⟨_, rfl, p, dsj, _, _, rfl, hbj, by omega, by omega, by omega, fun r ds3 h0 h1 hb3 => ⟨_, _, rfl, _, rfl, ed_n 2 rfl (os_sub ⟨_, rfl, ?_⟩)⟩⟩
    refine ⟨ds3, xs ++ [r - t], hb3, by simp [hlj], by simp, fun x hx' => ?_, rfl⟩
    rcases List.mem_append.mp hx' with h | h
    · exact hx x h
    · have : x = r - t := by simpa using h
      subst this
      omega
  rintro acc' A2 ⟨ds2, x, hb2, hl2, rfl, hx, rfl⟩ p5
  have hl2 : x.length = wd := by rw [hl2]; simp
  have hb2 : BoxOk (n + 4) ds2 := hb2.mono (by simp; omega)
  refine ⟨_, _, rfl, cq_tup ?_⟩
  refine ssx_at (B := [.own p (.lst ds2), .dat (.int wd), .dat (.int t), .dat (row x), .any]) ?_ rfl
  refine ssx_one (sx_ret (ex_callO 0 Of g bLawOf rfl (ea_cons (ed_of (ex_lst (ea_cons (ed_n 3 rfl (ea_cons (ed_n 3 rfl (ea_cons (ed_of (ex_bin (ed_of (ex_tup (ea_cons (ed_int (ea_nil ⟨by simp, _, rfl, ed_n 1 rfl (os_repZ (by omega) (by omega) ⟨_, rfl, ?_⟩)⟩)))))))))))))))))
  refine ea_cons (ed_of (ex_bin (ed_of (ex_slT (ed_n 3 rfl ⟨_, rfl, ed_int ⟨1, rfl, not_all (k := 1) (by rw [List.length_map]; omega), _, rfl, ?_⟩⟩)))))
  refine ed_of (ex_bin (ed_of (ex_tup (ea_cons (ed_int (ea_nil ⟨by simp, _, rfl, ed_of (ex_bin (ed_n 1 rfl (ed_int (os_sub ⟨_, rfl, os_repZ (by omega) (by omega) ⟨_, rfl, os_catT ?_ ⟨_, rfl, ea_nil ⟨by simp, fun p9 => ⟨_, rfl, ea_nil ?_⟩⟩⟩⟩⟩))))⟩))))))
  · rw [List.length_map, List.length_replicate]
    unfold cutD
    rw [List.length_take, List.length_drop, List.length_map]
    omega
  have ec := cut_take (x.map .int) 1 (by rw [List.length_map]; omega)
  refine ⟨_, rfl, p, ds2, _, _, rfl, hb2, by omega, by simp, by simp, fun d ds3 hd hb3 => ⟨_, _, rfl, ?_⟩⟩
  have fin : ∃ r, d = row r ∧ r.length = wd ∧ Bd 9 r := by
    have : d = row x ∨ d = row (List.replicate ((wd : Int)).toNat 0) ∨ d = .tup (cutD (x.map .int) none (some 1) ++ (List.replicate ((wd : Int) - 1).toNat 0).map .int) := by
      simp at hd
      rcases hd with rfl | rfl | rfl
      · exact .inl rfl
      · exact .inr (.inl rfl)
      · exact .inr (.inr (by simp))
    rcases this with rfl | rfl | rfl
    · exact ⟨x, rfl, hl2, hx⟩
    · exact ⟨_, rfl, by rw [List.length_replicate]; omega, bd_rep _ _⟩
    · refine ⟨x.take 1 ++ List.replicate ((wd : Int) - 1).toNat 0, ?_, by rw [List.length_append, List.length_take, List.length_replicate]; omega, fun y hy => ?_⟩
      · have ec : cutD (x.map .int) none (some 1) = (x.map .int).take 1 := ec
        rw [ec, ← List.map_take, ← List.map_append]
        rfl
      · rcases List.mem_append.mp hy with hy | hy
        · exact hx y (List.mem_of_mem_take hy)
        · exact bd_rep _ _ y hy
  obtain ⟨r, rfl, l, b⟩ := fin
  exact ⟨_, .own List.mem_cons_self (.dat .nil), q _ r (hb3.mono (by omega)) l b⟩
theorem ok_larrow (F : Fun K "_law_is_arrow" "_law_is_arrow" sLawIsArrow f fd) (no : ∀ x ∈ bnames, mg x = none) (Di : Fn P w K mg base 1 "_law_divided" "_law_divided" sLawDivided pLawDivided spDivided) : GOk P w K mg base 2 f fd pLawIsArrow (SpOf K spArrow) := by
  refine g_of F scLawIsArrow no (fun A Post Z h => by obtain ⟨_, rfl, _⟩ := h; rfl) (by decide) ?_
  rintro cdv A fr s H E cok g B Post Z ⟨d, rfl, hd, q⟩
  obtain ⟨T, b1, b2, b3, ty, k1, k2, k3, _, e⟩ := th_ty hd
  by_cases ht : b3 = true
  · obtain ⟨ds, rfl⟩ := e.mp ht
    obtain ⟨hl, hx⟩ := th_items hd
    refine ssx_cons (sx_if (tx_w (tw_or (tx_not (tx_val (ex_callB "isinstance" (ea_cons (ed_n 0 rfl (ea_cons (ed_cls "tuple" (ea_nil (cs_isi ty k3 ⟨_, rfl, fun h => ?_, fun h => ?_⟩))))))))))))
    rotate_left
    · rw [ht] at h
      cases h
    refine tw_or1 (tx_cmp (ed_of (ex_seqB "len" (es_of (ex_of (ed_n 0 rfl ⟨_, _, rfl, cq_len ⟨_, rfl, ed_of (ex_tup (ea_cons (ed_int (ea_cons (ed_int (ea_nil ⟨by simp, _, rfl, os_notInT (js := [2, 3]) ⟨_, rfl, fun h => ?_, fun h => ?_⟩⟩))))))⟩⟩))))))
    · have hn : ds.length ≠ 2 ∧ ds.length ≠ 3 := by
        simp at h
        omega
      have : arr (.tup ds) = false := by
        have e2 : isRow (.tup ds) 2 = false := by
          show (ds.length == 2 && _) = false
          rw [beq_eq_false_iff_ne.mpr hn.1]; rfl
        have e3 : isRow (.tup ds) 3 = false := by
          show (ds.length == 3 && _) = false
          rw [beq_eq_false_iff_ne.mpr hn.2]; rfl
        unfold arr
        rw [e2, e3]
        rfl
      rw [this] at q
      exact ssx_one (sx_ret (ex_of (ed_bl ⟨_, .dat .nil, q⟩)))
    have hn : ds.length = 2 ∨ ds.length = 3 := by
      simp at h
      omega
    have ea : arr (.tup ds) = (ds.all isNum && decide (gc (numsOf (.tup ds)) = 1)) := by
      have e2 : (isRow (.tup ds) 2 || isRow (.tup ds) 3) = ds.all isNum := by
        show ((ds.length == 2 && ds.all isNum) || (ds.length == 3 && ds.all isNum)) = _
        rcases hn with h | h <;> rw [h] <;> simp
      unfold arr
      rw [e2]
    refine ssx_nil (ssx_cons (sx_if (tx_not (tx_val (ex_seqB "all" (es_of (ex_lc [("digit", 1)] (ei_t (ed_n 0 rfl ⟨_, rfl, ?_⟩)))))))))
    refine lc_id ds (fun x => .bl (isNum x)) (by omega) (by exact trivial) ?_ ?_
    · intro x hxm s H0 C cl fp
      refine gx_n 1 ?_
      intro s H0 C cl fp
      obtain ⟨T, b1, b2, b3, ty, k1, k2, k3, e, _⟩ := th_ty (hx x hxm)
      rw [e]
      refine ed_of (ex_and (ed_of (ex_callB "isinstance" (ea_cons (ed_n 1 rfl (ea_cons (ed_cls "int" (ea_nil (cs_isi ty k1 ⟨_, rfl, _, rfl, fun h => ?_, fun h => ?_⟩)))))))))
      · refine ex_one (ex_not (ed_of (ex_callB "isinstance" (ea_cons (ed_n 1 rfl (ea_cons (ed_cls "bool" (ea_nil (cs_isi ty k2 ⟨_, rfl, _, rfl, ?_⟩)))))))))
        subst h
        exact ⟨_, rfl, rfl, rfl⟩
      · subst h
        exact ⟨_, rfl, rfl, rfl⟩
    intro p3
    refine ⟨_, _, rfl, cq_all ⟨_, rfl, fun h => ?_, fun h => ?_⟩⟩
    · have h : ds.all isNum = false := by simpa using h
      rw [ea, h] at q
      exact ssx_one (sx_ret (ex_of (ed_bl ⟨_, .dat .nil, q⟩)))
    have h : ds.all isNum = true := by simpa using h
    have er : D.tup ds = row (numsOf (.tup ds)) := congrArg D.tup (nums_of h)
    rw [ea, h, Bool.true_and] at q
    have bd : Bd 190 (numsOf (.tup ds)) := th_bd (n := 1) (by rw [← er]; exact hd)
    have ln : (numsOf (.tup ds)).length ≤ 100 := by
      show (List.map _ ds).length ≤ 100
      rw [List.length_map]
      omega
    generalize numsOf (.tup ds) = r at er q bd ln
    rw [er] at q ⊢
    rw [arrow_iff] at q
    refine ssx_nil (ssx_one (sx_ret (ex_and (ed_of (ex_seqB "any" (es_of (ex_of (ed_n 0 rfl ⟨false, r.map .int, rfl, cq_anyI (f := fun x => x) ⟨_, rfl, _, rfl, fun h => ?_, fun h => ?_⟩⟩))))))))
    · have h : anyN r = true := h
      refine ex_one (ex_cmp (ed_of (ex_call Di g bLawDivided (ea_cons (ed_n 0 rfl (ea_nil ⟨r, rfl, ln, bd, _, rfl, ed_n 0 rfl (os_eqD (n := 1) (m := 1) (pl_row _) (pl_row _) (by decide) (by decide) ?_)⟩))))))
      rw [eqv_row]
      rw [h, Bool.true_and] at q
      exact ⟨_, .dat .nil, q⟩
    · have h : anyN r = false := h
      rw [h] at q
      exact ⟨_, .dat .nil, q⟩
  · have ht : b3 = false := by simpa using ht
    refine ssx_cons (sx_if (tx_w (tw_or (tx_not (tx_val (ex_callB "isinstance" (ea_cons (ed_n 0 rfl (ea_cons (ed_cls "tuple" (ea_nil (cs_isi ty k3 ⟨_, rfl, fun h => ?_, fun h => ?_⟩))))))))))))
    · rw [ht] at h
      cases h
    refine ⟨fun _ => ?_, fun e => (by cases e)⟩
    have : arr d = false := by
      have e1 : ∀ n, isRow d n = false := fun n => by
        cases d <;> first | rfl | (rw [e.mpr ⟨_, rfl⟩] at ht; cases ht)
      unfold arr
      rw [e1, e1]
      rfl
    rw [this] at q
    exact ssx_one (sx_ret (ex_of (ed_bl ⟨_, .dat .nil, q⟩)))
theorem ok_bent (F : Fun K "_law_bent" "_law_bent" sLawBent f fd) (no : ∀ x ∈ bnames, mg x = none) (Of : Fn P w K mg base 2 "_law_of" "_law_of" sLawOf pLawOf spOf) (Tk : Fn P w K mg base 1 "_law_take" "_law_take" sLawTake pLawTake spTake) : GOk P w K mg base 3 f fd pLawBent (SpOf K spBent) := by
  refine g_of F scLawBent no (fun A Post Z h => by obtain ⟨_, _, _, _, rfl, _⟩ := h; rfl) (by decide) ?_
  rintro cdv A fr s H E cok g B Post Z ⟨p, ds, n, r, rfl, hB, hn, hr, hb, q⟩
  have g1 : Good 1 (cxOf (CX P w) P w K mg base nLawBent "_law_bent" (defScope sLawBent) f cdv A fr s H E).A := g.mono (by omega)
  have el : (r.map D.int).length = r.length := List.length_map ..
  refine ssx_cons (sx_par 2 3 (ea_cons (ed_of (ex_callO 0 Tk g1 bLawTake rfl (ea_cons (ed_int (ea_nil ?_)))))))
  refine ⟨_, rfl, p, ds, _, _, rfl, hB, by omega, by decide, by decide, fun y ds1 h0 h1 hb1 => ⟨_, _, rfl, _, rfl, ?_⟩⟩
  refine ea_cons (ed_of (ex_callO 0 Tk g1 bLawTake rfl (ea_cons (ed_of (ex_seqB "len" (es_of (ex_of (ed_n 1 rfl ⟨_, _, rfl, cq_len ⟨_, rfl, ea_nil ?_⟩⟩))))))))
  refine ⟨_, rfl, p, ds1, _, _, rfl, hb1, by omega, by omega, by omega, fun z ds2 h2 h3 hb2 => ⟨_, _, rfl, _, rfl, ea_nil ⟨_, _, rfl, ?_⟩⟩⟩
  obtain ⟨a, rfl⟩ := Int.eq_ofNat_of_zero_le h2
  have ha : a < r.length := by omega
  obtain ⟨wy, rfl⟩ := Int.eq_ofNat_of_zero_le h0
  have hy : wy < 6 := by omega
  have bx : (co a r).natAbs ≤ 9 := by rw [← co_get ha]; exact hb _ (List.getElem_mem ha)
  have it : ∀ x ∈ r.map D.int, Sml 20 1 x := fun x hx => by
    obtain ⟨y, hy, rfl⟩ := List.mem_map.mp hx
    exact .lil (.int y (Nat.lt_of_le_of_lt (hb y hy) (by decide)))
  have sint : ∀ (n : Nat) (i : Int), i.natAbs < 191 → Sml 20 n (.int i) := fun n i h => .lil (.int i h)
  refine ssx_at (B := [.own p (.lst ds2), .dat (row r), .dat (.int (wy : Nat)), .dat (.int (a : Nat)), .any]) ?_ rfl
  refine ssx_cons (sx_set 4 (ex_lst (ea_cons (ed_bl (ea_cons (ed_bl (ea_cons (ed_non (ea_cons (ed_str (ea_cons (ed_of (ex_tup (ea_cons (ed_int (ea_nil ⟨by simp, _, rfl, ?_⟩))))))))))))))))
  refine ea_cons (ed_of (ex_lst (ea_cons (ed_int (ea_nil ⟨by simp, fun p8 => ⟨_, rfl, ?_⟩⟩)))))
  refine ea_cons (ed_of (ex_tup (ea_nil ⟨by simp, _, rfl, ?_⟩)))
  refine ea_cons (ed_of (ex_bin (ed_of (ex_ix (ed_n 1 rfl (ed_n 3 rfl (xs_t (atI_row ha) ⟨_, rfl, ed_int (os_add ⟨_, rfl, ?_⟩)⟩)))))))
  refine ea_cons (ed_of (ex_un (ed_of (ex_ix (ed_n 1 rfl (ed_n 3 rfl (xs_t (atI_row ha) ⟨_, rfl, us_neg ⟨_, rfl, ?_⟩⟩)))))))
  refine ea_cons (ed_int (ea_cons (ed_int (ea_cons (ed_of (ex_bin (ed_int (ed_of (ex_ix (ed_n 1 rfl (ed_n 3 rfl (xs_t (atI_row ha) ⟨_, rfl, os_mulL (.inl (by decide)) ⟨_, rfl, ea_nil ⟨by simp, fun p4 => ?_⟩⟩⟩))))))))))))
  generalize hod : ([.bl true, .bl false, .non, .str "1", .tup [.int 1], .lst [.int 1], .tup [], .int (co a r + 1), .int (-co a r), .int 0, .int 1, .int (2 * co a r)] : List D) = od
  have odl : od.length = 12 := by rw [← hod]; rfl
  have ods : ∀ d ∈ od, Sml 20 1 d := fun d hd => by
    rw [← hod] at hd
    simp only [List.mem_cons, List.not_mem_nil, or_false] at hd
    rcases hd with rfl | rfl | rfl | rfl | rfl | rfl | rfl | rfl | rfl | rfl | rfl | rfl
    · exact .lil (.bl _)
    · exact .lil (.bl _)
    · exact .lil .non
    · exact .lil (.str _ (by decide +kernel) (by decide +kernel))
    · exact .tup (by simp) fun x hx => by rw [List.mem_singleton.mp hx]; exact sint _ _ (by decide)
    · exact .lst (by simp) fun x hx => by rw [List.mem_singleton.mp hx]; exact sint _ _ (by decide)
    · exact .tup (by simp) fun x hx => by cases hx
    · exact sint _ _ (by omega)
    · exact sint _ _ (by omega)
    · exact sint _ _ (by decide)
    · exact sint _ _ (by decide)
    · exact sint _ _ (by omega)
  refine ssx_at (B := [.own p (.lst ds2), .dat (row r), .dat (.int (wy : Nat)), .dat (.int (a : Nat)), .own p4 (.lst od)]) ?_ (by rw [← hod]; rfl)
  have etk := cut_take (r.map .int) a (by omega)
  obtain ⟨es, eds, esl, esm⟩ := cut_drop (r.map .int) (a + 1)
  have ecast : ((a : Int) + 1) = ((a + 1 : Nat) : Int) := rfl
  have na := not_all (n := (r.map D.int).length) (k := a) (by omega)
  have nb := not_all2 (n := (r.map D.int).length) (k := a + 1) (by omega) (by omega)
  have tkm : ∀ x ∈ (r.map D.int).take a, x ∈ r.map D.int := fun x hx => List.mem_of_mem_take hx
  have tkl : ((r.map D.int).take a).length ≤ 3 := by rw [List.length_take]; omega
  refine ssx_cons (sx_if (tx_cmp (ed_n 2 rfl (ed_int (os_lt ⟨_, rfl, fun k => ?_, fun k => ?_⟩)))))
  · refine ssx_one (sx_ret (ex_bin (ed_of (ex_bin (ed_of (ex_slT (ed_n 1 rfl ⟨_, rfl, ed_n 3 rfl ⟨_, rfl, na, _, rfl, ?_⟩⟩)))))))
    rw [etk]
    refine ed_of (ex_tup (ea_cons (ed_of (ex_callO 0 Of g bLawOf rfl (ea_cons (ed_nf 4 rfl rfl (ea_nil ?_)))))))
    refine ⟨_, rfl, p, ds2, od, _, rfl, hb2, by omega, (by intro e; rw [e] at odl; cases odl), by omega, fun d ds3 hd hb3 => ⟨_, _, rfl, _, rfl, ea_nil ⟨by simp, _, rfl, os_catT (by rw [List.length_singleton]; omega) ⟨_, rfl, ?_⟩⟩⟩⟩
    refine ed_of (ex_slT (ed_n 1 rfl ⟨_, rfl, ed_of (ex_bin (ed_n 3 rfl (ed_int (os_add ⟨_, rfl, _, rfl, nb, _, rfl, ?_⟩))))⟩))
    rw [ecast, eds]
    refine os_catT (by rw [List.length_append, List.length_singleton]; omega) ?_
    refine ⟨_, .own List.mem_cons_self (.dat .nil), q _ _ (.tup (by rw [List.length_append, List.length_append, List.length_singleton]; omega) fun x hx => ?_) hb3⟩
    rcases List.mem_append.mp hx with hx | hx
    · rcases List.mem_append.mp hx with hx | hx
      · exact it x (tkm x hx)
      · rw [List.mem_singleton.mp hx]
        exact ods d hd
    · exact it x (esm x hx)
  · have k : 3 ≤ wy := by have := of_decide_eq_false k; omega
    refine ssx_nil (ssx_one (sx_ret (ex_ix (ed_of (ex_lst (ea_cons (ed_of (ex_bin (ed_of (ex_slT (ed_n 1 rfl ⟨_, rfl, ed_n 3 rfl ⟨_, rfl, na, _, rfl, ?_⟩⟩)))))))))))
    rw [etk]
    refine ed_of (ex_slT (ed_n 1 rfl ⟨_, rfl, ed_of (ex_bin (ed_n 3 rfl (ed_int (os_add ⟨_, rfl, _, rfl, nb, _, rfl, ?_⟩))))⟩))
    rw [ecast, eds]
    refine os_catT (by omega) ⟨_, rfl, ?_⟩
    refine ea_cons (ed_of (ex_bin (ed_n 1 rfl (ed_of (ex_tup (ea_cons (ed_int (ea_nil ⟨by simp, _, rfl, os_catT (by rw [List.length_singleton]; omega) ⟨_, rfl, ?_⟩⟩))))))))
    refine ea_cons (ed_of (ex_seqT "list" (es_of (ex_of (ed_n 1 rfl ⟨false, _, rfl, cq_list fun p9 => ⟨_, rfl, ea_nil ⟨by simp, fun p10 => ⟨_, rfl, ?_⟩⟩⟩⟩)))))
    generalize htr : ([.tup ((r.map D.int).take a ++ es), .tup (r.map .int ++ [.int 1]), .lst (r.map .int)] : List D) = tr
    have trl : tr.length = 3 := by rw [← htr]; rfl
    have trs : ∀ d ∈ tr, Th d := fun d hd => by
      rw [← htr] at hd
      simp only [List.mem_cons, List.not_mem_nil, or_false] at hd
      rcases hd with rfl | rfl | rfl
      · exact .tup (by rw [List.length_append]; omega) fun x hx => by
          rcases List.mem_append.mp hx with hx | hx
          · exact it x (tkm x hx)
          · exact it x (esm x hx)
      · exact .tup (by rw [List.length_append, List.length_singleton]; omega) fun x hx => by
          rcases List.mem_append.mp hx with hx | hx
          · exact it x hx
          · rw [List.mem_singleton.mp hx]; exact sint _ _ (by decide)
      · exact .lst (by omega) it
    refine ed_of (ex_bin (ed_n 2 rfl (ed_int (os_sub ⟨_, rfl, ?_⟩))))
    have e3 : ((wy : Int) - 3) = ((wy - 3 : Nat) : Int) := by omega
    rw [e3]
    have hlt : wy - 3 < tr.length := by omega
    have := xs_l (X := cxOf (CX P w) P w K mg base nLawBent "_law_bent" (defScope sLawBent) f cdv A fr s H E) (atI_nat (List.getElem?_eq_getElem hlt)) (Q := (BodyE [.own p (.lst ds), .dat (row r)] Post).rt) (A := [.own p (.lst ds2), .dat (row r), .dat (.int (wy : Nat)), .dat (.int (a : Nat)), .own p4 (.lst od)]) ⟨_, .own List.mem_cons_self (.dat .nil), q _ _ (trs _ (List.getElem_mem hlt)) (hb2.mono (by omega))⟩
    rw [← htr] at this ⊢
    exact this
end
end K2

namespace K2
open PySem L2 Y
def spLaw : FSp := fun A Post _ => ∃ ns : List Int, A = [.dat (.rls (ns.map .int))] ∧ ns.length ≤ 63 ∧ Post (.dat (.bl true)) A
theorem askT {a b : List Int} {v : Int} {B : List SD} {Post : SD → List SD → Prop} {Z : ZT} (hB : B = [.dat (row a), .dat (row b)]) (hl : a.length ≤ 100) (ha : Bd 1000 a) (hb : Bd 1000 b) (e : dot a b = v) (q : Post (.dat (.int v)) B) : spTimes B Post Z :=
  ⟨a, b, hB, hl, ha, hb, by rw [e]; exact q⟩
theorem askP {a v : List Int} {B : List SD} {Post : SD → List SD → Prop} {Z : ZT} (hB : B = [.dat (row a)]) (hl : a.length ≤ 100) (ha : Bd 1000 a) (e : plainL a = v) (q : Post (.dat (row v)) B) : spPlain B Post Z :=
  ⟨a, hB, hl, ha, by rw [e]; exact q⟩
theorem bd_plain {n : Nat} {r : List Int} (h : Bd n r) : Bd n (plainL r) := by
  cases e : anyN r with
  | false => rw [plain_none e]; exact h
  | true =>
    rw [plain_pos e]
    intro x hx
    obtain ⟨y, hy, rfl⟩ := List.mem_map.mp hx
    have g0 := gc_pos e
    have d := (gc_dvd (d := gc r)).mp (Nat.dvd_refl _) y hy
    have := div_abs g0 d
    have le : (y / (gc r : Int)).natAbs * 1 ≤ (y / (gc r : Int)).natAbs * gc r := Nat.mul_le_mul_left _ g0
    have := h y hy
    omega
theorem len_plain (r : List Int) : (plainL r).length = r.length := by unfold plainL; split <;> simp
theorem bd_mulL {m n : Nat} {r : List Int} (h : Bd n r) : Bd (m * n) (mulL m r) := fun x hx => by
  obtain ⟨y, hy, rfl⟩ := List.mem_map.mp hx
  rw [Int.natAbs_mul, Int.natAbs_natCast]
  exact Nat.mul_le_mul_left _ (h y hy)
theorem sm_row {n : Nat} {r : List Int} (h : r.length ≤ 1000000) : Sm (n + 1) (row r) := .inr ⟨_, .inr rfl, by rw [List.length_map]; exact h, fun x hx => by
  obtain ⟨y, _, rfl⟩ := List.mem_map.mp hx
  exact Sm.sc (.int y)⟩
theorem bkTimes : BndK sTimes "times" pTimes 0 ["one", "other"] [0, 1] := fun _ _ _ _ _ _ us ws hu hw => match us, ws, hu, hw with | [], [_, _], _, _ => rfl
theorem bkPlain : BndK sPlain "plain" pPlain 0 ["row"] [0] := fun _ _ _ _ _ _ us ws hu hw => match us, ws, hu, hw with | [], [_], _, _ => rfl
section
variable {P : Program} {w : World} {K : PySem.W.Frag} {mg : Str → Option Value} {base : Heap} {f : Addr} {fd : FuncData}
theorem ok_law (F : Fun K "law" "law" sLaw f fd) (no : ∀ x ∈ bnames, mg x = none) (Bx : Fn P w K mg base 2 "_law_box" "_law_box" sLawBox pLawBox spBox) (Tk : Fn P w K mg base 1 "_law_take" "_law_take" sLawTake pLawTake spTake)
    (Of : Fn P w K mg base 2 "_law_of" "_law_of" sLawOf pLawOf spOf) (Lr : Fn P w K mg base 3 "_law_row" "_law_row" sLawRow pLawRow spLRow) (Be : Fn P w K mg base 3 "_law_bent" "_law_bent" sLawBent pLawBent spBent)
    (Ti : Fn P w K mg base 1 "times" "times" sTimes pTimes spTimes) (Pn : Fn P w K mg base 2 "plain" "plain" sPlain pPlain spPlain) (Ar : Fn P w K mg base 3 "is_arrow" "is_arrow" sIsArrow pIsArrow spArrow)
    (Di : Fn P w K mg base 1 "_law_divided" "_law_divided" sLawDivided pLawDivided spDivided) (La : Fn P w K mg base 2 "_law_is_arrow" "_law_is_arrow" sLawIsArrow pLawIsArrow spArrow)
    (Sa : Fn P w K mg base 3 "_law_same" "_law_same" sLawSame pLawSame (spSame 2)) (Sc0 : Fn P w K mg base 1 "_law_same" "_law_same" sLawSame pLawSame (spSame 0)) : GOk P w K mg base 4 f fd pLaw (SpOf K spLaw) := by
  refine g_of F scLaw no (fun A Post Z h => by obtain ⟨_, rfl, _⟩ := h; rfl) (by decide) ?_
  rintro cdv A fr s H E cok g B Post Z ⟨ns, rfl, hns, q⟩
  have g2 : Good 2 (cxOf (CX P w) P w K mg base nLaw "law" (defScope sLaw) f cdv A fr s H E).A := g.mono (by omega)
  have g1 : Good 1 (cxOf (CX P w) P w K mg base nLaw "law" (defScope sLaw) f cdv A fr s H E).A := g.mono (by omega)
  refine ssx_cons (sx_for (ei_r1 (ed_of (ex_bin (ed_int (ed_of (ex_callB "min" (ea_cons (ed_int (ea_cons (ed_of (ex_seqB "len" (es_of (ex_of (ed_n 0 rfl ⟨_, _, rfl, cq_len ⟨_, rfl, ea_nil (cs_min ⟨_, rfl, os_add ⟨_, rfl, _, rfl, ?_, ?_⟩⟩)⟩⟩)))))))))))))))
  · split <;> omega
  generalize hk : (1 + if (((ns.map D.int).length : Nat) : Int) < 7 then (((ns.map D.int).length : Nat) : Int) else 7) = kk
  have hkk : kk.toNat ≤ 8 := by split at hk <;> omega
  refine ⟨fun i A' => ∃ s1 s2 s3 s4 s5 s6 s8 s9 s10 s11 s12 s13 s14 s15 : SD, A' = [.dat (.rls (ns.map .int)), s1, s2, s3, s4, s5, s6, .any, s8, s9, s10, s11, s12, s13, s14, s15], ⟨_, _, _, _, _, _, _, _, _, _, _, _, _, _, rfl⟩, fun _ _ _ _ => trivial, ?_, ?_⟩
  · rintro i d A' hd ⟨s1, s2, s3, s4, s5, s6, s8, s9, s10, s11, s12, s13, s14, s15, rfl⟩
    obtain ⟨hi, rfl⟩ := rng_get hd
    refine gx_n 1 ?_
    refine ssx_cons (sx_set 2 (ex_call Bx g2 bLawBox (ea_cons (ed_n 0 rfl (ea_cons (ed_n 1 rfl (ea_nil ⟨ns, i, rfl, by omega, fun p ds hB => ?_⟩)))))))
    refine ssx_one (sx_for (ei_t (ed_of (ex_tup (ea_cons (ed_int (ea_cons (ed_int (ea_nil ⟨by simp, _, rfl, _, rfl, ?_⟩)))))))))
    refine ⟨fun j A' => ∃ (ds : List D) (s3 s4 s5 s6 s8 s9 s10 s11 s12 s13 s14 s15 : SD), BoxOk (40 * j) ds ∧ A' = [.dat (.rls (ns.map .int)), .dat (.int (i : Nat)), .own p (.lst ds), s3, s4, s5, s6, .any, s8, s9, s10, s11, s12, s13, s14, s15],
      ⟨ds, _, _, _, _, _, _, _, _, _, _, _, _, hB, rfl⟩, fun _ _ _ _ => trivial, ?_, ?_⟩
    · rintro j d A' hd ⟨ds, s3, s4, s5, s6, s8, s9, s10, s11, s12, s13, s14, s15, hB, rfl⟩
      obtain ⟨wd, rfl, hw, hj⟩ : ∃ wd : Nat, d = .int wd ∧ (wd = 2 ∨ wd = 3) ∧ j < 2 := by
        match j, hd with
        | 0, hd => cases hd; exact ⟨2, rfl, .inl rfl, by decide⟩
        | 1, hd => cases hd; exact ⟨3, rfl, .inr rfl, by decide⟩
      refine gx_n 3 ?_
      refine ssx_cons (sx_par 4 5 (ea_cons (ed_of (ex_callO 2 Lr g bLawRow rfl (ea_cons (ed_n 3 rfl (ea_nil ?_)))))))
      refine ⟨_, rfl, p, ds, _, wd, rfl, hB, by omega, hw, fun ds1 a hb1 la ba => ⟨_, _, rfl, _, rfl, ?_⟩⟩
      refine ea_cons (ed_of (ex_callO 2 Lr g bLawRow rfl (ea_cons (ed_n 3 rfl (ea_nil ?_)))))
      refine ⟨_, rfl, p, ds1, _, wd, rfl, hb1, by omega, hw, fun ds2 b hb2 lb bb => ⟨_, _, rfl, _, rfl, ea_nil ⟨_, _, rfl, ?_⟩⟩⟩
      refine ssx_at (B := [.dat (.rls (ns.map .int)), .dat (.int (i : Nat)), .own p (.lst ds2), .dat (.int wd), .dat (row a), .dat (row b), s6, .any, s8, s9, s10, s11, s12, s13, s14, s15]) ?_ rfl
      refine ssx_cons (sx_set 6 (ex_bin (ed_int (ed_of (ex_callO 2 Tk g1 bLawTake rfl (ea_cons (ed_of (ex_bin (ed_int (ed_of (ex_seqB "max" (es_of (ex_bin (ed_of (ex_lst (ea_cons (ed_int (ea_nil ⟨by simp, fun p9 => ⟨_, rfl, ?_⟩⟩))))))))))))))))))
      refine ed_of (ex_lc [("digit", 7)] (ei_t (ed_n 4 rfl ⟨_, rfl, ?_⟩)))
      refine lc_map a _ (fun x => .int (if x < 0 then -x else x)) (by omega) (by exact trivial) ?_ ?_
      · intro x hx s H0 C cl fp
        refine gx_n 7 ?_
        intro s H0 C cl fp
        exact ed_of (ex_callB "abs" (ea_cons (ed_n 7 rfl (ea_nil (cs_abs ⟨_, rfl, rfl, rfl⟩)))))
      intro p10
      refine ⟨_, rfl, os_catL (by simp; omega) fun p11 => ⟨true, _, rfl, ?_⟩⟩
      have e1 : ([D.int 1] ++ a.map fun x => D.int (if x < 0 then -x else x)) = (1 :: a.map fun x => if x < 0 then -x else x).map fun z => D.int z := by rw [List.map_cons, List.map_map]; rfl
      rw [e1]
      refine cq_maxL (f := fun x => x) (by simp) fun m hm hle => ⟨_, rfl, ?_⟩
      have m1 : 1 ≤ m := hle 1 (by simp)
      have m9 : m ≤ 9 := by
        rw [List.map_id'] at hm
        rcases List.mem_cons.mp hm with rfl | hm
        · decide
        · obtain ⟨x, hx, rfl⟩ := List.mem_map.mp hm
          have := ba x hx
          split <;> omega
      have d1 : 1 ≤ 9 / m := by
        have := Int.le_ediv_of_mul_le (a := 1) (b := 9) (by omega : 0 < m) (by omega)
        omega
      have d9 : 9 / m ≤ 9 := Int.ediv_le_self _ (by decide)
      refine os_div (small_div (by omega) (by omega)) ⟨_, rfl, ea_nil ?_⟩
      refine ⟨_, rfl, p, ds2, _, _, rfl, hb2, by omega, by omega, by omega, fun r ds3 h0 h1 hb3 => ⟨_, _, rfl, _, rfl, os_add ?_⟩⟩
      obtain ⟨mn, hmn, mn1, mn9⟩ : ∃ mn : Nat, 1 + r = mn ∧ 0 < mn ∧ mn ≤ 9 := ⟨(1 + r).toNat, by omega, by omega, by omega⟩
      rw [hmn]
      refine ssx_at (B := [.dat (.rls (ns.map .int)), .dat (.int (i : Nat)), .own p (.lst ds3), .dat (.int wd), .dat (row a), .dat (row b), .dat (.int mn), .any, s8, s9, s10, s11, s12, s13, s14, s15]) ?_ rfl
      refine ssx_cons (sx_set 8 (ex_of (ed_int ?_)))
      refine ssx_mid (fun A1 => ∃ s9 : SD, A1 = [.dat (.rls (ns.map .int)), .dat (.int (i : Nat)), .own p (.lst ds3), .dat (.int wd), .dat (row a), .dat (row b), .dat (.int mn), .any, .dat (.int (dot a b)), s9, s10, s11, s12, s13, s14, s15]) ?_ ?_
      · refine sx_for (ei_r1 (ed_n 3 rfl ⟨_, rfl, by omega, ?_⟩))
        rw [Int.toNat_natCast]
        refine ⟨fun t A' => ∃ s9 : SD, A' = [.dat (.rls (ns.map .int)), .dat (.int (i : Nat)), .own p (.lst ds3), .dat (.int wd), .dat (row a), .dat (row b), .dat (.int mn), .any, .dat (.int (((a.take t).zip b).map fun p => p.1 * p.2).sum), s9, s10, s11, s12, s13, s14, s15], ⟨_, rfl⟩, fun _ _ _ _ => trivial, ?_, ?_⟩
        · rintro t d A' hd ⟨s9, rfl⟩
          obtain ⟨ht, rfl⟩ := rng_get hd
          have hta : t < a.length := by omega
          have htb : t < b.length := by omega
          refine gx_n 9 ?_
          refine ssx_one (sx_set 8 (ex_bin (ed_n 8 rfl (ed_of (ex_bin (ed_of (ex_ix (ed_n 4 rfl (ed_n 9 rfl (xs_t (atI_row hta) ⟨_, rfl, ?_⟩))))))))))
          refine ed_of (ex_ix (ed_n 5 rfl (ed_n 9 rfl (xs_t (atI_row htb) ⟨_, rfl, os_mul (bd_mul (m := 9) (n := 9) (by rw [← co_get hta]; exact ba _ (List.getElem_mem hta)) (by rw [← co_get htb]; exact bb _ (List.getElem_mem htb))) ⟨_, rfl, os_add ?_⟩⟩))))
          rw [← co_get hta, ← co_get htb, dot_step a b t hta htb]
          exact ⟨_, rfl⟩
        · rintro A' ⟨s9, rfl⟩
          refine ⟨s9, ?_⟩
          have : (((a.take ((List.range wd).map fun i => D.int (i : Nat)).length).zip b).map fun p => p.1 * p.2).sum = dot a b := by
            rw [List.length_map, List.length_range, ← la, List.take_length]
            rfl
          rw [this]
      rintro A1 ⟨s9, rfl⟩
      have ba2 := bd_up ba (by decide : 9 ≤ 1000)
      have bb2 := bd_up bb (by decide : 9 ≤ 1000)
      refine ssx_cons (sx_set 10 (ex_lst (ea_cons (ed_of (ex_call Ti g1 bTimes (ea_cons (ed_n 4 rfl (ea_cons (ed_n 5 rfl (ea_nil (askT rfl (by omega) ba2 bb2 rfl ⟨_, rfl, ?_⟩)))))))))))
      refine ea_cons (ed_of (ex_call Ti g1 bTimes (ea_cons (ed_n 5 rfl (ea_cons (ed_n 4 rfl (ea_nil (askT rfl (by omega) bb2 ba2 (dot_comm b a) ⟨_, rfl, ?_⟩))))))))
      refine ea_cons (ed_of (ex_callK0 [0, 1] ["one", "other"] Ti g1 bkTimes (ek_cons (ed_n 5 rfl (ek_cons (ed_n 4 rfl (ek_nil ⟨rfl, askT rfl (by omega) bb2 ba2 (dot_comm b a) ⟨_, rfl, ea_nil ⟨by simp, fun p10 => ?_⟩⟩⟩)))))))
      refine ssx_mid (fun A1 => ∃ s10 : SD, A1 = [.dat (.rls (ns.map .int)), .dat (.int (i : Nat)), .own p (.lst ds3), .dat (.int wd), .dat (row a), .dat (row b), .dat (.int mn), .any, .dat (.int (dot a b)), s9, s10, s11, s12, s13, s14, s15]) ?_ ?_
      · refine sx_if (tx_not (tx_val (ex_call Sa g bLawSame (ea_cons (ed_of (ex_bin (ed_nf 10 rfl rfl (ed_of (ex_lst (ea_cons (ed_of (ex_call Pn g2 bPlain (ea_cons (ed_n 4 rfl (ea_nil (askP rfl (by omega) ba2 rfl ⟨_, rfl, ?_⟩))))))))))))))))
        refine ea_cons (ed_of (ex_callK0 [0] ["row"] Pn g2 bkPlain (ek_cons (ed_n 4 rfl (ek_nil ⟨rfl, askP rfl (by omega) ba2 rfl ⟨_, rfl, ea_nil ⟨by simp, fun p11 => ⟨_, rfl, os_catL (by simp) fun p12 => ⟨_, rfl, ?_⟩⟩⟩⟩⟩)))))
        refine ea_cons (ed_of (ex_bin (ed_of (ex_bin (ed_of (ex_lst (ea_cons (ed_n 8 rfl (ea_nil ⟨by simp, fun p13 => ⟨_, rfl, ed_int (os_repL (by decide) (by decide) (by simp) fun p14 => ⟨_, rfl, ?_⟩)⟩⟩)))))))))
        refine ed_of (ex_bin (ed_of (ex_lst (ea_cons (ed_of (ex_call Di g1 bLawDivided (ea_cons (ed_n 4 rfl (ea_nil ⟨a, rfl, by omega, bd_up ba (by decide), _, rfl, ea_nil ⟨by simp, fun p15 => ⟨_, rfl, ed_int (os_repL (by decide) (by decide) (by simp) fun p16 => ⟨_, rfl, os_catL (by simp) fun p17 => ⟨_, rfl, ea_nil ?_⟩⟩)⟩⟩⟩)))))))))
        refine ⟨.lst [.int (dot a b), .int (dot a b), .int (dot a b), row (plainL a), row (plainL a)], rfl, .inr ⟨_, .inl rfl, by simp, fun x hx => ?_⟩, _, rfl, ⟨fun e => (by cases e), fun _ => ssx_nil ?_⟩⟩
        · simp only [List.mem_cons, List.not_mem_nil, or_false] at hx
          rcases hx with rfl | rfl | rfl | rfl | rfl
          · exact Sm.sc (.int _)
          · exact Sm.sc (.int _)
          · exact Sm.sc (.int _)
          · exact sm_row (by rw [len_plain]; omega)
          · exact sm_row (by rw [len_plain]; omega)
        · exact ⟨_, rfl⟩
      rintro A1 ⟨s10, rfl⟩
      refine ssx_cons (sx_set 11 (ex_seqT "tuple" (es_of (ex_lc [("digit", 7)] (ei_t (ed_n 4 rfl ⟨_, rfl, ?_⟩))))))
      refine lc_map a _ (fun x => .int ((mn : Int) * x)) (by omega) (by exact trivial) ?_ ?_
      · intro x hx s H0 C cl fp
        refine gx_n 7 ?_
        intro s H0 C cl fp
        exact ed_of (ex_bin (ed_n 6 rfl (ed_n 7 rfl (os_mul (bd_mul (m := 9) (n := 9) (by omega) (ba x hx)) ⟨_, rfl, rfl, rfl⟩))))
      intro p11
      refine ⟨_, _, rfl, cq_tup ?_⟩
      rw [row_of]
      have bo : Bd 81 (mulL mn a) := bd_up (bd_mulL ba) (by omega)
      have lo : (mulL mn a).length = wd := by unfold mulL; rw [List.length_map]; exact la
      have po := plain_often mn1 a
      have bo2 := bd_up bo (by decide : 81 ≤ 1000)
      have hof : (a.map fun x => (mn : Int) * x) = mulL mn a := rfl
      rw [hof]
      generalize mulL (mn : Int) a = o at bo lo po bo2
      refine ssx_at (B := [.dat (.rls (ns.map .int)), .dat (.int (i : Nat)), .own p (.lst ds3), .dat (.int wd), .dat (row a), .dat (row b), .dat (.int mn), .any, .dat (.int (dot a b)), s9, s10, .dat (row o), s12, s13, s14, s15]) ?_ rfl
      refine ssx_mid (fun A1 => A1 = [.dat (.rls (ns.map .int)), .dat (.int (i : Nat)), .own p (.lst ds3), .dat (.int wd), .dat (row a), .dat (row b), .dat (.int mn), .any, .dat (.int (dot a b)), s9, s10, .dat (row o), s12, s13, s14, s15]) ?_ ?_
      · refine sx_if (tx_not (tx_val (ex_call Sa g bLawSame (ea_cons (ed_of (ex_lst (ea_cons (ed_of (ex_call Pn g2 bPlain (ea_cons (ed_n 11 rfl (ea_nil (askP rfl (by omega) bo2 po ⟨_, rfl, ?_⟩)))))))))))))
        refine ea_cons (ed_of (ex_call Pn g2 bPlain (ea_cons (ed_of (ex_call Pn g2 bPlain (ea_cons (ed_n 11 rfl (ea_nil (askP rfl (by omega) bo2 po ⟨_, rfl, ea_nil ?_⟩)))))))))
        refine askP rfl (by rw [len_plain]; omega) (bd_plain ba2) plain_again ⟨_, rfl, ea_nil ⟨by simp, fun p11 => ⟨_, rfl, ?_⟩⟩⟩
        refine ea_cons (ed_of (ex_bin (ed_of (ex_lst (ea_cons (ed_of (ex_call Di g1 bLawDivided (ea_cons (ed_n 4 rfl (ea_nil ⟨a, rfl, by omega, bd_up ba (by decide), _, rfl, ea_nil ⟨by simp, fun p15 => ⟨_, rfl, ed_int (os_repL (by decide) (by decide) (by simp) fun p16 => ⟨_, rfl, ea_nil ?_⟩)⟩⟩⟩))))))))))
        refine ⟨.lst [row (plainL a), row (plainL a)], rfl, .inr ⟨_, .inl rfl, by simp, fun x hx => ?_⟩, _, rfl, ⟨fun e => (by cases e), fun _ => ssx_nil ?_⟩⟩
        · simp only [List.mem_cons, List.not_mem_nil, or_false] at hx
          rcases hx with rfl | rfl
          · exact sm_row (by rw [len_plain]; omega)
          · exact sm_row (by rw [len_plain]; omega)
        · exact rfl
      rintro A1 rfl
      refine ssx_cons (sx_set 12 (ex_lst (ea_cons (ed_n 4 rfl (ea_cons (ed_n 5 rfl (ea_cons (ed_n 11 rfl (ea_cons (ed_of (ex_call Pn g2 bPlain (ea_cons (ed_n 11 rfl (ea_nil (askP rfl (by omega) bo2 po ⟨_, rfl, ?_⟩)))))))))))))))
      refine ea_cons (ed_non (ea_cons (ed_int (ea_cons (ed_bl (ea_cons (ed_str (ea_cons (ed_of (ex_tup (ea_nil ⟨by simp, _, rfl, ?_⟩)))))))))))
      refine ea_cons (ed_of (ex_lst (ea_nil ⟨by simp, fun p11 => ⟨_, rfl, ?_⟩⟩)))
      refine ea_cons (ed_of (ex_tup (ea_cons (ed_int (ea_nil ⟨by simp, _, rfl, ?_⟩)))))
      refine ea_cons (ed_of (ex_tup (ea_cons (ed_int (ea_cons (ed_int (ea_cons (ed_int (ea_cons (ed_int (ea_nil ⟨by simp, _, rfl, ?_⟩)))))))))))
      refine ea_cons (ed_of (ex_tup (ea_cons (ed_str (ea_cons (ed_str (ea_nil ⟨by simp, _, rfl, ea_nil ⟨by simp, fun p12 => ?_⟩⟩)))))))
      generalize hth : ([row a, row b, row o, row (plainL a), .non, .int 0, .bl true, .str "", .tup [], .lst [], .tup [.int 1], .tup [.int 0, .int 0, .int 0, .int 1], .tup [.str "a", .str "b"]] : List D) = th
      have thl : th.length = 13 := by rw [← hth]; rfl
      have sint : ∀ (n : Nat) (i : Int), i.natAbs < 191 → Sml 20 n (.int i) := fun n i h => .lil (.int i h)
      have ths : ∀ d ∈ th, Th d := fun d hd => by
        rw [← hth] at hd
        simp only [List.mem_cons, List.not_mem_nil, or_false] at hd
        rcases hd with rfl | rfl | rfl | rfl | rfl | rfl | rfl | rfl | rfl | rfl | rfl | rfl | rfl
        · exact th_row (bd_up ba (by decide)) (by omega)
        · exact th_row (bd_up bb (by decide)) (by omega)
        · exact th_row (bd_up bo (by decide)) (by omega)
        · exact th_row (bd_plain (bd_up ba (by decide))) (by rw [len_plain]; omega)
        · exact .lil .non
        · exact sint _ _ (by decide)
        · exact .lil (.bl _)
        · exact .lil (.str _ (by decide +kernel) (by decide +kernel))
        · exact .tup (by simp) fun x hx => by cases hx
        · exact .lst (by simp) fun x hx => by cases hx
        · exact .tup (by simp) fun x hx => by rw [List.mem_singleton.mp hx]; exact sint _ _ (by decide)
        · exact .tup (by simp) fun x hx => by
            simp only [List.mem_cons, List.not_mem_nil, or_false] at hx
            rcases hx with rfl | rfl | rfl | rfl <;> exact sint _ _ (by decide)
        · exact .tup (by simp) fun x hx => by
            simp only [List.mem_cons, List.not_mem_nil, or_false] at hx
            rcases hx with rfl | rfl <;> exact .lil (.str _ (by decide +kernel) (by decide +kernel))
      refine ssx_at (B := [.dat (.rls (ns.map .int)), .dat (.int (i : Nat)), .own p (.lst ds3), .dat (.int wd), .dat (row a), .dat (row b), .dat (.int mn), .any, .dat (.int (dot a b)), s9, s10, .dat (row o), .own p12 (.lst th), s13, s14, s15]) ?_ (by rw [← hth]; rfl)
      refine ssx_mid (fun A1 => ∃ (ds4 th : List D) (s13 : SD), BoxOk (40 * (j + 1)) ds4 ∧ th.length = 19 ∧ (∀ d ∈ th, Th d) ∧ A1 = [.dat (.rls (ns.map .int)), .dat (.int (i : Nat)), .own p (.lst ds4), .dat (.int wd), .dat (row a), .dat (row b), .dat (.int mn), .any, .dat (.int (dot a b)), s9, s10, .dat (row o), .own p12 (.lst th), s13, s14, s15]) ?_ ?_
      · refine sx_for (ei_r1 (ed_int ⟨_, rfl, by decide, ?_⟩))
        refine ⟨fun t A' => ∃ (ds4 th : List D) (s13 : SD), BoxOk (40 * j + 11 + 4 * t) ds4 ∧ th.length = 13 + t ∧ (∀ d ∈ th, Th d) ∧ A' = [.dat (.rls (ns.map .int)), .dat (.int (i : Nat)), .own p (.lst ds4), .dat (.int wd), .dat (row a), .dat (row b), .dat (.int mn), .any, .dat (.int (dot a b)), s9, s10, .dat (row o), .own p12 (.lst th), s13, s14, s15],
          ⟨ds3, th, _, hb3.mono (by omega), thl, ths, rfl⟩, fun _ _ _ _ => trivial, ?_, ?_⟩
        · rintro t d A' hd ⟨ds4, th, s13, hb4, thl, ths, rfl⟩
          obtain ⟨ht, rfl⟩ := rng_get hd
          have ht : t < 6 := ht
          refine gx_n 13 ?_
          refine ssx_one (sx_app 12 rfl (ed_of (ex_callO 2 Be g bLawBent rfl (ea_cons (ed_of (ex_callO 2 Of g2 bLawOf rfl (ea_cons (ed_of (ex_lst (ea_cons (ed_n 4 rfl (ea_cons (ed_n 5 rfl (ea_nil ⟨by simp, fun p13 => ⟨_, rfl, ea_nil ?_⟩⟩))))))))))))))
          refine ⟨_, rfl, p, ds4, _, _, rfl, hb4, by omega, by simp, by simp, fun d ds5 hd hb5 => ⟨_, _, rfl, _, rfl, ea_nil ?_⟩⟩
          obtain ⟨r, rfl, lr, br⟩ : ∃ r, d = row r ∧ r.length = wd ∧ Bd 9 r := by
            simp only [List.mem_cons, List.not_mem_nil, or_false] at hd
            rcases hd with rfl | rfl
            · exact ⟨a, rfl, la, ba⟩
            · exact ⟨b, rfl, lb, bb⟩
          refine ⟨_, rfl, p, ds5, _, r, rfl, hb5, by omega, by omega, br, fun d ds6 hd hb6 => ⟨_, _, rfl, _, rfl, _, _, rfl, by omega, ?_⟩⟩
          refine ⟨ds6, th ++ [d], _, hb6.mono (by omega), by rw [List.length_append, thl]; simp; omega, fun x hx => ?_, rfl⟩
          rcases List.mem_append.mp hx with hx | hx
          · exact ths x hx
          · rw [List.mem_singleton.mp hx]; exact hd
        · rintro A' ⟨ds4, th, s13, hb4, thl, ths, rfl⟩
          exact ⟨ds4, th, _, hb4.mono (by simp; omega), thl, ths, rfl⟩
      rintro A1 ⟨ds4, th, s13, hb4, thl, ths, rfl⟩
      refine ssx_one (sx_for (ei_o 12 rfl ?_))
      refine ⟨fun t A' => ∃ s10 s14 s15 : SD, A' = [.dat (.rls (ns.map .int)), .dat (.int (i : Nat)), .own p (.lst ds4), .dat (.int wd), .dat (row a), .dat (row b), .dat (.int mn), .any, .dat (.int (dot a b)), s9, s10, .dat (row o), .own p12 (.lst th), s13, s14, s15], ⟨_, _, _, rfl⟩, fun _ _ _ h => by obtain ⟨_, _, _, rfl⟩ := h; rfl, ?_, ?_⟩
      · rintro t d A' hd ⟨s10, s14, s15, rfl⟩
        have td : Th d := ths d (List.mem_of_getElem? hd)
        refine gx_n 14 ?_
        have big : smlLen 20 2 ≤ sizeLine := by decide
        generalize htx : d.py.shown = tx
        refine ssx_cons (sx_par 15 10 (ea_cons (ed_of (ex_callB "repr" (ea_cons (ed_n 14 rfl (ea_nil (cs_reprS td (by decide) big ⟨_, rfl, ?_⟩))))))))
        refine ea_cons (ed_of (ex_call Ar g bIsArrow (ea_cons (ed_n 14 rfl (ea_nil ⟨d, rfl, td, _, rfl, ea_nil ⟨_, _, rfl, ?_⟩⟩)))))
        refine ssx_one (sx_if (tx_w (tw_or (tx_not (tx_val (ex_call Sc0 g1 bLawSame (ea_cons (ed_n 10 rfl (ea_cons (ed_of (ex_call La g2 bLawIsArrow (ea_cons (ed_n 14 rfl (ea_nil ⟨d, rfl, td, _, rfl, ea_nil ?_⟩))))))))))))))
        refine ⟨_, rfl, .bl _, _, rfl, fun _ => ?_, fun e => by cases e⟩
        refine tw_or1 (tx_cmp (ed_of (ex_callB "repr" (ea_cons (ed_n 14 rfl (ea_nil (cs_reprS td (by decide) big ⟨_, rfl, ed_n 15 rfl (os_neS ⟨_, rfl, fun k => ?_, fun k => ?_⟩)⟩)))))))
        · simp at k
        · exact ssx_nil ⟨_, _, _, rfl⟩
      · rintro A' ⟨s10, s14, s15, rfl⟩
        exact ⟨ds4, _, _, _, _, _, _, _, _, _, _, _, _, hb4, rfl⟩
    · rintro A' ⟨ds, s3, s4, s5, s6, s8, s9, s10, s11, s12, s13, s14, s15, hB, rfl⟩
      exact ⟨_, _, _, _, _, _, _, _, _, _, _, _, _, _, rfl⟩
  · rintro A' ⟨s1, s2, s3, s4, s5, s6, s8, s9, s10, s11, s12, s13, s14, s15, rfl⟩
    refine ssx_one (sx_ret (ex_and (ed_of (ex_cmp (ed_of (ex_call Ti g1 bTimes (ea_cons (ed_of (ex_tup (ea_cons (ed_int (ea_cons (ed_of (ex_un (ed_int (us_neg ⟨_, rfl, ea_nil ⟨by simp, _, rfl, ?_⟩⟩))))))))))))))))
    refine ea_cons (ed_of (ex_tup (ea_cons (ed_int (ea_cons (ed_int (ea_nil ⟨by simp, _, rfl, ea_nil ?_⟩)))))))
    refine askT (a := [2, -3]) (b := [4, 1]) (v := 5) rfl (by decide) (by unfold Bd; decide) (by unfold Bd; decide) (by decide) ⟨_, rfl, ed_int (os_eq ⟨_, rfl, _, rfl, fun _ => ?_, fun k => by cases k⟩)⟩
    refine ex_and (ed_of (ex_cmp (ed_of (ex_call Pn g2 bPlain (ea_cons (ed_of (ex_tup (ea_cons (ed_of (ex_un (ed_int (us_neg ⟨_, rfl, ea_cons (ed_int (ea_nil ⟨by simp, _, rfl, ea_nil ?_⟩))⟩))))))))))))
    refine askP (a := [-6, 4]) (v := [-3, 2]) rfl (by decide) (by unfold Bd; decide) (by decide +kernel) ⟨_, rfl, ?_⟩
    refine ed_of (ex_tup (ea_cons (ed_of (ex_un (ed_int (us_neg ⟨_, rfl, ea_cons (ed_int (ea_nil ⟨by simp, _, rfl, ?_⟩))⟩))))))
    have e17 : (row [-3, 2]).eqv (D.tup [D.int (-3), D.int 2]) = true := eqv_same (n := 1) (pl_row _)
    refine os_eqD (n := 1) (m := 1) (pl_row _) (pl_row [-3, 2]) (by decide) (by decide) ?_
    rw [e17]
    refine ⟨_, rfl, _, rfl, fun _ => ?_, fun k => by cases k⟩
    refine ex_one (ex_cmp (ed_of (ex_call Ar g bIsArrow (ea_cons (ed_of (ex_tup (ea_cons (ed_int (ea_cons (ed_of (ex_un (ed_int (us_neg ⟨_, rfl, ea_nil ⟨by simp, _, rfl, ea_nil ?_⟩⟩)))))))))))))
    have ar : arr (.tup [.int 0, .int (-1)]) = true := by decide +kernel
    refine ⟨.tup [.int 0, .int (-1)], rfl, th_row (r := [0, -1]) (by unfold Bd; decide) (by decide), _, rfl, ed_bl ?_⟩
    rw [ar]
    exact os_isB ⟨_, .dat .nil, q⟩
end
end K2

namespace K2
open PySem L2 Y
theorem bn_all {p : Str → Prop} (z1 : p "sum") (z2 : p "zip") (z3 : p "len") (z4 : p "abs") (z5 : p "int") (z6 : p "range") (z7 : p "isinstance") (z8 : p "all") (z9 : p "any") (z10 : p "max") (z11 : p "min") (z12 : p "tuple") (z13 : p "list") (z14 : p "enumerate") (z15 : p "repr") (z16 : p "sorted") (z17 : p "str") (z18 : p "bool") (z19 : p "set") (z20 : p "dict") (z21 : p "reversed") : ∀ x ∈ bnames, p x := by
  intro x hx
  simp only [bnames, List.mem_cons, List.not_mem_nil, or_false] at hx
  rcases hx with rfl | rfl | rfl | rfl | rfl | rfl | rfl | rfl | rfl | rfl | rfl | rfl | rfl | rfl | rfl | rfl | rfl | rfl | rfl | rfl | rfl <;> assumption
theorem all_mk {l : PySem.W.OpenLaw} {w : World} {K : PySem.W.Frag} {h : Heap} {mg : Str → Option Value} {fa f1 f2 f3 f4 f5 f6 f7 f8 f9 f10 f11 f12 f13 f14 f15 f16 : Addr}
    {od1 an1 od2 an2 od3 an3 od4 an4 od5 an5 od6 an6 od7 an7 od8 an8 od9 an9 od10 an10 od11 an11 od12 an12 od13 an13 od14 an14 od15 an15 od16 an16 : Option Addr} {sl1 sl2 sl3 sl4 sl5 sl6 sl7 sl8 sl9 sl10 sl11 sl12 sl13 sl14 sl15 sl16 : Array (Option Value)} {oc1 kV1 dc1 pm1 cd1 ct1 oc2 kV2 dc2 pm2 cd2 ct2 oc3 kV3 dc3 pm3 cd3 ct3 oc4 kV4 dc4 pm4 cd4 ct4 oc5 kV5 dc5 pm5 cd5 ct5 oc6 kV6 dc6 pm6 cd6 ct6 oc7 kV7 dc7 pm7 cd7 ct7 oc8 kV8 dc8 pm8 cd8 ct8 oc9 kV9 dc9 pm9 cd9 ct9 oc10 kV10 dc10 pm10 cd10 ct10 oc11 kV11 dc11 pm11 cd11 ct11 oc12 kV12 dc12 pm12 cd12 ct12 oc13 kV13 dc13 pm13 cd13 ct13 oc14 kV14 dc14 pm14 cd14 ct14 oc15 kV15 dc15 pm15 cd15 ct15 oc16 kV16 dc16 pm16 cd16 ct16 : Value}
    (X : K.In h) (G : h.Ns mainGlobals mg) (hfa : mg "law" = some (.ref fa))
    (a1 : PySem.W.nsIn K mainGlobals "is_number" = some (some (.ref f1)))
    (l1 : K.lookup f1 = some ⟨oc1, od1, .func (PySem.W.fnOf "is_number" "is_number" (defArgs sIsNumber) (defBody sIsNumber) (defScope sIsNumber) .none kV1 dc1 pm1 an1 cd1 ct1), sl1⟩)
    (c1 : PySem.W.codeIn K cd1 "is_number" = true) (k1 : PySem.W.keepIn K (.ref f1) = true)
    (a2 : PySem.W.nsIn K mainGlobals "is_row" = some (some (.ref f2)))
    (l2 : K.lookup f2 = some ⟨oc2, od2, .func (PySem.W.fnOf "is_row" "is_row" (defArgs sIsRow) (defBody sIsRow) (defScope sIsRow) .none kV2 dc2 pm2 an2 cd2 ct2), sl2⟩)
    (c2 : PySem.W.codeIn K cd2 "is_row" = true) (k2 : PySem.W.keepIn K (.ref f2) = true)
    (a3 : PySem.W.nsIn K mainGlobals "times" = some (some (.ref f3)))
    (l3 : K.lookup f3 = some ⟨oc3, od3, .func (PySem.W.fnOf "times" "times" (defArgs sTimes) (defBody sTimes) (defScope sTimes) .none kV3 dc3 pm3 an3 cd3 ct3), sl3⟩)
    (c3 : PySem.W.codeIn K cd3 "times" = true) (k3 : PySem.W.keepIn K (.ref f3) = true)
    (a4 : PySem.W.nsIn K mainGlobals "common" = some (some (.ref f4)))
    (l4 : K.lookup f4 = some ⟨oc4, od4, .func (PySem.W.fnOf "common" "common" (defArgs sCommon) (defBody sCommon) (defScope sCommon) .none kV4 dc4 pm4 an4 cd4 ct4), sl4⟩)
    (c4 : PySem.W.codeIn K cd4 "common" = true) (k4 : PySem.W.keepIn K (.ref f4) = true)
    (a5 : PySem.W.nsIn K mainGlobals "plain" = some (some (.ref f5)))
    (l5 : K.lookup f5 = some ⟨oc5, od5, .func (PySem.W.fnOf "plain" "plain" (defArgs sPlain) (defBody sPlain) (defScope sPlain) .none kV5 dc5 pm5 an5 cd5 ct5), sl5⟩)
    (c5 : PySem.W.codeIn K cd5 "plain" = true) (k5 : PySem.W.keepIn K (.ref f5) = true)
    (a6 : PySem.W.nsIn K mainGlobals "is_arrow" = some (some (.ref f6)))
    (l6 : K.lookup f6 = some ⟨oc6, od6, .func (PySem.W.fnOf "is_arrow" "is_arrow" (defArgs sIsArrow) (defBody sIsArrow) (defScope sIsArrow) .none kV6 dc6 pm6 an6 cd6 ct6), sl6⟩)
    (c6 : PySem.W.codeIn K cd6 "is_arrow" = true) (k6 : PySem.W.keepIn K (.ref f6) = true)
    (a7 : PySem.W.nsIn K mainGlobals "_law_cell_at" = some (some (.ref f7)))
    (l7 : K.lookup f7 = some ⟨oc7, od7, .func (PySem.W.fnOf "_law_cell_at" "_law_cell_at" (defArgs sLawCellAt) (defBody sLawCellAt) (defScope sLawCellAt) .none kV7 dc7 pm7 an7 cd7 ct7), sl7⟩)
    (c7 : PySem.W.codeIn K cd7 "_law_cell_at" = true) (k7 : PySem.W.keepIn K (.ref f7) = true)
    (a8 : PySem.W.nsIn K mainGlobals "_law_box" = some (some (.ref f8)))
    (l8 : K.lookup f8 = some ⟨oc8, od8, .func (PySem.W.fnOf "_law_box" "_law_box" (defArgs sLawBox) (defBody sLawBox) (defScope sLawBox) .none kV8 dc8 pm8 an8 cd8 ct8), sl8⟩)
    (c8 : PySem.W.codeIn K cd8 "_law_box" = true) (k8 : PySem.W.keepIn K (.ref f8) = true)
    (a9 : PySem.W.nsIn K mainGlobals "_law_take" = some (some (.ref f9)))
    (l9 : K.lookup f9 = some ⟨oc9, od9, .func (PySem.W.fnOf "_law_take" "_law_take" (defArgs sLawTake) (defBody sLawTake) (defScope sLawTake) .none kV9 dc9 pm9 an9 cd9 ct9), sl9⟩)
    (c9 : PySem.W.codeIn K cd9 "_law_take" = true) (k9 : PySem.W.keepIn K (.ref f9) = true)
    (a10 : PySem.W.nsIn K mainGlobals "_law_same" = some (some (.ref f10)))
    (l10 : K.lookup f10 = some ⟨oc10, od10, .func (PySem.W.fnOf "_law_same" "_law_same" (defArgs sLawSame) (defBody sLawSame) (defScope sLawSame) .none kV10 dc10 pm10 an10 cd10 ct10), sl10⟩)
    (c10 : PySem.W.codeIn K cd10 "_law_same" = true) (k10 : PySem.W.keepIn K (.ref f10) = true)
    (a11 : PySem.W.nsIn K mainGlobals "_law_of" = some (some (.ref f11)))
    (l11 : K.lookup f11 = some ⟨oc11, od11, .func (PySem.W.fnOf "_law_of" "_law_of" (defArgs sLawOf) (defBody sLawOf) (defScope sLawOf) .none kV11 dc11 pm11 an11 cd11 ct11), sl11⟩)
    (c11 : PySem.W.codeIn K cd11 "_law_of" = true) (k11 : PySem.W.keepIn K (.ref f11) = true)
    (a12 : PySem.W.nsIn K mainGlobals "_law_row" = some (some (.ref f12)))
    (l12 : K.lookup f12 = some ⟨oc12, od12, .func (PySem.W.fnOf "_law_row" "_law_row" (defArgs sLawRow) (defBody sLawRow) (defScope sLawRow) .none kV12 dc12 pm12 an12 cd12 ct12), sl12⟩)
    (c12 : PySem.W.codeIn K cd12 "_law_row" = true) (k12 : PySem.W.keepIn K (.ref f12) = true)
    (a13 : PySem.W.nsIn K mainGlobals "_law_divided" = some (some (.ref f13)))
    (l13 : K.lookup f13 = some ⟨oc13, od13, .func (PySem.W.fnOf "_law_divided" "_law_divided" (defArgs sLawDivided) (defBody sLawDivided) (defScope sLawDivided) .none kV13 dc13 pm13 an13 cd13 ct13), sl13⟩)
    (c13 : PySem.W.codeIn K cd13 "_law_divided" = true) (k13 : PySem.W.keepIn K (.ref f13) = true)
    (a14 : PySem.W.nsIn K mainGlobals "_law_is_arrow" = some (some (.ref f14)))
    (l14 : K.lookup f14 = some ⟨oc14, od14, .func (PySem.W.fnOf "_law_is_arrow" "_law_is_arrow" (defArgs sLawIsArrow) (defBody sLawIsArrow) (defScope sLawIsArrow) .none kV14 dc14 pm14 an14 cd14 ct14), sl14⟩)
    (c14 : PySem.W.codeIn K cd14 "_law_is_arrow" = true) (k14 : PySem.W.keepIn K (.ref f14) = true)
    (a15 : PySem.W.nsIn K mainGlobals "_law_bent" = some (some (.ref f15)))
    (l15 : K.lookup f15 = some ⟨oc15, od15, .func (PySem.W.fnOf "_law_bent" "_law_bent" (defArgs sLawBent) (defBody sLawBent) (defScope sLawBent) .none kV15 dc15 pm15 an15 cd15 ct15), sl15⟩)
    (c15 : PySem.W.codeIn K cd15 "_law_bent" = true) (k15 : PySem.W.keepIn K (.ref f15) = true)
    (a16 : PySem.W.nsIn K mainGlobals "law" = some (some (.ref f16)))
    (l16 : K.lookup f16 = some ⟨oc16, od16, .func (PySem.W.fnOf "law" "law" (defArgs sLaw) (defBody sLaw) (defScope sLaw) .none kV16 dc16 pm16 an16 cd16 ct16), sl16⟩)
    (c16 : PySem.W.codeIn K cd16 "law" = true) (k16 : PySem.W.keepIn K (.ref f16) = true)
    (z1 : PySem.W.nsIn K mainGlobals "sum" = some none)
    (z2 : PySem.W.nsIn K mainGlobals "zip" = some none)
    (z3 : PySem.W.nsIn K mainGlobals "len" = some none)
    (z4 : PySem.W.nsIn K mainGlobals "abs" = some none)
    (z5 : PySem.W.nsIn K mainGlobals "int" = some none)
    (z6 : PySem.W.nsIn K mainGlobals "range" = some none)
    (z7 : PySem.W.nsIn K mainGlobals "isinstance" = some none)
    (z8 : PySem.W.nsIn K mainGlobals "all" = some none)
    (z9 : PySem.W.nsIn K mainGlobals "any" = some none)
    (z10 : PySem.W.nsIn K mainGlobals "max" = some none)
    (z11 : PySem.W.nsIn K mainGlobals "min" = some none)
    (z12 : PySem.W.nsIn K mainGlobals "tuple" = some none)
    (z13 : PySem.W.nsIn K mainGlobals "list" = some none)
    (z14 : PySem.W.nsIn K mainGlobals "enumerate" = some none)
    (z15 : PySem.W.nsIn K mainGlobals "repr" = some none)
    (z16 : PySem.W.nsIn K mainGlobals "sorted" = some none)
    (z17 : PySem.W.nsIn K mainGlobals "str" = some none)
    (z18 : PySem.W.nsIn K mainGlobals "bool" = some none)
    (z19 : PySem.W.nsIn K mainGlobals "set" = some none)
    (z20 : PySem.W.nsIn K mainGlobals "dict" = some none)
    (z21 : PySem.W.nsIn K mainGlobals "reversed" = some none)
    : ∃ fd : FuncData, (∀ (s : Shared) (v : Value), BindsTo s fd ⟨[v], []⟩ [("script", v)]) ∧ ∀ base : Heap, K.In base → base.Ns mainGlobals mg → GOk l.prog w K mg base 4 fa fd ["script"] (SpOf K spLaw) := by
  cases hfa.symm.trans (PySem.W.mg_of X G a16)
  have no : ∀ x ∈ bnames, mg x = none := fun x hx => PySem.W.mg_none_of X G (bn_all (p := fun x => PySem.W.nsIn K mainGlobals x = some none) z1 z2 z3 z4 z5 z6 z7 z8 z9 z10 z11 z12 z13 z14 z15 z16 z17 z18 z19 z20 z21 x hx)
  have FIsNumber := fun_mk (st := sIsNumber) l1 c1 k1
  have mIsNumber := PySem.W.mg_of X G a1
  have FIsRow := fun_mk (st := sIsRow) l2 c2 k2
  have mIsRow := PySem.W.mg_of X G a2
  have FTimes := fun_mk (st := sTimes) l3 c3 k3
  have mTimes := PySem.W.mg_of X G a3
  have FCommon := fun_mk (st := sCommon) l4 c4 k4
  have mCommon := PySem.W.mg_of X G a4
  have FPlain := fun_mk (st := sPlain) l5 c5 k5
  have mPlain := PySem.W.mg_of X G a5
  have FIsArrow := fun_mk (st := sIsArrow) l6 c6 k6
  have mIsArrow := PySem.W.mg_of X G a6
  have FLawCellAt := fun_mk (st := sLawCellAt) l7 c7 k7
  have mLawCellAt := PySem.W.mg_of X G a7
  have FLawBox := fun_mk (st := sLawBox) l8 c8 k8
  have mLawBox := PySem.W.mg_of X G a8
  have FLawTake := fun_mk (st := sLawTake) l9 c9 k9
  have mLawTake := PySem.W.mg_of X G a9
  have FLawSame := fun_mk (st := sLawSame) l10 c10 k10
  have mLawSame := PySem.W.mg_of X G a10
  have FLawOf := fun_mk (st := sLawOf) l11 c11 k11
  have mLawOf := PySem.W.mg_of X G a11
  have FLawRow := fun_mk (st := sLawRow) l12 c12 k12
  have mLawRow := PySem.W.mg_of X G a12
  have FLawDivided := fun_mk (st := sLawDivided) l13 c13 k13
  have mLawDivided := PySem.W.mg_of X G a13
  have FLawIsArrow := fun_mk (st := sLawIsArrow) l14 c14 k14
  have mLawIsArrow := PySem.W.mg_of X G a14
  have FLawBent := fun_mk (st := sLawBent) l15 c15 k15
  have mLawBent := PySem.W.mg_of X G a15
  have FLaw := fun_mk (st := sLaw) l16 c16 k16
  have mLaw := PySem.W.mg_of X G a16
  refine ⟨PySem.W.fnOf "law" "law" (defArgs sLaw) (defBody sLaw) (defScope sLaw) .none kV16 dc16 pm16 an16 cd16 ct16, fun s v => .of_eq rfl, fun base _ _ => ?_⟩
  have CTake : Fn l.prog w K mg base 1 "_law_take" "_law_take" sLawTake pLawTake spTake := ⟨_, _, mLawTake, FLawTake, ok_take FLawTake no⟩
  have CCell : Fn l.prog w K mg base 1 "_law_cell_at" "_law_cell_at" sLawCellAt pLawCellAt spCell := ⟨_, _, mLawCellAt, FLawCellAt, ok_cell FLawCellAt no⟩
  have CBox : Fn l.prog w K mg base 2 "_law_box" "_law_box" sLawBox pLawBox spBox := ⟨_, _, mLawBox, FLawBox, ok_box FLawBox no CCell⟩
  have COf : Fn l.prog w K mg base 2 "_law_of" "_law_of" sLawOf pLawOf spOf := ⟨_, _, mLawOf, FLawOf, ok_of FLawOf no CTake⟩
  have CSame2 : Fn l.prog w K mg base 3 "_law_same" "_law_same" sLawSame pLawSame (spSame 2) := ⟨_, _, mLawSame, FLawSame, ok_same FLawSame no mLawSame 2⟩
  have CSame0 : Fn l.prog w K mg base 1 "_law_same" "_law_same" sLawSame pLawSame (spSame 0) := ⟨_, _, mLawSame, FLawSame, ok_same FLawSame no mLawSame 0⟩
  have CNum : Fn l.prog w K mg base 1 "is_number" "is_number" sIsNumber pIsNumber spNum := ⟨_, _, mIsNumber, FIsNumber, ok_num FIsNumber no⟩
  have CRow : Fn l.prog w K mg base 2 "is_row" "is_row" sIsRow pIsRow spRow := ⟨_, _, mIsRow, FIsRow, ok_row FIsRow no CNum⟩
  have CTimes : Fn l.prog w K mg base 1 "times" "times" sTimes pTimes spTimes := ⟨_, _, mTimes, FTimes, ok_times FTimes no⟩
  have CCommon : Fn l.prog w K mg base 1 "common" "common" sCommon pCommon spCommon := ⟨_, _, mCommon, FCommon, ok_common FCommon no⟩
  have CPlain : Fn l.prog w K mg base 2 "plain" "plain" sPlain pPlain spPlain := ⟨_, _, mPlain, FPlain, ok_plain FPlain no CCommon⟩
  have CArrow : Fn l.prog w K mg base 3 "is_arrow" "is_arrow" sIsArrow pIsArrow spArrow := ⟨_, _, mIsArrow, FIsArrow, ok_arrow FIsArrow no CRow CCommon⟩
  have CDivided : Fn l.prog w K mg base 1 "_law_divided" "_law_divided" sLawDivided pLawDivided spDivided := ⟨_, _, mLawDivided, FLawDivided, ok_divided FLawDivided no⟩
  have CLRow : Fn l.prog w K mg base 3 "_law_row" "_law_row" sLawRow pLawRow spLRow := ⟨_, _, mLawRow, FLawRow, ok_lrow FLawRow no COf CTake⟩
  have CLArrow : Fn l.prog w K mg base 2 "_law_is_arrow" "_law_is_arrow" sLawIsArrow pLawIsArrow spArrow := ⟨_, _, mLawIsArrow, FLawIsArrow, ok_larrow FLawIsArrow no CDivided⟩
  have CBent : Fn l.prog w K mg base 3 "_law_bent" "_law_bent" sLawBent pLawBent spBent := ⟨_, _, mLawBent, FLawBent, ok_bent FLawBent no COf CTake⟩
  exact ok_law FLaw no CBox CTake COf CLRow CBent CTimes CPlain CArrow CDivided CLArrow CSame2 CSame0
end K2
open PySem PySem.W PyProof.Rows
set_option maxRecDepth 100000 in
set_option maxHeartbeats 0 in
theorem PySem.Challenge.cw_wedgelight_k01_told_divided_and_arrows_holds : PySem.Challenge.rw_wedgelight_k01_told_divided_and_arrows.Holds := by
  w_on
  o_law
  k_head
  (case hw => w_witness2)
  k_fill
  refine Y.walk_g (l := PySem.Challenge.rw_wedgelight_k01_told_divided_and_arrows) (n := 63) (k := 4) (x := "script") (S := K2.spLaw) rfl (by decide) rfl ⟨rfl, by decide, by decide⟩ (fun w h Q => PySem.W.kIn_of Q) ?F fun ns hl => ⟨ns, rfl, hl, rfl⟩
  case F =>
    intro w mg fa h KX G hmg
    refine' K2.all_mk KX G hmg ?a1 ?l1 ?c1 ?k1 ?a2 ?l2 ?c2 ?k2 ?a3 ?l3 ?c3 ?k3 ?a4 ?l4 ?c4 ?k4 ?a5 ?l5 ?c5 ?k5 ?a6 ?l6 ?c6 ?k6 ?a7 ?l7 ?c7 ?k7 ?a8 ?l8 ?c8 ?k8 ?a9 ?l9 ?c9 ?k9 ?a10 ?l10 ?c10 ?k10 ?a11 ?l11 ?c11 ?k11 ?a12 ?l12 ?c12 ?k12 ?a13 ?l13 ?c13 ?k13 ?a14 ?l14 ?c14 ?k14 ?a15 ?l15 ?c15 ?k15 ?a16 ?l16 ?c16 ?k16 ?z1 ?z2 ?z3 ?z4 ?z5 ?z6 ?z7 ?z8 ?z9 ?z10 ?z11 ?z12 ?z13 ?z14 ?z15 ?z16 ?z17 ?z18 ?z19 ?z20 ?z21
    (case a1 => k_is)
    (case l1 => k_is)
    (case c1 => k_is)
    (case k1 => k_is)
    (case a2 => k_is)
    (case l2 => k_is)
    (case c2 => k_is)
    (case k2 => k_is)
    (case a3 => k_is)
    (case l3 => k_is)
    (case c3 => k_is)
    (case k3 => k_is)
    (case a4 => k_is)
    (case l4 => k_is)
    (case c4 => k_is)
    (case k4 => k_is)
    (case a5 => k_is)
    (case l5 => k_is)
    (case c5 => k_is)
    (case k5 => k_is)
    (case a6 => k_is)
    (case l6 => k_is)
    (case c6 => k_is)
    (case k6 => k_is)
    (case a7 => k_is)
    (case l7 => k_is)
    (case c7 => k_is)
    (case k7 => k_is)
    (case a8 => k_is)
    (case l8 => k_is)
    (case c8 => k_is)
    (case k8 => k_is)
    (case a9 => k_is)
    (case l9 => k_is)
    (case c9 => k_is)
    (case k9 => k_is)
    (case a10 => k_is)
    (case l10 => k_is)
    (case c10 => k_is)
    (case k10 => k_is)
    (case a11 => k_is)
    (case l11 => k_is)
    (case c11 => k_is)
    (case k11 => k_is)
    (case a12 => k_is)
    (case l12 => k_is)
    (case c12 => k_is)
    (case k12 => k_is)
    (case a13 => k_is)
    (case l13 => k_is)
    (case c13 => k_is)
    (case k13 => k_is)
    (case a14 => k_is)
    (case l14 => k_is)
    (case c14 => k_is)
    (case k14 => k_is)
    (case a15 => k_is)
    (case l15 => k_is)
    (case c15 => k_is)
    (case k15 => k_is)
    (case a16 => k_is)
    (case l16 => k_is)
    (case c16 => k_is)
    (case k16 => k_is)
    (case z1 => k_is)
    (case z2 => k_is)
    (case z3 => k_is)
    (case z4 => k_is)
    (case z5 => k_is)
    (case z6 => k_is)
    (case z7 => k_is)
    (case z8 => k_is)
    (case z9 => k_is)
    (case z10 => k_is)
    (case z11 => k_is)
    (case z12 => k_is)
    (case z13 => k_is)
    (case z14 => k_is)
    (case z15 => k_is)
    (case z16 => k_is)
    (case z17 => k_is)
    (case z18 => k_is)
    (case z19 => k_is)
    (case z20 => k_is)
    (case z21 => k_is)
#print axioms PySem.Challenge.cw_wedgelight_k01_told_divided_and_arrows_holds

