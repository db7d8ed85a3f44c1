import PyProof.Rows.All
import Wide.All
import OpenK.AllK
import Wide.FinOn
import HandS.ForMost
import HandS.Wide
import HandS.Zip
import HandS.Flow
import HandS.NoneIn
import HandS.TupAny
import HandS.TupMul
import HandS.IsInst
import KE.KLam
import HandS.Lambda
import HandS.Nested
import HandS.ForExc
import KE.KNestM
import KE.KUnpackStar
import HandS.Style
import HandS.StrMore
import KE.GoesMore
import KE.GoesZip
import KE.GoesEnum
import PyProof.ReprRoads
import KE.SortKeyHeap
import KE.SortData
import HandS.SortKw
import HandS.Defaults
import KE.KDictZip
import PySem.Challenge.RW_wedgelight_k04_levels
set_option Elab.async false
set_option linter.all false
set_option maxRecDepth 100000
set_option maxHeartbeats 4000000 -- the walks are long
namespace Y
open PySem L2 NdefX LamX

/-- the object at f is the lambda F (its words; what F.body says counts for nothing) with the body e -/
def LamO (f : Addr) (F : NF) (e : Expr) : HO := .ext fun h => ∃ pm ctv : Value, h.get? f = some (PySem.W.kla_obj F.name F.qual F.params e F.scope F.cl pm F.c ctv)
/-- a cell, locked as the object o -/
def CellF (o : Obj) : HO := .frz o (.ext fun _ => True)
/-- the cells that a lambda captured are locked and hold vs -/
structure CellsV (H : Hp) (cl : List (Str × Addr)) (fr : List Str) (vs : List V) : Prop where
  len : vs.length = fr.length
  all : ∀ y c, cl.lookup y = some c → ∃ o v, H c = some (CellF o) ∧ o.data = .cell v
  inj : ∀ x y c, cl.lookup x = some c → cl.lookup y = some c → x = y
  has : ∀ (i : Nat) (y : Str) (v : V), fr[i]? = some y → vs[i]? = some v → ∃ c o u, cl.lookup y = some c ∧ H c = some (CellF o) ∧ o.data = .cell (some u) ∧ RelV v u
theorem CellsV.mono {H H' : Hp} {cl : List (Str × Addr)} {fr : List Str} {vs : List V} (e : Same H H') (c : CellsV H cl fr vs) : CellsV H' cl fr vs :=
  ⟨c.len, fun y a h => let ⟨o, v, h1, h2⟩ := c.all y a h; ⟨o, v, e _ _ h1, h2⟩, c.inj, fun i y v h1 h2 => let ⟨a, o, u, q1, q2, q3, q4⟩ := c.has i y v h1 h2; ⟨a, o, u, q1, e _ _ q2, q3, q4⟩⟩
/-! ### data, descriptions of slots -/
inductive D where
  | non | bl (b : Bool) | int (i : Int) | str (x : Str) | ptr (a : Addr) | ty (n : String)
  | lst (ds : List D) | rls (ds : List D) | tup (ds : List D) | ins (C : Addr) (ns : List Str) (ds : List D) | fn (f : Addr) (F : NF) (e : Expr) (fr : List Str) (ds : List D)
mutual
inductive Ds (K : PySem.W.Frag) (H : Hp) : V → D → Prop
  | non : Ds K H .non .non
  | bl (b : Bool) : Ds K H (.bl b) (.bl b)
  | int (i : Int) : Ds K H (.int i) (.int i)
  | str (x : Str) : Ds K H (.str x) (.str x)
  | ptr (a : Addr) : Ds K H (.ref a) (.ptr a)
  | ty (n : String) : Ds K H (.ty n) (.ty n)
  | lst {a : Addr} {xs : List V} {ds : List D} : H a = some (.lst xs) → DsL K H xs ds → Ds K H (.ref a) (.lst ds)
  | rls {a : Addr} {xs : List V} {ds : List D} : SqL K H a xs → DsL K H xs ds → Ds K H (.ref a) (.rls ds)
  | tup {a : Addr} {xs : List V} {ds : List D} : SqT K H a xs → DsL K H xs ds → Ds K H (.ref a) (.tup ds)
  | ins {a C dx : Addr} {fs : List (Str × V)} {ds : List D} : H a = some (.ins C dx fs) → DsL K H (fs.map (·.2)) ds → Ds K H (.ref a) (.ins C (fs.map (·.1)) ds)
  | fn {f : Addr} {F : NF} {e : Expr} {fr : List Str} {vs : List V} {ds : List D} : H f = some (LamO f F e) → H F.c = some (CodeO F.c F.qual) → CellsV H F.cl fr vs → DsL K H vs ds → Ds K H (.ref f) (.fn f F e fr ds)
inductive DsL (K : PySem.W.Frag) (H : Hp) : List V → List D → Prop
  | nil : DsL K H [] []
  | cons {v : V} {vs : List V} {d : D} {ds : List D} : Ds K H v d → DsL K H vs ds → DsL K H (v :: vs) (d :: ds)
end
section
variable {K : PySem.W.Frag} {H H' : Hp}
mutual
theorem Ds.mono (e : Same H H') : ∀ {v : V} {d : D}, Ds K H v d → Ds K H' v d
  | _, _, .non => .non
  | _, _, .bl b => .bl b
  | _, _, .int i => .int i
  | _, _, .str x => .str x
  | _, _, .ptr a => .ptr a
  | _, _, .ty a => .ty a
  | _, _, .lst h q => .lst (e _ _ h) (DsL.mono e q)
  | _, _, .rls h q => .rls (e.seq h) (DsL.mono e q)
  | _, _, .tup h q => .tup (by
      rcases h with (h | ⟨o, h⟩) | h
      · exact .inl (.inl (e _ _ h))
      · exact .inl (.inr ⟨o, e _ _ h⟩)
      · exact .inr h) (DsL.mono e q)
  | _, _, .ins h q => .ins (e _ _ h) (DsL.mono e q)
  | _, _, .fn h q c r => .fn (e _ _ h) (e _ _ q) (c.mono e) (DsL.mono e r)
theorem DsL.mono (e : Same H H') : ∀ {vs : List V} {ds : List D}, DsL K H vs ds → DsL K H' vs ds
  | _, _, .nil => .nil
  | _, _, .cons h q => .cons (Ds.mono e h) (DsL.mono e q)
end
theorem seqT {a : Addr} {xs : List V} (e : Same H H') (h : SqT K H a xs) : SqT K H' a xs := by
  rcases h with (h | ⟨o, h⟩) | h
  · exact .inl (.inl (e _ _ h))
  · exact .inl (.inr ⟨o, e _ _ h⟩)
  · exact .inr h
theorem DsL.length : ∀ {vs : List V} {ds : List D}, DsL K H vs ds → vs.length = ds.length
  | _, _, .nil => rfl
  | _, _, .cons _ q => by simp [DsL.length q]
theorem DsL.get : ∀ {vs : List V} {ds : List D} {i : Nat} {d : D}, DsL K H vs ds → ds[i]? = some d → ∃ v, vs[i]? = some v ∧ Ds K H v d
  | _, _, _, _, .nil, e => by simp at e
  | _, _, 0, _, .cons r _, e => by simp at e; subst e; exact ⟨_, rfl, r⟩
  | _, _, i + 1, _, .cons _ q, e => by
    obtain ⟨v, h1, h2⟩ := DsL.get (i := i) q (by simpa using e)
    exact ⟨v, by simpa using h1, h2⟩
theorem DsL.getV : ∀ {vs : List V} {ds : List D} {i : Nat} {v : V}, DsL K H vs ds → vs[i]? = some v → ∃ d, ds[i]? = some d ∧ Ds K H v d
  | _, _, _, _, .nil, e => by simp at e
  | _, _, 0, _, .cons r _, e => by simp at e; subst e; exact ⟨_, rfl, r⟩
  | _, _, i + 1, _, .cons _ q, e => by
    obtain ⟨v, h1, h2⟩ := DsL.getV (i := i) q (by simpa using e)
    exact ⟨v, by simpa using h1, h2⟩
theorem DsL.append : ∀ {vs ws : List V} {ds es : List D}, DsL K H vs ds → DsL K H ws es → DsL K H (vs ++ ws) (ds ++ es)
  | _, _, _, _, .nil, q => q
  | _, _, _, _, .cons r p, q => .cons r (DsL.append p q)
theorem DsL.set {v : V} {d : D} (r : Ds K H v d) : ∀ {vs : List V} {ds : List D} (i : Nat), DsL K H vs ds → DsL K H (vs.set i v) (ds.set i d)
  | _, _, _, .nil => .nil
  | _, _, 0, .cons _ q => .cons r q
  | _, _, i + 1, .cons p q => .cons p (DsL.set r i q)
theorem DsL.drop : ∀ {vs : List V} {ds : List D} (n : Nat), DsL K H vs ds → DsL K H (vs.drop n) (ds.drop n)
  | _, _, 0, q => q
  | _, _, _ + 1, .nil => .nil
  | _, _, n + 1, .cons _ q => DsL.drop n q
theorem DsL.take : ∀ {vs : List V} {ds : List D} (n : Nat), DsL K H vs ds → DsL K H (vs.take n) (ds.take n)
  | _, _, 0, _ => .nil
  | _, _, _ + 1, .nil => .nil
  | _, _, n + 1, .cons p q => .cons p (DsL.take n q)
theorem DsL.rep {v : V} {d : D} (r : Ds K H v d) : ∀ n, DsL K H (List.replicate n v) (List.replicate n d)
  | 0 => .nil
  | n + 1 => .cons r (DsL.rep r n)
theorem DsL.reverse : ∀ {vs : List V} {ds : List D}, DsL K H vs ds → DsL K H vs.reverse ds.reverse
  | _, _, .nil => .nil
  | _, _, .cons p q => by rw [List.reverse_cons, List.reverse_cons]; exact (DsL.reverse q).append (.cons p .nil)
theorem DsL.ints : ∀ {vs : List V} {ns : List Int}, DsL K H vs (ns.map D.int) → vs = ns.map V.int
  | _, [], .nil => rfl
  | _, n :: ns, .cons (.int _) q => by rw [List.map_cons, ← DsL.ints q]
theorem DsL.bls : ∀ {vs : List V} {ns : List Bool}, DsL K H vs (ns.map D.bl) → vs = ns.map V.bl
  | _, [], .nil => rfl
  | _, n :: ns, .cons (.bl _) q => by rw [List.map_cons, ← DsL.bls q]
end

/-- owned objects: the function's own, changing -/
inductive OD where
  | lst (ds : List D)
inductive SD where
  | any | dat (d : D) | own (p : Addr) (o : OD)
def OdOk (K : PySem.W.Frag) (Hf H : Hp) (p : Addr) : OD → Prop
  | .lst ds => ∃ xs, H p = some (.lst xs) ∧ DsL K Hf xs ds
def SdOk (K : PySem.W.Frag) (Hf H : Hp) (ov : Option V) : SD → Prop
  | .any => True
  | .dat d => ∃ v, ov = some v ∧ Ds K Hf v d
  | .own p o => ov = some (.ref p) ∧ Hf p = none ∧ OdOk K Hf H p o
def owns : List SD → List Addr
  | [] => []
  | .own p _ :: r => p :: owns r
  | .any :: r => owns r
  | .dat _ :: r => owns r
/-- no table of code objects -/
def NoT (o : HO) : Prop := ∀ ps, o ≠ .tbl ps
theorem NoT.lst {xs : List V} : NoT (.lst xs) := fun _ h => by cases h
theorem NoT.tup {xs : List V} : NoT (.tup xs) := fun _ h => by cases h
/-- what may be owned -/
def Ow : HO → Prop
  | .lst _ => True
  | .dT _ => True
  | .dK _ => True
  | .ins _ _ _ => True
  | _ => False
theorem Ow.noT {o : HO} (h : Ow o) : NoT o := fun ps z => by subst z; exact h
theorem tabS_to {H H' : Hp} {P : Addr} {q : Str} (t : TabS H P q) (e : ∀ b o, H b = some o → ¬ Ow o → H' b = some o) : TabS H' P q := by
  obtain ⟨ps, h1, h2, h3⟩ := t
  refine ⟨ps, e _ _ h1 (fun z => z), h2, fun pos cv hc => ?_⟩
  obtain ⟨c, e1, e2⟩ := h3 pos cv hc
  exact ⟨c, e1, e _ _ e2 (fun z => z)⟩
/-- which name the code objects of a table bear -/
class NmC where
  nm : Addr → Str
abbrev TabA (I : NmC) (H : Hp) (P : Addr) : Prop := TabS H P (I.nm P)
variable [I : NmC]
/-- Hf: what never changes; H: what is; σ: the slots' values, told by A -/
structure Rel (K : PySem.W.Frag) (Hf H : Hp) (σ : List (Option V)) (A : List SD) : Prop where
  sm : Same Hf H
  al : Paired (SdOk K Hf H) σ A
  nd : (owns A).Nodup
  nt : ∀ a o, Hf a = some o → NoT o
structure Fr (o0 : List Addr) (Hf H : Hp) (o1 : List Addr) (Hf' H' : Hp) : Prop where
  ef : Same Hf Hf'
  st : ∀ a o, H a = some o → Ow o → Hf a = none → a ∉ o0 → Hf' a = none
  kp : ∀ a o, H a = some o → NoT o → a ∉ o0 → H' a = some o
  gr : ∀ p ∈ o1, p ∈ o0 ∨ H p = none
  tb : ∀ a ps, H a = some (.tbl ps) → ∃ qs, H' a = some (.tbl qs)
  ts : ∀ P, TabA I H P → TabA I H' P
theorem Fr.refl (o : List Addr) (Hf H : Hp) : Fr o Hf H o Hf H := ⟨fun _ _ h => h, fun _ _ _ _ h _ => h, fun _ _ h _ _ => h, fun _ h => .inl h, fun _ _ h => ⟨_, h⟩, fun _ h => h⟩
theorem nt_upd {Hf : Hp} {p : Addr} {u : HO} (h : ∀ a o, Hf a = some o → NoT o) (n : NoT u) : ∀ a o, upd Hf p u a = some o → NoT o := fun a o z => by
  by_cases hb : a = p
  · subst hb; rw [upd_same] at z; cases z; exact n
  · rw [upd_ne hb] at z; exact h a o z
theorem noT_or (o : HO) : NoT o ∨ ∃ ps, o = .tbl ps := by
  cases o with
  | tbl ps => exact .inr ⟨ps, rfl⟩
  | _ => exact .inl fun _ h => by cases h
theorem Fr.alive {o0 o1 : List Addr} {Hf H Hf1 H1 : Hp} (a : Fr o0 Hf H o1 Hf1 H1) {p : Addr} {o : HO} (h : H p = some o) (n : p ∉ o0) : H1 p ≠ none := by
  rcases noT_or o with q | ⟨ps, rfl⟩
  · rw [a.kp p o h q n]; simp
  · obtain ⟨qs, z⟩ := a.tb p ps h
    rw [z]; simp
theorem Fr.fresh {o0 : List Addr} {Hf H o1 Hf1 H1} (a : Fr o0 Hf H o1 Hf1 H1) {p : Addr} (h : H1 p = none) : p ∈ o0 ∨ H p = none := by
  by_cases h0 : p ∈ o0
  · exact .inl h0
  · right
    cases e : H p with
    | none => rfl
    | some o => exact absurd h (a.alive e h0)
theorem Fr.trans {o0 o1 o2 : List Addr} {Hf H Hf1 H1 Hf2 H2 : Hp} (a : Fr o0 Hf H o1 Hf1 H1) (b : Fr o1 Hf1 H1 o2 Hf2 H2) : Fr o0 Hf H o2 Hf2 H2 where
  ef := a.ef.trans b.ef
  st := fun x o e nt h2 h3 => by
    have k := a.kp x o e nt.noT h3
    refine b.st x o k nt (a.st x o e nt h2 h3) fun hx => ?_
    rcases a.gr x hx with z | z
    · exact h3 z
    · rw [z] at e; cases e
  kp := fun x o e nt h3 => by
    refine b.kp x o (a.kp x o e nt h3) nt fun hx => ?_
    rcases a.gr x hx with z | z
    · exact h3 z
    · rw [z] at e; cases e
  gr := fun p hp => by
    rcases b.gr p hp with z | z
    · exact a.gr p z
    · exact a.fresh z
  tb := fun x ps h => by
    obtain ⟨qs, h1⟩ := a.tb x ps h
    exact b.tb x qs h1
  ts := fun P h => b.ts P (a.ts P h)
theorem Fr.less {o0 o1 o2 : List Addr} {Hf H Hf1 H1 : Hp} (a : Fr o0 Hf H o1 Hf1 H1) (s : ∀ p ∈ o2, p ∈ o1) : Fr o0 Hf H o2 Hf1 H1 := ⟨a.ef, a.st, a.kp, fun p hp => a.gr p (s p hp), a.tb, a.ts⟩
/-- an owned set may be told larger -/
theorem Fr.more {o0 o0' o1 : List Addr} {Hf H Hf1 H1 : Hp} (a : Fr o0 Hf H o1 Hf1 H1) (s : ∀ p ∈ o0, p ∈ o0') : Fr o0' Hf H o1 Hf1 H1 :=
  ⟨a.ef, fun x o h1 nt h2 h3 => a.st x o h1 nt h2 fun z => h3 (s x z), fun x o e nt h3 => a.kp x o e nt fun z => h3 (s x z), fun p hp => (a.gr p hp).imp (s p) id, a.tb, a.ts⟩
section
variable {K : PySem.W.Frag} {Hf H Hf' H' : Hp} {σ : List (Option V)} {A : List SD} {p : Addr}
theorem mem_owns {o : OD} : ∀ {A : List SD}, SD.own p o ∈ A → p ∈ owns A
  | .own q u :: r, h => by
    rcases List.mem_cons.mp h with e | h
    · cases e; exact List.mem_cons_self
    · exact List.mem_cons_of_mem _ (mem_owns h)
  | .any :: r, h => by
    rcases List.mem_cons.mp h with e | h
    · cases e
    · exact mem_owns (A := r) h
  | .dat d :: r, h => by
    rcases List.mem_cons.mp h with e | h
    · cases e
    · exact mem_owns (A := r) h
theorem of_owns : ∀ {A : List SD}, p ∈ owns A → ∃ o, SD.own p o ∈ A
  | [], h => by cases h
  | .own q u :: r, h => by
    rcases List.mem_cons.mp h with e | h
    · cases e; exact ⟨u, List.mem_cons_self⟩
    · obtain ⟨o, q⟩ := of_owns h
      exact ⟨o, List.mem_cons_of_mem _ q⟩
  | .any :: r, h => by
    obtain ⟨o, q⟩ := of_owns (A := r) h
    exact ⟨o, List.mem_cons_of_mem _ q⟩
  | .dat d :: r, h => by
    obtain ⟨o, q⟩ := of_owns (A := r) h
    exact ⟨o, List.mem_cons_of_mem _ q⟩
theorem Paired.at {α β : Type} {G : α → β → Prop} : ∀ {l₁ : List α} {l₂ : List β}, Paired G l₁ l₂ → ∀ {i : Nat} {b : β}, l₂[i]? = some b → ∃ a, l₁[i]? = some a ∧ G a b
  | _, _, .nil, i, b, h => by simp at h
  | _, _, .cons r t, 0, b, h => by simp at h; subst h; exact ⟨_, rfl, r⟩
  | _, _, .cons r t, i + 1, b, h => by
    obtain ⟨a, h1, h2⟩ := Paired.at t (i := i) (by simpa using h)
    exact ⟨a, by simpa using h1, h2⟩
theorem Paired.mem {α β : Type} {G : α → β → Prop} : ∀ {l₁ : List α} {l₂ : List β}, Paired G l₁ l₂ → ∀ {b : β}, b ∈ l₂ → ∃ a, a ∈ l₁ ∧ G a b
  | _, _, .nil, b, h => by cases h
  | _, _, .cons r t, b, h => by
    rcases List.mem_cons.mp h with rfl | h
    · exact ⟨_, List.mem_cons_self, r⟩
    · obtain ⟨a, h1, h2⟩ := Paired.mem t h
      exact ⟨a, List.mem_cons_of_mem _ h1, h2⟩
theorem Paired.set2 {α β : Type} {G : α → β → Prop} {a : α} {b : β} (r : G a b) : ∀ {l₁ : List α} {l₂ : List β}, Paired G l₁ l₂ → ∀ i, Paired G (l₁.set i a) (l₂.set i b)
  | _, _, .nil, _ => .nil
  | _, _, .cons _ t, 0 => .cons r t
  | _, _, .cons q t, i + 1 => .cons q (Paired.set2 r t i)
theorem Paired.ofGet {α β : Type} {G : α → β → Prop} : ∀ {l₁ : List α} {l₂ : List β}, l₁.length = l₂.length → (∀ (i : Nat) (a : α) (b : β), l₁[i]? = some a → l₂[i]? = some b → G a b) → Paired G l₁ l₂
  | [], [], _, _ => .nil
  | a :: l₁, b :: l₂, hl, h => .cons (h 0 a b rfl rfl) (Paired.ofGet (by simpa using hl) fun i a b h1 h2 => h (i + 1) a b (by simpa using h1) (by simpa using h2))
  | [], _ :: _, hl, _ => by simp at hl
  | _ :: _, [], hl, _ => by simp at hl
theorem Paired.weak {α β : Type} {G G' : α → β → Prop} : ∀ {l₁ : List α} {l₂ : List β}, Paired G l₁ l₂ → (∀ a b, b ∈ l₂ → G a b → G' a b) → Paired G' l₁ l₂
  | _, _, .nil, _ => .nil
  | _, _, .cons r t, h => .cons (h _ _ List.mem_cons_self r) (Paired.weak t fun a b hb => h a b (List.mem_cons_of_mem _ hb))
theorem SdOk.keep {ov : Option V} {s : SD} (h : SdOk K Hf H ov s) (e : Same Hf Hf') (k : ∀ p o, s = .own p o → Hf' p = none ∧ H' p = H p) : SdOk K Hf' H' ov s := by
  cases s with
  | any => trivial
  | dat d => obtain ⟨v, h1, h2⟩ := h; exact ⟨v, h1, h2.mono e⟩
  | own p o =>
    obtain ⟨h1, h2, h3⟩ := h
    obtain ⟨k1, k2⟩ := k p o rfl
    refine ⟨h1, k1, ?_⟩
    cases o with
    | lst ds => obtain ⟨xs, q1, q2⟩ := h3; exact ⟨xs, k2.trans q1, q2.mono e⟩
theorem OdOk.ow {o : OD} (h : OdOk K Hf H p o) : ∃ u, H p = some u ∧ Ow u := by
  cases o with
  | lst ds => obtain ⟨xs, q1, _⟩ := h; exact ⟨_, q1, trivial⟩
theorem SdOk.there {ov : Option V} {o : OD} (h : SdOk K Hf H ov (.own p o)) : H p ≠ none := by
  obtain ⟨u, hu, _⟩ := h.2.2.ow
  rw [hu]; simp
theorem Rel.there (r : Rel K Hf H σ A) (h : p ∈ owns A) : H p ≠ none := by
  obtain ⟨o, q⟩ := of_owns h
  obtain ⟨a, _, z⟩ := Paired.mem r.al q
  exact z.there
theorem Rel.unf (r : Rel K Hf H σ A) (h : p ∈ owns A) : Hf p = none := by
  obtain ⟨o, q⟩ := of_owns h
  obtain ⟨a, _, z⟩ := Paired.mem r.al q
  exact z.2.1
theorem Rel.tail {ov : Option V} {s : SD} (r : Rel K Hf H (ov :: σ) (s :: A)) : Rel K Hf H σ A := by
  refine ⟨r.sm, ?_, ?_, r.nt⟩
  · cases r.al with
    | cons _ t => exact t
  · have := r.nd
    cases s with
    | any => exact this
    | dat d => exact this
    | own p o => exact (List.nodup_cons.mp this).2
theorem Rel.head {ov : Option V} {s : SD} (r : Rel K Hf H (ov :: σ) (s :: A)) : SdOk K Hf H ov s := by
  cases r.al with
  | cons h _ => exact h
theorem owns_tail (s : SD) (A : List SD) : ∀ q ∈ owns A, q ∈ owns (s :: A) := fun q h => by
  cases s with
  | any => exact h
  | dat d => exact h
  | own p o => exact List.mem_cons_of_mem _ h
theorem Rel.notTail {o : OD} {ov : Option V} (r : Rel K Hf H (ov :: σ) (.own p o :: A)) : p ∉ owns A := (List.nodup_cons.mp r.nd).1
theorem Rel.cons {ov : Option V} {s : SD} (r : Rel K Hf H σ A) (h : SdOk K Hf H ov s) (n : ∀ p o, s = .own p o → p ∉ owns A) : Rel K Hf H (ov :: σ) (s :: A) := by
  refine ⟨r.sm, .cons h r.al, ?_, r.nt⟩
  cases s with
  | any => exact r.nd
  | dat d => exact r.nd
  | own p o => exact List.nodup_cons.mpr ⟨n p o rfl, r.nd⟩
theorem Rel.consD {v : V} {d : D} (r : Rel K Hf H σ A) (h : Ds K Hf v d) : Rel K Hf H (some v :: σ) (.dat d :: A) := r.cons ⟨v, rfl, h⟩ fun _ _ e => by cases e
/-- what stands beside a step that is not concerned -/
theorem SdOk.frame {ov : Option V} {s : SD} {o0 o1 : List Addr} (h : SdOk K Hf H ov s) (f : Fr o0 Hf H o1 Hf' H') (n : ∀ p o, s = .own p o → p ∉ o0) : SdOk K Hf' H' ov s :=
  h.keep f.ef fun p o e => by
    subst e
    obtain ⟨u, hu, hw⟩ := h.2.2.ow
    exact ⟨f.st p u hu hw h.2.1 (n p o rfl), by rw [hu]; exact f.kp p u hu hw.noT (n p o rfl)⟩
theorem Rel.frame {ov : Option V} {s : SD} {A' : List SD} {σ' : List (Option V)} (r : Rel K Hf H (ov :: σ) (s :: A)) (r' : Rel K Hf' H' σ' A') (f : Fr (owns A) Hf H (owns A') Hf' H') : Rel K Hf' H' (ov :: σ') (s :: A') := by
  refine r'.cons (r.head.frame f fun p o e => ?_) fun p o e hp => ?_
  · subst e; exact r.notTail
  · subst e
    rcases f.gr p hp with z | z
    · exact r.notTail z
    · exact r.head.there z
theorem Fr.frame {s : SD} {A A' : List SD} (r : Rel K Hf H σ (s :: A)) (f : Fr (owns A) Hf H (owns A') Hf' H') : Fr (owns (s :: A)) Hf H (owns (s :: A')) Hf' H' :=
  ⟨f.ef, fun a o h1 nt h2 h3 => f.st a o h1 nt h2 fun z => h3 (owns_tail _ _ _ z), fun a o h1 nt h3 => f.kp a o h1 nt fun z => h3 (owns_tail _ _ _ z), fun q hq => by
    cases s with
    | any => exact f.gr q hq
    | dat d => exact f.gr q hq
    | own p o =>
      rcases List.mem_cons.mp hq with rfl | hq
      · exact .inl List.mem_cons_self
      · exact (f.gr q hq).imp (List.mem_cons_of_mem _) id, f.tb, f.ts⟩
/-- a new object, frozen at once -/
theorem Rel.newF {o : HO} (r : Rel K Hf H σ A) (hp : H p = none) (no : NoT o := by exact fun _ h => by cases h) : Rel K (upd Hf p o) (upd H p o) σ A ∧ Fr (owns A) Hf H (owns A) (upd Hf p o) (upd H p o) := by
  have hf : Hf p = none := r.sm.free hp
  have e : Same Hf (upd Hf p o) := fun b u q => by rw [upd_ne (ne_of_none q hf)]; exact q
  refine ⟨⟨fun b u q => ?_, Paired.weak r.al fun a b hb h => h.keep e fun q u z => ?_, r.nd, fun a u h => ?_⟩, ⟨e, fun a u h1 _ h2 _ => ?_, fun a u h1 _ _ => ?_, fun q hq => .inl hq, fun a ps h => ⟨ps, ?_⟩, fun P t => t.ext fun b u h => ?_⟩⟩
  · by_cases hb : b = p
    · subst hb; rw [upd_same] at q ⊢; exact q
    · rw [upd_ne hb] at q ⊢; exact r.sm b u q
  · subst z
    have ne : q ≠ p := fun z => by subst z; exact h.there hp
    rw [upd_ne ne, upd_ne ne]; exact ⟨h.2.1, rfl⟩
  · by_cases hb : a = p
    · subst hb; rw [upd_same] at h; cases h; exact no
    · rw [upd_ne hb] at h; exact r.nt a u h
  · rw [upd_ne (ne_of_none h1 hp)]; exact h2
  · rw [upd_ne (ne_of_none h1 hp)]; exact h1
  · rw [upd_ne (ne_of_none h hp)]; exact h
  · rw [upd_ne (ne_of_none h hp)]; exact h
/-- a new object, the function's own -/
theorem Rel.newO {o : HO} (r : Rel K Hf H σ A) (hp : H p = none) : Rel K Hf (upd H p o) σ A ∧ Fr (owns A) Hf H (p :: owns A) Hf (upd H p o) ∧ Hf p = none ∧ p ∉ owns A := by
  have hf : Hf p = none := r.sm.free hp
  refine ⟨⟨fun b u q => ?_, Paired.weak r.al fun a b hb h => h.keep (fun _ _ h => h) fun q u z => ?_, r.nd, r.nt⟩, ⟨fun _ _ h => h, fun a u h1 _ h2 _ => h2, fun a u h1 _ _ => ?_, fun q hq => ?_, fun a ps h => ⟨ps, ?_⟩, fun P t => t.ext fun b u h => ?_⟩, hf, fun h => r.there h hp⟩
  · rw [upd_ne (ne_of_none q hf)]; exact r.sm b u q
  · subst z
    have ne : q ≠ p := fun z => by subst z; exact h.there hp
    rw [upd_ne ne]; exact ⟨h.2.1, rfl⟩
  · rw [upd_ne (ne_of_none h1 hp)]; exact h1
  · rcases List.mem_cons.mp hq with rfl | hq
    · exact .inr hp
    · exact .inl hq
  · rw [upd_ne (ne_of_none h hp)]; exact h
  · rw [upd_ne (ne_of_none h hp)]; exact h
end
def OD.frz : OD → Option D
  | .lst ds => some (.lst ds)
def SD.frz : SD → Option D
  | .any => none
  | .dat d => some d
  | .own _ o => o.frz
section
variable {K : PySem.W.Frag} {Hf H Hf' H' : Hp} {σ : List (Option V)} {A : List SD} {p : Addr}
theorem same_frz {u : HO} (hp : H p = some u) (sm : Same Hf H) (hf : Hf p = none) : Same Hf (upd Hf p u) ∧ Same (upd Hf p u) H :=
  ⟨fun b w q => by rw [upd_ne (ne_of_none q hf)]; exact q, fun b w q => by
    by_cases hb : b = p
    · subst hb; rw [upd_same] at q; cases q; exact hp
    · rw [upd_ne hb] at q; exact sm b w q⟩
/-- the head frozen -/
theorem Rel.frz {v : V} {s : SD} {d : D} (r : Rel K Hf H (some v :: σ) (s :: A)) (h : s.frz = some d) : ∃ Hf', Rel K Hf' H σ A ∧ Ds K Hf' v d ∧ Fr (owns (s :: A)) Hf H (owns A) Hf' H := by
  cases s with
  | any => cases h
  | dat e =>
    cases h
    obtain ⟨w, q1, q2⟩ := r.head
    cases q1
    exact ⟨Hf, r.tail, q2, Fr.refl _ _ _⟩
  | own q o =>
    have n := r.notTail
    obtain ⟨h1, h2, h3⟩ := r.head
    cases h1
    cases o with
    | lst ds =>
      cases h
      obtain ⟨xs, q1, q2⟩ := h3
      obtain ⟨e, e2⟩ := same_frz q1 r.sm h2
      refine ⟨upd Hf q (.lst xs), ⟨e2, Paired.weak r.tail.al fun a b hb h => h.keep e fun q' u z => ?_, r.tail.nd, nt_upd r.nt NoT.lst⟩, .lst upd_same (q2.mono e), ⟨e, fun a u h1 _ h2 h3 => ?_, fun a u h1 _ _ => h1, fun x hx => .inl (List.mem_cons_of_mem _ hx), fun _ _ h => ⟨_, h⟩, fun _ h => h⟩⟩
      · subst z
        have ne : q' ≠ q := fun z => by subst z; exact n (mem_owns hb)
        rw [upd_ne ne]; exact ⟨h.2.1, rfl⟩
      · rw [upd_ne (fun z => h3 (by rw [z]; exact List.mem_cons_self))]; exact h2
end
end Y

namespace Y
open PySem L2 NdefX LamX
variable [I : NmC]

/-! ### the weakest wish of a piece of syntax -/
def WE (X : Cx) (e : Expr) : TE := fun σ H Q => ∃ t, PE X e t ∧ t σ H Q
def WT (X : Cx) (e : Expr) : TT := fun σ H Q => ∃ t, PT X e t ∧ t σ H Q
def WW (X : Cx) (e : Expr) : TT := fun σ H Q => ∃ t, PW X e t ∧ t σ H Q
def WA (X : Cx) (es : List Expr) : TA := fun σ H Q => ∃ t, PA X es t ∧ t σ H Q
def WI (X : Cx) (tg it : Expr) : TI := fun σ H Q => ∃ t, PI X tg it t ∧ t σ H Q
def WG (X : Cx) (tg : Expr) : TG := fun v σ H Q => ∃ t, PG X tg t ∧ t v σ H Q
def WGs (X : Cx) (tgs : List Expr) : TGs := fun v σ H Q => ∃ t, PGs X tgs t ∧ t v σ H Q
def WTs (X : Cx) (es : List Expr) : TT := fun σ H Q => ∃ t, PTs X es t ∧ t σ H Q
def WS (X : Cx) (st : Stmt) : TS := fun D σ H => ∃ t, PS X st t ∧ t D σ H
def WSs (X : Cx) (st : List Stmt) : TS := fun D σ H => ∃ t, PSs X st t ∧ t D σ H
section
variable {X : Cx}
theorem we {e : Expr} : PE X e (WE X e) := ⟨fun pins s σ H Q I h => let ⟨_, ht, h⟩ := h; ht.run pins s σ H Q I h⟩
theorem wt {e : Expr} : PT X e (WT X e) := ⟨fun pins s σ H Q I h => let ⟨_, ht, h⟩ := h; ht.run pins s σ H Q I h⟩
theorem ww {e : Expr} : PW X e (WW X e) := ⟨fun w pins s σ H Q I h => let ⟨_, ht, h⟩ := h; ht.run w pins s σ H Q I h⟩
theorem wa {es : List Expr} : PA X es (WA X es) := ⟨fun p pins s σ H Q I h => let ⟨_, ht, h⟩ := h; ht.run p pins s σ H Q I h⟩
theorem wi {tg it : Expr} : PI X tg it (WI X tg it) := ⟨fun pins s σ H Q I h => let ⟨_, ht, h⟩ := h; ht.run pins s σ H Q I h⟩
theorem wg {tg : Expr} : PG X tg (WG X tg) := ⟨fun pins s σ H v u Q I r h => let ⟨_, ht, h⟩ := h; ht.run pins s σ H v u Q I r h⟩
theorem wgs {tgs : List Expr} : PGs X tgs (WGs X tgs) := ⟨fun pins s σ H v u Q I r h => let ⟨_, ht, h⟩ := h; ht.run pins s σ H v u Q I r h⟩
theorem wts {es : List Expr} : PTs X es (WTs X es) := ⟨fun pins s σ H Q I h => let ⟨_, ht, h⟩ := h; ht.run pins s σ H Q I h⟩
theorem ws {st : Stmt} : PS X st (WS X st) := ⟨fun pins s σ H D I h => let ⟨_, ht, h⟩ := h; ht.run pins s σ H D I h⟩
theorem wss {st : List Stmt} : PSs X st (WSs X st) := ⟨fun pins s σ H D I h => let ⟨_, ht, h⟩ := h; ht.run pins s σ H D I h⟩
end
/-- by values -/
def WO (X : Cx) (f : Value → Value → Sem Value) : R2 := fun x y H Q => ∃ r, OpR X f r ∧ r x y H Q
theorem wo {X : Cx} {f : Value → Value → Sem Value} : OpR X f (WO X f) := fun pins s σ H x y v u Q I rx ry h => let ⟨_, ho, h⟩ := h; ho pins s σ H x y v u Q I rx ry h
def WU (X : Cx) (f : Value → Sem Value) : V → Hp → VK → Prop := fun x H Q => ∃ r, UnR X f r ∧ r x H Q
theorem wu {X : Cx} {f : Value → Sem Value} : UnR X f (WU X f) := fun pins s σ H x v Q I rx h => let ⟨_, ho, h⟩ := h; ho pins s σ H x v Q I rx h
def WC (X : Cx) (f : Value) : List V → Hp → VK → Prop := fun x H Q => ∃ r, CallR X f r ∧ r x H Q
theorem wc {X : Cx} {f : Value} : CallR X f (WC X f) := fun pins s σ H x v Q I rx h => let ⟨_, ho, h⟩ := h; ho pins s σ H x v Q I rx h
def WIx (X : Cx) : R2 := fun x y H Q => ∃ r, IxR X r ∧ r x y H Q
theorem wx {X : Cx} : IxR X (WIx X) := by
  intro va sl pins s σ H x y v u Q I rx ry h
  obtain ⟨_, ho, h⟩ := h
  exact ho va sl pins s σ H x y v u Q I rx ry h

/-! ### what is asked of the context -/
def bnames : List Str := ["sum", "zip", "len", "abs", "int", "range", "isinstance", "all", "any", "max", "min", "tuple", "list", "enumerate", "repr", "sorted", "str", "bool", "set", "dict", "reversed"]
class Cok (X : Cx) : Prop where
  calm : X.calm = true
  nd : X.N.Nodup
  no : ∀ x ∈ bnames, X.mg x = none
  un : X.A.units + 64 < cLine
  gd : X.A.guards = some []
  po : PassesOwn (model X.prog X.w) X.A X.env X.xe
instance {X : Cx} [c : Cok X] {s : Shared} {H : Hp} {scope : Scope} {cenv : Env} {fp : List Addr} : Cok (X.blk s H scope cenv fp) := ⟨c.calm, c.nd, c.no, c.un, c.gd, PassesOwn.never⟩

/-! ### side conditions, told by Bools -/
def visB (sc : Scope) (x : Str) : Bool := match sc.names.lookup x with
  | some .local => true
  | some .cell => true
  | some .free => true
  | _ => false
theorem vis_of {sc : Scope} {x : Str} (h : visB sc x = true) : Vis sc x := by
  unfold visB at h
  split at h
  · exact .inl (by assumption)
  · exact .inr (.inl (by assumption))
  · exact .inr (.inr (by assumption))
  · cases h
def locB (sc : Scope) (x : Str) : Bool := match sc.names.lookup x with
  | some .local => true
  | some .cell => true
  | _ => false
theorem loc_of {sc : Scope} {x : Str} (h : locB sc x = true) : Loc sc x := by
  unfold locB at h
  split at h
  · exact .inl (by assumption)
  · exact .inr (by assumption)
  · cases h
def fnB (X : Cx) (x : Str) : Bool := X.fn x || (match X.env.scope.names.lookup x with | some .local => true | _ => false)
theorem fn_B {X : Cx} {x : Str} (h : fnB X x = true) : X.fn x = true ∨ X.env.scope.names.lookup x = some .local := by
  unfold fnB at h
  rcases (Bool.or_eq_true _ _).mp h with h | h
  · exact .inl h
  · split at h
    · exact .inr (by assumption)
    · cases h
theorem gl_of {X : Cx} {x : Str} (h : X.env.kindOf x = some .globalImplicit) : Gl X x := h
theorem ne_of_B {x y : Str} (h : decide (x = y) = false) : x ≠ y := of_decide_eq_false h
theorem mem_of_B {x : Str} {l : List Str} (h : decide (x ∈ l) = true) : x ∈ l := of_decide_eq_true h
/-! ### judgements -/
/-- what is wanted where an exception leaves: its class, its fields, the slots -/
abbrev ZT := Value → List (Str × D) → List SD → Prop
abbrev Z0 : ZT := fun _ _ _ => False
def XD (K : PySem.W.Frag) (Hf : Hp) (d : Option Addr) (fs : List (Str × D)) : Prop := match d with
  | none => fs = []
  | some a => ∃ vs, Hf a = some (.xd vs) ∧ vs.map (·.1) = fs.map (·.1) ∧ DsL K Hf (vs.map (·.2)) (fs.map (·.2))
/-- what is asked of the whole: the tables of code objects, what is wanted where an exception leaves -/
structure ZZ where
  T : List Addr
  z : ZT
abbrev ZZ.o (Z : ZZ) : ZZ := ⟨Z.T, Z0⟩
def TabsA (T : List Addr) (H : Hp) : Prop := ∀ P ∈ T, TabA I H P
def XOk (X : Cx) (Z : ZZ) (o0 : List Addr) (Hf H : Hp) : Prop :=
  TabsA Z.T H ∧ ∃ W : L2.WX, Takes X W ∧ ∀ c fs A' d σ' Hf' H', Z.z c fs A' → Rel X.K Hf' H' σ' A' → XD X.K Hf' d fs → Fr o0 Hf H (owns A') Hf' H' → W c d σ' H'
theorem XOk.step {X : Cx} {Z : ZZ} {o0 o1 : List Addr} {Hf H Hf1 H1 : Hp} (x : XOk X Z o0 Hf H) (f : Fr o0 Hf H o1 Hf1 H1) : XOk X Z o1 Hf1 H1 :=
  let ⟨T, W, t, k⟩ := x; ⟨fun p hp => f.ts _ (T p hp), W, t, fun c fs A' d σ' Hf' H' z r xd f2 => k c fs A' d σ' Hf' H' z r xd (f.trans f2)⟩
theorem XOk.zero {X X' : Cx} {Z : ZZ} {o0 o1 : List Addr} {Hf H Hf' : Hp} (x : XOk X Z o0 Hf H) : XOk X' Z.o o1 Hf' H := ⟨x.1, _, L2.takes0, fun _ _ _ _ _ _ _ z => z.elim⟩
def EX (X : Cx) (Z : ZZ) (A : List SD) (e : Expr) (Q : SD → List SD → Prop) : Prop :=
  ∀ Hf H σ, Rel X.K Hf H σ A → XOk X Z (owns A) Hf H → ∀ R : VK, (∀ r A' v Hf' H', Q r A' → Rel X.K Hf' H' (some v :: σ) (r :: A') → Fr (owns A) Hf H (owns (r :: A')) Hf' H' → R v H') → WE X e σ H R
def ED (X : Cx) (Z : ZZ) (A : List SD) (e : Expr) (Q : D → List SD → Prop) : Prop :=
  ∀ Hf H σ, Rel X.K Hf H σ A → XOk X Z (owns A) Hf H → ∀ R : VK, (∀ d A' v Hf' H', Q d A' → Rel X.K Hf' H' σ A' → Ds X.K Hf' v d → Fr (owns A) Hf H (owns A') Hf' H' → R v H') → WE X e σ H R
def TX (X : Cx) (Z : ZZ) (A : List SD) (e : Expr) (Q : Bool → List SD → Prop) : Prop :=
  ∀ Hf H σ, Rel X.K Hf H σ A → XOk X Z (owns A) Hf H → ∀ R : Bool → Hp → Prop, (∀ b A' Hf' H', Q b A' → Rel X.K Hf' H' σ A' → Fr (owns A) Hf H (owns A') Hf' H' → R b H') → WT X e σ H R
def TW (X : Cx) (Z : ZZ) (A : List SD) (e : Expr) (Q : Bool → List SD → Prop) : Prop :=
  ∀ Hf H σ, Rel X.K Hf H σ A → XOk X Z (owns A) Hf H → ∀ R : Bool → Hp → Prop, (∀ b A' Hf' H', Q b A' → Rel X.K Hf' H' σ A' → Fr (owns A) Hf H (owns A') Hf' H' → R b H') → WW X e σ H R
def TXs (X : Cx) (Z : ZZ) (A : List SD) (es : List Expr) (Q : Bool → List SD → Prop) : Prop :=
  ∀ Hf H σ, Rel X.K Hf H σ A → XOk X Z (owns A) Hf H → ∀ R : Bool → Hp → Prop, (∀ b A' Hf' H', Q b A' → Rel X.K Hf' H' σ A' → Fr (owns A) Hf H (owns A') Hf' H' → R b H') → WTs X es σ H R
def EA (X : Cx) (Z : ZZ) (A : List SD) (es : List Expr) (Q : List D → List SD → Prop) : Prop :=
  ∀ Hf H σ, Rel X.K Hf H σ A → XOk X Z (owns A) Hf H → ∀ R : List V → Hp → Prop, (∀ ds A' vs Hf' H', Q ds A' → Rel X.K Hf' H' σ A' → DsL X.K Hf' vs ds → Fr (owns A) Hf H (owns A') Hf' H' → R vs H') → WA X es σ H R
/-- a list (true) or a tuple, seen without taking it -/
def SeqV (K : PySem.W.Frag) (Hf H : Hp) (v : V) (l : Bool) (ds : List D) : Prop := ∃ a xs, v = .ref a ∧ (if l = true then SqL K H a xs else SqT K Hf a xs) ∧ DsL K Hf xs ds
def ES (X : Cx) (Z : ZZ) (A : List SD) (e : Expr) (Q : Bool → List D → List SD → Prop) : Prop :=
  ∀ Hf H σ, Rel X.K Hf H σ A → XOk X Z (owns A) Hf H → ∀ R : VK, (∀ l ds A' v Hf' H', Q l ds A' → Rel X.K Hf' H' σ A' → SeqV X.K Hf' H' v l ds → Fr (owns A) Hf H (owns A') Hf' H' → R v H') → WE X e σ H R
/-- what comes by values: an answer r, the slots untouched -/
def Ans (K : PySem.W.Frag) (Hf H : Hp) (σ : List (Option V)) (A : List SD) (Q : SD → List SD → Prop) (W : VK → Prop) : Prop :=
  ∀ R : VK, (∀ r A' v Hf' H', Q r A' → Rel K Hf' H' (some v :: σ) (r :: A') → Fr (owns A) Hf H (owns (r :: A')) Hf' H' → R v H') → W R
def OS (X : Cx) (A : List SD) (f : Value → Value → Sem Value) (d e : D) (Q : SD → List SD → Prop) : Prop :=
  ∀ Hf H σ, Rel X.K Hf H σ A → ∀ v u, Ds X.K Hf v d → Ds X.K Hf u e → Ans X.K Hf H σ A Q (WO X f v u H)
def US (X : Cx) (A : List SD) (f : Value → Sem Value) (d : D) (Q : SD → List SD → Prop) : Prop :=
  ∀ Hf H σ, Rel X.K Hf H σ A → ∀ v, Ds X.K Hf v d → Ans X.K Hf H σ A Q (WU X f v H)
def CS (X : Cx) (A : List SD) (f : Value) (ds : List D) (Q : SD → List SD → Prop) : Prop :=
  ∀ Hf H σ, Rel X.K Hf H σ A → ∀ vs, DsL X.K Hf vs ds → Ans X.K Hf H σ A Q (WC X f vs H)
/-- of one sequence -/
def CQ (X : Cx) (A : List SD) (f : Value) (l : Bool) (ds : List D) (Q : SD → List SD → Prop) : Prop :=
  ∀ Hf H σ, Rel X.K Hf H σ A → ∀ v, SeqV X.K Hf H v l ds → Ans X.K Hf H σ A Q (WC X f [v] H)
def XS (X : Cx) (A : List SD) (d e : D) (Q : SD → List SD → Prop) : Prop :=
  ∀ Hf H σ, Rel X.K Hf H σ A → ∀ v u, Ds X.K Hf v d → Ds X.K Hf u e → Ans X.K Hf H σ A Q (WIx X v u H)

section
variable {K : PySem.W.Frag} {Hf H : Hp} {σ : List (Option V)} {A : List SD} {Q : SD → List SD → Prop} {R : VK}
/-- ends of readings: known data; a new tuple; a new list -/
theorem fin_d {v : V} {d : D} (rel : Rel K Hf H σ A) (q : Q (.dat d) A) (h : Ds K Hf v d) (k : ∀ r A' v Hf' H', Q r A' → Rel K Hf' H' (some v :: σ) (r :: A') → Fr (owns A) Hf H (owns (r :: A')) Hf' H' → R v H') : R v H :=
  k _ _ _ _ _ q (rel.consD h) (Fr.refl _ _ _)
theorem fin_t {p : Addr} {xs : List V} {ds : List D} (rel : Rel K Hf H σ A) (hp : H p = none) (q : Q (.dat (.tup ds)) A) (h : DsL K Hf xs ds)
    (k : ∀ r A' v Hf' H', Q r A' → Rel K Hf' H' (some v :: σ) (r :: A') → Fr (owns A) Hf H (owns (r :: A')) Hf' H' → R v H') : R (.ref p) (upd H p (.tup xs)) := by
  obtain ⟨r1, f1⟩ := rel.newF (o := .tup xs) hp
  exact k _ _ _ _ _ q (r1.consD (.tup (.inl (.inl upd_same)) (h.mono f1.ef))) f1
theorem fin_l {p : Addr} {xs : List V} {ds : List D} (rel : Rel K Hf H σ A) (hp : H p = none) (q : ∀ p, Q (.own p (.lst ds)) A) (h : DsL K Hf xs ds)
    (k : ∀ r A' v Hf' H', Q r A' → Rel K Hf' H' (some v :: σ) (r :: A') → Fr (owns A) Hf H (owns (r :: A')) Hf' H' → R v H') : R (.ref p) (upd H p (.lst xs)) := by
  obtain ⟨r1, f1, n1, n2⟩ := rel.newO (o := .lst xs) hp
  exact k _ _ _ _ _ (q p) (r1.cons ⟨rfl, n1, xs, upd_same, h⟩ fun a o e => by cases e; exact n2) f1
end
section
variable {X : Cx} {Z : ZZ} {A : List SD} {e a b : Expr} {es : List Expr} {pos : Pos}
theorem ed_of {Q : D → List SD → Prop} (h : EX X Z A e fun r A' => ∃ d, r.frz = some d ∧ Q d A') : ED X Z A e Q := fun Hf H σ rel xo R k =>
  h Hf H σ rel xo R fun r A' v Hf' H' ⟨d, hd, q⟩ r1 f1 => by
    obtain ⟨Hf2, r2, s2, f2⟩ := r1.frz hd
    exact k d A' v Hf2 H' q r2 s2 (f1.trans f2)
theorem ex_of {Q : SD → List SD → Prop} (h : ED X Z A e fun d A' => Q (.dat d) A') : EX X Z A e Q := fun Hf H σ rel xo R k =>
  h Hf H σ rel xo R fun d A' v Hf' H' q r1 s1 f1 => k _ _ _ _ _ q (r1.consD s1) f1
theorem ex_mono {Q Q' : SD → List SD → Prop} (h : EX X Z A e Q) (w : ∀ r A', Q r A' → Q' r A') : EX X Z A e Q' := fun Hf H σ rel xo R k => h Hf H σ rel xo R fun r A' v Hf' H' q => k r A' v Hf' H' (w _ _ q)
theorem ed_mono {Q Q' : D → List SD → Prop} (h : ED X Z A e Q) (w : ∀ r A', Q r A' → Q' r A') : ED X Z A e Q' := fun Hf H σ rel xo R k => h Hf H σ rel xo R fun r A' v Hf' H' q => k r A' v Hf' H' (w _ _ q)
theorem tx_mono {Q Q' : Bool → List SD → Prop} (h : TX X Z A e Q) (w : ∀ r A', Q r A' → Q' r A') : TX X Z A e Q' := fun Hf H σ rel xo R k => h Hf H σ rel xo R fun r A' Hf' H' q => k r A' Hf' H' (w _ _ q)
/-- what evaluates by values, from data -/
theorem go_ans {Q : SD → List SD → Prop} {A1 : List SD} {Hf H Hf1 H1 : Hp} {σ : List (Option V)} {W : VK → Prop} (f1 : Fr (owns A) Hf H (owns A1) Hf1 H1) (h : Ans X.K Hf1 H1 σ A1 Q W) {R : VK}
    (k : ∀ r A' v Hf' H', Q r A' → Rel X.K Hf' H' (some v :: σ) (r :: A') → Fr (owns A) Hf H (owns (r :: A')) Hf' H' → R v H') : W R :=
  h R fun r A' v Hf' H' q r2 f2 => k r A' v Hf' H' q r2 (f1.trans f2)

/-! ### names, constants -/
theorem Rel.slot {Hf H : Hp} {σ : List (Option V)} {i : Nat} {d : D} (r : Rel X.K Hf H σ A) (h : A[i]? = some (.dat d)) : ∃ v, σ[i]? = some (some v) ∧ Ds X.K Hf v d := by
  obtain ⟨ov, h1, v, h2, h3⟩ := Paired.at r.al h
  subst h2
  exact ⟨v, h1, h3⟩
theorem ed_n (i : Nat) {x : Str} {d : D} {Q : D → List SD → Prop} (hA : A[i]? = some (.dat d)) (q : Q d A) (hN : X.N[i]? = some x := by kernel_rfl) (hv : Vis X.env.scope x := by exact vis_of (by kernel_rfl))
    (hd : (x == ("__debug__" : Str)) = false := by kernel_rfl) (hcd : (x == ("__classdict__" : Str)) = false := by kernel_rfl) : ED X Z A (.Name x pos) Q := fun Hf H σ rel xo R k => by
  obtain ⟨v, h1, h2⟩ := rel.slot hA
  exact ⟨_, pe_var hN hv hd hcd, v, h1, k _ _ _ _ _ q rel h2 (Fr.refl _ _ _)⟩
theorem ed_int {i : Int} {j} {Q : D → List SD → Prop} (q : Q (.int i) A) : ED X Z A (.Constant (.int i) j pos) Q := fun Hf H σ rel xo R k => ⟨_, pe_int, k _ _ _ _ _ q rel (.int i) (Fr.refl _ _ _)⟩
theorem ed_bl {i : Bool} {j} {Q : D → List SD → Prop} (q : Q (.bl i) A) : ED X Z A (.Constant (.bool i) j pos) Q := fun Hf H σ rel xo R k => ⟨_, pe_bl, k _ _ _ _ _ q rel (.bl i) (Fr.refl _ _ _)⟩
theorem ed_non {j} {Q : D → List SD → Prop} (q : Q .non A) : ED X Z A (.Constant .none j pos) Q := fun Hf H σ rel xo R k => ⟨_, pe_non, k _ _ _ _ _ q rel .non (Fr.refl _ _ _)⟩
theorem ed_str {i : Str} {j} {Q : D → List SD → Prop} (q : Q (.str i) A) : ED X Z A (.Constant (.str i) j pos) Q := fun Hf H σ rel xo R k => ⟨_, pe_str, k _ _ _ _ _ q rel (.str i) (Fr.refl _ _ _)⟩
/-- a built-in class as a value -/
theorem ed_cls (n : String) {x : Str} [c : Cok X] {Q : D → List SD → Prop} (q : Q (.ty n) A) (hg : Gl X x := by exact gl_of (by kernel_rfl)) (hb : x ∈ bnames := by exact mem_of_B (by kernel_rfl)) (hv : bootBuiltins x = some (.type n) := by kernel_rfl) (hn : x ≠ "__name__" := by exact ne_of_B (by kernel_rfl)) (hd : (x == ("__debug__" : Str)) = false := by kernel_rfl) : ED X Z A (.Name x pos) Q := fun Hf H σ rel xo R k =>
  ⟨_, pe_bltn hg (c.no x hb) hv (v := .ty n) rfl hn hd, k _ _ _ _ _ q rel (.ty n) (Fr.refl _ _ _)⟩
theorem Rel.setA {K : PySem.W.Frag} {Hf H : Hp} {σ : List (Option V)} {i : Nat} {ov : Option V} {s : SD} (r : Rel K Hf H σ A) (h : SdOk K Hf H ov s) (n : ∀ p o, s = .own p o → p ∉ owns A) : Rel K Hf H (σ.set i ov) (A.set i s) ∧ ∀ p ∈ owns (A.set i s), p ∈ owns (s :: A) := by
  have sub : ∀ (l : List SD) (i : Nat), (∀ p ∈ owns (l.set i s), p ∈ owns (s :: l)) ∧ ((owns l).Nodup → (∀ p o, s = .own p o → p ∉ owns l) → (owns (l.set i s)).Nodup) := by
    intro l
    induction l with
    | nil => intro i; exact ⟨fun p h => by simp [owns] at h, fun h _ => h⟩
    | cons y l ih =>
      intro i
      cases i with
      | zero =>
        refine ⟨fun p h => ?_, fun h hn => ?_⟩
        · have h : p ∈ owns (s :: l) := h
          cases s with
          | any => exact owns_tail y l _ h
          | dat d => exact owns_tail y l _ h
          | own q o =>
            rcases List.mem_cons.mp h with rfl | h
            · exact List.mem_cons_self
            · exact List.mem_cons_of_mem _ (owns_tail _ _ _ h)
        · show (owns (s :: l)).Nodup
          have h2 : (owns l).Nodup := by
            cases y with
            | any => exact h
            | dat d => exact h
            | own q o => exact (List.nodup_cons.mp h).2
          cases s with
          | any => exact h2
          | dat d => exact h2
          | own q o => exact List.nodup_cons.mpr ⟨fun z => hn q o rfl (owns_tail _ _ _ z), h2⟩
      | succ i =>
        obtain ⟨ih1, ih2⟩ := ih i
        refine ⟨fun p h => ?_, fun h hn => ?_⟩
        · have h : p ∈ owns (y :: l.set i s) := h
          have go : p ∈ owns (l.set i s) → p ∈ owns (s :: y :: l) := fun z => by
            have z := ih1 p z
            cases s with
            | any => exact owns_tail y l _ z
            | dat d => exact owns_tail y l _ z
            | own q o =>
              rcases List.mem_cons.mp z with rfl | z
              · exact List.mem_cons_self
              · exact List.mem_cons_of_mem _ (owns_tail _ _ _ z)
          cases y with
          | any => exact go h
          | dat d => exact go h
          | own q o =>
            rcases List.mem_cons.mp h with rfl | h
            · exact owns_tail s _ _ List.mem_cons_self
            · exact go h
        · show (owns (y :: l.set i s)).Nodup
          cases y with
          | any => exact ih2 h hn
          | dat d => exact ih2 h hn
          | own q o =>
            obtain ⟨n1, n2⟩ := List.nodup_cons.mp h
            refine List.nodup_cons.mpr ⟨fun z => ?_, ih2 n2 fun p u e z => hn p u e (List.mem_cons_of_mem _ z)⟩
            have z := ih1 q z
            cases s with
            | any => exact n1 z
            | dat d => exact n1 z
            | own q' o' =>
              rcases List.mem_cons.mp z with e | z
              · exact hn q' o' rfl (by rw [← e]; exact List.mem_cons_self)
              · exact n1 z
  exact ⟨⟨r.sm, Paired.set2 h r.al i, (sub A i).2 r.nd n, r.nt⟩, (sub A i).1⟩
/-- an owned list's name, taken as data: frozen from here on -/
theorem Rel.freezeAt {K : PySem.W.Frag} {Hf H : Hp} {σ : List (Option V)} {i : Nat} {p : Addr} {o : OD} {d : D} (r : Rel K Hf H σ A) (hA : A[i]? = some (.own p o)) (hd : o.frz = some d) :
    ∃ Hf', σ[i]? = some (some (.ref p)) ∧ Rel K Hf' H σ (A.set i (.dat d)) ∧ Ds K Hf' (.ref p) d ∧ Fr (owns A) Hf H (owns (A.set i (.dat d))) Hf' H := by
  obtain ⟨ov, h1, h2, h3, h4⟩ := Paired.at r.al hA
  subst h2
  have hm : SD.own p o ∈ A := List.mem_of_getElem? hA
  have hp := mem_owns hm
  obtain ⟨u, hu⟩ := Option.ne_none_iff_exists'.mp (r.there hp)
  obtain ⟨e, e2⟩ := same_frz hu r.sm h3
  have hs : σ = σ.set i (some (.ref p)) := by
    apply List.ext_getElem?
    intro j
    by_cases hj : i = j
    · subst hj
      rw [List.getElem?_set_self (List.getElem?_eq_some_iff.mp h1).1, h1]
    · rw [List.getElem?_set_ne hj]
  have nd : ∀ (l : List SD) (j : Nat), (owns l).Nodup → l[j]? = some (.own p o) → p ∉ owns (l.set j (.dat d)) := by
    intro l
    induction l with
    | nil => intro j _ h; simp at h
    | cons y l ih =>
      intro j hn h
      cases j with
      | zero =>
        have h : y = .own p o := Option.some.inj h
        subst h
        exact (List.nodup_cons.mp hn).1
      | succ j =>
        have h : l[j]? = some (.own p o) := by simpa using h
        show p ∉ owns (y :: l.set j (.dat d))
        cases y with
        | any => exact ih j hn h
        | dat w => exact ih j hn h
        | own q w =>
          obtain ⟨n1, n2⟩ := List.nodup_cons.mp hn
          intro z
          rcases List.mem_cons.mp z with rfl | z
          · exact n1 (mem_owns (List.mem_of_getElem? h))
          · exact ih j n2 h z
  have hd' : Ds K (upd Hf p u) (.ref p) d := by
    cases o with
    | lst ds =>
      cases hd
      obtain ⟨xs, q1, q2⟩ := h4
      rw [hu] at q1; cases q1
      exact .lst upd_same (q2.mono e)
  obtain ⟨r1, r2⟩ := r.setA (i := i) (ov := some (V.ref p)) (s := .any) trivial fun _ _ z => by cases z
  have hq : ∀ q ∈ owns (A.set i (.dat d)), q ∈ owns A := by
    obtain ⟨_, z⟩ := r.setA (i := i) (ov := none) (s := .any) trivial fun _ _ z => by cases z
    have same : ∀ (l : List SD) (j : Nat), owns (l.set j (.dat d)) = owns (l.set j .any) := by
      intro l
      induction l with
      | nil => intro j; rfl
      | cons y l ih =>
        intro j
        cases j with
        | zero => rfl
        | succ j =>
          show owns (y :: l.set j (.dat d)) = owns (y :: l.set j .any)
          cases y with
          | any => exact ih j
          | dat w => exact ih j
          | own q w => show q :: _ = q :: _; rw [ih j]
    intro q hq
    rw [same] at hq
    exact z q hq
  have hn := nd A i r.nd hA
  have rel2 : Rel K (upd Hf p u) H σ (A.set i (.dat d)) := by
    refine ⟨e2, ?_, ?_, nt_upd r.nt ?_⟩
    rotate_right
    · obtain ⟨w, hw1, hw2⟩ := h4.ow
      rw [hu] at hw1; cases hw1
      exact hw2.noT
    · rw [hs]
      refine Paired.ofGet (by rw [List.length_set, List.length_set]; exact Paired.length r.al) fun j a b ha hb => ?_
      by_cases hj : i = j
      · subst hj
        rw [List.getElem?_set_self (List.getElem?_eq_some_iff.mp h1).1] at ha
        rw [List.getElem?_set_self (List.getElem?_eq_some_iff.mp hA).1] at hb
        cases ha; cases hb
        exact ⟨_, rfl, hd'⟩
      · rw [List.getElem?_set_ne hj] at ha
        have hb' := hb
        rw [List.getElem?_set_ne hj] at hb
        obtain ⟨a', ha', g⟩ := Paired.at r.al hb
        rw [ha] at ha'; cases ha'
        refine g.keep e fun q w z => ?_
        subst z
        have ne : q ≠ p := fun z => by
          subst z
          exact hn (mem_owns (List.mem_of_getElem? hb'))
        rw [upd_ne ne]
        exact ⟨g.2.1, rfl⟩
    · have := r1.nd
      have same : ∀ (l : List SD) (j : Nat), owns (l.set j (.dat d)) = owns (l.set j .any) := by
        intro l
        induction l with
        | nil => intro j; rfl
        | cons y l ih =>
          intro j
          cases j with
          | zero => rfl
          | succ j =>
            show owns (y :: l.set j (.dat d)) = owns (y :: l.set j .any)
            cases y with
            | any => exact ih j
            | dat w => exact ih j
            | own q w => show q :: _ = q :: _; rw [ih j]
      rw [same]; exact this
  refine ⟨upd Hf p u, h1, rel2, hd', ⟨e, fun a w h1 _ h2 h3 => ?_, fun _ _ h _ _ => h, fun q h => .inl (hq q h), fun _ _ h => ⟨_, h⟩, fun _ h => h⟩⟩
  rw [upd_ne (fun z => h3 (by rw [z]; exact hp))]; exact h2
theorem ed_nf (i : Nat) {x : Str} {p : Addr} {o : OD} {d : D} {Q : D → List SD → Prop} (hA : A[i]? = some (.own p o)) (hd : o.frz = some d) (q : Q d (A.set i (.dat d))) (hN : X.N[i]? = some x := by kernel_rfl) (hv : Vis X.env.scope x := by exact vis_of (by kernel_rfl))
    (hdb : (x == ("__debug__" : Str)) = false := by kernel_rfl) (hcd : (x == ("__classdict__" : Str)) = false := by kernel_rfl) : ED X Z A (.Name x pos) Q := fun Hf H σ rel xo R k => by
  obtain ⟨Hf', h1, h2, h3, h4⟩ := rel.freezeAt hA hd
  exact ⟨_, pe_var hN hv hdb hcd, _, h1, k _ _ _ _ _ q h2 h3 h4⟩
end
end Y

namespace Y
open PySem L2
variable [I : NmC]

section
variable {K : PySem.W.Frag} {Hf H : Hp} {σ : List (Option V)} {A : List SD}
theorem head_d {v : V} {d : D} (r : Rel K Hf H (some v :: σ) (.dat d :: A)) : Ds K Hf v d := by
  obtain ⟨w, h1, h2⟩ := r.head
  cases h1
  exact h2
theorem ds_bl {v : V} {b : Bool} (h : Ds K Hf v (.bl b)) : v = .bl b := by cases h; rfl
theorem ds_int {v : V} {i : Int} (h : Ds K Hf v (.int i)) : v = .int i := by cases h; rfl
theorem ds_str {v : V} {i : Str} (h : Ds K Hf v (.str i)) : v = .str i := by cases h; rfl
theorem ds_non {v : V} (h : Ds K Hf v .non) : v = .non := by cases h; rfl
theorem ds_ty {v : V} {n : String} (h : Ds K Hf v (.ty n)) : v = .ty n := by cases h; rfl
end

section
variable {X : Cx} {Z : ZZ} {A : List SD} {e a b : Expr} {es : List Expr} {pos : Pos} {Q : SD → List SD → Prop}
/-! ### arguments, displays -/
theorem ea_nil {Q : List D → List SD → Prop} (q : Q [] A) : EA X Z A [] Q := fun Hf H σ rel xo R k => ⟨_, pa_nil, k _ _ _ _ _ q rel .nil (Fr.refl _ _ _)⟩
theorem ea_cons {Q : List D → List SD → Prop} (h : ED X Z A e fun d A1 => EA X Z A1 es fun ds A2 => Q (d :: ds) A2) (hs : starEach (e :: es) X.env = (false, eval e X.env) :: starEach es X.env := by kernel_rfl) : EA X Z A (e :: es) Q := fun Hf H σ rel xo R k =>
  ⟨_, pa_cons we wa hs, h Hf H σ rel xo _ fun d A1 v Hf1 H1 h1 r1 s1 f1 => h1 Hf1 H1 σ r1 (xo.step f1) _ fun ds A2 vs Hf2 H2 q2 r2 s2 f2 => k _ _ _ _ _ q2 r2 (.cons (s1.mono f2.ef) s2) (f1.trans f2)⟩
theorem ex_tup {x1} (h : EA X Z A es fun ds A1 => ds.length ≤ 1000000 ∧ Q (.dat (.tup ds)) A1) : EX X Z A (.Tuple es x1 pos) Q := fun Hf H σ rel xo R k =>
  ⟨_, pe_tup wa, h Hf H σ rel xo _ fun ds A1 vs Hf1 H1 ⟨hz, q⟩ r1 s1 f1 => ⟨by rw [s1.length]; exact Nat.le_trans hz (by decide), fun p hp => fin_t r1 hp q s1 fun r A' v Hf' H' q r2 f2 => k r A' v Hf' H' q r2 (f1.trans f2)⟩⟩
theorem ex_lst (h : EA X Z A es fun ds A1 => ds.length ≤ 1000000 ∧ ∀ p, Q (.own p (.lst ds)) A1) : EX X Z A (.List es pos) Q := fun Hf H σ rel xo R k =>
  ⟨_, pe_lst wa, h Hf H σ rel xo _ fun ds A1 vs Hf1 H1 ⟨hz, q⟩ r1 s1 f1 => ⟨by rw [s1.length]; exact Nat.le_trans hz (by decide), fun p hp => fin_l r1 hp q s1 fun r A' v Hf' H' q r2 f2 => k r A' v Hf' H' q r2 (f1.trans f2)⟩⟩

/-! ### operators -/
theorem ex_bin {op : Operator} (h : ED X Z A a fun d A1 => ED X Z A1 b fun e A2 => OS X A2 (binaryOp op) d e Q) : EX X Z A (.BinOp a op b pos) Q := fun Hf H σ rel xo R k =>
  ⟨_, pe_op wo we we, h Hf H σ rel xo _ fun d A1 v Hf1 H1 h1 r1 s1 f1 => h1 Hf1 H1 σ r1 (xo.step f1) _ fun e A2 u Hf2 H2 h2 r2 s2 f2 => go_ans (f1.trans f2) (h2 Hf2 H2 σ r2 v u (s1.mono f2.ef) s2) k⟩
theorem ex_un {op : UnaryOp} (h : ED X Z A a fun d A1 => US X A1 (unaryOp op) d Q) : EX X Z A (.UnaryOp op a pos) Q := fun Hf H σ rel xo R k =>
  ⟨_, pe_un wu we, h Hf H σ rel xo _ fun d A1 v Hf1 H1 h1 r1 s1 f1 => go_ans f1 (h1 Hf1 H1 σ r1 v s1) k⟩
theorem ex_cmp {op : CmpOp} (h : ED X Z A a fun d A1 => ED X Z A1 b fun e A2 => OS X A2 (compareOp op) d e Q) (hm : behindInMarks op b = false := by kernel_rfl) : EX X Z A (.Compare a [op] [b] pos) Q := fun Hf H σ rel xo R k =>
  ⟨_, pe_cmpR wo we we hm, h Hf H σ rel xo _ fun d A1 v Hf1 H1 h1 r1 s1 f1 => h1 Hf1 H1 σ r1 (xo.step f1) _ fun e A2 u Hf2 H2 h2 r2 s2 f2 => go_ans (f1.trans f2) (h2 Hf2 H2 σ r2 v u (s1.mono f2.ef) s2) k⟩
theorem tx_cmp {op : CmpOp} {Q : Bool → List SD → Prop} (h : ED X Z A a fun d A1 => ED X Z A1 b fun e A2 => OS X A2 (compareOp op) d e fun r A3 => ∃ k, r = .dat (.bl k) ∧ Q k A3) (hm : behindInMarks op b = false := by kernel_rfl) : TX X Z A (.Compare a [op] [b] pos) Q := fun Hf H σ rel xo R k =>
  ⟨_, pt_cmpR wo we we hm, h Hf H σ rel xo _ fun d A1 v Hf1 H1 h1 r1 s1 f1 => h1 Hf1 H1 σ r1 (xo.step f1) _ fun e A2 u Hf2 H2 h2 r2 s2 f2 => go_ans (f1.trans f2) (h2 Hf2 H2 σ r2 v u (s1.mono f2.ef) s2) fun r A' v Hf' H' ⟨c, e, q⟩ r3 f3 => by
    subst e
    exact ⟨c, ds_bl (head_d r3), k _ _ _ _ q r3.tail (f3.less (owns_tail _ _))⟩⟩
theorem ex_chain {op op' : CmpOp} {c : Expr} (h : ED X Z A a fun d A1 => ED X Z A1 b fun e A2 => OS X A2 (compareOp op) d e fun r A3 => ∃ k, r = .dat (.bl k) ∧ (k = true → ED X Z A3 c fun g A4 => OS X A4 (compareOp op') e g Q) ∧ (k = false → Q (.dat (.bl false)) A3))
    (hm : lastMarks [op, op'] [b, c] = false := by kernel_rfl) : EX X Z A (.Compare a [op, op'] [b, c] pos) Q := fun Hf H σ rel xo R k =>
  ⟨_, pe_chain wo wo we we we hm, h Hf H σ rel xo _ fun d A1 v Hf1 H1 h1 r1 s1 f1 => h1 Hf1 H1 σ r1 (xo.step f1) _ fun e A2 u Hf2 H2 h2 r2 s2 f2 => h2 Hf2 H2 σ r2 v u (s1.mono f2.ef) s2 _ fun r A3 w Hf3 H3 ⟨c, ec, q1, q2⟩ r3 f3 => by
    subst ec
    have f := (f1.trans f2).trans (f3.less (owns_tail _ _))
    refine ⟨c, ds_bl (head_d r3), ?_⟩
    cases c with
    | false => exact iteF (k _ _ _ _ _ (q2 rfl) (r3.tail.consD (.bl false)) f)
    | true => exact iteT (q1 rfl Hf3 H3 σ r3.tail (xo.step f) _ fun g A4 z Hf4 H4 h4 r4 s4 f4 => go_ans (f.trans f4) (h4 Hf4 H4 σ r4 u z ((s2.mono f3.ef).mono f4.ef) s4) k)⟩
theorem tx_chain {op op' : CmpOp} {c : Expr} {Q : Bool → List SD → Prop} (h : EX X Z A (.Compare a [op, op'] [b, c] pos) fun r A3 => ∃ k, r = .dat (.bl k) ∧ Q k A3) (he : ∀ whole, isTrue (.Compare a [op, op'] [b, c] pos) X.env whole = (do let v ← whole; standAt pos; holding [v] (truthy v)) := by intro _; kernel_rfl) :
    TX X Z A (.Compare a [op, op'] [b, c] pos) Q := fun Hf H σ rel xo R k =>
  ⟨_, pt_val we he, h Hf H σ rel xo _ fun r A' v Hf' H' ⟨c, e, q⟩ r3 f3 => by
    subst e
    exact ⟨c, ds_bl (head_d r3), k _ _ _ _ q r3.tail (f3.less (owns_tail _ _))⟩⟩
theorem tx_val {Q : Bool → List SD → Prop} (h : EX X Z A e fun r A3 => ∃ k, r = .dat (.bl k) ∧ Q k A3) (he : ∀ whole, isTrue e X.env whole = (do let v ← whole; standAt e.pos; holding [v] (truthy v)) := by intro _; kernel_rfl) :
    TX X Z A e Q := fun Hf H σ rel xo R k =>
  ⟨_, pt_val we he, h Hf H σ rel xo _ fun r A' v Hf' H' ⟨c, e, q⟩ r3 f3 => by
    subst e
    exact ⟨c, ds_bl (head_d r3), k _ _ _ _ q r3.tail (f3.less (owns_tail _ _))⟩⟩
/-- the truth of a thing -/
inductive TruD : D → Bool → Prop
  | non : TruD .non false
  | bl (b : Bool) : TruD (.bl b) b
  | int (i : Int) : TruD (.int i) (i != 0)
  | str (x : Str) : x.length ≤ sizeLine → TruD (.str x) ((x.length : Int) != 0)
  | lst (ds : List D) : TruD (.lst ds) (!ds.isEmpty)
  | rls (ds : List D) : TruD (.rls ds) (!ds.isEmpty)
  | tup (ds : List D) : TruD (.tup ds) (!ds.isEmpty)
theorem dsl_empty {K : PySem.W.Frag} {Hf : Hp} {xs : List V} {ds : List D} (h : DsL K Hf xs ds) : (!xs.isEmpty) = !ds.isEmpty := by cases h <;> rfl
theorem TruD.ok {Hf H : Hp} {d : D} {k : Bool} {v : V} (t : TruD d k) (sm : Same Hf H) (h : Ds X.K Hf v d) : TruV X.K v H k := by
  cases t with
  | non => cases h; rfl
  | bl b => cases h; rfl
  | int i => cases h; rfl
  | str x hz => cases h; exact ⟨hz, rfl⟩
  | lst ds => cases h with
    | lst h1 h2 => exact .inl ⟨_, .inl (.inl (sm _ _ h1)), (dsl_empty h2).symm⟩
  | rls ds => cases h with
    | rls h1 h2 => exact .inl ⟨_, sm.seq h1, (dsl_empty h2).symm⟩
  | tup ds => cases h with
    | tup h1 h2 => exact .inr (.inl ⟨_, seqT sm h1, (dsl_empty h2).symm⟩)
theorem tx_tru {Q : Bool → List SD → Prop} (h : ED X Z A e fun d A3 => ∃ k, TruD d k ∧ Q k A3) (he : ∀ whole, isTrue e X.env whole = (do let v ← whole; standAt e.pos; holding [v] (truthy v)) := by intro _; kernel_rfl) :
    TX X Z A e Q := fun Hf H σ rel xo R k =>
  ⟨_, pt_truth we he, h Hf H σ rel xo _ fun d A' v Hf' H' ⟨c, e, q⟩ r3 s3 f3 => ⟨c, e.ok r3.sm s3, k _ _ _ _ q r3 f3⟩⟩
theorem tx_not {Q : Bool → List SD → Prop} (h : TX X Z A a fun k A3 => Q (!k) A3) : TX X Z A (.UnaryOp .Not a pos) Q := fun Hf H σ rel xo R k => ⟨_, pt_not wt, h Hf H σ rel xo _ fun b A' Hf' H' q r f => k _ _ _ _ q r f⟩
theorem tx_w {Q : Bool → List SD → Prop} (h : TW X Z A e Q) : TX X Z A e Q := fun Hf H σ rel xo R k => ⟨_, ww.pt, h Hf H σ rel xo _ k⟩
theorem tw_and1 {Q : Bool → List SD → Prop} (h : TX X Z A a Q) : TW X Z A (.BoolOp .And [a] pos) Q := fun Hf H σ rel xo R k => ⟨_, pw_and1 wt, h Hf H σ rel xo _ k⟩
theorem tw_or1 {Q : Bool → List SD → Prop} (h : TX X Z A a Q) : TW X Z A (.BoolOp .Or [a] pos) Q := fun Hf H σ rel xo R k => ⟨_, pw_or1 wt, h Hf H σ rel xo _ k⟩
theorem tw_and {rest : List Expr} {Q : Bool → List SD → Prop} (h : TX X Z A a fun k A1 => (k = true → TW X Z A1 (.BoolOp .And (b :: rest) pos) Q) ∧ (k = false → Q false A1)) : TW X Z A (.BoolOp .And (a :: b :: rest) pos) Q := fun Hf H σ rel xo R k =>
  ⟨_, pw_and wt ww, h Hf H σ rel xo _ fun c A1 Hf1 H1 ⟨q1, q2⟩ r1 f1 => by
    cases c with
    | false => exact iteF (k _ _ _ _ (q2 rfl) r1 f1)
    | true => exact iteT (q1 rfl Hf1 H1 σ r1 (xo.step f1) _ fun c A' Hf' H' q r f => k _ _ _ _ q r (f1.trans f))⟩
theorem tw_or {rest : List Expr} {Q : Bool → List SD → Prop} (h : TX X Z A a fun k A1 => (k = false → TW X Z A1 (.BoolOp .Or (b :: rest) pos) Q) ∧ (k = true → Q true A1)) : TW X Z A (.BoolOp .Or (a :: b :: rest) pos) Q := fun Hf H σ rel xo R k =>
  ⟨_, pw_or wt ww, h Hf H σ rel xo _ fun c A1 Hf1 H1 ⟨q1, q2⟩ r1 f1 => by
    cases c with
    | true => exact iteT (k _ _ _ _ (q2 rfl) r1 f1)
    | false => exact iteF (q1 rfl Hf1 H1 σ r1 (xo.step f1) _ fun c A' Hf' H' q r f => k _ _ _ _ q r (f1.trans f))⟩
/-- and, or as values: all but the last True or False -/
theorem ex_one {op} (h : EX X Z A a Q) : EX X Z A (.BoolOp op [a] pos) Q := fun Hf H σ rel xo R k => ⟨_, pe_one we, h Hf H σ rel xo _ k⟩
theorem ex_and {rest : List Expr} (h : ED X Z A a fun d A1 => ∃ k, d = .bl k ∧ (k = true → EX X Z A1 (.BoolOp .And (b :: rest) pos) Q) ∧ (k = false → Q (.dat (.bl false)) A1)) : EX X Z A (.BoolOp .And (a :: b :: rest) pos) Q := fun Hf H σ rel xo R k =>
  ⟨_, pe_and we we, h Hf H σ rel xo _ fun d A1 v Hf1 H1 ⟨c, e, q1, q2⟩ r1 s1 f1 => by
    subst e
    refine ⟨c, ds_bl s1, ?_⟩
    cases c with
    | false => exact iteF (k _ _ _ _ _ (q2 rfl) (r1.consD (.bl false)) f1)
    | true => exact iteT (q1 rfl Hf1 H1 σ r1 (xo.step f1) _ fun r A' v Hf' H' q r f => k _ _ _ _ _ q r (f1.trans f))⟩
theorem ex_or {rest : List Expr} (h : ED X Z A a fun d A1 => ∃ k, d = .bl k ∧ (k = false → EX X Z A1 (.BoolOp .Or (b :: rest) pos) Q) ∧ (k = true → Q (.dat (.bl true)) A1)) : EX X Z A (.BoolOp .Or (a :: b :: rest) pos) Q := fun Hf H σ rel xo R k =>
  ⟨_, pe_or we we, h Hf H σ rel xo _ fun d A1 v Hf1 H1 ⟨c, e, q1, q2⟩ r1 s1 f1 => by
    subst e
    refine ⟨c, ds_bl s1, ?_⟩
    cases c with
    | true => exact iteT (k _ _ _ _ _ (q2 rfl) (r1.consD (.bl true)) f1)
    | false => exact iteF (q1 rfl Hf1 H1 σ r1 (xo.step f1) _ fun r A' v Hf' H' q r f => k _ _ _ _ _ q r (f1.trans f))⟩
theorem ex_not (h : ED X Z A a fun d A1 => ∃ k, d = .bl k ∧ Q (.dat (.bl (!k))) A1) : EX X Z A (.UnaryOp .Not a pos) Q := fun Hf H σ rel xo R k =>
  ⟨_, pe_not we, h Hf H σ rel xo _ fun d A1 v Hf1 H1 ⟨c, e, q⟩ r1 s1 f1 => by
    subst e
    exact ⟨c, ds_bl s1, k _ _ _ _ _ q (r1.consD (.bl (!c))) f1⟩⟩
theorem ex_if {c : Expr} (h : TX X Z A c fun t A1 => (t = true → EX X Z A1 a Q) ∧ (t = false → EX X Z A1 b Q)) : EX X Z A (.IfExp c a b pos) Q := fun Hf H σ rel xo R k =>
  ⟨_, pe_ifExp wt we we, h Hf H σ rel xo _ fun c A1 Hf1 H1 ⟨q1, q2⟩ r1 f1 => by
    cases c with
    | false => exact iteF (q2 rfl Hf1 H1 σ r1 (xo.step f1) _ fun r A' v Hf' H' q r f => k _ _ _ _ _ q r (f1.trans f))
    | true => exact iteT (q1 rfl Hf1 H1 σ r1 (xo.step f1) _ fun r A' v Hf' H' q r f => k _ _ _ _ _ q r (f1.trans f))⟩

/-! ### calls of what is built in -/
theorem ex_callB (id : String) {x : Str} {p : Pos} [c : Cok X] (h : EA X Z A (e :: es) fun ds A1 => CS X A1 (.builtin id) ds Q) (hg : Gl X x := by exact gl_of (by kernel_rfl)) (hx : x ∈ bnames := by exact mem_of_B (by kernel_rfl)) (hv : bootBuiltins x = some (.builtin id) := by kernel_rfl) (hn : x ≠ "__name__" := by exact ne_of_B (by kernel_rfl)) (hdb : (x == ("__debug__" : Str)) = false := by kernel_rfl)
    (he : starEach (e :: es) X.env = (false, eval e X.env) :: starEach es X.env := by kernel_rfl) (hpl : (backTo pos (starEach es X.env)).any (·.1) = false := by kernel_rfl) : EX X Z A (.Call (.Name x p) (e :: es) [] pos) Q := fun Hf H σ rel xo R k =>
  ⟨_, pe_callB wc hg (c.no x hx) hv wa hn hdb he hpl, h Hf H σ rel xo _ fun ds A1 vs Hf1 H1 h1 r1 s1 f1 => go_ans f1 (h1 Hf1 H1 σ r1 vs s1) k⟩
theorem ex_callT (id : String) {x : Str} {p : Pos} [c : Cok X] (h : EA X Z A (e :: es) fun ds A1 => CS X A1 (.type id) ds Q) (hg : Gl X x := by exact gl_of (by kernel_rfl)) (hx : x ∈ bnames := by exact mem_of_B (by kernel_rfl)) (hv : bootBuiltins x = some (.type id) := by kernel_rfl) (hn : x ≠ "__name__" := by exact ne_of_B (by kernel_rfl)) (hdb : (x == ("__debug__" : Str)) = false := by kernel_rfl)
    (he : starEach (e :: es) X.env = (false, eval e X.env) :: starEach es X.env := by kernel_rfl) (hpl : (backTo pos (starEach es X.env)).any (·.1) = false := by kernel_rfl) : EX X Z A (.Call (.Name x p) (e :: es) [] pos) Q := fun Hf H σ rel xo R k =>
  ⟨_, pe_callTy wc hg (c.no x hx) hv wa hn hdb he hpl, h Hf H σ rel xo _ fun ds A1 vs Hf1 H1 h1 r1 s1 f1 => go_ans f1 (h1 Hf1 H1 σ r1 vs s1) k⟩
theorem ex_seqB (id : String) {x : Str} {p : Pos} [c : Cok X] (h : ES X Z A e fun l ds A1 => CQ X A1 (.builtin id) l ds Q) (hg : Gl X x := by exact gl_of (by kernel_rfl)) (hx : x ∈ bnames := by exact mem_of_B (by kernel_rfl)) (hv : bootBuiltins x = some (.builtin id) := by kernel_rfl) (hn : x ≠ "__name__" := by exact ne_of_B (by kernel_rfl)) (hdb : (x == ("__debug__" : Str)) = false := by kernel_rfl)
    (he : starEach [e] X.env = [(false, eval e X.env)] := by kernel_rfl) (hpl : (backTo pos (starEach [] X.env)).any (·.1) = false := by kernel_rfl) : EX X Z A (.Call (.Name x p) [e] [] pos) Q := fun Hf H σ rel xo R k =>
  ⟨_, pe_callB wc hg (c.no x hx) hv (pa_cons we pa_nil he) hn hdb he hpl, h Hf H σ rel xo _ fun l ds A1 v Hf1 H1 h1 r1 s1 f1 => go_ans f1 (h1 Hf1 H1 σ r1 v s1) k⟩
theorem ex_seqT (id : String) {x : Str} {p : Pos} [c : Cok X] (h : ES X Z A e fun l ds A1 => CQ X A1 (.type id) l ds Q) (hg : Gl X x := by exact gl_of (by kernel_rfl)) (hx : x ∈ bnames := by exact mem_of_B (by kernel_rfl)) (hv : bootBuiltins x = some (.type id) := by kernel_rfl) (hn : x ≠ "__name__" := by exact ne_of_B (by kernel_rfl)) (hdb : (x == ("__debug__" : Str)) = false := by kernel_rfl)
    (he : starEach [e] X.env = [(false, eval e X.env)] := by kernel_rfl) (hpl : (backTo pos (starEach [] X.env)).any (·.1) = false := by kernel_rfl) : EX X Z A (.Call (.Name x p) [e] [] pos) Q := fun Hf H σ rel xo R k =>
  ⟨_, pe_callTy wc hg (c.no x hx) hv (pa_cons we pa_nil he) hn hdb he hpl, h Hf H σ rel xo _ fun l ds A1 v Hf1 H1 h1 r1 s1 f1 => go_ans f1 (h1 Hf1 H1 σ r1 v s1) k⟩

/-! ### sequences seen -/
theorem es_o (i : Nat) {x : Str} {p : Addr} {ds : List D} {Q : Bool → List D → List SD → Prop} (hA : A[i]? = some (.own p (.lst ds))) (q : Q true ds A) (hN : X.N[i]? = some x := by kernel_rfl) (hv : Vis X.env.scope x := by exact vis_of (by kernel_rfl))
    (hdb : (x == ("__debug__" : Str)) = false := by kernel_rfl) (hcd : (x == ("__classdict__" : Str)) = false := by kernel_rfl) : ES X Z A (.Name x pos) Q := fun Hf H σ rel xo R k => by
  obtain ⟨ov, h1, h2, h3, xs, h4, h5⟩ := Paired.at rel.al hA
  subst h2
  exact ⟨_, pe_var hN hv hdb hcd, _, h1, k _ _ _ _ _ _ q rel ⟨p, xs, rfl, iteT (.inl (.inl h4)), h5⟩ (Fr.refl _ _ _)⟩
def SD.seq : SD → Option (Bool × List D)
  | .dat (.lst ds) => some (true, ds)
  | .dat (.rls ds) => some (true, ds)
  | .dat (.tup ds) => some (false, ds)
  | .own _ (.lst ds) => some (true, ds)
  | _ => none
theorem Rel.seq {K : PySem.W.Frag} {Hf H : Hp} {σ : List (Option V)} {s : SD} {v : V} {l : Bool} {ds : List D} (r : Rel K Hf H (some v :: σ) (s :: A)) (h : s.seq = some (l, ds)) : SeqV K Hf H v l ds := by
  cases s with
  | any => cases h
  | dat d =>
    have g := head_d r
    cases d <;> simp only [SD.seq, Option.some.injEq, Prod.mk.injEq, reduceCtorEq] at h
    · obtain ⟨rfl, rfl⟩ := h
      cases g with
      | lst h1 h2 => exact ⟨_, _, rfl, iteT (.inl (.inl (r.sm _ _ h1))), h2⟩
    · obtain ⟨rfl, rfl⟩ := h
      cases g with
      | rls h1 h2 => exact ⟨_, _, rfl, iteT (r.sm.seq h1), h2⟩
    · obtain ⟨rfl, rfl⟩ := h
      cases g with
      | tup h1 h2 => exact ⟨_, _, rfl, iteF h1, h2⟩
  | own p o =>
    cases o with
    | lst ds' =>
      simp only [SD.seq, Option.some.injEq, Prod.mk.injEq] at h
      obtain ⟨rfl, rfl⟩ := h
      obtain ⟨h1, h2, xs, h3, h4⟩ := r.head
      cases h1
      exact ⟨_, _, rfl, iteT (.inl (.inl h3)), h4⟩
theorem es_of {Q : Bool → List D → List SD → Prop} (h : EX X Z A e fun r A1 => ∃ l ds, r.seq = some (l, ds) ∧ Q l ds A1) : ES X Z A e Q := fun Hf H σ rel xo R k =>
  h Hf H σ rel xo R fun r A' v Hf' H' ⟨l, ds, hs, q⟩ r1 f1 => k _ _ _ _ _ _ q r1.tail (r1.seq hs) (f1.less (owns_tail _ _))
theorem ex_ix (h : ED X Z A a fun d A1 => ED X Z A1 b fun e A2 => XS X A2 d e Q) (hs : PlainIx b := by intro _ _; kernel_rfl) : EX X Z A (.Subscript a b pos) Q := fun Hf H σ rel xo R k =>
  ⟨_, pe_ix wx we we hs, h Hf H σ rel xo _ fun d A1 v Hf1 H1 h1 r1 s1 f1 => h1 Hf1 H1 σ r1 (xo.step f1) _ fun e A2 u Hf2 H2 h2 r2 s2 f2 => go_ans (f1.trans f2) (h2 Hf2 H2 σ r2 v u (s1.mono f2.ef) s2) k⟩
/-- an owned list's item -/
theorem ex_ixo (i : Nat) {x : Str} {px : Pos} {p : Addr} {o : OD} (hA : A[i]? = some (.own p o)) (h : ED X Z A b fun e A2 => ∃ p ds j d, A2[i]? = some (.own p (.lst ds)) ∧ e = .int j ∧ atI ds j = some d ∧ Q (.dat d) A2) (hN : X.N[i]? = some x := by kernel_rfl)
    (hv : Vis X.env.scope x := by exact vis_of (by kernel_rfl)) (hdb : (x == ("__debug__" : Str)) = false := by kernel_rfl) (hcd : (x == ("__classdict__" : Str)) = false := by kernel_rfl) (hs : PlainIx b := by intro _ _; kernel_rfl) : EX X Z A (.Subscript (.Name x px) b pos) Q := fun Hf H σ rel xo R k => by
  obtain ⟨ov, h1, h2, h3, h4⟩ := Paired.at rel.al hA
  subst h2
  refine ⟨_, pe_ix ix_list (pe_var hN hv hdb hcd) we hs, _, h1, h Hf H σ rel xo _ fun e A2 u Hf2 H2 ⟨p', ds, j, d, q1, q2, q3, q4⟩ r2 s2 f2 => ?_⟩
  subst q2
  obtain ⟨ov, g1, g2, g3, xs, g4, g5⟩ := Paired.at r2.al q1
  rw [h1] at g1
  cases g1
  cases g2
  have hl := g5.length
  obtain ⟨m, m1, m2⟩ : ∃ m, ixN ds.length j = some m ∧ ds[m]? = some d := by
    unfold atI at q3
    cases hm : ixN ds.length j with
    | none => rw [hm] at q3; cases q3
    | some m => rw [hm] at q3; exact ⟨m, rfl, q3⟩
  obtain ⟨v, v1, v2⟩ := g5.get m2
  refine ⟨p, xs, j, v, rfl, ds_int s2, .inl (.inl g4), ?_, fin_d r2 q4 v2 fun r A' v Hf' H' q r f => k _ _ _ _ _ q r (f2.trans f)⟩
  unfold atI
  rw [hl, m1]
  exact v1
end
end Y

namespace Y
open PySem L2
variable [I : NmC]

section
variable {X : Cx} {A : List SD} {Q : SD → List SD → Prop}
/-! ### numbers -/
theorem os_add {i j : Int} (q : Q (.dat (.int (i + j))) A) : OS X A (binaryOp .Add) (.int i) (.int j) Q := fun Hf H σ rel v u hv hu R k => ⟨_, op_add, i, j, ds_int hv, ds_int hu, fin_d rel q (.int _) k⟩
theorem os_sub {i j : Int} (q : Q (.dat (.int (i - j))) A) : OS X A (binaryOp .Sub) (.int i) (.int j) Q := fun Hf H σ rel v u hv hu R k => ⟨_, op_sub, i, j, ds_int hv, ds_int hu, fin_d rel q (.int _) k⟩
theorem os_mul {i j : Int} (hc : CMulW i j) (q : Q (.dat (.int (i * j))) A) : OS X A (binaryOp .Mult) (.int i) (.int j) Q := fun Hf H σ rel v u hv hu R k => ⟨_, op_mulW, i, j, ds_int hv, ds_int hu, hc, fin_d rel q (.int _) k⟩
theorem os_mulL {i j : Int} (hc : CMul i j) (q : Q (.dat (.int (i * j))) A) : OS X A (binaryOp .Mult) (.int i) (.int j) Q := fun Hf H σ rel v u hv hu R k => ⟨_, op_mul, i, j, ds_int hv, ds_int hu, hc, fin_d rel q (.int _) k⟩
theorem os_mod {i j : Int} (hc : 0 < j) (q : Q (.dat (.int (i % j))) A) : OS X A (binaryOp .Mod) (.int i) (.int j) Q := fun Hf H σ rel v u hv hu R k => ⟨_, op_mod, i, j, ds_int hv, ds_int hu, hc, fin_d rel q (.int _) k⟩
theorem os_modN {i j : Int} (hc : j ≠ 0) (q : Q (.dat (.int (i.fmod j))) A) : OS X A (binaryOp .Mod) (.int i) (.int j) Q := fun Hf H σ rel v u hv hu R k => ⟨_, op_modN, i, j, ds_int hv, ds_int hu, hc, fin_d rel q (.int _) k⟩
theorem os_div {i j : Int} (hc : CDivW i j) (q : Q (.dat (.int (i / j))) A) : OS X A (binaryOp .FloorDiv) (.int i) (.int j) Q := fun Hf H σ rel v u hv hu R k => ⟨_, op_fdivW, i, j, ds_int hv, ds_int hu, hc, fin_d rel q (.int _) k⟩
theorem os_divN {i j : Int} (hc : CDivN i j) (q : Q (.dat (.int (i.fdiv j))) A) : OS X A (binaryOp .FloorDiv) (.int i) (.int j) Q := fun Hf H σ rel v u hv hu R k => ⟨_, op_fdivN, i, j, ds_int hv, ds_int hu, hc, fin_d rel q (.int _) k⟩
theorem os_pow {i j : Int} (hc : CPow i j) (q : Q (.dat (.int (i ^ j.toNat))) A) : OS X A (binaryOp .Pow) (.int i) (.int j) Q := fun Hf H σ rel v u hv hu R k => ⟨_, op_pow, i, j, ds_int hv, ds_int hu, hc, fin_d rel q (.int _) k⟩
theorem os_lt {i j : Int} (q : Q (.dat (.bl (decide (i < j)))) A) : OS X A (compareOp .Lt) (.int i) (.int j) Q := fun Hf H σ rel v u hv hu R k => ⟨_, op_lt, i, j, ds_int hv, ds_int hu, fin_d rel q (.bl _) k⟩
theorem os_le {i j : Int} (q : Q (.dat (.bl (decide (i ≤ j)))) A) : OS X A (compareOp .LtE) (.int i) (.int j) Q := fun Hf H σ rel v u hv hu R k => ⟨_, op_le, i, j, ds_int hv, ds_int hu, fin_d rel q (.bl _) k⟩
theorem os_gt {i j : Int} (q : Q (.dat (.bl (decide (j < i)))) A) : OS X A (compareOp .Gt) (.int i) (.int j) Q := fun Hf H σ rel v u hv hu R k => ⟨_, op_gt, i, j, ds_int hv, ds_int hu, fin_d rel q (.bl _) k⟩
theorem os_ge {i j : Int} (q : Q (.dat (.bl (decide (j ≤ i)))) A) : OS X A (compareOp .GtE) (.int i) (.int j) Q := fun Hf H σ rel v u hv hu R k => ⟨_, op_ge, i, j, ds_int hv, ds_int hu, fin_d rel q (.bl _) k⟩
theorem dec_int' {i j : Int} : decide (V.int i = V.int j) = decide (i = j) := by
  by_cases h : i = j
  · subst h; simp
  · simp [h]
theorem os_eq {i j : Int} (q : Q (.dat (.bl (decide (i = j)))) A) : OS X A (compareOp .Eq) (.int i) (.int j) Q := fun Hf H σ rel v u hv hu R k =>
  ⟨_, op_eq, by cases ds_int hv; cases ds_int hu; exact ⟨rfl, by rw [dec_int']; exact fin_d rel q (.bl _) k⟩⟩
theorem os_ne {i j : Int} (q : Q (.dat (.bl (!decide (i = j)))) A) : OS X A (compareOp .NotEq) (.int i) (.int j) Q := fun Hf H σ rel v u hv hu R k =>
  ⟨_, op_ne, by cases ds_int hv; cases ds_int hu; exact ⟨rfl, by rw [dec_int']; exact fin_d rel q (.bl _) k⟩⟩
theorem os_eqB {i j : Bool} (q : Q (.dat (.bl (decide (i = j)))) A) : OS X A (compareOp .Eq) (.bl i) (.bl j) Q := fun Hf H σ rel v u hv hu R k =>
  ⟨_, op_eq, by cases ds_bl hv; cases ds_bl hu; exact ⟨rfl, by rw [show decide (V.bl i = V.bl j) = decide (i = j) by cases i <;> cases j <;> rfl]; exact fin_d rel q (.bl _) k⟩⟩
theorem os_neB {i j : Bool} (q : Q (.dat (.bl (!decide (i = j)))) A) : OS X A (compareOp .NotEq) (.bl i) (.bl j) Q := fun Hf H σ rel v u hv hu R k =>
  ⟨_, op_ne, by cases ds_bl hv; cases ds_bl hu; exact ⟨rfl, by rw [show decide (V.bl i = V.bl j) = decide (i = j) by cases i <;> cases j <;> rfl]; exact fin_d rel q (.bl _) k⟩⟩
theorem us_neg {i : Int} (q : Q (.dat (.int (-i))) A) : US X A (unaryOp .USub) (.int i) Q := fun Hf H σ rel v hv R k => ⟨_, un_neg, i, ds_int hv, fin_d rel q (.int _) k⟩
theorem dsl1 {K : PySem.W.Frag} {Hf : Hp} {vs : List V} {d : D} (h : DsL K Hf vs [d]) : ∃ v, vs = [v] ∧ Ds K Hf v d := by
  cases h with
  | cons a b => cases b; exact ⟨_, rfl, a⟩
theorem dsl2 {K : PySem.W.Frag} {Hf : Hp} {vs : List V} {d e : D} (h : DsL K Hf vs [d, e]) : ∃ v u, vs = [v, u] ∧ Ds K Hf v d ∧ Ds K Hf u e := by
  cases h with
  | cons a b => cases b with
    | cons c b => cases b; exact ⟨_, _, rfl, a, c⟩
theorem cs_abs {i : Int} (q : Q (.dat (.int (if i < 0 then -i else i))) A) : CS X A (.builtin "abs") [.int i] Q := fun Hf H σ rel vs h R k => by
  obtain ⟨v, rfl, h'⟩ := dsl1 h
  cases ds_int h'
  exact ⟨_, call_abs, i, rfl, fin_d rel q (.int _) k⟩
theorem cs_int {i : Int} (q : Q (.dat (.int i)) A) : CS X A (.type "int") [.int i] Q := fun Hf H σ rel vs h R k => by
  obtain ⟨v, rfl, h'⟩ := dsl1 h
  cases ds_int h'
  exact ⟨_, call_int1, .inl ⟨i, rfl, fin_d rel q (.int _) k⟩⟩
theorem cs_intB {i : Bool} (q : Q (.dat (.int (if i then 1 else 0))) A) : CS X A (.type "int") [.bl i] Q := fun Hf H σ rel vs h R k => by
  obtain ⟨v, rfl, h'⟩ := dsl1 h
  cases ds_bl h'
  exact ⟨_, call_int1, .inr ⟨i, rfl, fin_d rel q (.int _) k⟩⟩
theorem cs_max {i j : Int} [c : Cok X] (q : Q (.dat (.int (if j > i then j else i))) A) : CS X A (.builtin "max") [.int i, .int j] Q := fun Hf H σ rel vs h R k => by
  obtain ⟨v, u, rfl, h2, h'⟩ := dsl2 h
  cases ds_int h2
  cases ds_int h'
  exact ⟨_, call_max2 c.calm, i, j, rfl, fin_d rel q (.int _) k⟩
theorem cs_min {i j : Int} [c : Cok X] (q : Q (.dat (.int (if j < i then j else i))) A) : CS X A (.builtin "min") [.int i, .int j] Q := fun Hf H σ rel vs h R k => by
  obtain ⟨v, u, rfl, h2, h'⟩ := dsl2 h
  cases ds_int h2
  cases ds_int h'
  exact ⟨_, call_min2 c.calm, i, j, rfl, fin_d rel q (.int _) k⟩

/-! ### equality at any depth -/
mutual
def D.py : D → PyData
  | .non => .none
  | .bl b => .bool b
  | .int i => .int i
  | .str x => .str x
  | .lst ds => .list (D.pys ds)
  | .tup ds => .tuple (D.pys ds)
  | _ => .dict []
def D.pys : List D → List PyData
  | [] => []
  | d :: ds => D.py d :: D.pys ds
end
/-! data of None, truths, numbers, texts, lists, tuples -/
mutual
def D.flat : D → Bool
  | .non => true
  | .bl _ => true
  | .int _ => true
  | .str x => PyData.canLay0 (.str x)
  | .lst ds => D.flats ds
  | .tup ds => D.flats ds
  | _ => false
def D.flats : List D → Bool
  | [] => true
  | d :: ds => D.flat d && D.flats ds
end
mutual
theorem dp_of {K : PySem.W.Frag} {Hf H : Hp} (sm : Same Hf H) : ∀ {v : V} {d : D}, Ds K Hf v d → d.flat = true → Dp K H v d.py
  | _, _, .non, _ => .non
  | _, _, .bl b, _ => .bl b
  | _, _, .int i, _ => .int i
  | _, _, .str x, _ => .str x
  | _, _, .ptr a, h => by simp [D.flat] at h
  | _, _, .ty a, h => by simp [D.flat] at h
  | _, _, .lst h q, e => .lst (.inl (.inl (sm _ _ h))) (dpl_of sm q (by simpa [D.flat] using e))
  | _, _, .rls h q, e => by simp [D.flat] at e
  | _, _, .tup h q, e => .tup (seqT sm h) (dpl_of sm q (by simpa [D.flat] using e))
  | _, _, .ins h q, e => by simp [D.flat] at e
theorem dpl_of {K : PySem.W.Frag} {Hf H : Hp} (sm : Same Hf H) : ∀ {vs : List V} {ds : List D}, DsL K Hf vs ds → D.flats ds = true → DpAll K H vs (D.pys ds)
  | _, _, .nil, _ => .nil
  | _, _, .cons h q, e => by
    simp only [D.flats, Bool.and_eq_true] at e
    exact .cons (dp_of sm h e.1) (dpl_of sm q e.2)
end
mutual
theorem flat_lay : ∀ {d : D}, d.flat = true → PyData.canLay0 d.py = true
  | .non, _ => rfl
  | .bl _, _ => rfl
  | .int _, _ => rfl
  | .str _, h => h
  | .lst ds, h => by simp only [D.py, PyData.canLay0]; exact flats_lay (by simpa [D.flat] using h)
  | .tup ds, h => by simp only [D.py, PyData.canLay0]; exact flats_lay (by simpa [D.flat] using h)
theorem flats_lay : ∀ {ds : List D}, D.flats ds = true → PyData.canLayAll0 (D.pys ds) = true
  | [], _ => rfl
  | d :: ds, h => by
    simp only [D.flats, Bool.and_eq_true] at h
    simp only [D.pys, PyData.canLayAll0, Bool.and_eq_true]
    exact ⟨flat_lay h.1, flats_lay h.2⟩
end
/-- flat, and at most n deep -/
def Pl (n : Nat) (d : D) : Prop := d.flat = true ∧ PyData.depth d.py ≤ n
theorem Pl.mono {n m : Nat} {d : D} (h : Pl n d) (e : n ≤ m) : Pl m d := ⟨h.1, Nat.le_trans h.2 e⟩
theorem Pl.shaped {n : Nat} {d : D} (h : Pl n d) (e : n ≤ 64) : SeqAt.shaped d.py = true := by
  unfold SeqAt.shaped
  rw [flat_lay h.1, Bool.true_and]
  exact decide_eq_true (Nat.le_trans h.2 e)
theorem pl_all {n : Nat} : ∀ {ds : List D}, (∀ d ∈ ds, Pl n d) → D.flats ds = true ∧ PyData.depthAll (D.pys ds) ≤ n
  | [], _ => ⟨rfl, by simp [D.pys, PyData.depthAll]⟩
  | d :: ds, h => by
    obtain ⟨h1, h2⟩ := pl_all (ds := ds) fun e he => h e (List.mem_cons_of_mem _ he)
    have h3 := h d List.mem_cons_self
    refine ⟨by simp [D.flats, h1, h3.1], ?_⟩
    simp only [D.pys, PyData.depthAll]
    exact Nat.max_le.mpr ⟨h3.2, h2⟩
theorem Pl.tup {n : Nat} {ds : List D} (h : ∀ d ∈ ds, Pl n d) : Pl (n + 1) (.tup ds) := by
  obtain ⟨h1, h2⟩ := pl_all h
  exact ⟨by simp [D.flat, h1], by simp only [D.py, PyData.depth]; omega⟩
theorem Pl.lst {n : Nat} {ds : List D} (h : ∀ d ∈ ds, Pl n d) : Pl (n + 1) (.lst ds) := by
  obtain ⟨h1, h2⟩ := pl_all h
  exact ⟨by simp [D.flat, h1], by simp only [D.py, PyData.depth]; omega⟩
theorem Pl.int {n : Nat} (i : Int) : Pl n (.int i) := ⟨rfl, Nat.zero_le _⟩
theorem Pl.bl {n : Nat} (i : Bool) : Pl n (.bl i) := ⟨rfl, Nat.zero_le _⟩
theorem Pl.non {n : Nat} : Pl n .non := ⟨rfl, Nat.zero_le _⟩
/-- Python's == of two flat things -/
def D.eqv (d e : D) : Bool := PyData.eqv d.py e.py
theorem os_eqD {d e : D} {n m : Nat} [c : Cok X] (hd : Pl n d) (he : Pl m e) (hn : n ≤ 64) (hm : m ≤ 64) (q : Q (.dat (.bl (d.eqv e))) A) : OS X A (compareOp .Eq) d e Q := fun Hf H σ rel v u hv hu R k =>
  ⟨_, op_eqD c.un, d.py, e.py, dp_of rel.sm hv hd.1, dp_of rel.sm hu he.1, hd.shaped hn, he.shaped hm, fin_d rel q (.bl _) k⟩
theorem os_neD {d e : D} {n m : Nat} [c : Cok X] (hd : Pl n d) (he : Pl m e) (hn : n ≤ 64) (hm : m ≤ 64) (q : Q (.dat (.bl (!d.eqv e))) A) : OS X A (compareOp .NotEq) d e Q := fun Hf H σ rel v u hv hu R k =>
  ⟨_, op_neD c.un, d.py, e.py, dp_of rel.sm hv hd.1, dp_of rel.sm hu he.1, hd.shaped hn, he.shaped hm, fin_d rel q (.bl _) k⟩
theorem os_isN {d : D} {b : Bool} (hb : ∀ K Hf v, Ds K Hf v d → decide (v = .non) = b) (q : Q (.dat (.bl b)) A) : OS X A (compareOp .Is) d .non Q := fun Hf H σ rel v u hv hu R k =>
  ⟨_, op_isN, ds_non hu, by rw [hb _ _ _ hv]; exact fin_d rel q (.bl _) k⟩
theorem os_notN {d : D} {b : Bool} (hb : ∀ K Hf v, Ds K Hf v d → decide (v = .non) = b) (q : Q (.dat (.bl (!b))) A) : OS X A (compareOp .IsNot) d .non Q := fun Hf H σ rel v u hv hu R k =>
  ⟨_, op_notN, ds_non hu, by rw [hb _ _ _ hv]; exact fin_d rel q (.bl _) k⟩

/-! ### lists and tuples by operators -/
theorem ds_lst {K : PySem.W.Frag} {Hf : Hp} {v : V} {ds : List D} (h : Ds K Hf v (.lst ds)) : ∃ a xs, v = .ref a ∧ Hf a = some (.lst xs) ∧ DsL K Hf xs ds := by
  cases h with
  | lst h1 h2 => exact ⟨_, _, rfl, h1, h2⟩
theorem ds_tup {K : PySem.W.Frag} {Hf : Hp} {v : V} {ds : List D} (h : Ds K Hf v (.tup ds)) : ∃ a xs, v = .ref a ∧ SqT K Hf a xs ∧ DsL K Hf xs ds := by
  cases h with
  | tup h1 h2 => exact ⟨_, _, rfl, h1, h2⟩
theorem mil {n : Nat} (h : n ≤ 1000000) : n ≤ sizeLine := Nat.le_trans h (by decide)
theorem os_catL {ds es : List D} (hz : ds.length + es.length ≤ 1000000) (q : ∀ p, Q (.own p (.lst (ds ++ es))) A) : OS X A (binaryOp .Add) (.lst ds) (.lst es) Q := fun Hf H σ rel v u hv hu R k => by
  obtain ⟨a, xs, rfl, h1, h2⟩ := ds_lst hv
  obtain ⟨b, ys, rfl, h3, h4⟩ := ds_lst hu
  exact ⟨_, op_cat, a, b, xs, ys, rfl, rfl, rel.sm _ _ h1, rel.sm _ _ h3, by rw [h2.length, h4.length]; exact mil hz, fun p hp => fin_l rel hp q (h2.append h4) k⟩
theorem dsl_flat {K : PySem.W.Frag} {Hf : Hp} {xs : List V} {ds : List D} (h : DsL K Hf xs ds) : ∀ n, DsL K Hf (List.replicate n xs).flatten (List.replicate n ds).flatten
  | 0 => .nil
  | n + 1 => by
    rw [List.replicate_succ, List.replicate_succ, List.flatten_cons, List.flatten_cons]
    exact h.append (dsl_flat h n)
theorem os_repL {ds : List D} {n : Int} (h0 : 0 ≤ n) (hn : n ≤ 1000000) (hz : ds.length * n.toNat ≤ 1000000) (q : ∀ p, Q (.own p (.lst (List.replicate n.toNat ds).flatten)) A) : OS X A (binaryOp .Mult) (.lst ds) (.int n) Q := fun Hf H σ rel v u hv hu R k => by
  obtain ⟨a, xs, rfl, h1, h2⟩ := ds_lst hv
  cases ds_int hu
  exact ⟨_, op_rep, a, n, xs, rfl, rfl, rel.sm _ _ h1, by omega, by omega, by rw [h2.length]; exact mil hz, fun p hp => fin_l rel hp q (dsl_flat h2 _) k⟩
theorem os_catT {ds es : List D} (hz : ds.length + es.length ≤ 1000000) (q : Q (.dat (.tup (ds ++ es))) A) : OS X A (binaryOp .Add) (.tup ds) (.tup es) Q := fun Hf H σ rel v u hv hu R k => by
  obtain ⟨a, xs, rfl, h1, h2⟩ := ds_tup hv
  obtain ⟨b, ys, rfl, h3, h4⟩ := ds_tup hu
  refine ⟨_, op_catA, a, b, xs, ys, rfl, rfl, seqT rel.sm h1, seqT rel.sm h3, by rw [h2.length, h4.length]; exact mil hz, fun e => ?_, fun _ e => ?_, fun _ _ p hp => fin_t rel hp q (h2.append h4) k⟩
  · subst e
    cases h2
    exact fin_d rel q (.tup h3 h4) k
  · subst e
    cases h4
    exact fin_d rel q (.tup h1 (by rw [List.append_nil]; exact h2)) k
theorem os_repT {ds : List D} {n : Int} (hd : ds ≠ []) (h0 : 2 ≤ n) (hn : n ≤ 1000) (hz : ds.length ≤ 1000) (q : Q (.dat (.tup (List.replicate n.toNat ds).flatten)) A) : OS X A (binaryOp .Mult) (.tup ds) (.int n) Q := fun Hf H σ rel v u hv hu R k => by
  obtain ⟨a, xs, rfl, h1, h2⟩ := ds_tup hv
  cases ds_int hu
  exact ⟨_, op_repT, a, n, xs, rfl, rfl, seqT rel.sm h1, fun e => hd (by subst e; cases h2; rfl), h0, hn, by rw [h2.length]; exact hz, fun p hp => fin_t rel hp q (dsl_flat h2 _) k⟩

/-! ### items -/
theorem at_ds {K : PySem.W.Frag} {Hf : Hp} {xs : List V} {ds : List D} {j : Int} {d : D} (h : DsL K Hf xs ds) (q : atI ds j = some d) : ∃ v, atI xs j = some v ∧ Ds K Hf v d := by
  unfold atI at q ⊢
  rw [h.length]
  cases hm : ixN ds.length j with
  | none => rw [hm] at q; cases q
  | some m =>
    rw [hm] at q
    exact h.get q
theorem xs_l {ds : List D} {j : Int} {d : D} (h : atI ds j = some d) (q : Q (.dat d) A) : XS X A (.lst ds) (.int j) Q := fun Hf H σ rel v u hv hu R k => by
  obtain ⟨a, xs, rfl, h1, h2⟩ := ds_lst hv
  cases ds_int hu
  obtain ⟨w, w1, w2⟩ := at_ds h2 h
  exact ⟨_, ix_list, a, xs, j, w, rfl, rfl, .inl (.inl (rel.sm _ _ h1)), w1, fin_d rel q w2 k⟩
theorem xs_r {ds : List D} {j : Int} {d : D} (h : atI ds j = some d) (q : Q (.dat d) A) : XS X A (.rls ds) (.int j) Q := fun Hf H σ rel v u hv hu R k => by
  cases ds_int hu
  cases hv with
  | rls h1 h2 =>
    obtain ⟨w, w1, w2⟩ := at_ds h2 h
    exact ⟨_, ix_list, _, _, j, w, rfl, rfl, rel.sm.seq h1, w1, fin_d rel q w2 k⟩
theorem xs_t {ds : List D} {j : Int} {d : D} (h : atI ds j = some d) (q : Q (.dat d) A) : XS X A (.tup ds) (.int j) Q := fun Hf H σ rel v u hv hu R k => by
  obtain ⟨a, xs, rfl, h1, h2⟩ := ds_tup hv
  cases ds_int hu
  obtain ⟨w, w1, w2⟩ := at_ds h2 h
  exact ⟨_, ix_tup, a, xs, j, w, rfl, rfl, seqT rel.sm h1, w1, fin_d rel q w2 k⟩

/-! ### of one sequence -/
theorem SeqV.l {K : PySem.W.Frag} {Hf H : Hp} {v : V} {ds : List D} (h : SeqV K Hf H v true ds) : ∃ a xs, v = .ref a ∧ SqL K H a xs ∧ DsL K Hf xs ds := by
  obtain ⟨a, xs, h1, h2, h3⟩ := h
  exact ⟨a, xs, h1, by simpa using h2, h3⟩
theorem SeqV.t {K : PySem.W.Frag} {Hf H : Hp} {v : V} {ds : List D} (h : SeqV K Hf H v false ds) : ∃ a xs, v = .ref a ∧ SqT K Hf a xs ∧ DsL K Hf xs ds := by
  obtain ⟨a, xs, h1, h2, h3⟩ := h
  exact ⟨a, xs, h1, by simpa using h2, h3⟩
theorem cq_len {l : Bool} {ds : List D} (q : Q (.dat (.int (ds.length : Nat))) A) : CQ X A (.builtin "len") l ds Q := fun Hf H σ rel v h R k => by
  cases l with
  | true =>
    obtain ⟨a, xs, rfl, h1, h2⟩ := h.l
    exact ⟨_, call_len_seq, a, xs, rfl, .inl h1, by rw [h2.length]; exact fin_d rel q (.int _) k⟩
  | false =>
    obtain ⟨a, xs, rfl, h1, h2⟩ := h.t
    exact ⟨_, call_len_seq, a, xs, rfl, .inr (seqT rel.sm h1), by rw [h2.length]; exact fin_d rel q (.int _) k⟩
theorem cq_sum {α : Type} {zs : List α} {f : α → Int} [c : Cok X] (q : Q (.dat (.int (zs.map f).sum)) A) : CQ X A (.builtin "sum") true (zs.map fun z => .int (f z)) Q := fun Hf H σ rel v h R k => by
  obtain ⟨a, xs, rfl, h1, h2⟩ := h.l
  have e : (zs.map fun z => D.int (f z)) = (zs.map f).map D.int := by rw [List.map_map]; rfl
  rw [e] at h2
  rw [h2.ints] at h1
  exact ⟨_, cr_sum c.calm, a, zs.map f, rfl, h1, fin_d rel q (.int _) k⟩
theorem cq_all {α : Type} {zs : List α} {f : α → Bool} [c : Cok X] (q : Q (.dat (.bl (zs.all f))) A) : CQ X A (.builtin "all") true (zs.map fun z => .bl (f z)) Q := fun Hf H σ rel v h R k => by
  obtain ⟨a, xs, rfl, h1, h2⟩ := h.l
  have e : (zs.map fun z => D.bl (f z)) = (zs.map f).map D.bl := by rw [List.map_map]; rfl
  rw [e] at h2
  rw [h2.bls] at h1
  refine ⟨_, cr_all c.calm, a, zs.map f, rfl, h1, ?_⟩
  have e2 : (zs.map f).all id = zs.all f := by rw [List.all_map]; rfl
  rw [e2]
  exact fin_d rel q (.bl _) k
theorem cq_any {α : Type} {zs : List α} {f : α → Bool} [c : Cok X] (q : Q (.dat (.bl (zs.any f))) A) : CQ X A (.builtin "any") true (zs.map fun z => .bl (f z)) Q := fun Hf H σ rel v h R k => by
  obtain ⟨a, xs, rfl, h1, h2⟩ := h.l
  have e : (zs.map fun z => D.bl (f z)) = (zs.map f).map D.bl := by rw [List.map_map]; rfl
  rw [e] at h2
  rw [h2.bls] at h1
  refine ⟨_, cr_any c.calm, a, zs.map f, rfl, h1, ?_⟩
  have e2 : (zs.map f).any id = zs.any f := by rw [List.any_map]; rfl
  rw [e2]
  exact fin_d rel q (.bl _) k
theorem cq_maxL {α : Type} {zs : List α} {f : α → Int} [c : Cok X] (hz : 0 < zs.length) (q : ∀ m, m ∈ zs.map f → (∀ z ∈ zs, f z ≤ m) → Q (.dat (.int m)) A) : CQ X A (.builtin "max") true (zs.map fun z => .int (f z)) Q := fun Hf H σ rel v h R k => by
  obtain ⟨a, xs, rfl, h1, h2⟩ := h.l
  have e : (zs.map fun z => D.int (f z)) = (zs.map f).map D.int := by rw [List.map_map]; rfl
  rw [e] at h2
  rw [h2.ints] at h1
  exact ⟨_, cr_max c.calm, a, zs.map f, rfl, h1, by simpa using hz, fun m hm hl => fin_d rel (q m hm fun z hz => hl _ (List.mem_map_of_mem hz)) (.int _) k⟩
theorem cq_minL {α : Type} {zs : List α} {f : α → Int} [c : Cok X] (hz : 0 < zs.length) (q : ∀ m, m ∈ zs.map f → (∀ z ∈ zs, m ≤ f z) → Q (.dat (.int m)) A) : CQ X A (.builtin "min") true (zs.map fun z => .int (f z)) Q := fun Hf H σ rel v h R k => by
  obtain ⟨a, xs, rfl, h1, h2⟩ := h.l
  have e : (zs.map fun z => D.int (f z)) = (zs.map f).map D.int := by rw [List.map_map]; rfl
  rw [e] at h2
  rw [h2.ints] at h1
  exact ⟨_, cr_min c.calm, a, zs.map f, rfl, h1, by simpa using hz, fun m hm hl => fin_d rel (q m hm fun z hz => hl _ (List.mem_map_of_mem hz)) (.int _) k⟩
theorem cq_list {l : Bool} {ds : List D} (q : ∀ p, Q (.own p (.lst ds)) A) : CQ X A (.type "list") l ds Q := fun Hf H σ rel v h R k => by
  cases l with
  | true =>
    obtain ⟨a, xs, rfl, h1, h2⟩ := h.l
    exact ⟨_, call_list_of, a, xs, rfl, .inl h1, fun p hp => fin_l rel hp q h2 k⟩
  | false =>
    obtain ⟨a, xs, rfl, h1, h2⟩ := h.t
    exact ⟨_, call_list_of, a, xs, rfl, .inr (seqT rel.sm h1), fun p hp => fin_l rel hp q h2 k⟩
theorem cq_tupT {ds : List D} (q : Q (.dat (.tup ds)) A) : CQ X A (.type "tuple") false ds Q := fun Hf H σ rel v h R k => by
  obtain ⟨a, xs, rfl, h1, h2⟩ := h.t
  exact ⟨_, call_tuple_of, a, xs, rfl, .inr ⟨seqT rel.sm h1, fin_d rel q (.tup h1 h2) k⟩⟩
theorem cq_tup {ds : List D} (q : Q (.dat (.tup ds)) A) : CQ X A (.type "tuple") true ds Q := fun Hf H σ rel v h R k => by
  obtain ⟨a, xs, rfl, h1, h2⟩ := h.l
  exact ⟨_, call_tuple_of, a, xs, rfl, .inl ⟨h1, fun p hp => fin_t rel hp q h2 k⟩⟩
end
end Y

namespace Y
open PySem L2
variable [I : NmC]

section
variable {K : PySem.W.Frag} {Hf H : Hp} {σ : List (Option V)} {A : List SD}
theorem owns_set {p : Addr} {o o2 : OD} : ∀ {A : List SD} {i : Nat}, A[i]? = some (.own p o) → owns (A.set i (.own p o2)) = owns A
  | [], i, h => by simp at h
  | y :: A, 0, h => by
    have h : y = .own p o := Option.some.inj h
    subst h
    rfl
  | y :: A, i + 1, h => by
    have ih := owns_set (A := A) (i := i) (o2 := o2) (by simpa using h)
    show owns (y :: A.set i (.own p o2)) = owns (y :: A)
    cases y with
    | any => exact ih
    | dat d => exact ih
    | own q w => show q :: _ = q :: _; rw [ih]
/-- an owned object changed -/
theorem Rel.upd {i : Nat} {p : Addr} {o o2 : OD} {u : HO} (r : Rel K Hf H σ A) (hA : A[i]? = some (.own p o)) (h2 : OdOk K Hf (upd H p u) p o2) :
    Rel K Hf (upd H p u) σ (A.set i (.own p o2)) ∧ Fr (owns A) Hf H (owns (A.set i (.own p o2))) Hf (upd H p u) := by
  obtain ⟨ov, h1, e1, e2, e3⟩ := Paired.at r.al hA
  have hp : p ∈ owns A := mem_owns (List.mem_of_getElem? hA)
  have hs : σ = σ.set i ov := by
    apply List.ext_getElem?
    intro j
    by_cases hj : i = j
    · subst hj
      rw [List.getElem?_set_self (List.getElem?_eq_some_iff.mp h1).1, h1]
    · rw [List.getElem?_set_ne hj]
  have nd : ∀ (l : List SD) (j m : Nat) (q : Addr) (w : OD), (owns l).Nodup → l[j]? = some (.own p o) → l[m]? = some (.own q w) → j ≠ m → q ≠ p := by
    intro l
    induction l with
    | nil => intro j m q w _ h; simp at h
    | cons y l ih =>
      intro j m q w hn h g hne e
      subst e
      cases j with
      | zero =>
        have h : y = .own q o := Option.some.inj h
        subst h
        cases m with
        | zero => exact hne rfl
        | succ m => exact (List.nodup_cons.mp hn).1 (mem_owns (List.mem_of_getElem? (by simpa using g)))
      | succ j =>
        cases m with
        | zero =>
          have g : y = .own q w := Option.some.inj g
          subst g
          exact (List.nodup_cons.mp hn).1 (mem_owns (List.mem_of_getElem? (by simpa using h)))
        | succ m =>
          have hn' : (owns l).Nodup := by
            cases y with
            | any => exact hn
            | dat d => exact hn
            | own q w => exact (List.nodup_cons.mp hn).2
          exact ih j m q w hn' (by simpa using h) (by simpa using g) (by omega) rfl
  obtain ⟨w0, hw0, ow0⟩ := e3.ow
  refine ⟨⟨fun b w q => ?_, ?_, by rw [owns_set hA]; exact r.nd, r.nt⟩, ⟨fun _ _ h => h, fun _ _ _ _ h _ => h, fun a w g1 _ g2 => ?_, fun q hq => ?_, fun a ps h => ⟨ps, ?_⟩, fun P t => tabS_to t fun b w h nw => ?_⟩⟩
  · have ne : b ≠ p := fun z => by subst z; rw [e2] at q; cases q
    rw [upd_ne ne]; exact r.sm b w q
  · rw [hs]
    refine Paired.ofGet (by rw [List.length_set, List.length_set]; exact Paired.length r.al) fun j a b ha hb => ?_
    by_cases hj : i = j
    · subst hj
      rw [List.getElem?_set_self (List.getElem?_eq_some_iff.mp h1).1] at ha
      rw [List.getElem?_set_self (List.getElem?_eq_some_iff.mp hA).1] at hb
      cases ha; cases hb
      exact ⟨e1, e2, h2⟩
    · rw [List.getElem?_set_ne hj] at ha
      rw [List.getElem?_set_ne hj] at hb
      obtain ⟨a', ha', g⟩ := Paired.at r.al hb
      rw [ha] at ha'; cases ha'
      refine g.keep (fun _ _ h => h) fun q w z => ?_
      subst z
      rw [upd_ne (nd A i j q w r.nd hA hb hj)]
      exact ⟨g.2.1, rfl⟩
  · rw [upd_ne (fun z => by subst z; exact g2 hp)]; exact g1
  · rw [owns_set hA] at hq; exact .inl hq
  · rw [upd_ne (fun z => by subst z; rw [hw0] at h; cases h; exact ow0)]; exact h
  · rw [upd_ne (fun z => by subst z; rw [hw0] at h; cases h; exact nw ow0)]; exact h
theorem Rel.ref {i : Nat} {p : Addr} {o : OD} (r : Rel K Hf H σ A) (hA : A[i]? = some (.own p o)) : σ[i]? = some (some (.ref p)) := by
  obtain ⟨ov, h1, h2, _⟩ := Paired.at r.al hA
  rw [h1, h2]
theorem Rel.olst {i : Nat} {p : Addr} {ds : List D} (r : Rel K Hf H σ A) (hA : A[i]? = some (.own p (.lst ds))) : ∃ xs, H p = some (.lst xs) ∧ DsL K Hf xs ds := by
  obtain ⟨ov, h1, h2, h3, h4⟩ := Paired.at r.al hA
  exact h4
end

/-! ### targets -/
def GX (X : Cx) (Z : ZZ) (A : List SD) (tg : Expr) (vs : Nat → Bool) (d : D) (Q : List SD → Prop) : Prop :=
  ∀ Hf H σ v, Rel X.K Hf H σ A → XOk X Z (owns A) Hf H → Ds X.K Hf v d → ∀ R : St → Hp → Prop, (∀ A' σ' Hf' H', Q A' → Rel X.K Hf' H' σ' A' → Fr (owns A) Hf H (owns A') Hf' H' → (∀ j, vs j = false → σ'[j]? = σ[j]?) → σ'.length = σ.length → R σ' H') → WG X tg v σ H R
def GXs (X : Cx) (Z : ZZ) (A : List SD) (tgs : List Expr) (vs : Nat → Bool) (ds : List D) (Q : List SD → Prop) : Prop :=
  ∀ Hf H σ us, Rel X.K Hf H σ A → XOk X Z (owns A) Hf H → DsL X.K Hf us ds → ∀ R : St → Hp → Prop, (∀ A' σ' Hf' H', Q A' → Rel X.K Hf' H' σ' A' → Fr (owns A) Hf H (owns A') Hf' H' → (∀ j, vs j = false → σ'[j]? = σ[j]?) → σ'.length = σ.length → R σ' H') → WGs X tgs us σ H R
section
variable {X : Cx} {Z : ZZ} {A : List SD} {e a b : Expr} {es : List Expr} {pos : Pos} {vs : Nat → Bool} {Q : List SD → Prop}
theorem gx_n (i : Nat) {x : Str} {d : D} [c : Cok X] (q : Q (A.set i (.dat d))) (hi : vs i = true := by kernel_rfl) (hN : X.N[i]? = some x := by kernel_rfl) (hx : Loc X.env.scope x := by exact loc_of (by kernel_rfl))
    (hf : X.fn x = true ∨ X.env.scope.names.lookup x = some .local := by exact fn_B (by kernel_rfl)) : GX X Z A (.Name x pos) vs d Q := fun Hf H σ v rel xo hd R k => by
  obtain ⟨r1, s1⟩ := rel.setA (i := i) (ov := some v) (s := .dat d) ⟨v, rfl, hd⟩ fun _ _ z => by cases z
  refine ⟨_, pg_name c.nd hN hx hf, k _ _ _ _ q r1 ((Fr.refl _ _ _).less fun p hp => s1 p hp) (fun j hj => ?_) (by rw [List.length_set])⟩
  have ne : i ≠ j := fun z => by subst z; rw [hi] at hj; cases hj
  rw [List.getElem?_set_ne ne]
theorem gxs_nil (q : Q A) : GXs X Z A [] vs [] Q := fun Hf H σ us rel xo hd R k => ⟨_, pgs_nil, by cases hd; exact ⟨rfl, k _ _ _ _ q rel (Fr.refl _ _ _) (fun _ _ => rfl) rfl⟩⟩
theorem gxs_cons {d : D} {ds : List D} (h : GX X Z A e vs d fun A1 => GXs X Z A1 es vs ds Q) (hs : (assignEach (e :: es) X.env).map (·.2) = assign e X.env :: (assignEach es X.env).map (·.2) := by kernel_rfl) : GXs X Z A (e :: es) vs (d :: ds) Q := fun Hf H σ us rel xo hd R k => by
  cases hd with
  | cons h1 h2 =>
    exact ⟨_, pgs_cons wg wgs hs, _, _, rfl, h Hf H σ _ rel xo h1 _ fun A1 σ1 Hf1 H1 q1 r1 f1 u1 l1 => q1 Hf1 H1 σ1 _ r1 (xo.step f1) (h2.mono f1.ef) _ fun A2 σ2 Hf2 H2 q2 r2 f2 u2 l2 => k _ _ _ _ q2 r2 (f1.trans f2) (fun j hj => (u2 j hj).trans (u1 j hj)) (l2.trans l1)⟩
theorem gx_tup {ds : List D} {kk : Nat} [c : Cok X] (h : GXs X Z A es vs ds Q) (hl : ds.length = es.length := by kernel_rfl) (hn : (assignEach es X.env).length = es.length := by kernel_rfl) (hst : (assignEach es X.env).findIdx? (·.1) = none := by kernel_rfl) : GX X Z A (.Tuple es kk pos) vs (.tup ds) Q := fun Hf H σ v rel xo hd R k => by
  obtain ⟨a, xs, rfl, h1, h2⟩ := ds_tup hd
  exact ⟨_, pg_tup c.calm wgs hn hst, a, xs, rfl, seqT rel.sm h1, by rw [h2.length, hl], h Hf H σ xs rel xo h2 R k⟩
theorem gx_unl {ds : List D} {kk : Nat} [c : Cok X] (h : GXs X Z A es vs ds Q) (hl : ds.length = es.length := by kernel_rfl) (hn : (assignEach es X.env).length = es.length := by kernel_rfl) (hst : (assignEach es X.env).findIdx? (·.1) = none := by kernel_rfl) : GX X Z A (.Tuple es kk pos) vs (.lst ds) Q := fun Hf H σ v rel xo hd R k => by
  obtain ⟨a, xs, rfl, h1, h2⟩ := ds_lst hd
  exact ⟨_, pg_unl c.calm wgs hn hst, a, xs, rfl, .inl (.inl (rel.sm _ _ h1)), by rw [h2.length, hl], h Hf H σ xs rel xo h2 R k⟩
/-- xs[i] = .., xs an owned list -/
theorem gx_set (i : Nat) {x : Str} {px : Pos} {p : Addr} {o : OD} {d : D} (hA : A[i]? = some (.own p o)) (h : ED X Z A b fun e A2 => ∃ p ds j m, A2[i]? = some (.own p (.lst ds)) ∧ e = .int j ∧ ixN ds.length j = some m ∧ Q (A2.set i (.own p (.lst (ds.set m d)))))
    (hN : X.N[i]? = some x := by kernel_rfl) (hv : Vis X.env.scope x := by exact vis_of (by kernel_rfl)) (hdb : (x == ("__debug__" : Str)) = false := by kernel_rfl) (hcd : (x == ("__classdict__" : Str)) = false := by kernel_rfl)
    (ha : ∀ v, assign (.Subscript (.Name x px) b pos) X.env v = (do
      let ov ← holding [v] (eval (.Name x px) X.env)
      let iv ← holding [v, ov] (eval b X.env)
      standAt pos
      holding [v, ov, iv] (setItem ov iv v)
      release [v, ov, iv] []) := by intro _; kernel_rfl) : GX X Z A (.Subscript (.Name x px) b pos) vs d Q := fun Hf H σ v rel xo hd R k => by
  have h1 := rel.ref hA
  refine ⟨_, pg_sub (pe_var hN hv hdb hcd) we set_list ha, _, h1, h Hf H σ rel xo _ fun e A2 u Hf2 H2 ⟨p', ds, j, m, q1, q2, q3, q4⟩ r2 s2 f2 => ?_⟩
  subst q2
  have g1 := r2.ref q1
  rw [h1] at g1
  cases g1
  obtain ⟨xs, h3, h4⟩ := r2.olst q1
  obtain ⟨r3, f3⟩ := r2.upd (u := .lst (xs.set m v)) (o2 := .lst (ds.set m d)) q1 ⟨_, upd_same, DsL.set (hd.mono f2.ef) m h4⟩
  exact ⟨p, xs, j, m, rfl, ds_int s2, h3, by rw [h4.length]; exact q3, k _ _ _ _ q4 r3 (f2.trans f3) (fun _ _ => rfl) rfl⟩
end

/-! ### statements -/
structure AE where
  nx : List SD → Prop
  rt : SD → List SD → Prop
  bk : List SD → Prop := fun _ => False
  ct : List SD → Prop := fun _ => False
structure EndsOk (K : PySem.W.Frag) (o0 : List Addr) (Hf H : Hp) (E : AE) (D : Ends) : Prop where
  nx : ∀ A' σ' Hf' H', E.nx A' → Rel K Hf' H' σ' A' → Fr o0 Hf H (owns A') Hf' H' → D.nx σ' H'
  rt : ∀ r A' v σ' Hf' H', E.rt r A' → Rel K Hf' H' (some v :: σ') (r :: A') → Fr o0 Hf H (owns (r :: A')) Hf' H' → D.rt v H'
  bk : ∀ A' σ' Hf' H', E.bk A' → Rel K Hf' H' σ' A' → Fr o0 Hf H (owns A') Hf' H' → D.bk σ' H'
  ct : ∀ A' σ' Hf' H', E.ct A' → Rel K Hf' H' σ' A' → Fr o0 Hf H (owns A') Hf' H' → D.ct σ' H'
theorem EndsOk.step {K : PySem.W.Frag} {o0 o1 : List Addr} {Hf H Hf1 H1 : Hp} {E : AE} {D : Ends} (k : EndsOk K o0 Hf H E D) (f : Fr o0 Hf H o1 Hf1 H1) : EndsOk K o1 Hf1 H1 E D :=
  ⟨fun A' σ' Hf' H' q r f2 => k.nx A' σ' Hf' H' q r (f.trans f2), fun r A' v σ' Hf' H' q h f2 => k.rt r A' v σ' Hf' H' q h (f.trans f2), fun A' σ' Hf' H' q r f2 => k.bk A' σ' Hf' H' q r (f.trans f2), fun A' σ' Hf' H' q r f2 => k.ct A' σ' Hf' H' q r (f.trans f2)⟩
def SX (X : Cx) (Z : ZZ) (A : List SD) (st : Stmt) (E : AE) : Prop :=
  ∀ Hf H σ, Rel X.K Hf H σ A → XOk X Z (owns A) Hf H → ∀ D : Ends, EndsOk X.K (owns A) Hf H E D → WS X st D σ H
def SSX (X : Cx) (Z : ZZ) (A : List SD) (st : List Stmt) (E : AE) : Prop :=
  ∀ Hf H σ, Rel X.K Hf H σ A → XOk X Z (owns A) Hf H → ∀ D : Ends, EndsOk X.K (owns A) Hf H E D → WSs X st D σ H
section
variable {X : Cx} {Z : ZZ} {A : List SD} {e a b : Expr} {es : List Expr} {pos : Pos} {E : AE} {st : Stmt} {sts us : List Stmt}
theorem ssx_nil (q : E.nx A) : SSX X Z A [] E := fun Hf H σ rel xo D k => ⟨_, pss_nil, k.nx _ _ _ _ q rel (Fr.refl _ _ _)⟩
theorem ssx_cons (h : SX X Z A st { E with nx := fun A1 => SSX X Z A1 sts E }) : SSX X Z A (st :: sts) E := fun Hf H σ rel xo D k =>
  ⟨_, pss_cons ws wss, h Hf H σ rel xo { D with nx := WSs X sts D } ⟨fun A' σ' Hf' H' q r f => q Hf' H' σ' r (xo.step f) D (k.step f), k.rt, k.bk, k.ct⟩⟩
theorem ssx_one (h : SX X Z A st E) : SSX X Z A [st] E := fun Hf H σ rel xo D k => ⟨_, pss_one ws, h Hf H σ rel xo D k⟩
theorem sx_pass (q : E.nx A) : SX X Z A (.Pass pos) E := fun Hf H σ rel xo D k => ⟨_, ps_pass, k.nx _ _ _ _ q rel (Fr.refl _ _ _)⟩
theorem sx_brk (q : E.bk A) : SX X Z A (.Break pos) E := fun Hf H σ rel xo D k => ⟨_, ps_break, k.bk _ _ _ _ q rel (Fr.refl _ _ _)⟩
theorem sx_cont (q : E.ct A) : SX X Z A (.Continue pos) E := fun Hf H σ rel xo D k => ⟨_, ps_continue, k.ct _ _ _ _ q rel (Fr.refl _ _ _)⟩
theorem sx_ret (h : EX X Z A e E.rt) : SX X Z A (.Return (some e) pos) E := fun Hf H σ rel xo D k => ⟨_, ps_ret we, h Hf H σ rel xo _ fun r A' v Hf' H' q r1 f1 => k.rt _ _ _ _ _ _ q r1 f1⟩
theorem sx_retN (q : E.rt (.dat .non) A) : SX X Z A (.Return none pos) E := fun Hf H σ rel xo D k => ⟨_, ps_retN, k.rt _ _ _ _ _ _ q (rel.consD .non) (Fr.refl _ _ _)⟩
theorem sx_expr (h : EX X Z A e fun _ A1 => E.nx A1) (hs : swapsWith e none pos.line X.env = pure false := by kernel_rfl) : SX X Z A (.Expr e pos) E := fun Hf H σ rel xo D k =>
  ⟨_, ps_expr we hs, h Hf H σ rel xo _ fun r A' v Hf' H' q r1 f1 => k.nx _ _ _ _ q r1.tail (f1.less (owns_tail _ _))⟩
theorem sx_if {c : Expr} (h : TX X Z A c fun t A1 => (t = true → SSX X Z A1 sts E) ∧ (t = false → SSX X Z A1 us E)) : SX X Z A (.If c sts us pos) E := fun Hf H σ rel xo D k =>
  ⟨_, ps_if wt wss wss, h Hf H σ rel xo _ fun c A1 Hf1 H1 ⟨q1, q2⟩ r1 f1 => by
    cases c with
    | true => exact iteT (q1 rfl Hf1 H1 σ r1 (xo.step f1) D (k.step f1))
    | false => exact iteF (q2 rfl Hf1 H1 σ r1 (xo.step f1) D (k.step f1))⟩
theorem sx_set (i : Nat) {x : Str} {pos' : Pos} [c : Cok X] (h : EX X Z A e fun r A1 => E.nx (A1.set i r)) (hN : X.N[i]? = some x := by kernel_rfl) (hx : Loc X.env.scope x := by exact loc_of (by kernel_rfl)) (hs : swapsWith e (some (.Name x pos')) pos.line X.env = pure false := by kernel_rfl)
    (hf : X.fn x = true ∨ X.env.scope.names.lookup x = some .local := by exact fn_B (by kernel_rfl)) : SX X Z A (.Assign [.Name x pos'] e pos) E := fun Hf H σ rel xo D k =>
  ⟨_, ps_set c.nd hN hx we hs hf, h Hf H σ rel xo _ fun r A' v Hf' H' q r1 f1 => by
    obtain ⟨r2, s2⟩ := r1.tail.setA (i := i) (ov := some v) (s := r) r1.head fun p o z => by subst z; exact r1.notTail
    exact k.nx _ _ _ _ q r2 (f1.less s2)⟩
/-- tg = e, tg of any form -/
theorem sx_asg {tg : Expr} (h : ED X Z A e fun d A1 => GX X Z A1 tg (fun _ => true) d E.nx) (hs : swapsWithSole [tg] e pos.line X.env = pure false := by kernel_rfl) (hw : swappedStores [tg] e X.env = pure none := by kernel_rfl)
    (h1 : (assignEach [tg] X.env).map (·.2) = [assign tg X.env] := by kernel_rfl) : SX X Z A (.Assign [tg] e pos) E := fun Hf H σ rel xo D k =>
  ⟨_, ps_asg we wg hs hw h1, h Hf H σ rel xo _ fun d A' v Hf' H' q r1 s1 f1 => q Hf' H' σ v r1 (xo.step f1) s1 _ fun A2 σ2 Hf2 H2 q2 r2 f2 _ _ => k.nx _ _ _ _ q2 r2 (f1.trans f2)⟩
/-- a, b = x, y, two local names -/
theorem sx_par (i j : Nat) {x y : Str} {px py pt : Pos} {kt k2 pt2} [c : Cok X] (h : EA X Z A [a, b] fun ds A1 => ∃ d g, ds = [d, g] ∧ E.nx ((A1.set i (.dat d)).set j (.dat g))) (hi : X.N[i]? = some x := by kernel_rfl) (hj : X.N[j]? = some y := by kernel_rfl) (hij : i ≠ j := by decide)
    (hx : X.env.scope.names.lookup x = some .local := by kernel_rfl) (hy : X.env.scope.names.lookup y = some .local := by kernel_rfl)
    (hw : swappedStores [.Tuple [.Name x px, .Name y py] kt pt] (.Tuple [a, b] k2 pt2) X.env = pure (some [x, y]) := by kernel_rfl)
    (hs : swapsWithSole [.Tuple [.Name x px, .Name y py] kt pt] (.Tuple [a, b] k2 pt2) pos.line X.env = pure false := by kernel_rfl) : SX X Z A (.Assign [.Tuple [.Name x px, .Name y py] kt pt] (.Tuple [a, b] k2 pt2) pos) E := fun Hf H σ rel xo D k =>
  ⟨_, ps_par c.calm c.nd hi hj hij hx hy wa hw hs, h Hf H σ rel xo _ fun ds A' vs Hf' H' ⟨d, g, e, q⟩ r1 s1 f1 => by
    subst e
    obtain ⟨v, u, rfl, g1, g2⟩ := dsl2 s1
    obtain ⟨r2, s2⟩ := r1.setA (i := i) (ov := some v) (s := .dat d) ⟨v, rfl, g1⟩ fun p o z => by cases z
    obtain ⟨r3, s3⟩ := r2.setA (i := j) (ov := some u) (s := .dat g) ⟨u, rfl, g2⟩ fun p o z => by cases z
    exact ⟨v, u, rfl, k.nx _ _ _ _ q r3 (f1.less fun p hp => s2 p (s3 p hp))⟩⟩
/-- x += e and its kin, x a name -/
theorem sx_aug (i : Nat) {x : Str} {pos' : Pos} {op : Operator} {d0 : D} [c : Cok X] (hA : A[i]? = some (.dat d0)) (h : ED X Z A e fun d A1 => OS X A1 (inplaceOp op) d0 d fun r A2 => E.nx (A2.set i r)) (hN : X.N[i]? = some x := by kernel_rfl) (hx : Loc X.env.scope x := by exact loc_of (by kernel_rfl))
    (hf : X.fn x = true ∨ X.env.scope.names.lookup x = some .local := by exact fn_B (by kernel_rfl)) : SX X Z A (.AugAssign (.Name x pos') op e pos) E := fun Hf H σ rel xo D k => by
  obtain ⟨w, h1, h2⟩ := rel.slot (X := X) hA
  have hp : PIp X op (WO X (inplaceOp op)) := fun pins s σ H x y v u Q I rx ry h => wo pins s σ H x y v u Q I rx ry h
  refine ⟨_, ps_aug c.nd hN hx we hp hf, w, h1, h Hf H σ rel xo _ fun d A' v Hf' H' q r1 s1 f1 => go_ans f1 (q Hf' H' σ r1 w v (h2.mono f1.ef) s1) fun r A2 z Hf2 H2 q2 r2 f2 => ?_⟩
  obtain ⟨r3, s3⟩ := r2.tail.setA (i := i) (ov := some z) (s := r) r2.head fun p o z => by subst z; exact r2.notTail
  exact k.nx _ _ _ _ q2 r3 (f2.less s3)
theorem os_iadd {i j : Int} {Q : SD → List SD → Prop} (q : Q (.dat (.int (i + j))) A) : OS X A (inplaceOp .Add) (.int i) (.int j) Q := fun Hf H σ rel v u hv hu R k => ⟨_, iop_add, i, j, ds_int hv, ds_int hu, fin_d rel q (.int _) k⟩
theorem os_isub {i j : Int} {Q : SD → List SD → Prop} (q : Q (.dat (.int (i - j))) A) : OS X A (inplaceOp .Sub) (.int i) (.int j) Q := fun Hf H σ rel v u hv hu R k => ⟨_, iop_sub, i, j, ds_int hv, ds_int hu, fin_d rel q (.int _) k⟩
/-- while: M falls at each turn -/
theorem sx_while {c : Expr} [cx : Cok X] (Inv : Nat → List SD → Prop) (m0 : Nat) (h0 : Inv m0 A)
    (turn : ∀ m A', Inv m A' → TX X Z A' c fun t A1 => (t = true → SSX X Z A1 sts { E with nx := fun A2 => ∃ m', m' < m ∧ Inv m' A2, ct := fun A2 => ∃ m', m' < m ∧ Inv m' A2, bk := E.nx }) ∧ (t = false → E.nx A1)) : SX X Z A (.While c sts [] pos) E := fun Hf H σ rel xo D k => by
  refine ⟨_, ps_while cx.po wt wss, ?_⟩
  refine ⟨fun m σ' H' => ∃ Hf' A', Inv m A' ∧ Rel X.K Hf' H' σ' A' ∧ Fr (owns A) Hf H (owns A') Hf' H', ⟨m0, Hf, A, h0, rel, Fr.refl _ _ _⟩, ?_⟩
  rintro m σ' H' ⟨Hf', A', hI, r, f⟩
  refine turn m A' hI Hf' H' σ' r (xo.step f) _ fun t A1 Hf1 H1 ⟨q1, q2⟩ r1 f1 => ?_
  have f' := f.trans f1
  cases t with
  | false => exact iteF (k.nx _ _ _ _ (q2 rfl) r1 f')
  | true =>
    refine iteT ⟨fun σ2 H2 => ∃ m', m' < m ∧ ∃ Hf2 A2, Inv m' A2 ∧ Rel X.K Hf2 H2 σ2 A2 ∧ Fr (owns A) Hf H (owns A2) Hf2 H2, fun _ _ h => h, q1 rfl Hf1 H1 σ' r1 (xo.step f') _ ⟨?_, ?_, ?_, ?_⟩⟩
    · rintro A2 σ2 Hf2 H2 ⟨m', hm, hI⟩ r2 f2
      exact ⟨m', hm, Hf2, A2, hI, r2, f'.trans f2⟩
    · intro r A2 v σ2 Hf2 H2 q r2 f2
      exact k.rt _ _ _ _ _ _ q r2 (f'.trans f2)
    · intro A2 σ2 Hf2 H2 q r2 f2
      exact k.nx _ _ _ _ q r2 (f'.trans f2)
    · rintro A2 σ2 Hf2 H2 ⟨m', hm, hI⟩ r2 f2
      exact ⟨m', hm, Hf2, A2, hI, r2, f'.trans f2⟩
end
end Y

namespace Y
open PySem L2
variable [I : NmC]

/-! ### what is walked -/
/-- an owned source: its slot, its place, what it holds -/
def guard (g : Option (Nat × Addr × List D)) (A : List SD) : Prop := match g with
  | none => True
  | some (i, p, ds) => A[i]? = some (.own p (.lst ds))
structure Iters (K : PySem.W.Frag) (J : It) (ds : List D) (Hf : Hp) (g : Option (Nat × Addr × List D)) : Prop where
  go : ∀ Hf1 H1 σ1 A1 i, Same Hf Hf1 → Rel K Hf1 H1 σ1 A1 → guard g A1 → i < ds.length → J.go i H1
  stop : ∀ Hf1 H1 σ1 A1, Same Hf Hf1 → Rel K Hf1 H1 σ1 A1 → guard g A1 → J.stop ds.length H1
  yld : ∀ Hf1 H1 σ1 A1 i d x H2, Same Hf Hf1 → Rel K Hf1 H1 σ1 A1 → guard g A1 → ds[i]? = some d → J.yld i H1 x H2 → ∃ Hf2, Rel K Hf2 H2 σ1 A1 ∧ Ds K Hf2 x d ∧ Fr (owns A1) Hf1 H1 (owns A1) Hf2 H2
section
variable {K : PySem.W.Frag} {Hf : Hp} {a b : Addr} {xs ys : List V} {ds es : List D}
theorem iters_l (h1 : SqL K Hf a xs) (h2 : DsL K Hf xs ds) : Iters K (Itl K a) ds Hf none where
  go := fun Hf1 H1 σ1 A1 i e r _ hi => ⟨xs, xs[i]'(by rw [h2.length]; exact hi), (e.trans r.sm).seq h1, by simp [h2.length, hi]⟩
  stop := fun Hf1 H1 σ1 A1 e r _ => ⟨xs, (e.trans r.sm).seq h1, by rw [h2.length]; exact Nat.le_refl _⟩
  yld := fun Hf1 H1 σ1 A1 i d x H2 e r _ hd y => by
    obtain ⟨rfl, q⟩ := y
    obtain ⟨v, v1, v2⟩ := h2.get hd
    have := q xs ((e.trans r.sm).seq h1)
    rw [v1] at this
    cases this
    exact ⟨Hf1, r, v2.mono e, Fr.refl _ _ _⟩
theorem iters_lo {i : Nat} {p : Addr} : Iters K (Itl K p) ds Hf (some (i, p, ds)) where
  go := fun Hf1 H1 σ1 A1 j e r g hi => by
    obtain ⟨xs, h1, h2⟩ := r.olst g
    exact ⟨xs, xs[j]'(by rw [h2.length]; exact hi), .inl (.inl h1), by simp [h2.length, hi]⟩
  stop := fun Hf1 H1 σ1 A1 e r g => by
    obtain ⟨xs, h1, h2⟩ := r.olst g
    exact ⟨xs, .inl (.inl h1), by rw [h2.length]; exact Nat.le_refl _⟩
  yld := fun Hf1 H1 σ1 A1 j d x H2 e r g hd y => by
    obtain ⟨xs, h1, h2⟩ := r.olst g
    obtain ⟨rfl, q⟩ := y
    obtain ⟨v, v1, v2⟩ := h2.get hd
    have := q xs (.inl (.inl h1))
    rw [v1] at this
    cases this
    exact ⟨Hf1, r, v2, Fr.refl _ _ _⟩
theorem iters_t (h1 : SqT K Hf a xs) (h2 : DsL K Hf xs ds) : Iters K (Itt K a) ds Hf none where
  go := fun Hf1 H1 σ1 A1 i e r _ hi => ⟨xs, xs[i]'(by rw [h2.length]; exact hi), seqT (e.trans r.sm) h1, by simp [h2.length, hi]⟩
  stop := fun Hf1 H1 σ1 A1 e r _ => ⟨xs, seqT (e.trans r.sm) h1, by rw [h2.length]; exact Nat.le_refl _⟩
  yld := fun Hf1 H1 σ1 A1 i d x H2 e r _ hd y => by
    obtain ⟨rfl, q⟩ := y
    obtain ⟨v, v1, v2⟩ := h2.get hd
    have := q xs (seqT (e.trans r.sm) h1)
    rw [v1] at this
    cases this
    exact ⟨Hf1, r, v2.mono e, Fr.refl _ _ _⟩
theorem iters_r {lo : Int} {n : Nat} : Iters K (Itr lo n) ((List.range n).map fun i => .int (lo + (i : Nat))) Hf none where
  go := fun Hf1 H1 σ1 A1 i e r _ hi => by
    show i < n
    simpa using hi
  stop := fun Hf1 H1 σ1 A1 e r _ => by
    show n ≤ _
    simp
  yld := fun Hf1 H1 σ1 A1 i d x H2 e r _ hd y => by
    obtain ⟨rfl, rfl⟩ := y
    rw [List.getElem?_map] at hd
    have hn : i < n := by
      by_cases h : i < n
      · exact h
      · rw [List.getElem?_eq_none (by simpa using h)] at hd; cases hd
    rw [List.getElem?_range hn] at hd
    cases hd
    exact ⟨Hf1, r, .int _, Fr.refl _ _ _⟩
/-- a new pair at each turn -/
theorem pair_new {K : PySem.W.Frag} {Hf1 H1 : Hp} {σ1 : List (Option V)} {A1 : List SD} (r : Rel K Hf1 H1 σ1 A1) {T : Addr} {x y : V} {d e : D} (hT : H1 T = none) (hx : Ds K Hf1 x d) (hy : Ds K Hf1 y e) :
    ∃ Hf2, Rel K Hf2 (upd H1 T (.tup [x, y])) σ1 A1 ∧ Ds K Hf2 (.ref T) (.tup [d, e]) ∧ Fr (owns A1) Hf1 H1 (owns A1) Hf2 (upd H1 T (.tup [x, y])) := by
  obtain ⟨r1, f1⟩ := r.newF (o := .tup [x, y]) hT
  exact ⟨_, r1, .tup (.inl (.inl upd_same)) (.cons (hx.mono f1.ef) (.cons (hy.mono f1.ef) .nil)), f1⟩
def zipD (ds es : List D) : List D := List.zipWith (fun d e => .tup [d, e]) ds es
theorem zipD_get {i : Nat} {d : D} (h : (zipD ds es)[i]? = some d) : ∃ x y, ds[i]? = some x ∧ es[i]? = some y ∧ d = .tup [x, y] := by
  unfold zipD at h
  rw [List.getElem?_zipWith] at h
  cases h1 : ds[i]? with
  | none => rw [h1] at h; simp at h
  | some x =>
    cases h2 : es[i]? with
    | none => rw [h1, h2] at h; simp at h
    | some y => rw [h1, h2] at h; simp at h; exact ⟨x, y, rfl, rfl, h.symm⟩
theorem zipD_len : (zipD ds es).length = min ds.length es.length := by unfold zipD; rw [List.length_zipWith]
theorem iters_z (h1 : SqL K Hf a xs) (h2 : DsL K Hf xs ds) (h3 : SqL K Hf b ys) (h4 : DsL K Hf ys es) : Iters K (Itz K a b) (zipD ds es) Hf none where
  go := fun Hf1 H1 σ1 A1 i e r _ hi => by
    rw [zipD_len] at hi
    exact ⟨xs, ys, xs[i]'(by rw [h2.length]; omega), ys[i]'(by rw [h4.length]; omega), (e.trans r.sm).seq h1, (e.trans r.sm).seq h3, by simp, by simp⟩
  stop := fun Hf1 H1 σ1 A1 e r _ => ⟨xs, ys, (e.trans r.sm).seq h1, (e.trans r.sm).seq h3, by rw [zipD_len, h2.length, h4.length]; omega⟩
  yld := fun Hf1 H1 σ1 A1 i d x H2 e r _ hd y => by
    obtain ⟨T, u, v, rfl, hT, rfl, q1, q2⟩ := y
    obtain ⟨dx, dy, g1, g2, rfl⟩ := zipD_get hd
    obtain ⟨u', u1, u2⟩ := h2.get g1
    obtain ⟨v', v1, v2⟩ := h4.get g2
    have e1 := q1 xs ((e.trans r.sm).seq h1)
    have e2 := q2 ys ((e.trans r.sm).seq h3)
    rw [u1] at e1
    rw [v1] at e2
    cases e1
    cases e2
    exact pair_new r hT (u2.mono e) (v2.mono e)
theorem iters_zt (h1 : SqT K Hf a xs) (h2 : DsL K Hf xs ds) (h3 : SqT K Hf b ys) (h4 : DsL K Hf ys es) : Iters K (RZ.ItzT K a b) (zipD ds es) Hf none where
  go := fun Hf1 H1 σ1 A1 i e r _ hi => by
    rw [zipD_len] at hi
    exact ⟨xs, ys, xs[i]'(by rw [h2.length]; omega), ys[i]'(by rw [h4.length]; omega), seqT (e.trans r.sm) h1, seqT (e.trans r.sm) h3, by simp, by simp⟩
  stop := fun Hf1 H1 σ1 A1 e r _ => ⟨xs, ys, seqT (e.trans r.sm) h1, seqT (e.trans r.sm) h3, by rw [zipD_len, h2.length, h4.length]; omega⟩
  yld := fun Hf1 H1 σ1 A1 i d x H2 e r _ hd y => by
    obtain ⟨T, u, v, rfl, hT, rfl, q1, q2⟩ := y
    obtain ⟨dx, dy, g1, g2, rfl⟩ := zipD_get hd
    obtain ⟨u', u1, u2⟩ := h2.get g1
    obtain ⟨v', v1, v2⟩ := h4.get g2
    have e1 := q1 xs (seqT (e.trans r.sm) h1)
    have e2 := q2 ys (seqT (e.trans r.sm) h3)
    rw [u1] at e1
    rw [v1] at e2
    cases e1
    cases e2
    exact pair_new r hT (u2.mono e) (v2.mono e)
def enumD (ds : List D) : List D := (List.range ds.length).map fun i => .tup [.int (i : Nat), ds.getD i .non]
theorem enumD_get {i : Nat} {d : D} (h : (enumD ds)[i]? = some d) : ∃ x, ds[i]? = some x ∧ d = .tup [.int (i : Nat), x] := by
  unfold enumD at h
  rw [List.getElem?_map] at h
  have hn : i < ds.length := by
    by_cases h' : i < ds.length
    · exact h'
    · rw [List.getElem?_eq_none (by simpa using h')] at h; cases h
  rw [List.getElem?_range hn] at h
  cases h
  exact ⟨ds[i], by simp [hn], by simp [hn]⟩
theorem iters_e (h1 : SqL K Hf a xs) (h2 : DsL K Hf xs ds) : Iters K (Ite K a) (enumD ds) Hf none where
  go := fun Hf1 H1 σ1 A1 i e r _ hi => by
    have hi : i < ds.length := by simpa [enumD] using hi
    exact ⟨xs, xs[i]'(by rw [h2.length]; exact hi), (e.trans r.sm).seq h1, by simp⟩
  stop := fun Hf1 H1 σ1 A1 e r _ => ⟨xs, (e.trans r.sm).seq h1, by rw [h2.length]; simp [enumD]⟩
  yld := fun Hf1 H1 σ1 A1 i d x H2 e r _ hd y => by
    obtain ⟨T, u, rfl, hT, rfl, q1⟩ := y
    obtain ⟨dx, g1, rfl⟩ := enumD_get hd
    obtain ⟨u', u1, u2⟩ := h2.get g1
    have e1 := q1 xs ((e.trans r.sm).seq h1)
    rw [u1] at e1
    cases e1
    exact pair_new r hT (.int _) (u2.mono e)
end
def EI (X : Cx) (Z : ZZ) (A : List SD) (tg iter : Expr) (Q : List D → Option (Nat × Addr × List D) → List SD → Prop) : Prop :=
  ∀ Hf H σ, Rel X.K Hf H σ A → XOk X Z (owns A) Hf H → ∀ R : It → Hp → Prop, (∀ ds g A' J Hf' H', Q ds g A' → Rel X.K Hf' H' σ A' → Fr (owns A) Hf H (owns A') Hf' H' → Iters X.K J ds Hf' g → R J H') → WI X tg iter σ H R
section
variable {X : Cx} {Z : ZZ} {A : List SD} {tg e a b : Expr} {es : List Expr} {pos : Pos} {Q : List D → Option (Nat × Addr × List D) → List SD → Prop}
theorem ei_l (h : ED X Z A e fun d A1 => ∃ ds, (d = .lst ds ∨ d = .rls ds) ∧ Q ds none A1) : EI X Z A tg e Q := fun Hf H σ rel xo R k =>
  ⟨_, pi_list we, h Hf H σ rel xo _ fun d A1 v Hf1 H1 ⟨ds, e, q⟩ r1 s1 f1 => by
    rcases e with rfl | rfl
    · obtain ⟨p, xs, rfl, h1, h2⟩ := ds_lst s1
      exact ⟨p, rfl, ⟨xs, .inl (.inl (r1.sm _ _ h1))⟩, k _ _ _ _ _ _ q r1 f1 (iters_l (.inl (.inl h1)) h2)⟩
    · cases s1 with
      | rls h1 h2 => exact ⟨_, rfl, ⟨_, r1.sm.seq h1⟩, k _ _ _ _ _ _ q r1 f1 (iters_l h1 h2)⟩⟩
theorem ei_t (h : ED X Z A e fun d A1 => ∃ ds, d = .tup ds ∧ Q ds none A1) : EI X Z A tg e Q := fun Hf H σ rel xo R k =>
  ⟨_, pi_tup we, h Hf H σ rel xo _ fun d A1 v Hf1 H1 ⟨ds, e, q⟩ r1 s1 f1 => by
    subst e
    obtain ⟨p, xs, rfl, h1, h2⟩ := ds_tup s1
    exact ⟨p, rfl, ⟨xs, seqT r1.sm h1⟩, k _ _ _ _ _ _ q r1 f1 (iters_t h1 h2)⟩⟩
/-- an owned list, walked as it stands -/
theorem ei_o (i : Nat) {x : Str} {p : Addr} {ds : List D} (hA : A[i]? = some (.own p (.lst ds))) (q : Q ds (some (i, p, ds)) A) (hN : X.N[i]? = some x := by kernel_rfl) (hv : Vis X.env.scope x := by exact vis_of (by kernel_rfl))
    (hdb : (x == ("__debug__" : Str)) = false := by kernel_rfl) (hcd : (x == ("__classdict__" : Str)) = false := by kernel_rfl) : EI X Z A tg (.Name x pos) Q := fun Hf H σ rel xo R k => by
  obtain ⟨xs, h1, h2⟩ := rel.olst hA
  exact ⟨_, pi_list (pe_var hN hv hdb hcd), _, rel.ref hA, p, rfl, ⟨xs, .inl (.inl h1)⟩, k _ _ _ _ _ _ q rel (Fr.refl _ _ _) iters_lo⟩
theorem ei_r1 {p : Pos} [c : Cok X] (h : ED X Z A a fun d A1 => ∃ n : Int, d = .int n ∧ (-1000000 ≤ n ∧ n ≤ 1000000) ∧ Q ((List.range n.toNat).map fun i => .int ((i : Nat) : Int)) none A1) (hg : Gl X "range" := by exact gl_of (by kernel_rfl)) (hs : starEach [a] X.env = [(false, eval a X.env)] := by kernel_rfl) :
    EI X Z A tg (.Call (.Name "range" p) [a] [] pos) Q := fun Hf H σ rel xo R k =>
  ⟨_, pi_range1 hg (c.no _ (by decide)) (pa_cons we pa_nil hs) hs, h Hf H σ rel xo _ fun d A1 v Hf1 H1 ⟨n, e, hn, q⟩ r1 s1 f1 => by
    subst e
    cases ds_int s1
    refine ⟨n, rfl, by omega, by omega, k _ _ _ _ _ _ q r1 f1 ?_⟩
    have := iters_r (K := X.K) (Hf := Hf1) (lo := 0) (n := n.toNat)
    simpa using this⟩
theorem ei_r2 {p : Pos} [c : Cok X] (h : EA X Z A [a, b] fun ds A1 => ∃ l n : Int, ds = [.int l, .int n] ∧ (-1000000 ≤ l ∧ l ≤ 1000000 ∧ -1000000 ≤ n ∧ n ≤ 1000000) ∧ Q ((List.range (n - l).toNat).map fun i => .int (l + ((i : Nat) : Int))) none A1) (hg : Gl X "range" := by exact gl_of (by kernel_rfl))
    (hs : starEach [a, b] X.env = [(false, eval a X.env), (false, eval b X.env)] := by kernel_rfl) (hs2 : starEach [b] X.env = [(false, eval b X.env)] := by kernel_rfl) : EI X Z A tg (.Call (.Name "range" p) [a, b] [] pos) Q := fun Hf H σ rel xo R k =>
  ⟨_, pi_range2 hg (c.no _ (by decide)) wa hs hs2, h Hf H σ rel xo _ fun d A1 v Hf1 H1 ⟨l, n, e, hn, q⟩ r1 s1 f1 => by
    subst e
    obtain ⟨v, u, rfl, g1, g2⟩ := dsl2 s1
    cases ds_int g1
    cases ds_int g2
    exact ⟨l, n, rfl, by omega, k _ _ _ _ _ _ q r1 f1 iters_r⟩⟩
theorem ei_z {p : Pos} {elts : List Expr} {kk : Nat} {tpos : Pos} [c : Cok X] (h : EA X Z A [a, b] fun ds A1 => ∃ xs ys, ((ds = [.lst xs, .lst ys]) ∨ (ds = [.tup xs, .tup ys])) ∧ Q (zipD xs ys) none A1) (hg : Gl X "zip" := by exact gl_of (by kernel_rfl))
    (hs : starEach [a, b] X.env = (false, eval a X.env) :: starEach [b] X.env := by kernel_rfl) (hpl : (backTo pos (starEach [b] X.env)).any (·.1) = false := by kernel_rfl) : EI X Z A (.Tuple elts kk tpos) (.Call (.Name "zip" p) [a, b] [] pos) Q := fun Hf H σ rel xo R k =>
  ⟨_, RZ.pi_zipA hg (c.no _ (by decide)) wa hs hpl, h Hf H σ rel xo _ fun d A1 v Hf1 H1 ⟨xs, ys, e, q⟩ r1 s1 f1 => by
    rcases e with rfl | rfl
    · obtain ⟨v, u, rfl, g1, g2⟩ := dsl2 s1
      obtain ⟨x, us, rfl, h1, h2⟩ := ds_lst g1
      obtain ⟨y, ws, rfl, h3, h4⟩ := ds_lst g2
      exact ⟨x, y, us, ws, rfl, .inl ⟨.inl (.inl (r1.sm _ _ h1)), .inl (.inl (r1.sm _ _ h3)), k _ _ _ _ _ _ q r1 f1 (iters_z (.inl (.inl h1)) h2 (.inl (.inl h3)) h4)⟩⟩
    · obtain ⟨v, u, rfl, g1, g2⟩ := dsl2 s1
      obtain ⟨x, us, rfl, h1, h2⟩ := ds_tup g1
      obtain ⟨y, ws, rfl, h3, h4⟩ := ds_tup g2
      exact ⟨x, y, us, ws, rfl, .inr ⟨seqT r1.sm h1, seqT r1.sm h3, k _ _ _ _ _ _ q r1 f1 (iters_zt h1 h2 h3 h4)⟩⟩⟩
theorem ei_e {p : Pos} {elts : List Expr} {kk : Nat} {tpos : Pos} [c : Cok X] (h : ED X Z A a fun d A1 => ∃ xs, d = .lst xs ∧ Q (enumD xs) none A1) (hg : Gl X "enumerate" := by exact gl_of (by kernel_rfl)) (hs : starEach [a] X.env = [(false, eval a X.env)] := by kernel_rfl) : EI X Z A (.Tuple elts kk tpos) (.Call (.Name "enumerate" p) [a] [] pos) Q := fun Hf H σ rel xo R k =>
  ⟨_, pi_enum hg (c.no _ (by decide)) (pa_cons we pa_nil hs) hs, h Hf H σ rel xo _ fun d A1 v Hf1 H1 ⟨xs, e, q⟩ r1 s1 f1 => by
    subst e
    obtain ⟨x, us, rfl, h1, h2⟩ := ds_lst s1
    exact ⟨x, us, rfl, .inl (.inl (r1.sm _ _ h1)), k _ _ _ _ _ _ q r1 f1 (iters_e (.inl (.inl h1)) h2)⟩⟩
end
/-! ### for -/
section
variable {X : Cx} {Z : ZZ} {A : List SD} {tg e a b : Expr} {pos : Pos} {E : AE} {sts : List Stmt}
theorem sx_for [c : Cok X] (h : EI X Z A tg e fun ds g A1 => ∃ In : Nat → List SD → Prop, In 0 A1 ∧ (∀ i A', i ≤ ds.length → In i A' → guard g A') ∧
      (∀ i d A', ds[i]? = some d → In i A' → GX X Z A' tg (fun _ => true) d fun A2 => SSX X Z A2 sts { E with nx := In (i + 1), ct := In (i + 1), bk := E.nx }) ∧ (∀ A', In ds.length A' → E.nx A'))
    (hs : ∀ x, foldedSetIterable e X.env x = pure x := by intro _; kernel_rfl) : SX X Z A (.For tg e sts [] pos) E := fun Hf H σ rel xo D k => by
  refine ⟨_, ps_for c.po c.calm wi wg wss hs, h Hf H σ rel xo _ fun ds g A1 J Hf1 H1 ⟨In, i0, ig, turn, fin⟩ r1 f1 it => ?_⟩
  refine ⟨fun i m σ' H' => m = ds.length - i ∧ i ≤ ds.length ∧ ∃ Hf' A', In i A' ∧ Rel X.K Hf' H' σ' A' ∧ Fr (owns A1) Hf1 H1 (owns A') Hf' H', ⟨_, rfl, Nat.zero_le _, Hf1, A1, i0, r1, Fr.refl _ _ _⟩, ?_⟩
  rintro i m σ' H' ⟨rfl, hi, Hf', A', hI, r, f⟩
  by_cases hlt : i < ds.length
  · refine .inr ⟨it.go Hf' H' σ' A' i f.ef r (ig i A' hi hI) hlt, fun σ2 H2 => ∃ Hf2 A2, In (i + 1) A2 ∧ Rel X.K Hf2 H2 σ2 A2 ∧ Fr (owns A1) Hf1 H1 (owns A2) Hf2 H2, fun σ2 H2 ⟨Hf2, A2, q, r2, f2⟩ => ⟨ds.length - (i + 1), by omega, rfl, hlt, Hf2, A2, q, r2, f2⟩, fun x H2 y => ?_⟩
    have hd : ds[i]? = some ds[i] := by simp [hlt]
    obtain ⟨Hf2, r2, s2, f2⟩ := it.yld Hf' H' σ' A' i _ x H2 f.ef r (ig i A' hi hI) hd y
    have f' := f.trans f2
    refine turn i _ A' hd hI Hf2 H2 σ' x r2 (xo.step (f1.trans f')) s2 _ fun A3 σ3 Hf3 H3 q3 r3 f3 _ _ => ?_
    have f'' := f'.trans f3
    refine q3 Hf3 H3 σ3 r3 (xo.step (f1.trans f'')) _ ⟨?_, ?_, ?_, ?_⟩
    · intro A4 σ4 Hf4 H4 q r4 f4
      exact ⟨Hf4, A4, q, r4, f''.trans f4⟩
    · intro v A4 u σ4 Hf4 H4 q r4 f4
      exact k.rt _ _ _ _ _ _ q r4 (f1.trans (f''.trans f4))
    · intro A4 σ4 Hf4 H4 q r4 f4
      exact k.nx _ _ _ _ q r4 (f1.trans (f''.trans f4))
    · intro A4 σ4 Hf4 H4 q r4 f4
      exact ⟨Hf4, A4, q, r4, f''.trans f4⟩
  · have e : i = ds.length := by omega
    subst e
    exact .inl ⟨it.stop Hf' H' σ' A' f.ef r (ig _ A' hi hI), k.nx _ _ _ _ (fin A' hI) r (f1.trans f)⟩
end
end Y

namespace Y
open PySem L2
variable [I : NmC]

/-! ### slots of a comprehension's own names -/
def wipeA (A : List SD) : List Nat → List SD
  | [] => A
  | v :: vs => (wipeA A vs).set v .any
def strip : Option SD → SD
  | some (.dat d) => .dat d
  | _ => .any
/-- A' behind a comprehension: its own names are again what they were in A -/
def restA (A A' : List SD) : List Nat → List SD
  | [] => A'
  | v :: vs => (restA A A' vs).set v (strip A[v]?)
theorem wipe_at (σ : St) (j : Nat) : ∀ vs : List Nat, (wipe σ vs)[j]? = if j ∈ vs then σ[j]?.map (fun _ => none) else σ[j]?
  | [] => by simp [wipe]
  | v :: vs => by
    unfold wipe
    by_cases h : v = j
    · subst h
      rw [if_pos List.mem_cons_self]
      by_cases hl : v < σ.length
      · rw [List.getElem?_set_self (by rw [wipe_length]; exact hl), List.getElem?_eq_getElem hl]; rfl
      · rw [List.getElem?_eq_none (by rw [List.length_set, wipe_length]; omega), List.getElem?_eq_none (by omega)]; rfl
    · rw [List.getElem?_set_ne h, wipe_at σ j vs]
      by_cases hm : j ∈ vs
      · rw [if_pos hm, if_pos (List.mem_cons_of_mem _ hm)]
      · rw [if_neg hm, if_neg (by simp only [List.mem_cons, not_or]; exact ⟨fun e => h e.symm, hm⟩)]
theorem restA_len (A A' : List SD) : ∀ vs, (restA A A' vs).length = A'.length
  | [] => rfl
  | v :: vs => by unfold restA; rw [List.length_set, restA_len A A' vs]
theorem restA_at (A A' : List SD) (j : Nat) : ∀ vs : List Nat, (restA A A' vs)[j]? = if j ∈ vs then A'[j]?.map (fun _ => strip A[j]?) else A'[j]?
  | [] => by simp [restA]
  | v :: vs => by
    unfold restA
    by_cases h : v = j
    · subst h
      rw [if_pos List.mem_cons_self]
      by_cases hl : v < A'.length
      · rw [List.getElem?_set_self (by rw [restA_len]; exact hl), List.getElem?_eq_getElem hl]; rfl
      · rw [List.getElem?_eq_none (by rw [List.length_set, restA_len]; omega), show A'[v]? = none from List.getElem?_eq_none (by omega)]; rfl
    · rw [List.getElem?_set_ne h, restA_at A A' j vs]
      by_cases hm : j ∈ vs
      · rw [if_pos hm, if_pos (List.mem_cons_of_mem _ hm)]
      · rw [if_neg hm, if_neg (by simp only [List.mem_cons, not_or]; exact ⟨fun e => h e.symm, hm⟩)]
theorem owns_sub {s : SD} (hs : ∀ p o, s ≠ .own p o) : ∀ (l : List SD) (i : Nat), (owns (l.set i s)).Sublist (owns l)
  | [], _ => List.Sublist.refl _
  | y :: l, 0 => by
    show (owns (s :: l)).Sublist (owns (y :: l))
    cases s with
    | own p o => exact absurd rfl (hs p o)
    | any => cases y with
      | any => exact List.Sublist.refl _
      | dat d => exact List.Sublist.refl _
      | own q w => exact List.sublist_cons_self _ _
    | dat e => cases y with
      | any => exact List.Sublist.refl _
      | dat d => exact List.Sublist.refl _
      | own q w => exact List.sublist_cons_self _ _
  | y :: l, i + 1 => by
    have ih := owns_sub hs l i
    show (owns (y :: l.set i s)).Sublist (owns (y :: l))
    cases y with
    | any => exact ih
    | dat d => exact ih
    | own q w => exact List.Sublist.cons_cons _ ih
theorem strip_no (o : Option SD) : ∀ p w, strip o ≠ .own p w := fun p w h => by
  cases o with
  | none => cases h
  | some s => cases s <;> cases h
theorem owns_rest (A A' : List SD) : ∀ vs, (owns (restA A A' vs)).Sublist (owns A')
  | [] => List.Sublist.refl _
  | v :: vs => (owns_sub (strip_no _) _ _).trans (owns_rest A A' vs)
theorem owns_wipe (A : List SD) : ∀ vs, (owns (wipeA A vs)).Sublist (owns A)
  | [] => List.Sublist.refl _
  | v :: vs => (owns_sub (fun _ _ h => by cases h) _ _).trans (owns_wipe A vs)
section
variable {K : PySem.W.Frag} {Hf H Hf' H' : Hp} {σ : List (Option V)} {A A' : List SD}
theorem Rel.wipe (r : Rel K Hf H σ A) : ∀ vs, Rel K Hf H (L2.wipe σ vs) (wipeA A vs)
  | [] => r
  | v :: vs => (Rel.wipe r vs |>.setA (i := v) (ov := none) (s := .any) trivial fun _ _ e => by cases e).1
theorem Fr.wipe (vs : List Nat) : Fr (owns A) Hf H (owns (wipeA A vs)) Hf H := (Fr.refl _ _ _).less fun p hp => (owns_wipe A vs).subset hp
theorem Rel.rest {vs : List Nat} (r : Rel K Hf H σ A) (r' : Rel K Hf' H' (L2.wipe σ vs) A') (e : Same Hf Hf') : Rel K Hf' H' σ (restA A A' vs) := by
  have hl : σ.length = A'.length := by rw [← Paired.length r'.al, wipe_length]
  refine ⟨r'.sm, Paired.ofGet (by rw [restA_len]; exact hl) fun j a b ha hb => ?_, List.Nodup.sublist (owns_rest A A' vs) r'.nd, r'.nt⟩
  rw [restA_at] at hb
  by_cases hj : j ∈ vs
  · rw [if_pos hj] at hb
    cases hA' : A'[j]? with
    | none => rw [hA'] at hb; cases hb
    | some s' =>
      rw [hA'] at hb
      cases hb
      cases hA : A[j]? with
      | none => exact trivial
      | some s =>
        cases s with
        | any => exact trivial
        | own p o => exact trivial
        | dat d =>
          obtain ⟨ov, h1, v, h2, h3⟩ := Paired.at r.al hA
          rw [ha] at h1
          cases h1
          exact ⟨v, h2, h3.mono e⟩
  · rw [if_neg hj] at hb
    obtain ⟨ov, h1, h2⟩ := Paired.at r'.al hb
    rw [wipe_at, if_neg hj, ha] at h1
    cases h1
    exact h2
end
theorem wipe_same {σ σ2 : St} {vs : List Nat} (h : ∀ j, j ∉ vs → σ2[j]? = (wipe σ vs)[j]?) (hl : σ2.length = σ.length) : wipe σ2 vs = wipe σ vs := by
  apply List.ext_getElem?
  intro j
  rw [wipe_at, wipe_at]
  by_cases hj : j ∈ vs
  · rw [if_pos hj, if_pos hj]
    by_cases hl2 : j < σ.length
    · rw [List.getElem?_eq_getElem hl2, List.getElem?_eq_getElem (by omega)]; rfl
    · rw [List.getElem?_eq_none (by omega), List.getElem?_eq_none (by omega)]
  · rw [if_neg hj, if_neg hj, h j hj, wipe_at, if_neg hj]

/-! ### the block of a comprehension -/
abbrev Bk (X : Cx) (scope : Scope) (s : Shared) (H : Hp) (C : Addr) (cl : List (Str × Addr)) (fp : List Addr) : Cx := X.blk s H scope (compEnvC scope cl C X.env) fp
def WGb (X : Cx) (scope : Scope) (tg : Expr) : TG := fun v σ H Q => ∀ s H0 C cl fp, WG (Bk X scope s H0 C cl fp) tg v σ H Q
def WTb (X : Cx) (scope : Scope) (ifs : List Expr) : TT := fun σ H Q => ∀ s H0 C cl fp, WTs (Bk X scope s H0 C cl fp) ifs σ H Q
def WEb (X : Cx) (scope : Scope) (elt : Expr) : TE := fun σ H Q => ∀ s H0 C cl fp, WE (Bk X scope s H0 C cl fp) elt σ H Q
def EXt (X : Cx) (Z : ZZ) (A : List SD) (t : TE) (Q : SD → List SD → Prop) : Prop :=
  ∀ Hf H σ, Rel X.K Hf H σ A → XOk X Z (owns A) Hf H → ∀ R : VK, (∀ r A' v Hf' H', Q r A' → Rel X.K Hf' H' (some v :: σ) (r :: A') → Fr (owns A) Hf H (owns (r :: A')) Hf' H' → R v H') → t σ H R
section
variable {X : Cx} {Z : ZZ} {A : List SD} {tg e a b elt iter c : Expr} {es ifs : List Expr} {pos : Pos} {scope : Scope}
theorem txs_nil {Q : Bool → List SD → Prop} (q : Q true A) : TXs X Z A [] Q := fun Hf H σ rel xo R k => ⟨_, pts_nil, k _ _ _ _ q rel (Fr.refl _ _ _)⟩
theorem txs_one {Q : Bool → List SD → Prop} (h : TX X Z A c Q) : TXs X Z A [c] Q := fun Hf H σ rel xo R k => ⟨_, pts_one wt, h Hf H σ rel xo _ k⟩
/-- what is asked of a walk over ds that makes a list: In by the turn, the list so far, the slots -/
def LcBody (X : Cx) (Z : ZZ) (scope : Scope) (elt tg : Expr) (ifs : List Expr) (vs : List Nat) (Q : SD → List SD → Prop) (ds : List D) (g : Option (Nat × Addr × List D)) (A1 : List SD) : Prop :=
  ds.length ≤ 1000000 ∧ ∃ In : Nat → List D → List SD → Prop, In 0 [] (wipeA A1 vs) ∧ (∀ i acc A', i ≤ ds.length → In i acc A' → guard g A') ∧
    (∀ i d acc A', ds[i]? = some d → In i acc A' → ∀ s H0 C cl fp, GX (Bk X scope s H0 C cl fp) Z.o A' tg (fun j => vs.contains j) d fun A2 => ∀ s H0 C cl fp, TXs (Bk X scope s H0 C cl fp) Z.o A2 ifs fun t A3 =>
      (t = true → ∀ s H0 C cl fp, ED (Bk X scope s H0 C cl fp) Z.o A3 elt fun y A4 => In (i + 1) (acc ++ [y]) (wipeA A4 vs)) ∧ (t = false → In (i + 1) acc (wipeA A3 vs))) ∧
    ∀ acc A', In ds.length acc A' → ∀ p, Q (.own p (.lst acc)) (restA A1 A' vs)
/-- what is asked of [elt for tg in iter if ..] -/
def LcAsk (X : Cx) (Z : ZZ) (A : List SD) (scope : Scope) (elt tg iter : Expr) (ifs : List Expr) (vs : List Nat) (Q : SD → List SD → Prop) : Prop := EI X Z A tg iter (LcBody X Z scope elt tg ifs vs Q)
theorem lc_ext {vs : List Nat} {Q : SD → List SD → Prop} (h : LcAsk X Z A scope elt tg iter ifs vs Q) : EXt X Z A (tLc (WI X tg iter) (WGb X scope tg) (WTb X scope ifs) (WEb X scope elt) vs) Q := fun Hf H σ rel xo R k =>
  h Hf H σ rel xo _ fun ds g A1 J Hf1 H1 ⟨hz, In, i0, ig, turn, fin⟩ r1 f1 it Dl hD => by
    obtain ⟨rn, fn, nf, no⟩ := r1.newO (o := .lst []) hD
    have rw0 : Rel X.K Hf1 (upd H1 Dl (.lst [])) (some (.ref Dl) :: L2.wipe σ vs) (.own Dl (.lst []) :: wipeA A1 vs) :=
      (rn.wipe vs).cons ⟨rfl, nf, [], upd_same, .nil⟩ fun p o e hp => by cases e; exact no ((owns_wipe A1 vs).subset hp)
    have f0 : Fr (owns A1) Hf1 H1 (owns (.own Dl (.lst []) :: wipeA A1 vs)) Hf1 (upd H1 Dl (.lst [])) := fn.less fun p hp => by
      rcases List.mem_cons.mp hp with rfl | hp
      · exact List.mem_cons_self
      · exact List.mem_cons_of_mem _ ((owns_wipe A1 vs).subset hp)
    refine ⟨fun i m H' => m = ds.length - i ∧ i ≤ ds.length ∧ ∃ Hf' acc A', In i acc A' ∧ acc.length ≤ i ∧ Rel X.K Hf' H' (some (.ref Dl) :: L2.wipe σ vs) (.own Dl (.lst acc) :: A') ∧ Fr (owns A1) Hf1 H1 (owns (.own Dl (.lst acc) :: A')) Hf' H',
      ⟨_, rfl, Nat.zero_le _, Hf1, [], wipeA A1 vs, i0, Nat.le_refl _, rw0, f0⟩, ?_⟩
    rintro i m H' ⟨rfl, hi, Hf', acc, A', hI, hacc, r, f⟩
    by_cases hlt : i < ds.length
    · refine .inr ⟨it.go Hf' H' _ A' i f.ef r.tail (ig i acc A' hi hI) hlt, fun H2 => ∃ Hf2 acc2 A2, In (i + 1) acc2 A2 ∧ acc2.length ≤ i + 1 ∧ Rel X.K Hf2 H2 (some (.ref Dl) :: L2.wipe σ vs) (.own Dl (.lst acc2) :: A2) ∧ Fr (owns A1) Hf1 H1 (owns (.own Dl (.lst acc2) :: A2)) Hf2 H2,
        fun H2 ⟨Hf2, acc2, A2, q, hl2, r2, f2⟩ => ⟨ds.length - (i + 1), by omega, rfl, hlt, Hf2, acc2, A2, q, hl2, r2, f2⟩, fun x H2 y => ?_⟩
      have hd : ds[i]? = some ds[i] := by simp [hlt]
      obtain ⟨Hf2, r2, s2, f2⟩ := it.yld Hf' H' _ A' i _ x H2 f.ef r.tail (ig i acc A' hi hI) hd y
      have r2c := r.frame r2 f2
      have f2c := f.trans (Fr.frame r f2)
      intro s H0 C cl fp
      refine turn i _ acc A' hd hI s H0 C cl fp Hf2 H2 _ x r2 (xo.step (f1.trans f2c)).zero s2 _ fun A3 σ3 Hf3 H3 q3 r3 f3 u3 l3 => ?_
      have r3c := r2c.frame r3 f3
      have f3c := f2c.trans (Fr.frame r2c f3)
      have ew : L2.wipe σ3 vs = L2.wipe σ vs := wipe_same (fun j hj => u3 j (by simpa using hj)) (by rw [l3, wipe_length])
      refine ⟨ew, fun s H0 C cl fp => q3 s H0 C cl fp Hf3 H3 σ3 r3 (xo.step (f1.trans f3c)).zero _ fun t A4 Hf4 H4 ⟨q4, q4'⟩ r4 f4 => ?_⟩
      have r4c := r3c.frame r4 f4
      have f4c := f3c.trans (Fr.frame r3c f4)
      cases t with
      | false =>
        refine iteF ⟨Hf4, acc, wipeA A4 vs, q4' rfl, by omega, ?_, f4c.less fun p hp => ?_⟩
        · have := r4.wipe vs
          rw [ew] at this
          exact this.cons r4c.head fun p o e hp => by cases e; exact r4c.notTail ((owns_wipe A4 vs).subset hp)
        · rcases List.mem_cons.mp hp with rfl | hp
          · exact List.mem_cons_self
          · exact List.mem_cons_of_mem _ ((owns_wipe A4 vs).subset hp)
      | true =>
        refine iteT fun s H0 C cl fp => q4 rfl s H0 C cl fp Hf4 H4 σ3 r4 (xo.step (f1.trans f4c)).zero _ fun d A5 v Hf5 H5 q5 r5 s5 f5 => ?_
        have r5c := r4c.frame r5 f5
        have f5c := f4c.trans (Fr.frame r4c f5)
        obtain ⟨xs, h1, h2⟩ := r5c.olst (i := 0) rfl
        obtain ⟨r6, f6⟩ := r5c.upd (i := 0) (u := .lst (xs ++ [v])) (o2 := .lst (acc ++ [d])) rfl ⟨_, upd_same, h2.append (.cons s5 .nil)⟩
        have r6 : Rel X.K Hf5 (upd H5 Dl (.lst (xs ++ [v]))) (some (.ref Dl) :: σ3) (.own Dl (.lst (acc ++ [d])) :: A5) := r6
        refine ⟨xs, h1, by rw [h2.length]; exact Nat.lt_of_lt_of_le (Nat.lt_of_le_of_lt hacc hlt) (mil hz), Hf5, acc ++ [d], wipeA A5 vs, q5, by rw [List.length_append, List.length_singleton]; omega, ?_, (f5c.trans f6).less fun p hp => ?_⟩
        · have := r6.tail.wipe vs
          rw [ew] at this
          exact this.cons r6.head fun p o e hp => by cases e; exact r6.notTail ((owns_wipe A5 vs).subset hp)
        · rcases List.mem_cons.mp hp with rfl | hp
          · exact List.mem_cons_self
          · exact List.mem_cons_of_mem _ ((owns_wipe A5 vs).subset hp)
    · have e : i = ds.length := by omega
      subst e
      refine .inl ⟨it.stop Hf' H' _ A' f.ef r.tail (ig _ acc A' hi hI), ?_⟩
      have rr := r1.rest r.tail f.ef
      refine k _ _ _ _ _ (fin acc A' hI Dl) (rr.cons r.head fun p o e hp => by cases e; exact r.notTail ((owns_rest A1 A' vs).subset hp)) ((f1.trans f).less fun p hp => ?_)
      rcases List.mem_cons.mp hp with rfl | hp
      · exact List.mem_cons_self
      · exact List.mem_cons_of_mem _ ((owns_rest A1 A' vs).subset hp)
theorem ex_lc (own : List (Str × Nat)) {Q : SD → List SD → Prop} [cx : Cok X] (h : LcAsk X Z A scope elt tg iter ifs (own.map (·.2)) Q) (ok : BlkOk X.N X.env.scope scope own := by exact blkOk_by (by kernel_rfl)) (hs : ∀ x, foldedSetIterable iter X.env x = pure x := by intro _; kernel_rfl) :
    EX X Z A (.ListComp elt [⟨tg, iter, ifs, 0⟩] scope pos) Q := fun Hf H σ rel xo R k =>
  ⟨_, pe_lc cx.calm cx.nd wi ok (fun s H C cl fp => ⟨fun pins sh σ H v u Q I r h => wg.run pins sh σ H v u Q I r (h _ _ _ _ _)⟩) (fun s H C cl fp => ⟨fun pins sh σ H Q I h => wts.run pins sh σ H Q I (h _ _ _ _ _)⟩)
    (fun s H C cl fp => ⟨fun pins sh σ H Q I h => we.run pins sh σ H Q I (h _ _ _ _ _)⟩) hs, lc_ext h Hf H σ rel xo R k⟩
/-- x = [..], on one line, x a local -/
theorem sx_setLc (i : Nat) {x : Str} {px : Pos} {spos : Pos} {E : AE} (own : List (Str × Nat)) [cx : Cok X] (h : LcAsk X Z A scope elt tg iter ifs (own.map (·.2)) fun r A1 => E.nx (A1.set i r)) (hN : X.N[i]? = some x := by kernel_rfl) (hxl : X.env.scope.names.lookup x = some .local := by kernel_rfl)
    (hsw : swapsWith (.ListComp elt [⟨tg, iter, ifs, 0⟩] scope pos) (some (.Name x px)) spos.line X.env = pure true := by exact sw_true (by kernel_rfl) (by kernel_rfl) (by kernel_rfl) (by kernel_rfl))
    (ok : BlkOk X.N X.env.scope scope own := by exact blkOk_by (by kernel_rfl)) (hs : ∀ x, foldedSetIterable iter X.env x = pure x := by intro _; kernel_rfl) :
    SX X Z A (.Assign [.Name x px] (.ListComp elt [⟨tg, iter, ifs, 0⟩] scope pos) spos) E := fun Hf H σ rel xo D k =>
  ⟨_, ps_setLc cx.calm cx.nd hN hxl hsw wi ok (fun s H C cl fp => ⟨fun pins sh σ H v u Q I r h => wg.run pins sh σ H v u Q I r (h _ _ _ _ _)⟩) (fun s H C cl fp => ⟨fun pins sh σ H Q I h => wts.run pins sh σ H Q I (h _ _ _ _ _)⟩)
    (fun s H C cl fp => ⟨fun pins sh σ H Q I h => we.run pins sh σ H Q I (h _ _ _ _ _)⟩) hs, lc_ext h Hf H σ rel xo _ fun r A' v Hf' H' q r1 f1 => by
    obtain ⟨r2, s2⟩ := r1.tail.setA (i := i) (ov := some v) (s := r) r1.head fun p o z => by subst z; exact r1.notTail
    exact k.nx _ _ _ _ q r2 (f1.less s2)⟩
/-- a comprehension that changes nothing: over zs, told by F; f what it makes -/
theorem lc_map {vs : List Nat} {Q : SD → List SD → Prop} {α : Type} (zs : List α) (F : α → D) (f : α → D) {g : Option (Nat × Addr × List D)} {A1 : List SD} (hz : zs.length ≤ 1000000) (hg : guard g (wipeA A1 vs))
    (turn : ∀ z ∈ zs, ∀ s H0 C cl fp, GX (Bk X scope s H0 C cl fp) Z.o (wipeA A1 vs) tg (fun j => vs.contains j) (F z) fun A2 => ∀ s H0 C cl fp, ED (Bk X scope s H0 C cl fp) Z.o A2 elt fun y A4 => y = f z ∧ wipeA A4 vs = wipeA A1 vs)
    (fin : ∀ p, Q (.own p (.lst (zs.map f))) (restA A1 (wipeA A1 vs) vs)) :
    LcBody X Z scope elt tg [] vs Q (zs.map F) g A1 := by
  refine ⟨by simpa using hz, fun i acc A' => A' = wipeA A1 vs ∧ acc = (zs.take i).map f, ⟨rfl, rfl⟩, fun i acc A' _ h => by rw [h.1]; exact hg, ?_, ?_⟩
  · rintro i d acc A' hd ⟨rfl, rfl⟩ s H0 C cl fp
    rw [List.getElem?_map] at hd
    cases hzi : zs[i]? with
    | none => rw [hzi] at hd; cases hd
    | some z =>
      rw [hzi] at hd
      cases hd
      have hm : z ∈ zs := List.mem_of_getElem? hzi
      intro Hf H σ v rel xo hv R k
      refine turn z hm s H0 C cl fp Hf H σ v rel xo hv R fun A2 σ2 Hf2 H2 q r f u l => k A2 σ2 Hf2 H2 (fun s H0 C cl fp => txs_nil ⟨fun _ s H0 C cl fp => ?_, fun e => by cases e⟩) r f u l
      refine ed_mono (q s H0 C cl fp) fun y A4 ⟨e1, e2⟩ => ⟨e2, ?_⟩
      rw [e1, List.take_succ, hzi, List.map_append]
      rfl
  · rintro acc A' ⟨rfl, rfl⟩ p
    rw [List.length_map, List.take_length]
    exact fin p
theorem take_filter {α : Type} (c : α → Bool) {zs : List α} {i : Nat} {z : α} (h : zs[i]? = some z) : (zs.take (i + 1)).filter c = (zs.take i).filter c ++ (if c z = true then [z] else []) := by
  rw [List.take_succ, h, List.filter_append]
  cases hc : c z with
  | true => simp [hc]
  | false => simp [hc]
/-- .. with a test -/
theorem lc_filter {vs : List Nat} {Q : SD → List SD → Prop} {α : Type} (zs : List α) (F : α → D) (c : α → Bool) (f : α → D) {tst : Expr} {g : Option (Nat × Addr × List D)} {A1 : List SD} (hz : zs.length ≤ 1000000) (hg : guard g (wipeA A1 vs))
    (turn : ∀ z ∈ zs, ∀ s H0 C cl fp, GX (Bk X scope s H0 C cl fp) Z.o (wipeA A1 vs) tg (fun j => vs.contains j) (F z) fun A2 => ∀ s H0 C cl fp, TX (Bk X scope s H0 C cl fp) Z.o A2 tst fun t A3 => t = c z ∧ wipeA A3 vs = wipeA A1 vs ∧ (t = true → ∀ s H0 C cl fp, ED (Bk X scope s H0 C cl fp) Z.o A3 elt fun y A4 => y = f z ∧ wipeA A4 vs = wipeA A1 vs))
    (fin : ∀ p, Q (.own p (.lst ((zs.filter c).map f))) (restA A1 (wipeA A1 vs) vs)) :
    LcBody X Z scope elt tg [tst] vs Q (zs.map F) g A1 := by
  refine ⟨by simpa using hz, fun i acc A' => A' = wipeA A1 vs ∧ acc = ((zs.take i).filter c).map f, ⟨rfl, rfl⟩, fun i acc A' _ h => by rw [h.1]; exact hg, ?_, ?_⟩
  · rintro i d acc A' hd ⟨rfl, rfl⟩ s H0 C cl fp
    rw [List.getElem?_map] at hd
    cases hzi : zs[i]? with
    | none => rw [hzi] at hd; cases hd
    | some z =>
      rw [hzi] at hd
      cases hd
      have hm : z ∈ zs := List.mem_of_getElem? hzi
      intro Hf H σ v rel xo hv R k
      refine turn z hm s H0 C cl fp Hf H σ v rel xo hv R fun A2 σ2 Hf2 H2 q r f u l => k A2 σ2 Hf2 H2 (fun s H0 C cl fp => txs_one (tx_mono (q s H0 C cl fp) fun t A3 ⟨e1, e2, e3⟩ => ⟨fun ht s H0 C cl fp => ?_, fun ht => ?_⟩)) r f u l
      · refine ed_mono (e3 ht s H0 C cl fp) fun y A4 ⟨g1, g2⟩ => ⟨g2, ?_⟩
        rw [take_filter c hzi, ← e1, if_pos ht, List.map_append, g1]
        rfl
      · refine ⟨e2, ?_⟩
        rw [take_filter c hzi, ← e1, ht, List.map_append]
        simp
  · rintro acc A' ⟨rfl, rfl⟩ p
    rw [List.length_map, List.take_length]
    exact fin p
end
end Y

namespace Y
open PySem L2 PySem.Spec NdefX LamX
open PyProof.Rows hiding St
variable [I : NmC]

/-! ### defs: what they promise, over abstract states -/
structure Good (k : Nat) (A : Around) : Prop where
  rm : Room k A
  gd : A.guards = some []
theorem Good.mono {j k : Nat} {A : Around} (g : Good k A) (h : j ≤ k) : Good j A := ⟨g.rm.mono h, g.gd⟩
/-- as the layer's promise of a def, where besides nothing is being shown (guards) -/
structure GOk (P : Program) (w : World) (K : PySem.W.Frag) (mg : Str → Option Value) (base : Heap) (k : Nat) (f : Addr) (fd : FuncData) (ps : List Str) (sp : Sp) : Prop where
  len : ∀ vs H Q E, sp vs H Q E → vs.length = ps.length
  run : ∀ (A : Around) (fr : List Env) (s : Shared) (H : Hp) (ar : Args) (us : List Value) (vs : List V) (Q : VK) (E : XK), Good k A → Env0 P w K mg base A fr s H → BindsTo s fd ar (ps.zip us) → Vals vs us → sp vs H Q E →
    codeAny (model P w) A (.call (.ref f) ar) (CR (L2.CX P w) fr P w H s Q E) s
theorem GOk.mono {P : Program} {w : World} {K : PySem.W.Frag} {mg : Str → Option Value} {base : Heap} {j k : Nat} {f : Addr} {fd : FuncData} {ps : List Str} {sp : Sp} (G : GOk P w K mg base j f fd ps sp) (h : j ≤ k) : GOk P w K mg base k f fd ps sp :=
  ⟨G.len, fun A fr s H ar us vs Q E g => G.run A fr s H ar us vs Q E (g.mono h)⟩
abbrev FSp := List SD → (SD → List SD → Prop) → ZT → Prop
def SpOf (K : PySem.W.Frag) (T : List Addr) (S : FSp) : Sp := fun vs H Q E => TabsA T H ∧ ∃ Hf A Post Z, Rel K Hf H (vs.map some) A ∧ S A Post Z ∧
  (∀ r A' v Hf' H', Post r A' → Rel K Hf' H' (some v :: vs.map some) (r :: A') → Fr (owns A) Hf H (owns (r :: A')) Hf' H' → Q v H') ∧
  (∀ c fs A' d Hf' H', Z c fs A' → Rel K Hf' H' (vs.map some) A' → XD K Hf' d fs → Fr (owns A) Hf H (owns A') Hf' H' → E c d H')
/-- the arguments behind the def's run: data as it was, what is owned as the slots tell -/
inductive Aft (B : List SD) : List SD → List SD → Prop
  | nil : Aft B [] []
  | dat {d : D} {A A' : List SD} : Aft B A A' → Aft B (.dat d :: A) (.dat d :: A')
  | own {p : Addr} {o u : OD} {A A' : List SD} : SD.own p u ∈ B → Aft B A A' → Aft B (.own p o :: A) (.own p u :: A')
  | any {s : SD} {A A' : List SD} : Aft B A A' → Aft B (s :: A) (.any :: A')
section
variable {K : PySem.W.Frag} {Hf H Hf' H' : Hp} {σ τ : List (Option V)} {A A' B : List SD}
theorem Aft.sub (h : Aft B A A') : (owns A').Sublist (owns A) ∧ ∀ p ∈ owns A', p ∈ owns B := by
  induction h with
  | nil => exact ⟨List.Sublist.refl _, fun p h => by cases h⟩
  | dat _ ih => exact ih
  | own hm _ ih =>
    refine ⟨List.Sublist.cons_cons _ ih.1, fun q hq => ?_⟩
    rcases List.mem_cons.mp hq with rfl | hq
    · exact mem_owns hm
    · exact ih.2 q hq
  | any h ih =>
    rename_i s _ _
    refine ⟨?_, ih.2⟩
    cases s with
    | any => exact ih.1
    | dat d => exact ih.1
    | own p o => exact ih.1.trans (List.sublist_cons_self _ _)
theorem Aft.rel (h : Aft B A A') (r : Rel K Hf H σ A) (r' : Rel K Hf' H' τ B) (e : Same Hf Hf') : Rel K Hf' H' σ A' := by
  refine ⟨r'.sm, ?_, List.Nodup.sublist h.sub.1 r.nd, r'.nt⟩
  have al := r.al
  clear r
  induction h generalizing σ with
  | nil => cases al; exact .nil
  | dat _ ih =>
    cases al with
    | cons g t => exact .cons (g.keep e fun _ _ z => by cases z) (ih t)
  | own hm _ ih =>
    cases al with
    | cons g t =>
      obtain ⟨ov, _, q⟩ := Paired.mem r'.al hm
      exact .cons ⟨g.1, q.2.1, q.2.2⟩ (ih t)
  | any _ ih =>
    cases al with
    | cons g t => exact .cons trivial (ih t)
theorem Paired.app {α β : Type} {G : α → β → Prop} : ∀ {l₁ m₁ : List α} {l₂ m₂ : List β}, Paired G l₁ l₂ → Paired G m₁ m₂ → Paired G (l₁ ++ m₁) (l₂ ++ m₂)
  | _, _, _, _, .nil, q => q
  | _, _, _, _, .cons r t, q => .cons r (Paired.app t q)
theorem owns_pad (A : List SD) (n : Nat) : owns (A ++ List.replicate n .any) = owns A := by
  induction A with
  | nil =>
    induction n with
    | zero => rfl
    | succ n ih => exact ih
  | cons s A ih =>
    cases s with
    | any => exact ih
    | dat d => exact ih
    | own p o => show p :: owns (A ++ List.replicate n .any) = p :: _; rw [ih]
theorem Rel.pad {vs : List V} (r : Rel K Hf H (vs.map some) A) (n : Nat) : Rel K Hf H (vs.map some ++ List.replicate n none) (A ++ List.replicate n .any) := by
  refine ⟨r.sm, Paired.app r.al ?_, by rw [owns_pad]; exact r.nd, r.nt⟩
  induction n with
  | zero => exact .nil
  | succ n ih => exact .cons trivial ih
end
/-- the ends of a def's body -/
def BodyE (A : List SD) (Post : SD → List SD → Prop) : AE where
  nx := fun B => ∃ A', Aft B A A' ∧ Post (.dat .non) A'
  rt := fun r B => ∃ A', Aft B A A' ∧ Post r A'
def BodyZ (T : List Addr) (A : List SD) (Z : ZT) : ZZ := ⟨T, fun c fs B => ∃ A', Aft B A A' ∧ Z c fs A'⟩
section
variable {P : Program} {w : World} {K : PySem.W.Frag} {mg : Str → Option Value} {base : Heap} {T : List Addr}
/-- a def's body keeps its promise -/
theorem g_ofM {x qual : Str} {st : Stmt} {f : Addr} {fd : FuncData} {N ps : List Str} {k : Nat} {S : FSp} (F : Fun K x qual st f fd) (sc : FnScope N ps (defScope st)) (no : ∀ x ∈ bnames, mg x = none) (hl : ∀ A Post Z, S A Post Z → A.length = ps.length) (hN : ps.length ≤ N.length)
    (hb : ∀ (cdv : Value) (A : Around) (fr : List Env) (s : Shared) (H : Hp) (E : XK), fd.code = cdv → Cok (cxOf (L2.CX P w) P w K mg base N qual (defScope st) f cdv A fr s H E) → Good k (cxOf (L2.CX P w) P w K mg base N qual (defScope st) f cdv A fr s H E).A →
      ∀ B Post Z, S B Post Z → SSX (cxOf (L2.CX P w) P w K mg base N qual (defScope st) f cdv A fr s H E) (BodyZ T B Z) (B ++ List.replicate (N.length - ps.length) .any) (defBody st) (BodyE B Post)) :
    GOk P w K mg base (k + 1) f fd ps (SpOf K T S) := by
  obtain ⟨oc, od, kV, doc, pm, an, cdv, ct, osl, rfl, lk, hcd⟩ := F.ex
  have hlen : ∀ vs H Q E, SpOf K T S vs H Q E → vs.length = ps.length := fun vs H Q E ⟨_, Hf, B, Post, Z, r, h, _, _⟩ => by
    have := Paired.length r.al
    rw [List.length_map] at this
    rw [this, hl B Post Z h]
  refine ⟨hlen, fun A fr s H ar us vs Q E g e0 bt rv hs => ?_⟩
  have lv := hlen _ _ _ _ hs
  obtain ⟨tabs, Hf, B, Post, Z, rel, hS, kQ, kE⟩ := hs
  have inK : K.In s.heap := e0.mod.kin.keeps fun b o q => (e0.bs b o q).1
  have noLim := e0.mod.nolimit.keeps fun b o q => (e0.bs b o q).1
  have kinds : ∀ y ∈ ps.zip us, (defScope st).names.lookup y.1 = some .local ∨ ((defScope st).names.lookup y.1 = some .cell ∧ ((cellsFrom (s.heap.objs.size + 1) (defScope st).names []).lookup y.1).isSome = true) := by
    rintro ⟨n, v⟩ hy
    exact (sc.par n (List.of_mem_zip hy).1).imp id fun q => ⟨q, PySem.W.cellsFrom_some _ _ _ (.inl q)⟩
  refine codeAny_call_function g.rm.depth (inK _ _ lk) rfl sc.co sc.gen rfl (PySem.W.codeRec_of inK hcd) (bt _ _ _ _ ?_)
  refine wpAny_newFunctionEnv_cells sc.kind kinds ?_
  rintro env rfl s1 x1
  refine ⟨noLim.keeps x1.toInCall.keep, codeAny_func ?_⟩
  have inv := inv_start (CX := L2.CX P w) (E := E) (N := N) sc g.rm.hd e0 lv rv x1
  have room := g.rm.deeper (envOfC qual (defScope st) s.heap.objs.size f cdv)
  have cok : Cok (cxOf (L2.CX P w) P w K mg base N qual (defScope st) f cdv A fr s H E) := ⟨rfl, sc.nd, no, room.units, g.gd, passes_of rfl⟩
  have hz := hl B Post Z hS
  have rel0 : Rel K Hf H (L2.start N vs) (B ++ List.replicate (N.length - ps.length) .any) := by
    unfold L2.start
    rw [lv]
    exact rel.pad _
  have own0 : owns (B ++ List.replicate (N.length - ps.length) .any) = owns B := owns_pad _ _
  have body := hb cdv A fr s H E rfl cok ⟨room, g.gd⟩ B Post Z hS
  have good : ∀ {σ' : L2.St} {H' : Hp} {v : V} {u : Value} {s' : Shared}, L2.Inv (cxOf (L2.CX P w) P w K mg base N qual (defScope st) f cdv A fr s H E) [] σ' H' s' → RelV v u → Q v H' → CE fr P w H s Q u s' := by
    intro σ' H' v u s' J ru q
    exact ⟨v, H', J.os, J.bare, J.base, J.hok, ru, q⟩
  have run := wss.run [] s1 (L2.start N vs) H { nx := fun _ H' => Q .non H', rt := Q } inv (body Hf H _ rel0 ⟨tabs, _, takes_of rfl rfl rfl rfl, ?_⟩ _ ⟨?_, ?_, ?_, ?_⟩)
  · refine wpAny_mono run (fun fl s' e => ?_) fun _ _ e => e
    cases fl with
    | ret u => obtain ⟨v, σ', H', J, ru, q⟩ := e; exact good J ru q
    | next => obtain ⟨σ', H', J, q⟩ := e; exact good (v := V.non) (u := Value.none) J rfl q
    | brk => obtain ⟨_, _, _, q⟩ := e; cases q
    | cont => obtain ⟨_, _, _, q⟩ := e; cases q
  · rintro c fs B' d σ' Hf' H' ⟨A', aft, z⟩ r' xd f'
    rw [own0] at f'
    exact kE c fs A' d Hf' H' z (aft.rel rel r' f'.ef) xd (f'.less aft.sub.2)
  · rintro B' σ' Hf' H' ⟨A', aft, q⟩ r' f'
    rw [own0] at f'
    exact kQ _ _ _ _ _ q ((aft.rel rel r' f'.ef).consD .non) (f'.less aft.sub.2)
  · rintro r B' v σ' Hf' H' ⟨A', aft, q⟩ r' f'
    rw [own0] at f'
    have e := aft.rel rel r'.tail f'.ef
    refine kQ _ _ _ _ _ q (e.cons r'.head fun p o z hp => ?_) (f'.less fun p hp => ?_)
    · subst z
      exact r'.notTail (aft.sub.2 p hp)
    · cases r with
      | any => exact aft.sub.2 p hp
      | dat d => exact aft.sub.2 p hp
      | own q o =>
        rcases List.mem_cons.mp hp with rfl | hp
        · exact List.mem_cons_self
        · exact List.mem_cons_of_mem _ (aft.sub.2 p hp)
  · rintro _ _ _ _ z
    exact z.elim
  · rintro _ _ _ _ z
    exact z.elim
theorem g_of {x qual : Str} {st : Stmt} {f : Addr} {fd : FuncData} {N ps : List Str} {k : Nat} {S : FSp} (F : Fun K x qual st f fd) (sc : FnScope N ps (defScope st)) (no : ∀ x ∈ bnames, mg x = none) (hl : ∀ A Post Z, S A Post Z → A.length = ps.length) (hN : ps.length ≤ N.length)
    (hb : ∀ (cdv : Value) (A : Around) (fr : List Env) (s : Shared) (H : Hp) (E : XK), Cok (cxOf (L2.CX P w) P w K mg base N qual (defScope st) f cdv A fr s H E) → Good k (cxOf (L2.CX P w) P w K mg base N qual (defScope st) f cdv A fr s H E).A →
      ∀ B Post Z, S B Post Z → SSX (cxOf (L2.CX P w) P w K mg base N qual (defScope st) f cdv A fr s H E) (BodyZ T B Z) (B ++ List.replicate (N.length - ps.length) .any) (defBody st) (BodyE B Post)) :
    GOk P w K mg base (k + 1) f fd ps (SpOf K T S) := g_ofM F sc no hl hN fun cdv A fr s H E _ => hb cdv A fr s H E
end
/-- a def of the program that stands, with its promise -/
structure Fn (T : List Addr) (P : Program) (w : World) (K : PySem.W.Frag) (mg : Str → Option Value) (base : Heap) (k : Nat) (x qual : Str) (st : Stmt) (ps : List Str) (S : FSp) : Prop where
  ex : ∃ (f : Addr) (fd : FuncData), mg x = some (.ref f) ∧ Fun K qual qual st f fd ∧ GOk P w K mg base k f fd ps (SpOf K T S)
section
variable {X : Cx} {Z : ZZ} {A : List SD} {e a b : Expr} {es : List Expr} {pos p : Pos} {k : Nat} {f : Addr} {fd : FuncData} {ps ks : List Str} {S : FSp} {x qual : Str} {st : Stmt} {Q : SD → List SD → Prop}
theorem run_g {sp : Sp} {E : XK} {W : L2.WX} {pins : List (Addr × Obj)} {σ : L2.St} {H : Hp} {s : Shared} {R : VK} {us : List Value} {vs : List V} {ar : Args} (G : GOk X.prog X.w X.K X.mg X.base k f fd ps sp) (g : Good k X.A) (I : L2.Inv X pins σ H s) (hb : BindsTo s fd ar (ps.zip us)) (r : Vals vs us)
    (tk : Takes X W) (hW : ∀ c d H, E c d H → W c d σ H) (h : sp vs H R E) : codeAny (model X.prog X.w) X.A (.call (.ref f) ar) (fun r s' => match r with | .ok (.ret u) => EP X pins σ R u s' | .ok _ => False | .error e => X.xe e s') s := by
  refine codeAny_mono (G.run X.A X.stack s H ar us vs R E g I.env0 hb r h) ?_
  intro r s' hr
  match r, hr with
  | .error e, hr => exact tk e s' (XE.of_call I hW hr)
  | .ok (.ret u), hr => exact I.after hr
  | .ok .next, hr => exact hr.elim
  | .ok .brk, hr => exact hr.elim
  | .ok .cont, hr => exact hr.elim
/-- what stands beside a call -/
theorem Rel.through {K : PySem.W.Frag} {Hf H Hf' H' : Hp} {σ : List (Option V)} {o1 : List Addr} (r : Rel K Hf H σ A) (f : Fr [] Hf H o1 Hf' H') (sm : Same Hf' H') (nt : ∀ a o, Hf' a = some o → NoT o) : Rel K Hf' H' σ A :=
  ⟨sm, Paired.weak r.al fun a b hb g => g.frame f fun _ _ _ z => (by cases z), r.nd, nt⟩
theorem pe_callG {W : L2.WX} {t : TA} {sp : Sp} (hm : X.mg x = some (.ref f)) (F : Fun X.K qual qual st f fd) (G : GOk X.prog X.w X.K X.mg X.base k f fd ps sp) (g : Good k X.A) (hg : Gl X x) (tk : Takes X W)
    (hb : ∀ (s : Shared) (us : List Value), us.length = ps.length → BindsTo s fd ⟨us, []⟩ (ps.zip us)) (ha : PA X (e :: es) t) (hdb : (x == ("__debug__" : Str)) = false := by kernel_rfl)
    (he : starEach (e :: es) X.env = (false, eval e X.env) :: starEach es X.env := by kernel_rfl) (hpl : (backTo pos (starEach es X.env)).any (·.1) = false := by kernel_rfl) : PE X (.Call (.Name x p) (e :: es) [] pos) (fun σ H R => t σ H fun vs H1 => sp vs H1 R fun c d H2 => W c d σ H2) := by
  constructor
  intro pins s σ H R I h
  refine wpAny_Call_Name_kw (ld_glob I hg hm ?_ hdb)
  refine PySem.W.callWith_K (h₀ := X.base) I.ok.mod.kin F.kp (thn (ha.run pos pins s σ H _ I h) ?_) he hpl
  rintro us s1 ⟨vs, H1, I1, r, q⟩
  refine ⟨I1.kIn, wpAny_call (codeAny_mono (run_g G g I1 (hb s1 us (by rw [← r.length]; exact G.len _ _ _ _ q)) r tk (fun _ _ _ h => h) q) ?_)⟩
  intro r s' hr
  match r, hr with
  | .error e, hr => exact hr
  | .ok (.ret u), hr => exact hr
  | .ok .next, hr => exact hr.elim
  | .ok .brk, hr => exact hr.elim
  | .ok .cont, hr => exact hr.elim
theorem owns_dats : ∀ ds : List D, owns (ds.map SD.dat) = []
  | [] => rfl
  | _ :: ds => owns_dats ds
theorem dats_rel {K : PySem.W.Frag} {Hf H : Hp} {vs : List V} {ds : List D} (sm : Same Hf H) (nt : ∀ a o, Hf a = some o → NoT o) (h : DsL K Hf vs ds) : Rel K Hf H (vs.map some) (ds.map .dat) ∧ owns (ds.map SD.dat) = [] := by
  have o := owns_dats ds
  refine ⟨⟨sm, ?_, by rw [o]; exact List.nodup_nil, nt⟩, o⟩
  clear o
  induction vs generalizing ds with
  | nil => cases h; exact .nil
  | cons v vs ih => cases h with
    | cons a b => exact .cons ⟨v, rfl, a⟩ (ih b)
/-- the arguments as they are bound, none by name -/
abbrev Bnd (st : Stmt) (qual : Str) (ps : List Str) : Prop := ∀ (kV doc pm : Value) (an : Option Addr) (cdv ct : Value) (us : List Value), us.length = ps.length →
  bindArgs (PySem.W.fnOf qual qual (defArgs st) (defBody st) (defScope st) .none kV doc pm an cdv ct) ⟨us, []⟩ = pure (ps.zip us)
theorem Bnd.to {K : PySem.W.Frag} (F : Fun K qual qual st f fd) (h : Bnd st qual ps) : ∀ (s : Shared) (us : List Value), us.length = ps.length → BindsTo s fd ⟨us, []⟩ (ps.zip us) := by
  obtain ⟨oc, od, kV, doc, pm, an, cdv, ct, osl, rfl, _, _⟩ := F.ex
  intro s us hl
  exact .of_eq (h kV doc pm an cdv ct us hl)
theorem Fr.wide {Hf H Hf' H' : Hp} {o1 : List Addr} (f : Fr [] Hf H o1 Hf' H') {A' : List SD} (s : ∀ p ∈ owns A', p ∈ owns A ∨ p ∈ o1) : Fr (owns A) Hf H (owns A') Hf' H' :=
  ⟨f.ef, fun a o h1 nt h2 _ => f.st a o h1 nt h2 (by simp), fun a o h1 nt _ => f.kp a o h1 nt (by simp), fun p hp => (s p hp).imp id fun z => (f.gr p z).resolve_left (by simp), f.tb, f.ts⟩
theorem own_head {r : SD} {A : List SD} : ∀ p ∈ owns (r :: A), p ∈ owns A ∨ ∃ o, r = .own p o := fun p hp => by
  cases r with
  | any => exact .inl hp
  | dat d => exact .inl hp
  | own q o =>
    rcases List.mem_cons.mp hp with rfl | hp
    · exact .inr ⟨o, rfl⟩
    · exact .inl hp
theorem ex_call (F : Fn Z.T X.prog X.w X.K X.mg X.base k x qual st ps S) (g : Good k X.A) (hb : Bnd st qual ps) (h : EA X Z A (e :: es) fun ds A1 => S (ds.map .dat) (fun r _ => Q r A1) (fun c fs _ => Z.z c fs A1)) (hg : Gl X x := by exact gl_of (by kernel_rfl)) (hdb : (x == ("__debug__" : Str)) = false := by kernel_rfl)
    (he : starEach (e :: es) X.env = (false, eval e X.env) :: starEach es X.env := by kernel_rfl) (hpl : (backTo pos (starEach es X.env)).any (·.1) = false := by kernel_rfl) : EX X Z A (.Call (.Name x p) (e :: es) [] pos) Q := by
  obtain ⟨f, fd, hm, F, G⟩ := F.ex
  intro Hf H σ rel xo R kk
  obtain ⟨tabs, W, tk, kz⟩ := xo
  refine ⟨_, pe_callG hm F G g hg tk (hb.to F) wa hdb he hpl, h Hf H σ rel ⟨tabs, W, tk, kz⟩ _ ?_⟩
  rintro ds A1 vs Hf1 H1 hS r1 s1 f1
  obtain ⟨rv, ro⟩ := dats_rel r1.sm r1.nt s1
  refine ⟨fun p hp => f1.ts _ (tabs p hp), Hf1, _, _, _, rv, hS, ?_, ?_⟩
  · intro r A' v Hf' H' q r2 f2
    rw [ro] at f2
    have t := r1.through f2 r2.sm r2.nt
    refine kk r A1 v Hf' H' q (t.cons r2.head fun p o z hp => ?_) (f1.trans (f2.wide fun p hp => ?_))
    · subst z
      rcases f2.gr p List.mem_cons_self with z | z
      · cases z
      · exact r1.there hp z
    · exact (own_head p hp).imp id fun ⟨o, e⟩ => by subst e; exact List.mem_cons_self
  · intro c fs A' d Hf' H' z r2 xd f2
    rw [ro] at f2
    exact kz c fs A1 d σ Hf' H' z (r1.through f2 r2.sm r2.nt) xd (f1.trans (f2.wide fun p hp => .inl hp))
/-- f(x, ..), x an owned list that f may change -/
theorem ex_callO (i : Nat) {y : Str} {py : Pos} {q : Addr} {o : OD} (F : Fn Z.T X.prog X.w X.K X.mg X.base k x qual st ps S) (g : Good k X.A) (hb : Bnd st qual ps) (hA : A[i]? = some (.own q o))
    (h : EA X Z A es fun ds A1 => ∃ o1, A1[i]? = some (.own q o1) ∧ S (.own q o1 :: ds.map .dat) (fun r B => ∃ o2 B', B = .own q o2 :: B' ∧ Q r (A1.set i (.own q o2))) (fun c fs B => ∃ o2 B', B = .own q o2 :: B' ∧ Z.z c fs (A1.set i (.own q o2))))
    (hN : X.N[i]? = some y := by kernel_rfl) (hv : Vis X.env.scope y := by exact vis_of (by kernel_rfl)) (hdy : (y == ("__debug__" : Str)) = false := by kernel_rfl) (hcd : (y == ("__classdict__" : Str)) = false := by kernel_rfl)
    (hg : Gl X x := by exact gl_of (by kernel_rfl)) (hdb : (x == ("__debug__" : Str)) = false := by kernel_rfl)
    (he : starEach (.Name y py :: es) X.env = (false, eval (.Name y py) X.env) :: starEach es X.env := by kernel_rfl) (hpl : (backTo pos (starEach es X.env)).any (·.1) = false := by kernel_rfl) : EX X Z A (.Call (.Name x p) (.Name y py :: es) [] pos) Q := by
  obtain ⟨f, fd, hm, F, G⟩ := F.ex
  intro Hf H σ rel xo R kk
  obtain ⟨tabs, W, tk, kz⟩ := xo
  refine ⟨_, pe_callG hm F G g hg tk (hb.to F) (pa_cons (pe_var hN hv hdy hcd) wa he) hdb he hpl, _, rel.ref hA, h Hf H σ rel ⟨tabs, W, tk, kz⟩ _ ?_⟩
  rintro ds A1 vs Hf1 H1 ⟨o1, hA1, hS⟩ r1 s1 f1
  obtain ⟨rv, ro⟩ := dats_rel r1.sm r1.nt s1
  obtain ⟨ov, g1, g2, g3, g4⟩ := Paired.at r1.al hA1
  have ri : σ[i]? = some (some (.ref q)) := by rw [g1, g2]
  have rv2 : Rel X.K Hf1 H1 (some (.ref q) :: vs.map some) (.own q o1 :: ds.map .dat) := rv.cons ⟨rfl, g3, g4⟩ fun p o e hp => by rw [ro] at hp; cases hp
  have hm1 : q ∈ owns A1 := mem_owns (List.mem_of_getElem? hA1)
  -- what the callee's end tells of the caller's slots
  have back : ∀ {o2 : OD} {B' : List SD} {o3 : List Addr} {τ : List (Option V)} {Hf' H' : Hp}, Fr (owns (.own q o1 :: ds.map SD.dat)) Hf1 H1 o3 Hf' H' → Rel X.K Hf' H' (some (.ref q) :: τ) (.own q o2 :: B') → Rel X.K Hf' H' σ (A1.set i (.own q o2)) := by
    intro o2 B' o3 τ Hf' H' f2 r2
    have f2' : Fr [q] Hf1 H1 o3 Hf' H' := f2.more fun p hp => by
      rcases List.mem_cons.mp hp with rfl | hp
      · exact List.mem_cons_self
      · rw [ro] at hp; cases hp
    have hs : σ = σ.set i (some (.ref q)) := by
      apply List.ext_getElem?
      intro j
      by_cases hj : i = j
      · subst hj
        rw [List.getElem?_set_self (List.getElem?_eq_some_iff.mp ri).1, ri]
      · rw [List.getElem?_set_ne hj]
    refine ⟨r2.sm, ?_, by rw [owns_set hA1]; exact r1.nd, r2.nt⟩
    rw [hs]
    refine Paired.ofGet (by rw [List.length_set, List.length_set]; exact Paired.length r1.al) fun j a b ha hb => ?_
    by_cases hj : i = j
    · subst hj
      rw [List.getElem?_set_self (List.getElem?_eq_some_iff.mp ri).1] at ha
      rw [List.getElem?_set_self (List.getElem?_eq_some_iff.mp hA1).1] at hb
      cases ha; cases hb
      exact r2.head
    · rw [List.getElem?_set_ne hj] at ha
      have hb0 := hb
      rw [List.getElem?_set_ne hj] at hb
      obtain ⟨a', ha', gg⟩ := Paired.at r1.al hb
      rw [ha] at ha'; cases ha'
      refine gg.frame f2' fun p o z hp => ?_
      subst z
      rw [List.mem_singleton] at hp
      subst hp
      -- two slots can't own the same
      have nd := r1.nd
      have : ∀ (l : List SD) (j m : Nat) (w w' : OD), (owns l).Nodup → l[j]? = some (.own p w) → l[m]? = some (.own p w') → j = m := by
        intro l
        induction l with
        | nil => intro j m w w' _ h; simp at h
        | cons y l ih =>
          intro j m w w' hn h h'
          have hn' : (owns l).Nodup := by
            cases y with
            | any => exact hn
            | dat d => exact hn
            | own q w => exact (List.nodup_cons.mp hn).2
          cases j with
          | zero =>
            have h : y = .own p w := Option.some.inj h
            subst h
            cases m with
            | zero => rfl
            | succ m => exact absurd (mem_owns (List.mem_of_getElem? (by simpa using h'))) (List.nodup_cons.mp hn).1
          | succ j =>
            cases m with
            | zero =>
              have h' : y = .own p w' := Option.some.inj h'
              subst h'
              exact absurd (mem_owns (List.mem_of_getElem? (by simpa using h))) (List.nodup_cons.mp hn).1
            | succ m => rw [ih j m w w' hn' (by simpa using h) (by simpa using h')]
      exact hj (this A1 i j _ _ nd hA1 hb)
  have fr2 : ∀ {o2 : OD} {B' C : List SD} {r : SD} {Hf' H' : Hp}, Fr (owns (.own q o1 :: ds.map SD.dat)) Hf1 H1 (owns C) Hf' H' → (∀ p ∈ owns (r :: A1.set i (.own q o2)), p ∈ owns A1 ∨ p ∈ owns C) → Fr (owns A1) Hf1 H1 (owns (r :: A1.set i (.own q o2))) Hf' H' := by
    intro o2 B' C r Hf' H' f2 hsub
    have f2' : Fr (owns A1) Hf1 H1 (owns C) Hf' H' := f2.more fun p hp => by
      rcases List.mem_cons.mp hp with rfl | hp
      · exact hm1
      · rw [ro] at hp; cases hp
    exact ⟨f2'.ef, f2'.st, f2'.kp, fun p hp => (hsub p hp).elim .inl (f2'.gr p), f2'.tb, f2'.ts⟩
  refine ⟨fun p hp => f1.ts _ (tabs p hp), Hf1, _, _, _, rv2, hS, ?_, ?_⟩
  · rintro r B v Hf' H' ⟨o2, B', rfl, qq⟩ r2 f2
    have t := back f2 r2.tail
    refine kk r _ v Hf' H' qq (t.cons r2.head fun p o z hp => ?_) (f1.trans (fr2 (B' := B') f2 fun p hp => ?_))
    · subst z
      rw [owns_set hA1] at hp
      rcases f2.gr p List.mem_cons_self with z | z
      · rcases List.mem_cons.mp z with rfl | z
        · exact r2.notTail List.mem_cons_self
        · rw [ro] at z; cases z
      · exact r1.there hp z
    · rcases own_head p hp with z | ⟨o, z⟩
      · rw [owns_set hA1] at z; exact .inl z
      · subst z; exact .inr List.mem_cons_self
  · rintro c fs B d Hf' H' ⟨o2, B', rfl, z⟩ r2 xd f2
    have ff := fr2 (o2 := o2) (B' := B') (r := .any) f2 fun p hp => by
      have hp : p ∈ owns (A1.set i (.own q o2)) := hp
      rw [owns_set hA1] at hp; exact .inl hp
    exact kz c fs _ d σ Hf' H' z (back f2 r2) xd (f1.trans ff)
end
end Y

namespace Y
open PySem L2 PySem.Spec NdefX LamX
open PyProof.Rows hiding St

/-! ### the end: the law's own def, called by whoever asks -/
section
variable [I : NmC]
variable {P : Program} {w : World} {K : PySem.W.Frag} {mg mb : Str → Option Value}
abbrev tbO : Obj := { cls := .none, data := .fields #[] }
/-- from a heap where at most the script and empty tables of code objects are told of; cs: the makers' code objects with their tables -/
theorem at_top {k : Nat} {fa a : Addr} {fd : FuncData} {x : Str} {S : FSp} {s : Shared} {vs : List Value} {ns : List Int} {H : Hp} {T : List Addr} {cs : List (Addr × Addr)} (inK : K.In s.heap) (nsG : s.heap.Ns mainGlobals mg) (nsB : s.heap.Ns builtinsNs mb) (bB : ∀ x : Str, x ≠ "__name__" → mb x = bootBuiltins x)
    (lim : s.heap.NoLimit) (gens : s.gens = #[]) (ha : s.heap.get? a = some { cls := .type "list", data := .seq vs.toArray }) (hr : Room k callerA)
    (hbm : ∃ (bm : Addr) (ob : Obj), mg "__builtins__" = some (.ref bm) ∧ bm ≠ builtinsNs ∧ s.heap.get? bm = some ob ∧ ob.cls = .type "module" ∧ ob.dict = some builtinsNs ∧ ob.data = .plain)
    (hC : ∀ p ∈ cs, PySem.W.CodeHd s.heap p.1 p.2 ∧ s.heap.get? p.2 = some tbO ∧ K.lookup p.2 = none) (hT : ∀ p ∈ T, H p = some (.tbl #[]))
    (G : ∀ base : Heap, K.In base → base.Ns mainGlobals mg → (∀ p ∈ cs, TabB base mg p.1 p.2) → GOk P w K mg base k fa fd [x] (SpOf K T S))
    (bd : ∀ (s : Shared) (u : Value), BindsTo s fd ⟨[u], []⟩ [(x, u)]) (hS : S [.dat (.rls (ns.map .int))] (fun r _ => r = .dat (.bl true)) Z0) (hL : SqL K H a (ns.map V.int)) (hok : HOk P w H s.heap)
    (only : ∀ b u, H b = some u → (b = a ∧ K.lookup a = none ∧ ∃ xs, u = .frz { cls := .type "list", data := .seq vs.toArray } (.lst xs)) ∨ ((∃ c, (c, b) ∈ cs) ∧ u = .tbl #[])) :
    codeAny (model P w) callerA (.call (.ref fa) ⟨[.ref a], []⟩) (fun r s' => r = .ok (.ret (.bool true)) ∧ OldK s.heap s'.heap ∧ s'.os = s.os ∧ AllBare s'.gens) s := by
  -- what is no list and no empty table is not told of
  have free : ∀ b o, s.heap.get? b = some o → (∀ xs n, o.data ≠ .seq xs n) → o.data ≠ .fields #[] → H b = none := by
    intro b o hb h1 h2
    cases hH : H b with
    | none => rfl
    | some u =>
      rcases only b u hH with ⟨rfl, _, _⟩ | ⟨⟨c, hc⟩, _⟩
      · rw [ha] at hb; cases hb; exact (h1 _ _ rfl).elim
      · have := (hC _ hc).2.1
        rw [hb] at this; cases this; exact (h2 rfl).elim
  have freeD : ∀ b o, s.heap.get? b = some o → (∀ es ep, o.data = .dict es ep → H b = none) := by
    intro b o hb es ep hd
    refine free b o hb (fun _ _ z => ?_) fun z => ?_ <;> (rw [hd] at z; cases z)
  have nsOf : ∀ {b : Addr} {m : Str → Option Value}, s.heap.Ns b m → (hidT s.heap H).Ns b m := by
    rintro b m ⟨o, es, ep, ho, hd, rest⟩
    exact ⟨o, es, ep, hidT_get ho (freeD b o ho es ep hd), hd, rest⟩
  have inB : K.In (hidT s.heap H) := by
    intro b o ho
    refine hidT_get (inK b o ho) ?_
    cases hH : H b with
    | none => rfl
    | some u =>
      rcases only b u hH with ⟨rfl, hk, _⟩ | ⟨⟨c, hc⟩, _⟩
      · rw [hk] at ho; cases ho
      · rw [(hC _ hc).2.2] at ho; cases ho
  obtain ⟨mc, lim1, lim2⟩ := lim
  have tabs : ∀ p ∈ cs, TabB (hidT s.heap H) mg p.1 p.2 := by
    intro p hp
    obtain ⟨cd, t1, _⟩ := hC p hp
    obtain ⟨bm, ob, b1, b2, b3, b4, b5, b6⟩ := hbm
    obtain ⟨og, eg, ng, hg, dg, rg⟩ := nsG
    have hbo : (hidT s.heap H).get? bm = some ob := by
      refine hidT_get b3 (free bm ob b3 (fun _ _ z => ?_) fun z => ?_) <;> (rw [b6] at z; cases z)
    refine ⟨?_, ⟨bm, ob, b1, b2, fun z => ?_, fun z => ?_, hbo, b4, b5, b6⟩, fun z => ?_⟩
    · obtain ⟨o, us, r1, r2, r3, r4, r5, r6, r7, e, q1, q2, q3, q4⟩ := cd
      refine ⟨o, us, r1, r2, r3, r4, r5, r6, r7, hidT_get e (free _ o e (fun _ _ z => ?_) fun z => ?_), q1, q2, q3, q4⟩
      · rw [q2] at z; cases z
      · rw [q2] at z; cases z; simp at q3
    · rw [z, hg] at b3; cases b3; rw [dg] at b6; cases b6
    · rw [z, t1] at b3; cases b3; cases b6
    · rw [z, t1] at hg; cases hg; cases dg
  have env : Env0 P w K mg (hidT s.heap H) callerA [] s H :=
    { frames := rfl, mod := ⟨inB, nsOf nsG, ⟨mb, nsOf nsB, bB⟩, mc, nsOf lim1, lim2⟩, bs := fun b o h => of_hidT h, bsz := Nat.le_of_eq (hidT_size _ _), funs := trivial,
      frf := fun b hb => (List.not_mem_nil (show b ∈ ([] : List Addr) from hb)).elim, hok := hok, bare := .of_eq gens }
  have sp : SpOf K T S [.ref a] H (fun v _ => v = .bl true) (fun _ _ _ => False) := by
    -- what is frozen: the script alone
    have hd : ∃ Hf, Same Hf H ∧ (∀ a o, Hf a = some o → NoT o) ∧ Ds K Hf (.ref a) (.rls (ns.map .int)) := by
      have intsD : ∀ Hf, DsL K Hf (ns.map V.int) (ns.map D.int) := fun Hf => by
        clear hL hS
        induction ns with
        | nil => exact .nil
        | cons n ns ih => exact .cons (.int n) ih
      refine ⟨fun b => match H b with | some (.tbl _) => none | o => o, fun b o z => ?_, fun b o z => ?_, .rls ?_ (intsD _)⟩
      · dsimp only at z
        split at z
        · cases z
        · exact z
      · dsimp only at z
        split at z
        · cases z
        · rename_i h
          exact fun ps q => h ps (by rw [z, q])
      · rcases hL with (h | ⟨o, h⟩) | h
        · exact .inl (.inl (by dsimp only; rw [h]))
        · exact .inl (.inr ⟨o, by dsimp only; rw [h]⟩)
        · exact .inr h
    obtain ⟨Hf, sm, nt, hd⟩ := hd
    have rel0 : Rel K Hf H ([V.ref a].map some) [.dat (.rls (ns.map .int))] := ⟨sm, .cons ⟨_, rfl, hd⟩ .nil, List.nodup_nil, nt⟩
    refine ⟨fun p hp => TabS.nil (hT p hp), Hf, _, _, _, rel0, hS, ?_, fun c fs A' d Hf' H' z => z.elim⟩
    rintro r A' v Hf' H' rfl rel _
    exact ds_bl (head_d rel)
  refine codeAny_mono ((G _ inB (nsOf nsG) tabs).run callerA [] s H ⟨[.ref a], []⟩ [.ref a] [.ref a] _ _ ⟨hr, rfl⟩ env (bd s (.ref a)) (.cons rfl .nil) sp) ?_
  intro r s' h
  match r, h with
  | .error e, h => exact (by obtain ⟨_, _, _, _, _, _, _, _, _, _, _, _, z⟩ := h; exact z.elim)
  | .ok .next, h => exact h.elim
  | .ok .brk, h => exact h.elim
  | .ok .cont, h => exact h.elim
  | .ok (.ret u), ⟨v, H', os, bare, un, hok', ru, q⟩ =>
    have q : v = .bl true := q
    subst q
    cases (show u = Value.bool true from ru)
    have grown : ∀ b, (∃ c, (c, b) ∈ cs) → H b = some (.tbl #[]) → ∃ more : Array Value, s'.heap.get? b = some { cls := .none, data := .fields more } := by
      intro b _ hb
      obtain ⟨more, z⟩ := un.tbls b #[] hb
      exact ⟨_, hok' b _ z⟩
    refine ⟨rfl, ⟨fun b o hb => ?_, fun b o hb => ?_⟩, os, bare⟩
    · cases hH : H b with
      | none => exact .inl (un.keep b o hb hH (fun z => List.not_mem_nil (show b ∈ ([] : List Addr) from z)) List.not_mem_nil)
      | some u =>
        rcases only b u hH with ⟨rfl, _, xs, rfl⟩ | ⟨⟨c, hc⟩, rfl⟩
        · rw [ha] at hb
          cases hb
          exact .inl (hok' b _ (un.frzs b _ _ hH)).1
        · obtain ⟨more, hm⟩ := grown b ⟨c, hc⟩ hH
          have e0 := (hC _ hc).2.1
          rw [e0] at hb
          cases hb
          exact .inr (.inl ⟨((hC _ hc).1.tab e0).isCodeTable, rfl, #[], more, rfl, by rw [hm]; simp⟩)
    · cases hH : H b with
      | none => exact ⟨o, un.keep b o hb hH (fun z => List.not_mem_nil (show b ∈ ([] : List Addr) from z)) List.not_mem_nil⟩
      | some u =>
        rcases only b u hH with ⟨rfl, _, xs, rfl⟩ | ⟨⟨c, hc⟩, rfl⟩
        · rw [ha] at hb
          cases hb
          exact ⟨_, (hok' b _ (un.frzs b _ _ hH)).1⟩
        · obtain ⟨more, hm⟩ := grown b ⟨c, hc⟩ hH
          exact ⟨_, hm⟩
theorem ints_vals : ∀ {vs : List Value} {ns : List Int}, IntsAre vs ns → Vals (ns.map V.int) vs
  | _, _, .nil => .nil
  | _, _, .cons n t h => .cons ⟨t, rfl⟩ (ints_vals h)
end
/-- makers: the defs of the top whose tables are told -/
theorem walk_g {l : PySem.W.OpenLaw} {n k : Nat} {q : Program} {loose : List Str} {XP : (Str → Option Value) → Heap → Prop} {YP : World → Heap → Prop} {d : DefRec} {K : Params → PySem.W.Frag} {S : FSp} {x : Str} (hm : l.most = some n) (hn : n ≤ sizeLine) (hd : d.params.defaults = []) (hr : Room k callerA)
    (hY : ∀ (w : World) (h : Heap), YP w h → (K w.params).In h)
    (hF : ∀ (w : World) (mg : Str → Option Value) (fa : Addr) (h : Heap), (K w.params).In h → h.Ns mainGlobals mg → mg d.name = some (.ref fa) → ∃ (nm : Addr → Str) (fd : FuncData) (T : List Addr) (cs : List (Addr × Addr)), (∀ (s : Shared) (u : Value), BindsTo s fd ⟨[u], []⟩ [(x, u)]) ∧
      (∀ p ∈ cs, (∃ (y : Str) (r : DefRec), (recsOf q).find? (fun e => e.name == y) = some r ∧ PySem.W.tabIn (K w.params) y = some p) ∧ (K w.params).lookup p.2 = none) ∧ (∀ p ∈ T, ∃ c, (c, p) ∈ cs) ∧
      ∀ base : Heap, (K w.params).In base → base.Ns mainGlobals mg → (∀ p ∈ cs, TabB base mg p.1 p.2) → GOk l.prog w (K w.params) mg base k fa fd [x] (@SpOf ⟨nm⟩ (K w.params) T S))
    (hS : ∀ ns : List Int, ns.length ≤ n → S [.dat (.rls (ns.map .int))] (fun r _ => r = .dat (.bl true)) Z0) : PySem.W.WalkO q loose XP YP l.row.toRowW d [] (fun f vs => PySem.call f vs) := by
  refine Att.attach_call hm hd ?_
  intro w s₀ s mg mb fa o pm cd doc a vs ns G y ho hdd hcd hmg hobj hints hlen hg
  have inK := hY w _ y
  obtain ⟨nm, fd, T, cs, bd, hcs, hTc, hG⟩ := hF w mg fa _ inK G.T.g hmg
  letI : NmC := ⟨nm⟩
  have rv := ints_vals hints
  have hz : (ns.map V.int).length ≤ sizeLine := by rw [List.length_map]; exact Nat.le_trans hlen hn
  have le : vs.length = ns.length := by rw [← rv.length, List.length_map]
  have hC : ∀ p ∈ cs, PySem.W.CodeHd s.heap p.1 p.2 ∧ s.heap.get? p.2 = some tbO ∧ (K w.params).lookup p.2 = none := fun p hp => by
    obtain ⟨⟨y, r, h1, h2⟩, h3⟩ := hcs p hp
    obtain ⟨g1, g2⟩ := PySem.W.tab_of G.T inK h1 h2
    exact ⟨g1, g2, h3⟩
  have na : ¬ ∃ c, (c, a) ∈ cs := fun ⟨c, hc⟩ => by
    have := (hC _ hc).2.1
    rw [hobj] at this
    cases this
  cases hk : (K w.params).lookup a with
  | some ob =>
    have e := inK a ob hk
    rw [hobj] at e
    cases e
    refine at_top (H := fun b => open Classical in if ∃ c, (c, b) ∈ cs then some (.tbl #[]) else none) inK G.T.g G.T.b G.T.builtins G.T.nolimit hg hobj hr G.T.bmain hC (fun p hp => if_pos (hTc p hp)) hG bd (hS ns hlen) (.inr ⟨_, vs.toArray, _, hk, rfl, rfl, rfl, ?_, by simpa using rv⟩) (fun b u z => ?_) (fun b u z => ?_)
    · rw [List.size_toArray, le]
      exact Nat.le_trans hlen hn
    · by_cases hb : ∃ c, (c, b) ∈ cs
      · cases (if_pos hb).symm.trans z
        obtain ⟨c, hc⟩ := hb
        exact (hC _ hc).2.1
      · cases (if_neg hb).symm.trans z
    · by_cases hb : ∃ c, (c, b) ∈ cs
      · cases (if_pos hb).symm.trans z
        exact .inr ⟨hb, rfl⟩
      · cases (if_neg hb).symm.trans z
  | none =>
    refine at_top (H := fun b => open Classical in if b = a then some (.frz { cls := .type "list", data := .seq vs.toArray } (.lst (ns.map V.int))) else if ∃ c, (c, b) ∈ cs then some (.tbl #[]) else none) inK G.T.g G.T.b G.T.builtins G.T.nolimit hg hobj hr G.T.bmain hC
      (fun p hp => (if_neg (show ¬ p = a from fun z => na (by rw [← z]; exact hTc p hp))).trans (if_pos (hTc p hp))) hG bd (hS ns hlen) (.inl (.inr ⟨_, if_pos rfl⟩)) ?_ ?_
    · intro b u z
      by_cases hb : b = a
      · subst hb
        cases (if_pos rfl).symm.trans z
        exact ⟨hobj, hz, vs, _, rv, hobj⟩
      · have z1 := (if_neg hb).symm.trans z
        by_cases hb2 : ∃ c, (c, b) ∈ cs
        · cases (if_pos hb2).symm.trans z1
          obtain ⟨c, hc⟩ := hb2
          exact (hC _ hc).2.1
        · cases (if_neg hb2).symm.trans z1
    · intro b u z
      by_cases hb : b = a
      · subst hb
        cases (if_pos rfl).symm.trans z
        exact .inl ⟨rfl, hk, _, rfl⟩
      · have z1 := (if_neg hb).symm.trans z
        by_cases hb2 : ∃ c, (c, b) ∈ cs
        · cases (if_pos hb2).symm.trans z1
          exact .inr ⟨hb2, rfl⟩
        · cases (if_neg hb2).symm.trans z1
end Y

namespace Y
open PySem L2 PySem.Spec
open PyProof.Rows hiding St
variable [I : NmC]

/-! ### a, *b = xs -/
theorem star_items {prog : Program} {w : World} {A : Around} {E : Value → Shared → Prop} {s : Shared} {l : Addr} {v : Value} {us : List Value} {Q : List Value → Shared → Prop} (hh : A.handled = none) (hl : s.heap.IsList l (v :: us).toArray) (hz : us.length ≤ 1000000)
    (h : ∀ (h' : Heap) (tk : Nat), (∀ b o, s.heap.get? b = some o → h'.get? b = some o) → Q [v, .ref h'.objs.size] { s with heap := h'.push { cls := .type "list", data := .seq us.toArray }, toks := tk }) : wpAny (model prog w) A (unpackItems (.ref l) 2 (some 1)) Q E s := by
  have hlt : l < s.heap.objs.size := let ⟨_, e, _⟩ := hl; Heap.lt_size e
  have hne : l ≠ s.heap.objs.size := Nat.ne_of_lt hlt
  have bigger : (v :: us).toArray.size = us.length + 1 := by simp
  unfold unpackItems
  refine wpAny_bind (show wpAny _ _ (notIterableAtAll (.ref l)) _ _ _ from ?_)
  unfold notIterableAtAll
  refine wpAny_bind (wpAny_specialOf hl.typeIs slot_list_iter.lookup (wpAny_pure ?_))
  rw [if_neg (by decide)]
  refine wpAny_bind (wpAny_holding (wpAny_pyIter_list hl ?_))
  refine wpAny_bind (wpAny_holding (PySem.W.kun_draw hne 1 0 _ _ ⟨_, Heap.get?_push_size _ rfl, rfl, rfl⟩ (hl.push _) (by rw [bigger]; omega) ?_))
  intro h₁ it₁ same₁
  have l₁ := (hl.push { cls := .type "list_iterator", data := .fields #[.ref l, .int 0 0] }).extBut same₁.extBut hne
  rw [if_neg (by simp)]
  refine wpAny_bind (wpAny_holding (PySem.W.kun_collect (s := { s with heap := h₁ }) (T := "list_iterator") (.inr (.inr (.inl rfl))) (Walks.list (A := A.in1) hh s.heap.objs.size l hne (v :: us).toArray) (fun j u st => st.1.typeIs) (k := 1) (by rw [bigger]; omega) ⟨it₁, l₁⟩ ?_ ?_ ?_ ?_))
  · exact let ⟨_, e, _⟩ := it₁; Heap.lt_size e
  · exact let ⟨_, e, _⟩ := l₁; Heap.lt_size e
  · intro h₂ tk k₂
    have e1 : ((v :: us).toArray.toList.drop 1) = us := by simp
    have e2 : List.take 1 (List.drop 0 (v :: us).toArray.toList) = [v] := by simp
    rw [e1, e2]
    show wpAny _ _ (if us.length < 0 then _ else _) _ _ _
    rw [if_neg (Nat.not_lt_zero _)]
    refine wpAny_bind (wpAny_newObj_type (wpAny_pure ?_) ?_)
    · have e3 : List.take (us.length - (2 - 1 - 1)) us = us := by simp
      have e4 : List.drop (us.length - (2 - 1 - 1)) us = [] := by simp
      rw [e3, e4]
      refine h h₂ tk fun b o q => k₂ b o (Nat.ne_of_lt (Heap.lt_size q)) (same₁.extBut b o (Nat.ne_of_lt (Heap.lt_size q)) (Heap.get?_push_of_some _ q))
    · show Array.size _ ≤ sizeLine
      rw [List.size_toArray, List.length_take]
      exact Nat.le_trans (Nat.min_le_right _ _) (mil hz)
  · rw [bigger]
    exact Nat.le_trans (Nat.succ_le_succ hz) (by decide)
theorem obj_get {P : Program} {w : World} {H : Hp} {h : Heap} {a : Addr} {o : HO} (x : ObjOk P w H h a o) : ∃ u, h.get? a = some u := by
  cases o with
  | lst xs => obtain ⟨_, _, _, _, e⟩ := x; exact ⟨_, e⟩
  | tup xs => obtain ⟨_, _, _, o, e, _⟩ := x; exact ⟨o, e⟩
  | dK kvs => obtain ⟨_, _, _, _, o, _, _, e, _⟩ := x; exact ⟨o, e⟩
  | dT kvs => obtain ⟨_, _, _, _, o, _, _, e, _⟩ := x; exact ⟨o, e⟩
  | set S n => obtain ⟨o, _, _, _, e, _⟩ := x; exact ⟨o, e⟩
  | ins C dx fs => obtain ⟨_, _, _, e, _⟩ := x; exact ⟨_, e⟩
  | own y => exact x
  | xd fs => obtain ⟨_, ⟨o, _, _, e, _⟩, _⟩ := x; exact ⟨o, e⟩
  | rng lo hi => obtain ⟨_, _, _, e⟩ := x; exact ⟨_, e⟩
  | frz ob u => exact ⟨_, x.1⟩
  | tbl ps => exact ⟨_, x⟩
  | met f y => exact ⟨_, x⟩
  | ext φ => exact x.2.1
/-- a new object, at a place where nothing stood -/
theorem inv_laid {X : Cx} {pins : List (Addr × Obj)} {σ : L2.St} {H : Hp} {s : Shared} {h' : Heap} {a : Addr} {o : HO} {t' : Nat} (I : L2.Inv X pins σ H s) (k : ∀ b u, s.heap.get? b = some u → h'.get? b = some u) (hp : ∀ b u, s.heap.get? b = some u → b ≠ a)
    (new : ObjOk X.prog X.w (upd H a o) h' a o) : H a = none ∧ L2.Inv X pins σ (upd H a o) { s with heap := h', toks := t' } := by
  have hn : H a = none := by
    cases q : H a with
    | none => rfl
    | some u =>
      obtain ⟨v, e⟩ := obj_get (I.hok a u q)
      exact absurd rfl (hp a v e)
  have far : ∀ {b : Addr} {u : HO}, H b = some u → upd H a o b = some u := fun q => by rw [upd_ne (ne_of_none q hn)]; exact q
  refine ⟨hn, I.un { keep := fun b u q _ _ _ => k b u q, slot := fun b u q _ _ _ => ⟨u.slots, k b u q⟩, free := fun b u q n _ => by rw [upd_ne (hp b u q)]; exact n, there := fun b u q _ => ⟨u, k b u q⟩, tups := fun b xs q => far q, frzs := fun b u xs q => far q, tbls := fun b ps q => ⟨#[], by rw [far q]; simp⟩ } ?_⟩
  intro b u e
  by_cases hb : b = a
  · subst hb
    rw [upd_same] at e
    cases e
    exact new
  · rw [upd_ne hb] at e
    exact (I.hok b u e).stay (fun c v _ q => k c v q) (fun c q => far q) fun c xs q => far q
def gStar2 (K : PySem.W.Frag) (t : TGs) : TG := fun v σ H R => ∃ a x xs, v = .ref a ∧ SqL K H a (x :: xs) ∧ xs.length ≤ 1000000 ∧ ∀ p, H p = none → t [x, .ref p] σ (upd H p (.lst xs)) R
section
variable {X : Cx} {Z : ZZ} {A : List SD} {e a b : Expr} {es : List Expr} {pos : Pos}
theorem pg_star2 {k : Nat} {sp : Pos} {t : TGs} [c : Cok X] (h : PGs X [a, b] t) (hm : (assignEach [a, .Starred b sp] X.env).map (·.2) = (assignEach [a, b] X.env).map (·.2) := by kernel_rfl) (hl : (assignEach [a, .Starred b sp] X.env).length = 2 := by kernel_rfl)
    (hi : (assignEach [a, .Starred b sp] X.env).findIdx? (·.1) = some 1 := by kernel_rfl) : PG X (.Tuple [a, .Starred b sp] k pos) (gStar2 X.K t) := by
  constructor
  rintro pins s σ H v u R I ru ⟨l, x, xs, rfl, hS, hz, q⟩
  cases ru
  obtain ⟨its, rv, pl, _⟩ := I.list hS
  cases rv with
  | cons r0 rs =>
    rename_i u0 us
    rw [assign_Tuple]
    refine wpAny_bind (wpAny_standAt ?_)
    unfold unpack
    rw [hl, hi, hm]
    refine wpAny_bind (wpAny_holding (star_items (I.ok.hd c.calm) pl.isList (by rw [← rs.length]; exact hz) fun h' tk k => ?_))
    obtain ⟨nf, I2⟩ := inv_laid (o := .lst xs) (t' := tk) I (fun b o q => Heap.get?_push_of_some { cls := .type "list", data := .seq us.toArray } (k b o q)) (fun b o q => Nat.ne_of_lt (Heap.lt_size (k b o q))) ⟨mil hz, us, 0, rs, Heap.get?_push_size _ rfl⟩
    exact h.run pins _ σ _ [x, .ref h'.objs.size] [u0, .ref h'.objs.size] R I2 (.cons r0 (.cons rfl .nil)) (q _ nf)
theorem gx_star2 {k : Nat} {sp : Pos} {vs : Nat → Bool} {d : D} {ds : List D} {Q : List SD → Prop} [c : Cok X] (hz : ds.length ≤ 1000000) (h : GX X Z A a vs d fun A1 => GX X Z A1 b vs (.lst ds) Q)
    (hm : (assignEach [a, .Starred b sp] X.env).map (·.2) = (assignEach [a, b] X.env).map (·.2) := by kernel_rfl) (hl : (assignEach [a, .Starred b sp] X.env).length = 2 := by kernel_rfl)
    (hi : (assignEach [a, .Starred b sp] X.env).findIdx? (·.1) = some 1 := by kernel_rfl) (h1 : (assignEach [a, b] X.env).map (·.2) = assign a X.env :: (assignEach [b] X.env).map (·.2) := by kernel_rfl) (h2 : (assignEach [b] X.env).map (·.2) = assign b X.env :: (assignEach [] X.env).map (·.2) := by kernel_rfl) :
    GX X Z A (.Tuple [a, .Starred b sp] k pos) vs (.lst (d :: ds)) Q := fun Hf H σ v rel xo hd R kk => by
  obtain ⟨l, xs, rfl, g1, g2⟩ := ds_lst hd
  cases g2 with
  | cons r0 rs =>
    refine ⟨_, pg_star2 (pgs_cons wg (pgs_cons wg pgs_nil h2) h1) hm hl hi, l, _, _, rfl, .inl (.inl (rel.sm _ _ g1)), by rw [rs.length]; exact hz, fun p hp => ?_⟩
    obtain ⟨r1, f1⟩ := rel.newF (o := .lst _) hp
    exact ⟨_, _, rfl, h _ _ σ _ r1 (xo.step f1) (r0.mono f1.ef) _ fun A1 σ1 Hf1 H1 q1 r2 f2 u2 l2 => ⟨_, _, rfl, q1 Hf1 H1 σ1 _ r2 (xo.step (f1.trans f2)) (.lst (f2.ef _ _ upd_same) ((rs.mono f1.ef).mono f2.ef)) _ fun A2 σ2 Hf2 H2 q2 r3 f3 u3 l3 =>
      ⟨rfl, kk _ _ _ _ q2 r3 (f1.trans (f2.trans f3)) (fun j hj => (u3 j hj).trans (u2 j hj)) (l3.trans l2)⟩⟩⟩
end

/-! ### any, all of numbers and truths, in lists and tuples -/
def tru1 : V → Option Bool
  | .bl b => some b
  | .int i => some (i != 0)
  | .non => some false
  | _ => none
theorem tru_items {prog : Program} {w : World} {A : Around} {xs : List V} {its : List Value} {bs : List Bool} (r : Vals xs its) (h : xs.map tru1 = bs.map some) : TruthOf prog w A (fun i v => its.toArray[i]? = some v) (fun i => bs.getD i false) := by
  intro i v s Q E hv hq
  have hv' : its[i]? = some v := by simpa using hv
  obtain ⟨x, hx, rx⟩ : ∃ x, xs[i]? = some x ∧ RelV x v := by
    have lx : i < xs.length := by rw [r.length]; exact (List.getElem?_eq_some_iff.mp hv').1
    obtain ⟨u, hu, ru⟩ := r.get (List.getElem?_eq_getElem lx)
    rw [hv'] at hu
    cases hu
    exact ⟨_, List.getElem?_eq_getElem lx, ru⟩
  have e : (xs.map tru1)[i]? = (bs.map some)[i]? := by rw [h]
  rw [List.getElem?_map, List.getElem?_map, hx] at e
  obtain ⟨b, hb, eb⟩ := Option.map_eq_some_iff.mp e.symm
  have hq : Q b s := by
    have q : Q (bs.getD i false) s := hq
    rw [List.getD_eq_getElem?_getD, hb] at q
    exact q
  cases x with
  | bl k =>
    cases rx
    cases eb
    exact wpAny_truthy_bool hq
  | int k =>
    obtain ⟨t, rfl⟩ := rx
    cases eb
    exact PySem.P.truthy_int hq
  | non =>
    cases rx
    cases eb
    exact truthy_none hq
  | _ => cases eb
def rQuant (K : PySem.W.Frag) (f : List Bool → Bool) : List V → Hp → VK → Prop := fun vs H R => ∃ (a : Addr) (xs : List V) (bs : List Bool), vs = [.ref a] ∧ (SqL K H a xs ∨ SqT K H a xs) ∧ xs.map tru1 = bs.map some ∧ R (.bl (f bs)) H
theorem quant_ok {X : Cx} [c : Cok X] {id : String} {f : List Bool → Bool} {g : List Nat → (Nat → Bool) → Bool} (hf : ∀ bs : List Bool, g (List.range bs.length) (fun i => bs.getD i false) = f bs)
    (rule : ∀ {prog : Program} {w : World} {A : Around} {E : Value → Shared → Prop} {s : Shared} {x : Value} {Q : Value → Shared → Prop}, wpAny (model prog w) A.in1 (pyIter x) (fun it s₂ => ∃ I fp wr n P St tr, it = .ref I ∧ Walks prog w A.in1 I fp wr n P St ∧ St 0 s₂.heap ∧ TruthOf prog w A.in1 P tr ∧
      ∀ h' tk, (∀ b o, b ∉ wr → s₂.heap.get? b = some o → h'.get? b = some o) → Q (.bool (g (List.range n) tr)) { s₂ with heap := h', toks := tk }) E s → wpAny (model prog w) A (call (.builtin id) [x]) Q E s) : CallR X (.builtin id) (rQuant X.K f) := by
  rintro pins s σ H vs us R I r ⟨a, xs, bs, rfl, hS, hb, q⟩
  rw [Vals.ref1 r]
  have hlen : xs.length = bs.length := by have := congrArg List.length hb; simpa using this
  have old : ∀ (o : Obj) (h' : Heap), (∀ b u, b ∉ [s.heap.objs.size] → (s.heap.push o).get? b = some u → h'.get? b = some u) → ∀ b u, s.heap.get? b = some u → h'.get? b = some u := by
    intro o h' k b u hu
    refine k b u (fun hm => ?_) (Heap.get?_push_of_some _ hu)
    rw [List.mem_singleton.mp hm] at hu
    exact Nat.lt_irrefl _ (Heap.lt_size hu)
  rcases hS with hS | hS
  · obtain ⟨its, rv, pl, _⟩ := I.list hS
    have hlt : a ≠ s.heap.objs.size := let ⟨_, e, _⟩ := pl.isList; Nat.ne_of_lt (Heap.lt_size e)
    refine rule (wpAny_pyIter_list pl.isList ⟨_, _, _, _, _, _, _, rfl, Walks.list (A := X.A.in1) (I.ok.hd c.calm) _ a hlt its.toArray, ⟨⟨_, Heap.get?_push_size _ rfl, rfl, rfl⟩, pl.isList.push _⟩, tru_items rv hb, ?_⟩)
    intro h' tk k
    refine ⟨.bl (f bs), H, I.kept (old _ h' k), ?_, q⟩
    show Value.bool _ = Value.bool _
    rw [List.size_toArray, ← rv.length, hlen, hf]
  · obtain ⟨its, rv, pl, _⟩ := I.tuple hS
    have it : s.heap.IsTuple a its.toArray := pl
    have hlt : a ≠ s.heap.objs.size := let ⟨_, e, _⟩ := it; Nat.ne_of_lt (Heap.lt_size e)
    refine rule (wpAny_pyIter_tuple it ⟨_, _, _, _, _, _, _, rfl, Walks.tuple (A := X.A.in1) (I.ok.hd c.calm) _ a hlt its.toArray, ⟨⟨_, Heap.get?_push_size _ rfl, rfl, rfl⟩, it.push _⟩, tru_items rv hb, ?_⟩)
    intro h' tk k
    refine ⟨.bl (f bs), H, I.kept (old _ h' k), ?_, q⟩
    show Value.bool _ = Value.bool _
    rw [List.size_toArray, ← rv.length, hlen, hf]
theorem cr_anyQ {X : Cx} [c : Cok X] : CallR X (.builtin "any") (rQuant X.K fun bs => bs.any id) := quant_ok (g := fun l t => l.any t) any_range fun h => call_any_walk h
theorem cr_allQ {X : Cx} [c : Cok X] : CallR X (.builtin "all") (rQuant X.K fun bs => bs.all id) := quant_ok (g := fun l t => l.all t) all_range fun h => call_all_walk h
theorem tru_ints {K : PySem.W.Frag} {Hf : Hp} {xs : List V} {α : Type} {zs : List α} {f : α → Int} (h : DsL K Hf xs (zs.map fun z => .int (f z))) : xs.map tru1 = (zs.map fun z => f z != 0).map some := by
  have e : (zs.map fun z => D.int (f z)) = (zs.map f).map D.int := by rw [List.map_map]; rfl
  rw [e] at h
  rw [h.ints, List.map_map, List.map_map, List.map_map]
  rfl
section
variable {X : Cx} {A : List SD} {Q : SD → List SD → Prop}
theorem cq_anyI {l : Bool} {α : Type} {zs : List α} {f : α → Int} [c : Cok X] (q : Q (.dat (.bl (zs.any fun z => f z != 0))) A) : CQ X A (.builtin "any") l (zs.map fun z => .int (f z)) Q := fun Hf H σ rel v h R k => by
  have e : (fun bs : List Bool => bs.any id) (zs.map fun z => f z != 0) = zs.any fun z => f z != 0 := by show (zs.map fun z => f z != 0).any id = _; rw [List.any_map]; rfl
  cases l with
  | true =>
    obtain ⟨a, xs, rfl, h1, h2⟩ := h.l
    exact ⟨_, cr_anyQ, a, xs, _, rfl, .inl h1, tru_ints h2, by rw [e]; exact fin_d rel q (.bl _) k⟩
  | false =>
    obtain ⟨a, xs, rfl, h1, h2⟩ := h.t
    exact ⟨_, cr_anyQ, a, xs, _, rfl, .inr (seqT rel.sm h1), tru_ints h2, by rw [e]; exact fin_d rel q (.bl _) k⟩
theorem cq_allI {l : Bool} {α : Type} {zs : List α} {f : α → Int} [c : Cok X] (q : Q (.dat (.bl (zs.all fun z => f z != 0))) A) : CQ X A (.builtin "all") l (zs.map fun z => .int (f z)) Q := fun Hf H σ rel v h R k => by
  have e : (fun bs : List Bool => bs.all id) (zs.map fun z => f z != 0) = zs.all fun z => f z != 0 := by show (zs.map fun z => f z != 0).all id = _; rw [List.all_map]; rfl
  cases l with
  | true =>
    obtain ⟨a, xs, rfl, h1, h2⟩ := h.l
    exact ⟨_, cr_allQ, a, xs, _, rfl, .inl h1, tru_ints h2, by rw [e]; exact fin_d rel q (.bl _) k⟩
  | false =>
    obtain ⟨a, xs, rfl, h1, h2⟩ := h.t
    exact ⟨_, cr_allQ, a, xs, _, rfl, .inr (seqT rel.sm h1), tru_ints h2, by rw [e]; exact fin_d rel q (.bl _) k⟩

/-! ### isinstance -/
inductive TyD : D → String → Prop
  | non : TyD .non "NoneType"
  | bl (b : Bool) : TyD (.bl b) "bool"
  | int (i : Int) : TyD (.int i) "int"
  | str (x : Str) : TyD (.str x) "str"
  | lst (ds : List D) : TyD (.lst ds) "list"
  | tup (ds : List D) : TyD (.tup ds) "tuple"
theorem TyD.ok {K : PySem.W.Frag} {Hf H : Hp} {d : D} {T : String} {v : V} (t : TyD d T) (sm : Same Hf H) (h : Ds K Hf v d) : TyX K H v (.type T) := by
  cases t with
  | non => cases h; exact .base .non
  | bl b => cases h; exact .base (.bl b)
  | int i => cases h; exact .base (.int i)
  | str x => cases h; exact .base (.str x)
  | lst ds =>
    obtain ⟨a, xs, rfl, h1, _⟩ := ds_lst h
    exact .base (.lst (sm _ _ h1))
  | tup ds =>
    obtain ⟨a, xs, rfl, h1, _⟩ := ds_tup h
    rcases seqT sm h1 with (h1 | ⟨o, h1⟩) | ⟨o, its, n, h1, h2, _⟩
    · exact .base (.tup h1)
    · exact .fTuple h1
    · exact .kTuple h1 h2
theorem cs_isi {d : D} {T c : String} {b : Bool} (t : TyD d T) (h : kitB T c = some b) (q : Q (.dat (.bl b)) A) : CS X A (.builtin "isinstance") [d, .ty c] Q := fun Hf H σ rel vs hv R k => by
  obtain ⟨v, u, rfl, h1, h2⟩ := dsl2 hv
  cases ds_ty h2
  exact ⟨_, call_isi, v, .ty c, .type T, .type c, b, rfl, .ty c, t.ok rel.sm h1, kit_ty h, fin_d rel q (.bl _) k⟩
/-- of a tuple of built-in classes -/
def kitAnyB (T : String) : List String → Option Bool
  | [] => some false
  | c :: cs => match kitB T c with
    | some true => some true
    | some false => kitAnyB T cs
    | none => none
theorem kitAny_ok {K : PySem.W.Frag} {T : String} : ∀ {cs : List String} {b : Bool}, kitAnyB T cs = some b → PySem.W.kitAny K (.type T) (cs.map Value.type) = some b
  | [], b, h => by cases h; rfl
  | c :: cs, b, h => by
    unfold kitAnyB at h
    cases hc : kitB T c with
    | none => rw [hc] at h; cases h
    | some x =>
      rw [hc] at h
      cases x with
      | true => cases h; exact kitAny_cons (kit_ty hc) (fun z => by cases z) fun _ => rfl
      | false => exact kitAny_cons (kit_ty hc) (fun _ => kitAny_ok h) fun z => by cases z
/-- isinstance(x, (c, ..)), the tuple of classes laid on the way: its own rule, for the tuple must be H's own -/
theorem ex_isiT {Z : ZZ} {a : Expr} {es : List Expr} {p p2 pos : Pos} {k : Nat} {cs : List String} [c : Cok X] (h : ED X Z A a fun d A1 => EA X Z A1 es fun ds A2 => ∃ T b, ds = cs.map .ty ∧ TyD d T ∧ kitAnyB T cs = some b ∧ Q (.dat (.bl b)) A2) (hz : cs.length ≤ 1000000)
    (hg : Gl X "isinstance" := by exact gl_of (by kernel_rfl)) (h1 : starEach [a, .Tuple es k p2] X.env = (false, eval a X.env) :: starEach [.Tuple es k p2] X.env := by kernel_rfl) (h2 : starEach [.Tuple es k p2] X.env = [(false, eval (.Tuple es k p2) X.env)] := by kernel_rfl)
    (hpl : (backTo pos (starEach [.Tuple es k p2] X.env)).any (·.1) = false := by kernel_rfl) : EX X Z A (.Call (.Name "isinstance" p) [a, .Tuple es k p2] [] pos) Q := fun Hf H σ rel xo R kk => by
  refine ⟨_, pe_callB call_isiT hg (c.no _ (by decide)) (by kernel_rfl) (pa_cons we (pa_cons (pe_tup wa) pa_nil h2) h1) (by decide) (by kernel_rfl) h1 hpl, h Hf H σ rel xo _ fun d A1 v Hf1 H1 q1 r1 s1 f1 => q1 Hf1 H1 σ r1 (xo.step f1) _ fun ds A2 vs Hf2 H2 ⟨T, b, e, t, hb, q⟩ r2 s2 f2 => ?_⟩
  have hl : vs.length = cs.length := by rw [s2.length, e, List.length_map]
  refine ⟨by rw [hl]; exact mil hz, fun p hp => ?_⟩
  obtain ⟨r3, f3⟩ := r2.newF (o := .tup vs) hp
  have cls : ∀ {vs : List V} {cs : List String}, DsL X.K Hf2 vs (cs.map .ty) → Paired ClsV vs (cs.map Value.type) := by
    intro vs cs h
    induction cs generalizing vs with
    | nil => cases h; exact .nil
    | cons c cs ih => cases h with
      | cons a b => cases ds_ty a; exact .cons (.ty c) (ih b)
  subst e
  exact ⟨v, p, vs, .type T, cs.map Value.type, b, rfl, upd_same, cls s2, t.ok r3.sm ((s1.mono f2.ef).mono f3.ef), kitAny_ok hb, fin_d r3 q (.bl _) fun r A' v Hf' H' q r4 f4 => kk r A' v Hf' H' q r4 (((f1.trans f2).trans f3).trans f4)⟩
end
end Y

namespace Y
open NdefX LamX
open PySem L2 PySem.Spec
open PyProof.Rows hiding St
variable [I : NmC]

/-! ### xs.append(e), xs.extend(e), xs an owned list -/
section
variable {X : Cx} {Z : ZZ} {A : List SD} {e a b : Expr} {es : List Expr} {pos apos spos : Pos} {E : AE}
theorem sx_app (i : Nat) {y : Str} {py : Pos} {p : Addr} {o : OD} (hA : A[i]? = some (.own p o)) (h : ED X Z A e fun d A1 => ∃ p ds, A1[i]? = some (.own p (.lst ds)) ∧ ds.length < 1000000 ∧ E.nx (A1.set i (.own p (.lst (ds ++ [d])))))
    (hN : X.N[i]? = some y := by kernel_rfl) (hv : Vis X.env.scope y := by exact vis_of (by kernel_rfl)) (hdy : (y == ("__debug__" : Str)) = false := by kernel_rfl) (hcd : (y == ("__classdict__" : Str)) = false := by kernel_rfl)
    (hbase : attributeBase (.Name y py) "append" X.env (eval (.Name y py) X.env) = eval (.Name y py) X.env := by kernel_rfl)
    (hfew : ((backTo pos (starEach [e] X.env)).all (fun x => !x.1) && (backToKw pos (keywordEach [] X.env)).all (fun x => x.1.isSome) && decide (([e] : List Expr).length + ([] : List Keyword).length + (if ([] : List Keyword).isEmpty then 0 else 1) < 30)) = true := by kernel_rfl)
    (hline : (apos.endLine == pos.line) = true := by kernel_rfl) (hs : starEach [e] X.env = (false, eval e X.env) :: starEach [] X.env := by kernel_rfl) (hplain : (backTo pos (starEach [] X.env)).any (·.1) = false := by kernel_rfl)
    (hsw : swapsWith (.Call (.Attribute (.Name y py) "append" apos) [e] [] pos) none spos.line X.env = pure false := by kernel_rfl) : SX X Z A (.Expr (.Call (.Attribute (.Name y py) "append" apos) [e] [] pos) spos) E := fun Hf H σ rel xo D k => by
  obtain ⟨ov, g1, g2, g3, g4⟩ := Paired.at rel.al hA
  have hr := rel.ref hA
  have ty : tyV X.K "list" (.ref p) H := by
    cases o with
    | lst ds => obtain ⟨xs, q, _⟩ := g4; exact .inl ⟨rfl, _, .inl (.inl q)⟩
  refine ⟨_, ps_expr (pe_bm PySem.F.plainAttrs_list PySem.F.slot_list_append PySem.F.type_list_append mt_append (pe_var hN hv hdy hcd) (pa_cons we pa_nil hs) hbase hfew hline hs hplain) hsw, _, hr, ty, h Hf H σ rel xo _ fun d A1 v Hf1 H1 ⟨q, ds, hA1, hz, nx⟩ r1 s1 f1 => ?_⟩
  have hr1 := r1.ref hA1
  rw [hr] at hr1
  cases hr1
  obtain ⟨xs, h3, h4⟩ := r1.olst hA1
  obtain ⟨r2, f2⟩ := r1.upd (u := .lst (xs ++ [v])) (o2 := .lst (ds ++ [d])) hA1 ⟨_, upd_same, h4.append (.cons s1 .nil)⟩
  exact ⟨p, xs, v, rfl, rfl, h3, by rw [h4.length]; exact Nat.lt_of_lt_of_le hz (by decide), k.nx _ _ _ _ nx r2 (f1.trans f2)⟩
theorem sx_ext (i : Nat) {y : Str} {py : Pos} {p : Addr} {o : OD} (hA : A[i]? = some (.own p o)) (h : ED X Z A e fun d A1 => ∃ p ds es, d = .lst es ∧ A1[i]? = some (.own p (.lst ds)) ∧ ds.length + es.length ≤ 1000000 ∧ E.nx (A1.set i (.own p (.lst (ds ++ es)))))
    (hN : X.N[i]? = some y := by kernel_rfl) (hv : Vis X.env.scope y := by exact vis_of (by kernel_rfl)) (hdy : (y == ("__debug__" : Str)) = false := by kernel_rfl) (hcd : (y == ("__classdict__" : Str)) = false := by kernel_rfl)
    (hbase : attributeBase (.Name y py) "extend" X.env (eval (.Name y py) X.env) = eval (.Name y py) X.env := by kernel_rfl)
    (hfew : ((backTo pos (starEach [e] X.env)).all (fun x => !x.1) && (backToKw pos (keywordEach [] X.env)).all (fun x => x.1.isSome) && decide (([e] : List Expr).length + ([] : List Keyword).length + (if ([] : List Keyword).isEmpty then 0 else 1) < 30)) = true := by kernel_rfl)
    (hline : (apos.endLine == pos.line) = true := by kernel_rfl) (hs : starEach [e] X.env = (false, eval e X.env) :: starEach [] X.env := by kernel_rfl) (hplain : (backTo pos (starEach [] X.env)).any (·.1) = false := by kernel_rfl)
    (hsw : swapsWith (.Call (.Attribute (.Name y py) "extend" apos) [e] [] pos) none spos.line X.env = pure false := by kernel_rfl) : SX X Z A (.Expr (.Call (.Attribute (.Name y py) "extend" apos) [e] [] pos) spos) E := fun Hf H σ rel xo D k => by
  obtain ⟨ov, g1, g2, g3, g4⟩ := Paired.at rel.al hA
  have hr := rel.ref hA
  have ty : tyV X.K "list" (.ref p) H := by
    cases o with
    | lst ds => obtain ⟨xs, q, _⟩ := g4; exact .inl ⟨rfl, _, .inl (.inl q)⟩
  refine ⟨_, ps_expr (pe_bm PySem.F.plainAttrs_list PySem.F.slot_list_extend PySem.F.type_list_extend mt_extend (pe_var hN hv hdy hcd) (pa_cons we pa_nil hs) hbase hfew hline hs hplain) hsw, _, hr, ty, h Hf H σ rel xo _ fun d A1 v Hf1 H1 ⟨q, ds, gs, e, hA1, hz, nx⟩ r1 s1 f1 => ?_⟩
  subst e
  have hr1 := r1.ref hA1
  rw [hr] at hr1
  cases hr1
  obtain ⟨b, ys, rfl, h5, h6⟩ := ds_lst s1
  obtain ⟨xs, h3, h4⟩ := r1.olst hA1
  obtain ⟨r2, f2⟩ := r1.upd (u := .lst (xs ++ ys)) (o2 := .lst (ds ++ gs)) hA1 ⟨_, upd_same, h4.append h6⟩
  exact ⟨p, b, xs, ys, rfl, rfl, h3, r1.sm _ _ h5, by rw [h4.length, h6.length]; exact mil hz, k.nx _ _ _ _ nx r2 (f1.trans f2)⟩

/-! ### slices -/
def PX (X : Cx) (Z : ZZ) (A : List SD) (e : Option Expr) (Q : Option Int → List SD → Prop) : Prop := match e with
  | none => Q none A
  | some e => ED X Z A e fun d A1 => ∃ i, d = .int i ∧ Q (some i) A1
def cutD (ds : List D) (lo hi : Option Int) : List D := (ds.drop (HT.sIx ds.length 0 lo)).take (HT.sIx ds.length ds.length hi - HT.sIx ds.length 0 lo)
theorem dsl_cut {K : PySem.W.Frag} {Hf : Hp} {xs : List V} {ds : List D} (h : DsL K Hf xs ds) (lo hi : Option Int) : DsL K Hf (cutV xs lo hi) (cutD ds lo hi) := by
  unfold cutV cutD
  rw [h.length]
  exact (h.drop _).take _
theorem po_run {Q : Option Int → List SD → Prop} {lo : Option Expr} (h : PX X Z A lo Q) : ∃ t : TO, PO X lo t ∧ ∀ Hf H σ, Rel X.K Hf H σ A → XOk X Z (owns A) Hf H → ∀ R : Option Int → Hp → Prop, (∀ i A' Hf' H', Q i A' → Rel X.K Hf' H' σ A' → Fr (owns A) Hf H (owns A') Hf' H' → R i H') → t σ H R := by
  cases lo with
  | none => exact ⟨_, po_none, fun Hf H σ rel xo R k => k _ _ _ _ h rel (Fr.refl _ _ _)⟩
  | some e => exact ⟨_, po_some we, fun Hf H σ rel xo R k => h Hf H σ rel xo _ fun d A1 v Hf1 H1 ⟨i, e, q⟩ r1 s1 f1 => by subst e; exact ⟨i, ds_int s1, k _ _ _ _ q r1 f1⟩⟩
def WPO (X : Cx) (e : Option Expr) : TO := fun σ H R => ∃ t, PO X e t ∧ t σ H R
theorem wpo {e : Option Expr} : PO X e (WPO X e) := by
  constructor
  intro pins s σ H Q I h
  obtain ⟨t, ht, h⟩ := h
  exact ht.run pins s σ H Q I h
/-- xs[a:b], of a list or a tuple: a new one -/
theorem ex_slL {lo hi : Option Expr} {p2 : Pos} {Q : SD → List SD → Prop} (h : ED X Z A e fun d A1 => ∃ ds, d = .lst ds ∧ PX X Z A1 lo fun i A2 => PX X Z A2 hi fun j A3 => ∀ p, Q (.own p (.lst (cutD ds i j))) A3) : EX X Z A (.Subscript e (.Slice lo hi none p2) pos) Q := fun Hf H σ rel xo R k =>
  ⟨_, pe_slice sl_list we wpo wpo, h Hf H σ rel xo _ fun d A1 v Hf1 H1 ⟨ds, e, hp⟩ r1 s1 f1 => by
    subst e
    obtain ⟨t1, ht1, run1⟩ := po_run hp
    refine ⟨t1, ht1, run1 Hf1 H1 σ r1 (xo.step f1) _ fun i A2 Hf2 H2 q2 r2 f2 => ?_⟩
    obtain ⟨t2, ht2, run2⟩ := po_run q2
    refine ⟨t2, ht2, run2 Hf2 H2 σ r2 (xo.step (f1.trans f2)) _ fun j A3 Hf3 H3 q3 r3 f3 => ?_⟩
    obtain ⟨a, xs, rfl, h1, h2⟩ := ds_lst s1
    have ff := f2.ef.trans f3.ef
    exact ⟨a, xs, rfl, .inl (.inl (r3.sm _ _ (ff _ _ h1))), fun p hp => fin_l r3 hp q3 (dsl_cut (h2.mono ff) i j) fun r A' v Hf' H' q r4 f4 => k _ _ _ _ _ q r4 (((f1.trans f2).trans f3).trans f4)⟩⟩
theorem ex_revL {kk : Nat} {p1 p2 p3 : Pos} {Q : SD → List SD → Prop} (h : ES X Z A e fun l ds A1 => l = true ∧ ∀ p, Q (.own p (.lst ds.reverse)) A1) : EX X Z A (.Subscript e (.Slice none none (some (.UnaryOp .USub (.Constant (.int 1) kk p1) p2)) p3) pos) Q := fun Hf H σ rel xo R k =>
  ⟨_, pe_revL we, h Hf H σ rel xo _ fun l ds A1 v Hf1 H1 ⟨e, q⟩ r1 s1 f1 => by
    subst e
    obtain ⟨a, xs, rfl, h1, h2⟩ := s1.l
    exact ⟨a, xs, rfl, h1, fun p hp => fin_l r1 hp q h2.reverse fun r A' v Hf' H' q r4 f4 => k _ _ _ _ _ q r4 (f1.trans f4)⟩⟩

/-! ### f(e, k = v) -/
def pick {α : Type} (perm : List Nat) (l : List α) : List α := perm.filterMap fun i => l[i]?
theorem pick_paired {α β : Type} {G : α → β → Prop} {l₁ : List α} {l₂ : List β} (h : Paired G l₁ l₂) : ∀ perm, Paired G (pick perm l₁) (pick perm l₂)
  | [] => .nil
  | i :: perm => by
    have ih := pick_paired h perm
    unfold pick at ih ⊢
    rw [List.filterMap_cons, List.filterMap_cons]
    have hl := Paired.length h
    cases h2 : l₂[i]? with
    | none =>
      have : l₁[i]? = none := List.getElem?_eq_none (by rw [hl]; exact List.getElem?_eq_none_iff.mp h2)
      rw [this]
      exact ih
    | some b =>
      obtain ⟨a, h1, g⟩ := Paired.at h h2
      rw [h1]
      exact .cons g ih
theorem dsl_paired {K : PySem.W.Frag} {Hf : Hp} : ∀ {vs : List V} {ds : List D}, DsL K Hf vs ds → Paired (Ds K Hf) vs ds
  | _, _, .nil => .nil
  | _, _, .cons a b => .cons a (dsl_paired b)
theorem paired_dsl {K : PySem.W.Frag} {Hf : Hp} : ∀ {vs : List V} {ds : List D}, Paired (Ds K Hf) vs ds → DsL K Hf vs ds
  | _, _, .nil => .nil
  | _, _, .cons a b => .cons a (paired_dsl b)
def WK (X : Cx) (kws : List Keyword) : TA := fun σ H R => ∃ t, PK X kws t ∧ t σ H R
theorem wk {kws : List Keyword} : PK X kws (WK X kws) := ⟨fun p pins s σ H Q I h => let ⟨_, ht, h⟩ := h; ht.run p pins s σ H Q I h⟩
def EK (X : Cx) (Z : ZZ) (A : List SD) (kws : List Keyword) (Q : List D → List SD → Prop) : Prop :=
  ∀ Hf H σ, Rel X.K Hf H σ A → XOk X Z (owns A) Hf H → ∀ R : List V → Hp → Prop, (∀ ds A' vs Hf' H', Q ds A' → Rel X.K Hf' H' σ A' → DsL X.K Hf' vs ds → Fr (owns A) Hf H (owns A') Hf' H' → R vs H') → WK X kws σ H R
theorem ek_nil {Q : List D → List SD → Prop} (q : Q [] A) : EK X Z A [] Q := fun Hf H σ rel xo R k => ⟨_, pk_nil, k _ _ _ _ _ q rel .nil (Fr.refl _ _ _)⟩
theorem ek_cons {nm : Option Str} {kp : Pos} {kws : List Keyword} {Q : List D → List SD → Prop} (h : ED X Z A e fun d A1 => EK X Z A1 kws fun ds A2 => Q (d :: ds) A2) : EK X Z A (⟨nm, e, kp⟩ :: kws) Q := fun Hf H σ rel xo R k =>
  ⟨_, pk_cons we wk, h Hf H σ rel xo _ fun d A1 v Hf1 H1 h1 r1 s1 f1 => h1 Hf1 H1 σ r1 (xo.step f1) _ fun ds A2 vs Hf2 H2 q2 r2 s2 f2 => k _ _ _ _ _ q2 r2 (.cons (s1.mono f2.ef) s2) (f1.trans f2)⟩
abbrev BndK (st : Stmt) (qual : Str) (ps : List Str) (n : Nat) (ks : List Str) (perm : List Nat) : Prop := ∀ (kV doc pm : Value) (an : Option Addr) (cdv ct : Value) (us ws : List Value), us.length = n → ws.length = ks.length →
  bindArgs (PySem.W.fnOf qual qual (defArgs st) (defBody st) (defScope st) .none kV doc pm an cdv ct) ⟨us, ks.zip ws⟩ = pure (ps.zip (pick perm (us ++ ws)))
variable {k n : Nat} {ps ks : List Str} {perm : List Nat} {S : FSp} {x qual : Str} {st : Stmt} {p : Pos} {kws : List Keyword} {Q : SD → List SD → Prop}
/-- what follows the arguments of a call, all data -/
theorem call_end {f : Addr} {fd : FuncData} {W : L2.WX} {σ : St} {Hf H : Hp} {R : VK} {vs : List V} {ds : List D} (rel : Rel X.K Hf H σ A) (hv : DsL X.K Hf vs ds) (tabs : TabsA Z.T H) (hS : S (ds.map .dat) (fun r _ => Q r A) (fun c fs _ => Z.z c fs A))
    (kk : ∀ r A' v Hf' H', Q r A' → Rel X.K Hf' H' (some v :: σ) (r :: A') → Fr (owns A) Hf H (owns (r :: A')) Hf' H' → R v H')
    (kz : ∀ c fs A' d σ' Hf' H', Z.z c fs A' → Rel X.K Hf' H' σ' A' → XD X.K Hf' d fs → Fr (owns A) Hf H (owns A') Hf' H' → W c d σ' H') : SpOf X.K Z.T S vs H R (fun c d H2 => W c d σ H2) := by
  obtain ⟨rv, ro⟩ := dats_rel rel.sm rel.nt hv
  refine ⟨tabs, Hf, _, _, _, rv, hS, ?_, ?_⟩
  · intro r A' v Hf' H' q r2 f2
    rw [ro] at f2
    refine kk r A v Hf' H' q ((rel.through f2 r2.sm r2.nt).cons r2.head fun p o z hp => ?_) (f2.wide fun p hp => ?_)
    · subst z
      rcases f2.gr p List.mem_cons_self with z | z
      · cases z
      · exact rel.there hp z
    · exact (own_head p hp).imp id fun ⟨o, e⟩ => by subst e; exact List.mem_cons_self
  · intro c fs A' d Hf' H' z r2 xd f2
    rw [ro] at f2
    exact kz c fs A d σ Hf' H' z (rel.through f2 r2.sm r2.nt) xd (f2.wide fun p hp => .inl hp)
theorem run_k {f : Addr} {fd : FuncData} {sp : Sp} {W : L2.WX} {pins : List (Addr × Obj)} {σ : St} {H : Hp} {s : Shared} {R : VK} {us ws : List Value} {vs zs : List V} (G : GOk X.prog X.w X.K X.mg X.base k f fd ps sp) (g : Good k X.A) (F : Fun X.K qual qual st f fd) (hb : BndK st qual ps n ks perm) (I : L2.Inv X pins σ H s)
    (r : Vals vs us) (rz : Vals zs ws) (hn : vs.length = n) (hk : zs.length = ks.length) (tk : Takes X W) (h : sp (pick perm (vs ++ zs)) H R fun c d H2 => W c d σ H2) : wpAny (model X.prog X.w) X.A (call (.ref f) us (ks.zip ws)) (EP X pins σ R) X.xe s := by
  have bt : BindsTo s fd ⟨us, ks.zip ws⟩ (ps.zip (pick perm (us ++ ws))) := by
    obtain ⟨oc, od, kV, doc, pm, an, cdv, ct, osl, rfl, _, _⟩ := F.ex
    exact .of_eq (hb kV doc pm an cdv ct us ws (r.length.symm.trans hn) (rz.length.symm.trans hk))
  refine wpAny_call (codeAny_mono (run_g G g I bt (pick_paired (Paired.app r rz) perm) tk (fun _ _ _ h => h) h) ?_)
  intro r s' hr
  match r, hr with
  | .error e, hr => exact hr
  | .ok (.ret u), hr => exact hr
  | .ok .next, hr => exact hr.elim
  | .ok .brk, hr => exact hr.elim
  | .ok .cont, hr => exact hr.elim
theorem ex_callK (perm : List Nat) (ks : List Str) (F : Fn Z.T X.prog X.w X.K X.mg X.base k x qual st ps S) (g : Good k X.A) (hb : BndK st qual ps n ks perm) (h : EA X Z A (e :: es) fun ds A1 => EK X Z A1 kws fun zs A2 => ds.length = n ∧ zs.length = ks.length ∧ S ((pick perm (ds ++ zs)).map .dat) (fun r _ => Q r A2) (fun c fs _ => Z.z c fs A2))
    (hks : (backToKw pos (keywordEach kws X.env)).filterMap (·.1) = ks := by kernel_rfl) (hall : (backToKw pos (keywordEach kws X.env)).all (·.1.isSome) = true := by kernel_rfl) (hg : Gl X x := by exact gl_of (by kernel_rfl)) (hdb : (x == ("__debug__" : Str)) = false := by kernel_rfl)
    (he : starEach (e :: es) X.env = (false, eval e X.env) :: starEach es X.env := by kernel_rfl) (hpl : ((backTo pos (starEach (e :: es) X.env)).any (·.1) || (backToKw pos (keywordEach kws X.env)).any (·.1.isNone)) = false := by kernel_rfl) : EX X Z A (.Call (.Name x p) (e :: es) kws pos) Q := by
  obtain ⟨f, fd, hm, F, G⟩ := F.ex
  intro Hf H σ rel xo R kk
  obtain ⟨tabs, W, tk, kz⟩ := xo
  have pe : PE X (.Call (.Name x p) (e :: es) kws pos) (fun σ H R => WA X (e :: es) σ H fun vs H1 => WK X kws σ H1 fun zs H2 => vs.length = n ∧ zs.length = ks.length ∧ SpOf X.K Z.T S (pick perm (vs ++ zs)) H2 R fun c d H3 => W c d σ H3) := by
    constructor
    intro pins s σ H R I h
    refine wpAny_Call_Name_kw (ld_glob I hg hm ?_ hdb)
    refine PySem.W.callWith_KW (h₀ := X.base) I.ok.mod.kin F.kp hall (thn (wa.run pos pins s σ H _ I h) ?_) hpl he
    rintro us s1 ⟨vs, H1, I1, r, q⟩
    refine thn (wk.run pos pins s1 σ H1 _ I1 q) ?_
    rintro ws s2 ⟨zs, H2, I2, rz, l1, l2, q2⟩
    refine ⟨I2.kIn, ?_⟩
    rw [hks]
    exact run_k G g F hb I2 r rz l1 l2 tk q2
  refine ⟨_, pe, h Hf H σ rel ⟨tabs, W, tk, kz⟩ _ ?_⟩
  rintro ds A1 vs Hf1 H1 h1 r1 s1 f1
  refine h1 Hf1 H1 σ r1 ⟨fun p hp => f1.ts _ (tabs p hp), W, tk, fun c fs A' d σ' Hf' H' z r xd f => kz c fs A' d σ' Hf' H' z r xd (f1.trans f)⟩ _ ?_
  rintro zs A2 ws Hf2 H2 ⟨l1, l2, hS⟩ r2 s2 f2
  have f12 := f1.trans f2
  exact ⟨s1.length.trans l1, s2.length.trans l2, call_end (f := f) (fd := fd) r2 (paired_dsl (pick_paired (Paired.app (dsl_paired (s1.mono f2.ef)) (dsl_paired s2)) perm)) (fun p hp => f12.ts _ (tabs p hp)) hS (fun r A' v Hf' H' q r3 f3 => kk r A' v Hf' H' q r3 (f12.trans f3)) fun c fs A' d σ' Hf' H' z r3 xd f3 => kz c fs A' d σ' Hf' H' z r3 xd (f12.trans f3)⟩
/-- .. none by place -/
theorem ex_callK0 (perm : List Nat) (ks : List Str) (F : Fn Z.T X.prog X.w X.K X.mg X.base k x qual st ps S) (g : Good k X.A) (hb : BndK st qual ps 0 ks perm) (h : EK X Z A kws fun zs A2 => zs.length = ks.length ∧ S ((pick perm zs).map .dat) (fun r _ => Q r A2) (fun c fs _ => Z.z c fs A2))
    (hks : (backToKw pos (keywordEach kws X.env)).filterMap (·.1) = ks := by kernel_rfl) (hall : (backToKw pos (keywordEach kws X.env)).all (·.1.isSome) = true := by kernel_rfl) (hg : Gl X x := by exact gl_of (by kernel_rfl)) (hdb : (x == ("__debug__" : Str)) = false := by kernel_rfl)
    (hpl : ((backTo pos (starEach [] X.env)).any (·.1) || (backToKw pos (keywordEach kws X.env)).any (·.1.isNone)) = false := by kernel_rfl) : EX X Z A (.Call (.Name x p) [] kws pos) Q := by
  obtain ⟨f, fd, hm, F, G⟩ := F.ex
  intro Hf H σ rel xo R kk
  obtain ⟨tabs, W, tk, kz⟩ := xo
  have pe : PE X (.Call (.Name x p) [] kws pos) (fun σ H R => WK X kws σ H fun zs H2 => zs.length = ks.length ∧ SpOf X.K Z.T S (pick perm zs) H2 R fun c d H3 => W c d σ H3) := by
    constructor
    intro pins s σ H R I h
    refine wpAny_Call_Name_kw (ld_glob I hg hm ?_ hdb)
    refine PySem.W.callWith_KW0 (h₀ := X.base) I.ok.mod.kin F.kp hall (thn (wk.run pos pins s σ H _ I h) ?_) hpl
    rintro ws s2 ⟨zs, H2, I2, rz, l2, q2⟩
    refine ⟨I2.kIn, ?_⟩
    rw [hks]
    exact run_k (vs := []) G g F hb I2 .nil rz rfl l2 tk q2
  refine ⟨_, pe, h Hf H σ rel ⟨tabs, W, tk, kz⟩ _ ?_⟩
  rintro zs A2 ws Hf2 H2 ⟨l2, hS⟩ r2 s2 f2
  exact ⟨s2.length.trans l2, call_end (f := f) (fd := fd) r2 (paired_dsl (pick_paired (dsl_paired s2) perm)) (fun p hp => f2.ts _ (tabs p hp)) hS (fun r A' v Hf' H' q r3 f3 => kk r A' v Hf' H' q r3 (f2.trans f3)) fun c fs A' d σ' Hf' H' z r3 xd f3 => kz c fs A' d σ' Hf' H' z r3 xd (f2.trans f3)⟩
end
end Y

namespace Y
open PySem L2
open PyProof.Rows hiding St
variable [I : NmC]

/-! ### zip of a list and a tuple, either way about -/
def sqB (K : PySem.W.Frag) (l : Bool) (H : Hp) (a : Addr) (xs : List V) : Prop := match l with
  | true => SqL K H a xs
  | false => SqT K H a xs
def arB (l : Bool) (h : Heap) (a : Addr) (us : Array Value) : Prop := match l with
  | true => h.IsList a us
  | false => h.IsTuple a us
def itB (l : Bool) (h : Heap) (it a : Addr) (i : Nat) : Prop := match l with
  | true => h.IsListIter it a i
  | false => h.IsTupleIter it a i
theorem drB {P : Program} {w : World} {A : Around} (q : A.handled = none) (l : Bool) (it a : Addr) (n : a ≠ it) (us : Array Value) : Draws P w A it [it, a] us.size (fun i v => us[i]? = some v) fun i h => itB l h it a i ∧ arB l h a us := by
  cases l with
  | true => exact Draws.list q it a n us
  | false => exact Draws.tuple q it a n us
theorem itB_obj {l : Bool} {h : Heap} {it a : Addr} {i : Nat} (q : itB l h it a i) : ∃ o, h.get? it = some o ∧ ∀ v, o.data ≠ .cell v := by
  cases l with
  | true => exact let ⟨o, e, _, d⟩ := q; ⟨o, e, fun v z => by rw [d] at z; cases z⟩
  | false => exact let ⟨o, e, _, d⟩ := q; ⟨o, e, fun v z => by rw [d] at z; cases z⟩
theorem itB_at {l : Bool} {h h' : Heap} {it a : Addr} {i : Nat} (q : itB l h it a i) (k : ∀ o, h.get? it = some o → h'.get? it = some o) : itB l h' it a i := by
  cases l with
  | true => exact q.at k
  | false => exact q.at k
theorem itB_lt {l : Bool} {h : Heap} {it a : Addr} {i : Nat} (q : itB l h it a i) : it < h.objs.size := let ⟨_, e, _⟩ := itB_obj q; Heap.lt_size e
theorem arB_lt {l : Bool} {h : Heap} {a : Addr} {us : Array Value} (q : arB l h a us) : a < h.objs.size := by
  cases l with
  | true => exact let ⟨_, e, _⟩ := q; Heap.lt_size e
  | false => exact let ⟨_, e, _⟩ := q; Heap.lt_size e
theorem sqB_in {X : Cx} {pins : List (Addr × Obj)} {σ : L2.St} {H : Hp} {s : Shared} {l : Bool} {a : Addr} {xs : List V} (I : L2.Inv X pins σ H s) (q : sqB X.K l H a xs) : ∃ us : List Value, Vals xs us ∧ arB l s.heap a us.toArray := by
  cases l with
  | true => exact let ⟨us, r, p, _⟩ := I.list q; ⟨us, r, p.isList⟩
  | false => exact let ⟨us, r, p, _⟩ := I.tuple q; ⟨us, r, p⟩
theorem sqB_inj {X : Cx} {pins : List (Addr × Obj)} {σ : L2.St} {H : Hp} {s : Shared} {l : Bool} {a : Addr} {xs ys : List V} (I : L2.Inv X pins σ H s) (q : sqB X.K l H a xs) (q2 : sqB X.K l H a ys) : xs = ys := by
  cases l with
  | true => exact I.list_inj q q2
  | false => exact I.tuple_inj q q2
theorem sqB_mono {K : PySem.W.Frag} {H H' : Hp} {l : Bool} {a : Addr} {xs : List V} (e : Same H H') (q : sqB K l H a xs) : sqB K l H' a xs := by
  cases l with
  | true => exact e.seq q
  | false => exact seqT e q
def begO (l : Bool) (a : Addr) : Obj := match l with
  | true => { cls := .type "list_iterator", data := .fields #[.ref a, .int 0 0] }
  | false => { cls := .type "tuple_iterator", data := .fields #[.ref a, .int 0 0] }
theorem begB (l : Bool) (a : Addr) (us : Array Value) : Begins (.ref a) (begO l a) fun h => arB l h a us := by
  cases l with
  | true => exact begins_list a us
  | false => exact begins_tuple a us
theorem begB_it {l : Bool} {a it : Addr} {h : Heap} (q : h.get? it = some (begO l a)) : itB l h it a 0 := by
  cases l with
  | true => exact ⟨_, q, rfl, rfl⟩
  | false => exact ⟨_, q, rfl, rfl⟩
theorem vals_back {xs : List V} {us : List Value} {i : Nat} {u : Value} (r : Vals xs us) (h : us[i]? = some u) : ∃ v, xs[i]? = some v ∧ RelV v u := by
  have lt : i < xs.length := by
    rw [r.length]
    exact (List.getElem?_eq_some_iff.mp h).1
  obtain ⟨u2, e, q⟩ := r.get (List.getElem?_eq_getElem lt)
  cases h.symm.trans e
  exact ⟨_, List.getElem?_eq_getElem lt, q⟩
def ItzB (K : PySem.W.Frag) (l m : Bool) (a b : Addr) : It where
  go i H := ∃ xs ys, sqB K l H a xs ∧ sqB K m H b ys ∧ i < xs.length ∧ i < ys.length
  yld i H v H' := ∃ T x y, v = .ref T ∧ H T = none ∧ H' = upd H T (.tup [x, y]) ∧ (∀ xs, sqB K l H a xs → xs[i]? = some x) ∧ ∀ ys, sqB K m H b ys → ys[i]? = some y
  stop i H := ∃ xs ys, sqB K l H a xs ∧ sqB K m H b ys ∧ i ≤ xs.length ∧ i ≤ ys.length ∧ (i = xs.length ∨ i = ys.length)
theorem mem5 {c z a b d e : Addr} (h : c ∈ [z, a, b, d, e]) : c = z ∨ c = a ∨ c = b ∨ c = d ∨ c = e := by simpa using h
theorem sep_of {z TI TO i1 i2 a b : Addr} (D : ZipApart z TI TO i1 i2 a b) : ZipSep2 z TI TO i1 i2 [i1, a] [i2, b] where
  TIz := D.TIz
  TOz := D.TOz
  TITO := D.TITO
  TIi1 := D.TIi1
  TIi2 := D.TIi2
  mem1 := List.mem_cons_self
  mem2 := List.mem_cons_self
  zf1 := by simp [D.i1z.symm, D.l1z.symm]
  zf2 := by simp [D.i2z.symm, D.l2z.symm]
  Tf1 := by simp [D.TOi1, D.l1TO.symm]
  Tf2 := by simp [D.TOi2, D.l2TO.symm]
  sep1_2 := by simp [D.i12, D.l2i1.symm]
  sep2_1 := by simp [D.i12.symm, D.l1i2.symm]
theorem turn_zipB {P : Program} {w : World} {K : PySem.W.Frag} {es : List Expr} {n : Nat} {tp : Pos} {l m : Bool} {a b z TI TO i1 i2 : Addr} (D : ZipApart z TI TO i1 i2 a b) :
    Turn P w K (.Tuple es n tp) (ItzB K l m a b) [z, TI, TO, i1, i2] z fun i h => IsZip h z TI TO .none ∧ IsPair h TI (.ref i1) (.ref i2) ∧ (∃ x y, IsPair h TO x y) ∧ itB l h i1 a i ∧ itB m h i2 b i where
  mem := List.mem_cons_self
  obj := fun i h ⟨q0, q1, ⟨x, y, q2⟩, q3, q4⟩ c hc => by
    rcases mem5 hc with rfl | rfl | rfl | rfl | rfl
    · exact ⟨_, q0, fun v e => by cases e⟩
    · exact ⟨_, q1, fun v e => by cases e⟩
    · exact ⟨_, q2, fun v e => by cases e⟩
    · exact itB_obj q3
    · exact itB_obj q4
  keep := fun i h h' ⟨q0, q1, ⟨x, y, q2⟩, q3, q4⟩ k => ⟨k _ (by simp) _ q0, k _ (by simp) _ q1, ⟨x, y, k _ (by simp) _ q2⟩, itB_at q3 (k i1 (by simp)), itB_at q4 (k i2 (by simp))⟩
  item := by
    rintro X rfl rfl rfl calm i pins s σ H E I free ⟨q0, q1, ⟨x0, y0, q2⟩, q3, q4⟩ ⟨xs, ys, sx, sy, lx, ly⟩
    obtain ⟨us, rx, ax⟩ := sqB_in I sx
    obtain ⟨ws, ry, ay⟩ := sqB_in I sy
    have hh : X.A.in1.handled = none := I.ok.hd calm
    refine wpAny_pyNext_zipD2_item (sep_of D) (drB hh l i1 a D.l1i1 us.toArray) (drB hh m i2 b D.l2i2 ws.toArray) q0 q1 q2 ⟨q3, ax⟩ ⟨q4, ay⟩ (by rw [List.size_toArray, ← rx.length]; exact lx) (by rw [List.size_toArray, ← ry.length]; exact ly) fun x1 x2 h1 tk e1 e2 p0 p2 p3 p4 p5 sz k => ?_
    refine ⟨_, rfl, wpAny_letOwnedTupleGo_zip (s := { s with heap := h1, toks := tk }) p0 fun h2 p0' sb => ?_⟩
    have zl : z < s.heap.objs.size := Heap.lt_size q0
    obtain ⟨v1, g1, r1⟩ := vals_back rx (by simpa using e1)
    obtain ⟨v2, g2, r2⟩ := vals_back ry (by simpa using e2)
    have up : ∀ c o, c ≠ z → c ≠ TO → c ≠ i1 → c ≠ i2 → s.heap.get? c = some o → h2.get? c = some o := fun c o n0 n1 n2 n3 q => (sb.2 c n0).trans (k c o n0 n1 n2 n3 q)
    have laid : ObjOk X.prog X.w (upd H s.heap.objs.size (.tup [v1, v2])) h2 s.heap.objs.size (.tup [v1, v2]) := ⟨(by decide : 2 ≤ sizeLine), [x1, x2], .cons r1 (.cons r2 .nil), _, (sb.2 _ (Nat.ne_of_gt zl)).trans p5, rfl, _, rfl⟩
    refine ⟨.ref s.heap.objs.size, _, I.turnedNew (t' := tk) (ch := [z, TI, TO, i1, i2]) (fun c o hb q => up c o (fun e => hb (by simp [e])) (fun e => hb (by simp [e])) (fun e => hb (by simp [e])) (fun e => hb (by simp [e])) q) free (Nat.le_refl _) laid, rfl,
      ⟨_, v1, v2, rfl, I.hok.fresh (Nat.le_refl _), rfl, fun zs hz => by rw [sqB_inj I hz sx]; exact g1, fun zs hz => by rw [sqB_inj I hz sy]; exact g2⟩,
      ⟨p0', up _ _ D.TIz D.TITO D.TIi1 D.TIi2 q1, ⟨x1, x2, (sb.2 _ D.TOz).trans p2⟩, itB_at p3.1 fun o q => (sb.2 _ D.i1z).trans q, itB_at p4.1 fun o q => (sb.2 _ D.i2z).trans q⟩, fun c hc => ?_⟩
    have lt : c < s.heap.objs.size := by
      rcases mem5 hc with rfl | rfl | rfl | rfl | rfl
      · exact zl
      · exact Heap.lt_size q1
      · exact Heap.lt_size q2
      · exact itB_lt q3
      · exact itB_lt q4
    rw [upd_ne (Nat.ne_of_lt lt)]
    exact (free c hc).1
  done := by
    rintro X rfl rfl rfl calm i pins s σ H E I free ⟨q0, q1, ⟨x0, y0, q2⟩, q3, q4⟩ ⟨xs, ys, sx, sy, lx, ly, le⟩
    obtain ⟨us, rx, ax⟩ := sqB_in I sx
    obtain ⟨ws, ry, ay⟩ := sqB_in I sy
    have hh : X.A.in1.handled = none := I.ok.hd calm
    have e1 := rx.length
    have e2 := ry.length
    refine wpAny_pyNext_zipD2_end (sep_of D) (drB hh l i1 a D.l1i1 us.toArray) (drB hh m i2 b D.l2i2 ws.toArray) q0 q1 q2 ⟨q3, ax⟩ ⟨q4, ay⟩ (by rw [List.size_toArray]; omega) (by rw [List.size_toArray]; omega) (by rw [List.size_toArray, List.size_toArray]; omega) fun h1 tk k =>
      ⟨rfl, I.turnedL (t' := tk) (ch := [z, TI, TO, i1, i2]) (fun c o hb q => k c o (fun e => hb (by simp [e])) (fun e => hb (by simp [e])) (fun e => hb (by simp [e])) (fun e => hb (by simp [e])) q) free⟩
  self := fun A i s Q E q h => wpAny_pyIter_zip q.1 h
def iZipB (K : PySem.W.Frag) (ta : TA) : TI := fun σ H R => ta σ H fun vs H1 => ∃ l m a b xs ys, vs = [.ref a, .ref b] ∧ sqB K l H1 a xs ∧ sqB K m H1 b ys ∧ R (ItzB K l m a b) H1
theorem pi_zipB {X : Cx} {e e2 : Expr} {ta : TA} {p pos tp : Pos} {es : List Expr} {n : Nat} (hg : Gl X "zip") (hm : X.mg "zip" = none) (ha : PA X [e, e2] ta)
    (hs : starEach [e, e2] X.env = (false, eval e X.env) :: starEach [e2] X.env) (hpl : (backTo pos (starEach [e2] X.env)).any (·.1) = false) : PI X (.Tuple es n tp) (.Call (.Name "zip" p) [e, e2] [] pos) (iZipB X.K ta) := by
  constructor
  intro pins s σ H R I h
  refine Call_ (ld_blt I hg hm boot_zip (callWith_type1 (thn (ha.run pos pins s σ H _ I h) ?_) hs hpl))
  rintro us s1 ⟨vs, H1, I1, r1, l, m, a, b, xs, ys, rfl, sx, sy, q⟩
  cases r1 with
  | cons ra rr =>
    cases rr with
    | cons rb rr =>
      cases rr
      cases ra
      cases rb
      obtain ⟨us, rx, ax⟩ := sqB_in I1 sx
      obtain ⟨ws, ry, ay⟩ := sqB_in I1 sy
      refine zip_begins2 (begB l a us.toArray) (begB m b ws.toArray) ax ay fun h' p0 p1 p2 p3 p4 sz k => wpAny_pyIter_zip p0 ?_
      refine ⟨s1.heap.objs.size + 4, [s1.heap.objs.size + 4, s1.heap.objs.size + 2, s1.heap.objs.size + 3, s1.heap.objs.size, s1.heap.objs.size + 1], _, _, H1, rfl, I1.kept (t' := s1.toks) k, turn_zipB (PySem.W.ktu_apart s1.heap.objs.size a b (arB_lt ax) (arB_lt ay)), ⟨p0, p1, ⟨_, _, p2⟩, begB_it p3, begB_it p4⟩, fun c hc => ?_, q⟩
      have le : s1.heap.objs.size ≤ c := by
        rcases mem5 hc with rfl | rfl | rfl | rfl | rfl <;> omega
      exact I1.fpOk le (I1.hok.fresh le)
section
variable {K : PySem.W.Frag} {Hf : Hp} {a b : Addr} {xs ys : List V} {ds es : List D} {l m : Bool}
theorem iters_zB (h1 : sqB K l Hf a xs) (h2 : DsL K Hf xs ds) (h3 : sqB K m Hf b ys) (h4 : DsL K Hf ys es) : Iters K (ItzB K l m a b) (zipD ds es) Hf none where
  go := fun Hf1 H1 σ1 A1 i e r _ hi => by
    rw [zipD_len, ← h2.length, ← h4.length] at hi
    exact ⟨xs, ys, sqB_mono (e.trans r.sm) h1, sqB_mono (e.trans r.sm) h3, by omega, by omega⟩
  stop := fun Hf1 H1 σ1 A1 e r _ => ⟨xs, ys, sqB_mono (e.trans r.sm) h1, sqB_mono (e.trans r.sm) h3, by rw [zipD_len, ← h2.length, ← h4.length]; omega⟩
  yld := fun Hf1 H1 σ1 A1 i d x H2 e r _ hd y => by
    obtain ⟨T, u, v, rfl, hT, rfl, q1, q2⟩ := y
    obtain ⟨dx, dy, g1, g2, rfl⟩ := zipD_get hd
    obtain ⟨u', u1, u2⟩ := h2.get g1
    obtain ⟨v', v1, v2⟩ := h4.get g2
    cases u1.symm.trans (q1 xs (sqB_mono (e.trans r.sm) h1))
    cases v1.symm.trans (q2 ys (sqB_mono (e.trans r.sm) h3))
    exact pair_new r hT (u2.mono e) (v2.mono e)
end
section
variable {X : Cx} {Z : ZZ} {A : List SD} {tg e a b : Expr} {es : List Expr} {pos : Pos} {Q : List D → Option (Nat × Addr × List D) → List SD → Prop}
theorem ds_sqB {K : PySem.W.Frag} {Hf : Hp} {v : V} {d : D} {l : Bool} {ds : List D} (h : Ds K Hf v d) (e : d = if l = true then .lst ds else .tup ds) : ∃ a xs, v = .ref a ∧ sqB K l Hf a xs ∧ DsL K Hf xs ds := by
  subst e
  cases l with
  | true =>
    obtain ⟨a, xs, rfl, h1, h2⟩ := ds_lst h
    exact ⟨a, xs, rfl, .inl (.inl h1), h2⟩
  | false =>
    obtain ⟨a, xs, rfl, h1, h2⟩ := ds_tup h
    exact ⟨a, xs, rfl, h1, h2⟩
/-- zip of lists and tuples, mixed -/
theorem ei_zB {p : Pos} {elts : List Expr} {kk : Nat} {tpos : Pos} [c : Cok X] (h : EA X Z A [a, b] fun ds A1 => ∃ l m xs ys, (ds = [if l = true then .lst xs else .tup xs, if m = true then .lst ys else .tup ys]) ∧ Q (zipD xs ys) none A1) (hg : Gl X "zip" := by exact gl_of (by kernel_rfl))
    (hs : starEach [a, b] X.env = (false, eval a X.env) :: starEach [b] X.env := by kernel_rfl) (hpl : (backTo pos (starEach [b] X.env)).any (·.1) = false := by kernel_rfl) : EI X Z A (.Tuple elts kk tpos) (.Call (.Name "zip" p) [a, b] [] pos) Q := fun Hf H σ rel xo R k =>
  ⟨_, pi_zipB hg (c.no _ (by decide)) wa hs hpl, h Hf H σ rel xo _ fun d A1 v Hf1 H1 ⟨l, m, xs, ys, e, q⟩ r1 s1 f1 => by
    subst e
    obtain ⟨v, u, rfl, g1, g2⟩ := dsl2 s1
    obtain ⟨x, us, rfl, h1, h2⟩ := ds_sqB g1 rfl
    obtain ⟨y, ws, rfl, h3, h4⟩ := ds_sqB g2 rfl
    exact ⟨l, m, x, y, us, ws, rfl, sqB_mono r1.sm h1, sqB_mono r1.sm h3, k _ _ _ _ _ _ q r1 f1 (iters_zB h1 h2 h3 h4)⟩⟩
/-- a name for a list or a tuple -/
theorem ei_sq (i : Nat) {x : Str} {px : Pos} {l : Bool} {ds : List D} {d : D} (hA : A[i]? = some (.dat d)) (hd : d = if l = true then .lst ds else .tup ds) (q : Q ds none A) (hN : X.N[i]? = some x := by kernel_rfl) (hv : Vis X.env.scope x := by exact vis_of (by kernel_rfl))
    (hdb : (x == ("__debug__" : Str)) = false := by kernel_rfl) (hcd : (x == ("__classdict__" : Str)) = false := by kernel_rfl) : EI X Z A tg (.Name x px) Q := by
  subst hd
  cases l with
  | true => exact ei_l (ed_n i hA ⟨ds, .inl rfl, q⟩ hN hv hdb hcd)
  | false => exact ei_t (ed_n i hA ⟨ds, rfl, q⟩ hN hv hdb hcd)
end
end Y

namespace Y
open PySem L2
variable [I : NmC]
/-! the state, written anew -/
section
variable {X : Cx} {Z : ZZ} {A B : List SD} {e : Expr} {es : List Expr} {st : List Stmt} {E : AE}
theorem ssx_at (h : SSX X Z B st E) (q : A = B) : SSX X Z A st E := by rw [q]; exact h
theorem ed_at {Q : D → List SD → Prop} (h : ED X Z B e Q) (q : A = B) : ED X Z A e Q := by rw [q]; exact h
theorem ex_at {Q : SD → List SD → Prop} (h : EX X Z B e Q) (q : A = B) : EX X Z A e Q := by rw [q]; exact h
theorem ea_at {Q : List D → List SD → Prop} (h : EA X Z B es Q) (q : A = B) : EA X Z A es Q := by rw [q]; exact h
theorem tx_at {Q : Bool → List SD → Prop} (h : TX X Z B e Q) (q : A = B) : TX X Z A e Q := by rw [q]; exact h
/-- both ways through a statement meet at Q -/
theorem ssx_mid {s0 : Stmt} (Q : List SD → Prop) (h : SX X Z A s0 { E with nx := Q }) (k : ∀ A1, Q A1 → SSX X Z A1 st E) : SSX X Z A (s0 :: st) E :=
  ssx_cons fun Hf H σ rel xo D w => h Hf H σ rel xo D { w with nx := fun A' σ' Hf' H' q => w.nx A' σ' Hf' H' (k A' q) }
/-- an own list that is data from here on -/
theorem ssx_frz (i : Nat) {p : Addr} {o : OD} {d : D} (hA : A[i]? = some (.own p o)) (hd : o.frz = some d) (h : SSX X Z (A.set i (.dat d)) st E) : SSX X Z A st E := fun Hf H σ rel xo D k => by
  obtain ⟨Hf', h1, h2, h3, h4⟩ := rel.freezeAt hA hd
  exact h Hf' H σ h2 (xo.step h4) D (k.step h4)
/-- a comprehension that may change what is held -/
theorem lc_run {tg elt : Expr} {scope : Scope} {vs : List Nat} {Q : SD → List SD → Prop} {ds : List D} {g : Option (Nat × Addr × List D)} {A1 : List SD} (hz : ds.length ≤ 1000000) (In : Nat → List D → List SD → Prop) (h0 : In 0 [] (wipeA A1 vs))
    (hg : ∀ i acc A', i ≤ ds.length → In i acc A' → guard g A')
    (turn : ∀ i d acc A', ds[i]? = some d → In i acc A' → ∀ s H0 C cl fp, GX (Bk X scope s H0 C cl fp) Z.o A' tg (fun j => vs.contains j) d fun A2 => ∀ s H0 C cl fp, ED (Bk X scope s H0 C cl fp) Z.o A2 elt fun y A4 => In (i + 1) (acc ++ [y]) (wipeA A4 vs))
    (fin : ∀ acc A', In ds.length acc A' → ∀ p, Q (.own p (.lst acc)) (restA A1 A' vs)) : LcBody X Z scope elt tg [] vs Q ds g A1 := by
  refine ⟨hz, In, h0, hg, fun i d acc A' hd hI s H0 C cl fp Hf H σ v rel xo hv R k => ?_, fin⟩
  exact turn i d acc A' hd hI s H0 C cl fp Hf H σ v rel xo hv R fun A2 σ2 Hf2 H2 q r f u l => k A2 σ2 Hf2 H2 (fun s H0 C cl fp => txs_nil ⟨fun _ s H0 C cl fp => q s H0 C cl fp, fun e => by cases e⟩) r f u l
end
end Y

namespace Y
open PySem L2
open PyProof.Rows hiding St
variable [I : NmC]

/-! ### enumerate of a list or a tuple -/
theorem enum_meets {v : Value} {o : Obj} {H : Heap → Prop} (B : Begins v o H) : Meets (Builtin.«enumerate.__new__» ⟨[.type "enumerate", v], []⟩) fun _ R s => H s.heap ∧
    R (.ok (.ret (.ref (s.heap.push o).objs.size))) { s with heap := (s.heap.push o).push { cls := .type "enumerate", data := .fields #[.none, .bool false, .ref s.heap.objs.size, rawInt 0, .none, .none] } } := Meets.of_wp fun P w A R s ht => by
  obtain ⟨hp, g, d, tk, os⟩ := s
  obtain ⟨h1, ht⟩ := ht
  have subt := sub_enumerate
  have start : ∀ {A' : Around} {E : Value → Shared → Prop} {Q : Value → Shared → Prop}, Q (.ref hp.objs.size) ⟨hp.push o, g, d, tk, os⟩ → wpAny (model P w) A' (pyIter v) Q E ⟨hp, g, d, tk, os⟩ := fun q => B.iter P w _ _ ⟨hp, g, d, tk, os⟩ _ h1 q
  wp_walk using start
  refine wpAny_stack_any (fun _ => wpAny_pure ?_)
  split
  · rename_i c _ _ _ _ _
    cases (c == Value.type "enumerate") <;> (wp_walk using start; exact ⟨_, rfl, ht⟩)
  · wp_walk using start
    exact ⟨_, rfl, ht⟩
theorem enum_new {P : Program} {w : World} {A : Around} {E : Value → Shared → Prop} {s : Shared} {v : Value} {o : Obj} {H : Heap → Prop} {Q : Value → Shared → Prop} (B : Begins v o H) (h1 : H s.heap)
    (ht : ∀ h', IsEnum h' (s.heap.objs.size + 1) s.heap.objs.size 0 .none → h'.get? s.heap.objs.size = some o → (∀ b u, s.heap.get? b = some u → h'.get? b = some u) → Q (.ref (s.heap.objs.size + 1)) { s with heap := h' }) :
    wpAny (model P w) A (call (.type "enumerate") [v]) Q E s := by
  refine callType_new F.called_enumerate (by decide) (F.typeCall_enumerate_1 _) (F.newCall_enumerate_1 _) (fun x => F.args_object_init_2 x _) F.entry_enumerate_new (enum_meets B) ⟨h1, ?_⟩
  have sz : (s.heap.push o).objs.size = s.heap.objs.size + 1 := Heap.size_push ..
  have last := Heap.get?_push_size (s.heap.push o) (o := { cls := .type "enumerate", data := .fields #[.none, .bool false, .ref s.heap.objs.size, rawInt 0, .none, .none] }) rfl
  show _ ∧ _
  rw [sz] at last ⊢
  exact ⟨⟨_, last, rfl⟩, ht _ last (Heap.get?_push_of_some _ (Heap.get?_push_size _ B.free)) fun b u x => Heap.get?_push_of_some _ (Heap.get?_push_of_some _ x)⟩
def IteB (K : PySem.W.Frag) (l : Bool) (a : Addr) : It where
  go i H := ∃ xs, sqB K l H a xs ∧ i < xs.length
  yld i H v H' := ∃ T x, v = .ref T ∧ H T = none ∧ H' = upd H T (.tup [.int (i : Nat), x]) ∧ ∀ xs, sqB K l H a xs → xs[i]? = some x
  stop i H := ∃ xs, sqB K l H a xs ∧ i = xs.length
theorem mem2 {c e it : Addr} (h : c ∈ [e, it]) : c = e ∨ c = it := by simpa using h
theorem turn_enumB {P : Program} {w : World} {K : PySem.W.Frag} {es : List Expr} {n : Nat} {tp : Pos} {l : Bool} {a e it : Addr} (ne : e ≠ it) (na : a ≠ it) (nb : a ≠ e) :
    Turn P w K (.Tuple es n tp) (IteB K l a) [e, it] e fun i h => (∃ old, IsEnum h e it ((i : Nat) : Int) old) ∧ itB l h it a i where
  mem := List.mem_cons_self
  obj := fun i h ⟨⟨old, q0⟩, q1⟩ c hc => by
    rcases mem2 hc with rfl | rfl
    · exact ⟨_, q0, fun v z => by cases z⟩
    · exact itB_obj q1
  keep := fun i h h' ⟨⟨old, q0⟩, q1⟩ k => ⟨⟨old, k _ (by simp) _ q0⟩, itB_at q1 (k it (by simp))⟩
  item := by
    rintro X rfl rfl rfl calm i pins s σ H E I free ⟨⟨old, q0⟩, q1⟩ ⟨xs, sx, lx⟩
    obtain ⟨us, rx, ax⟩ := sqB_in I sx
    have hh : X.A.in1.handled = none := I.ok.hd calm
    refine wpAny_pyNext_enum_itemD (drB hh l it a na us.toArray) q0 ⟨q1, ax⟩ (by rw [List.size_toArray, ← rx.length]; exact lx) ne (by simp [ne, nb.symm]) fun x1 h1 tk e1 p0 p1 p2 sz k => ?_
    refine ⟨_, rfl, wpAny_letOwnedTupleGo_enum (s := { s with heap := h1, toks := tk + 1 }) p0 fun h2 p0' sb => ?_⟩
    have el : e < s.heap.objs.size := Heap.lt_size q0
    obtain ⟨v1, g1, r1⟩ := vals_back rx (by simpa using e1)
    have laid : ObjOk X.prog X.w (upd H s.heap.objs.size (.tup [.int (i : Nat), v1])) h2 s.heap.objs.size (.tup [.int (i : Nat), v1]) := ⟨(by decide : 2 ≤ sizeLine), [.int i tk, x1], .cons ⟨_, rfl⟩ (.cons r1 .nil), _, (sb.2 _ (Nat.ne_of_gt el)).trans p2, rfl, _, rfl⟩
    refine ⟨.ref s.heap.objs.size, _, I.turnedNew (t' := tk + 1) (ch := [e, it]) (fun c o hb q => (sb.2 c fun z => hb (by simp [z])).trans (k c o (fun z => hb (by simp [z])) (fun z => hb (by simp [z])) q)) free (Nat.le_refl _) laid, rfl,
      ⟨_, v1, rfl, I.hok.fresh (Nat.le_refl _), rfl, fun zs hz => by rw [sqB_inj I hz sx]; exact g1⟩, ⟨⟨x1, ?_⟩, itB_at p1.1 fun o q => (sb.2 _ ne.symm).trans q⟩, fun c hc => ?_⟩
    · have e2 : ((i + 1 : Nat) : Int) = (i : Int) + 1 := by omega
      rw [e2]
      exact p0'
    · have lt : c < s.heap.objs.size := by
        rcases mem2 hc with rfl | rfl
        · exact el
        · exact itB_lt q1
      rw [upd_ne (Nat.ne_of_lt lt)]
      exact (free c hc).1
  done := by
    rintro X rfl rfl rfl calm i pins s σ H E I free ⟨⟨old, q0⟩, q1⟩ ⟨xs, sx, le⟩
    obtain ⟨us, rx, ax⟩ := sqB_in I sx
    have hh : X.A.in1.handled = none := I.ok.hd calm
    have e1 := rx.length
    refine wpAny_pyNext_enum_endD (drB hh l it a na us.toArray) q0 (by rw [List.size_toArray, ← e1, ← le]; exact ⟨q1, ax⟩) fun h1 eb => ⟨rfl, I.turnedL (t' := s.toks) (ch := [e, it]) (fun c o hb q => eb c o (fun z => hb (by simp [z])) q) free⟩
  self := fun A i s Q E q h => let ⟨⟨_, q0⟩, _⟩ := q; wpAny_pyIter_enum q0 h
def iEnumB (K : PySem.W.Frag) (ta : TA) : TI := fun σ H R => ta σ H fun vs H1 => ∃ l a xs, vs = [.ref a] ∧ sqB K l H1 a xs ∧ R (IteB K l a) H1
theorem pi_enumB {X : Cx} {e : Expr} {ta : TA} {p pos tp : Pos} {es : List Expr} {n : Nat} (hg : Gl X "enumerate") (hm : X.mg "enumerate" = none) (ha : PA X [e] ta) (hs : starEach [e] X.env = [(false, eval e X.env)]) :
    PI X (.Tuple es n tp) (.Call (.Name "enumerate" p) [e] [] pos) (iEnumB X.K ta) := by
  constructor
  intro pins s σ H R I h
  refine Call_ (ld_blt I hg hm boot_enumerate (callWith_type1 (thn (ha.run pos pins s σ H _ I h) ?_) hs rfl))
  rintro us s1 ⟨vs, H1, I1, r1, l, a, xs, rfl, sx, q⟩
  cases r1 with
  | cons ra rr =>
    cases rr
    cases ra
    obtain ⟨us, rx, ax⟩ := sqB_in I1 sx
    have la := arB_lt ax
    refine enum_new (begB l a us.toArray) ax fun h' p0 p1 k => wpAny_pyIter_enum p0 ?_
    refine ⟨s1.heap.objs.size + 1, [s1.heap.objs.size + 1, s1.heap.objs.size], _, _, H1, rfl, I1.kept (t' := s1.toks) k, turn_enumB (Nat.succ_ne_self _) (Nat.ne_of_lt la) (Nat.ne_of_lt (Nat.lt_succ_of_lt la)), ⟨⟨_, p0⟩, begB_it p1⟩, fun c hc => ?_, q⟩
    have le : s1.heap.objs.size ≤ c := by
      rcases mem2 hc with rfl | rfl
      · exact Nat.le_succ _
      · exact Nat.le_refl _
    exact I1.fpOk le (I1.hok.fresh le)
section
variable {K : PySem.W.Frag} {Hf : Hp} {a : Addr} {xs : List V} {ds : List D} {l : Bool}
theorem iters_eB (h1 : sqB K l Hf a xs) (h2 : DsL K Hf xs ds) : Iters K (IteB K l a) (enumD ds) Hf none where
  go := fun Hf1 H1 σ1 A1 i e r _ hi => ⟨xs, sqB_mono (e.trans r.sm) h1, by rw [h2.length]; simpa [enumD] using hi⟩
  stop := fun Hf1 H1 σ1 A1 e r _ => ⟨xs, sqB_mono (e.trans r.sm) h1, by rw [h2.length]; simp [enumD]⟩
  yld := fun Hf1 H1 σ1 A1 i d x H2 e r _ hd y => by
    obtain ⟨T, u, rfl, hT, rfl, q1⟩ := y
    obtain ⟨dx, g1, rfl⟩ := enumD_get hd
    obtain ⟨u', u1, u2⟩ := h2.get g1
    cases u1.symm.trans (q1 xs (sqB_mono (e.trans r.sm) h1))
    exact pair_new r hT (.int _) (u2.mono e)
end
section
variable {X : Cx} {Z : ZZ} {A : List SD} {tg e a b : Expr} {es : List Expr} {pos : Pos}
theorem ei_eB {p : Pos} {elts : List Expr} {kk : Nat} {tpos : Pos} {Q : List D → Option (Nat × Addr × List D) → List SD → Prop} [c : Cok X] (h : ED X Z A a fun d A1 => ∃ l xs, d = (if l = true then .lst xs else .tup xs) ∧ Q (enumD xs) none A1) (hg : Gl X "enumerate" := by exact gl_of (by kernel_rfl))
    (hs : starEach [a] X.env = [(false, eval a X.env)] := by kernel_rfl) : EI X Z A (.Tuple elts kk tpos) (.Call (.Name "enumerate" p) [a] [] pos) Q := fun Hf H σ rel xo R k =>
  ⟨_, pi_enumB hg (c.no _ (by decide)) (pa_cons we pa_nil hs) hs, h Hf H σ rel xo _ fun d A1 v Hf1 H1 ⟨l, xs, e, q⟩ r1 s1 f1 => by
    obtain ⟨x, us, rfl, h1, h2⟩ := ds_sqB s1 e
    exact ⟨l, x, us, rfl, sqB_mono r1.sm h1, k _ _ _ _ _ _ q r1 f1 (iters_eB h1 h2)⟩⟩

/-! ### repr of lists and tuples; texts compared -/
theorem call_reprD [c : Cok X] : CallR X (.builtin "repr") fun vs H Q => ∃ a d, vs = [.ref a] ∧ Dp X.K H (.ref a) d ∧ d.showable = true ∧ d.hasDict = false ∧ d.depth ≤ 60 ∧ d.shown.length ≤ sizeLine ∧ Q (.str d.shown) H := by
  rintro pins s σ H vs us R I r ⟨a, d, rfl, hd, h1, h2, h3, h4, q⟩
  cases r with
  | cons ra rr =>
    cases rr
    cases ra
    obtain ⟨as, rd⟩ := Dp.reads I d (.ref a) _ hd rfl
    have := c.un
    exact repr_of_reads' rd h1 (fun e => by rw [h2] at e; cases e) c.gd (by omega) (fun _ _ e => e) (fun h' u tk k => ⟨.str _, H, I.kept (t' := tk) k, ⟨_, rfl⟩, q⟩) h4
theorem cs_repr {d : D} {n : Nat} {Q : SD → List SD → Prop} [c : Cok X] (hd : (∃ ds, d = .lst ds) ∨ ∃ ds, d = .tup ds) (hp : Pl n d) (hn : n ≤ 60) (h1 : d.py.showable = true) (h2 : d.py.hasDict = false) (h4 : d.py.shown.length ≤ sizeLine) (q : Q (.dat (.str d.py.shown)) A) : CS X A (.builtin "repr") [d] Q := fun Hf H σ rel vs hv R k => by
  obtain ⟨v, rfl, g⟩ := dsl1 hv
  have dp := dp_of rel.sm g hp.1
  have : ∃ a, v = .ref a := by
    rcases hd with ⟨ds, rfl⟩ | ⟨ds, rfl⟩
    · obtain ⟨a, _, rfl, _⟩ := ds_lst g; exact ⟨a, rfl⟩
    · obtain ⟨a, _, rfl, _⟩ := ds_tup g; exact ⟨a, rfl⟩
  obtain ⟨a, rfl⟩ := this
  exact ⟨_, call_reprD, a, d.py, rfl, dp, h1, h2, Nat.le_trans hp.2 hn, h4, fin_d rel q (.str _) k⟩
theorem os_neS {x y : Str} {Q : SD → List SD → Prop} (q : Q (.dat (.bl (!decide (x = y)))) A) : OS X A (compareOp .NotEq) (.str x) (.str y) Q := fun Hf H σ rel v u hv hu R k =>
  ⟨_, op_ne, by
    cases ds_str hv
    cases ds_str hu
    refine ⟨rfl, ?_⟩
    have e : decide (V.str x = V.str y) = decide (x = y) := by
      by_cases h : x = y
      · subst h; simp
      · simp [h]
    rw [e]
    exact fin_d rel q (.bl _) k⟩
end
/-! how long the texts are -/
theorem len_of (x : String) : (Str.ofString x).length = x.length := PySem.ofString_length x
theorem from_le : ∀ (ts : List Str) (k : Nat) (acc : Str), (textFrom k acc ts).length ≤ acc.length + piled ts
  | [], k, acc => by
    show acc.length ≤ _
    omega
  | t :: r, k, acc => by
    have h := from_le r (k + 1) (acc ++ (if k > 0 then ", " else "" : String) ++ t)
    rw [strLen_append, strLen_append] at h
    rw [piled_cons]
    show (textFrom (k + 1) (acc ++ (if k > 0 then ", " else "" : String) ++ t) r).length ≤ _
    have e : (Str.ofString (if k > 0 then ", " else "" : String)).length ≤ 2 := by
      rw [len_of]
      split <;> decide
    omega
theorem list_le (ts : List Str) : (listText ts).length ≤ piled ts + 2 := by
  unfold listText
  rw [strLen_append]
  have h := from_le ts 0 "["
  have e1 : (Str.ofString "[").length = 1 := rfl
  have e2 : (Str.ofString "]").length = 1 := rfl
  omega
theorem tuple_le (ts : List Str) : (tupleText ts).length ≤ piled ts + 3 := by
  unfold tupleText
  rw [strLen_append, strLen_append]
  have e1 : (Str.ofString "(").length = 1 := rfl
  have e3 : (Str.ofString (if (ts.length == 1) = true then ",)" else ")" : String)).length ≤ 2 := by
    rw [len_of]
    split <;> decide
  have e2 : (Str.join ", " ts).length ≤ piled ts := by
    by_cases h : ts = []
    · subst h; decide
    · have := join_length_add ts h; omega
  omega
/-- data of small numbers, n deep, no list longer than m -/
inductive Tiny (m : Nat) : Nat → D → Prop
  | int (n : Nat) (i : Int) : i.natAbs < 1000 → Tiny m n (.int i)
  | lst {n : Nat} {ds : List D} : ds.length ≤ m → (∀ x ∈ ds, Tiny m n x) → Tiny m (n + 1) (.lst ds)
  | tup {n : Nat} {ds : List D} : ds.length ≤ m → (∀ x ∈ ds, Tiny m n x) → Tiny m (n + 1) (.tup ds)
def tinyLen (m : Nat) : Nat → Nat
  | 0 => 4
  | n + 1 => m * (tinyLen m n + 2) + 5
theorem tiny_four (m : Nat) : ∀ n, 4 ≤ tinyLen m n
  | 0 => Nat.le_refl _
  | n + 1 => by show 4 ≤ m * (tinyLen m n + 2) + 5; omega
theorem tiny_all {L : Nat} : ∀ {ds : List D}, (∀ x ∈ ds, x.flat = true ∧ x.py.showable = true ∧ x.py.hasDict = false ∧ x.py.shown.length ≤ L) →
    D.flats ds = true ∧ PyData.showableAll (D.pys ds) = true ∧ PyData.hasDictAll (D.pys ds) = false ∧ piled (PyData.shownAll (D.pys ds)) ≤ ds.length * (L + 2)
  | [], _ => ⟨rfl, rfl, rfl, by simp [D.pys, PyData.shownAll, piled]⟩
  | d :: ds, h => by
    obtain ⟨h1, h2, h3, h4⟩ := tiny_all (L := L) (ds := ds) fun x hx => h x (List.mem_cons_of_mem _ hx)
    obtain ⟨g1, g2, g3, g4⟩ := h d List.mem_cons_self
    refine ⟨by simp [D.flats, h1, g1], by simp [D.pys, PyData.showableAll, h2, g2], by simp [D.pys, PyData.hasDictAll, h3, g3], ?_⟩
    simp only [D.pys, PyData.shownAll, List.length_cons]
    rw [piled_cons, Nat.succ_mul]
    omega
theorem tiny_ok {m : Nat} : ∀ {n : Nat} {d : D}, Tiny m n d → d.flat = true ∧ d.py.showable = true ∧ d.py.hasDict = false ∧ d.py.shown.length ≤ tinyLen m n := by
  intro n d h
  induction h with
  | int n i hi =>
    have lg : i.natAbs.log2 < 1920 := by
      by_cases h0 : i.natAbs = 0
      · rw [h0]; decide
      · exact Nat.lt_of_lt_of_le ((Nat.log2_lt h0).mpr (Nat.lt_of_lt_of_le hi (by decide : 1000 ≤ 2 ^ 10))) (by decide)
    refine ⟨rfl, decide_eq_true lg, rfl, Nat.le_trans ?_ (tiny_four m n)⟩
    show (Str.ofString (toString i)).length ≤ 4
    rw [len_of]
    exact int_text_length_le10 (k := 3) (by decide) hi
  | @lst n ds hl hx ih =>
    obtain ⟨a1, a2, a3, a4⟩ := tiny_all (L := tinyLen m n) (ds := ds) ih
    have a5 : piled (PyData.shownAll (D.pys ds)) ≤ m * (tinyLen m n + 2) := Nat.le_trans a4 (Nat.mul_le_mul_right _ hl)
    refine ⟨by simp [D.flat, a1], by simp [D.py, PyData.showable, a2], by simp [D.py, PyData.hasDict, a3], ?_⟩
    have := list_le (PyData.shownAll (D.pys ds))
    show (listText (PyData.shownAll (D.pys ds))).length ≤ m * (tinyLen m n + 2) + 5
    omega
  | @tup n ds hl hx ih =>
    obtain ⟨a1, a2, a3, a4⟩ := tiny_all (L := tinyLen m n) (ds := ds) ih
    have a5 : piled (PyData.shownAll (D.pys ds)) ≤ m * (tinyLen m n + 2) := Nat.le_trans a4 (Nat.mul_le_mul_right _ hl)
    refine ⟨by simp [D.flat, a1], by simp [D.py, PyData.showable, a2], by simp [D.py, PyData.hasDict, a3], ?_⟩
    have := tuple_le (PyData.shownAll (D.pys ds))
    show (tupleText (PyData.shownAll (D.pys ds))).length ≤ m * (tinyLen m n + 2) + 5
    omega
theorem tiny_pl {m : Nat} : ∀ {n : Nat} {d : D}, Tiny m n d → Pl n d := by
  intro n d h
  induction h with
  | int n i hi => exact Pl.int i
  | lst hl hx ih => exact Pl.lst ih
  | tup hl hx ih => exact Pl.tup ih
end Y

namespace Y
open PySem L2
open PyProof.Rows hiding St
variable [I : NmC]

section
variable {K : PySem.W.Frag} {Hf : Hp}
theorem iters_c {lo c : Int} {n : Nat} : Iters K (Itc lo c n) ((List.range n).map fun i => .int (lo + (i : Nat) * c)) Hf none where
  go := fun Hf1 H1 σ1 A1 i e r _ hi => show i < n by simpa using hi
  stop := fun Hf1 H1 σ1 A1 e r _ => show n ≤ _ by simp
  yld := fun Hf1 H1 σ1 A1 i d x H2 e r _ hd y => by
    obtain ⟨rfl, rfl⟩ := y
    have hn : i < n := by simpa using (List.getElem?_eq_some_iff.mp hd).1
    rw [List.getElem?_map, List.getElem?_range hn] at hd
    cases hd
    exact ⟨Hf1, r, .int _, Fr.refl _ _ _⟩
end
section
variable {X : Cx} {Z : ZZ} {A : List SD} {tg e a b c : Expr} {es : List Expr} {pos : Pos}
/-- range(i, j, -1) -/
theorem ei_r3 {p : Pos} {Q : List D → Option (Nat × Addr × List D) → List SD → Prop} [cx : Cok X] (h : EA X Z A [a, b, c] fun ds A1 => ∃ l n : Int, ds = [.int l, .int n, .int (-1)] ∧ (-1000000 ≤ l ∧ l ≤ 1000000 ∧ -1000000 ≤ n ∧ n ≤ 1000000) ∧ Q ((List.range (l - n).toNat).map fun i => .int (l + ((i : Nat) : Int) * (-1))) none A1)
    (hg : Gl X "range" := by exact gl_of (by kernel_rfl)) (hs : starEach [a, b, c] X.env = (false, eval a X.env) :: starEach [b, c] X.env := by kernel_rfl) (hpl : (backTo pos (starEach [b, c] X.env)).any (·.1) = false := by kernel_rfl) : EI X Z A tg (.Call (.Name "range" p) [a, b, c] [] pos) Q := fun Hf H σ rel xo R k =>
  ⟨_, pi_range3 hg (cx.no _ (by decide)) wa hs hpl, h Hf H σ rel xo _ fun d A1 v Hf1 H1 ⟨l, n, e, hn, q⟩ r1 s1 f1 => by
    subst e
    cases s1 with
    | cons g1 s1 =>
      obtain ⟨u, w, rfl, g2, g3⟩ := dsl2 s1
      cases ds_int g1
      cases ds_int g2
      cases ds_int g3
      exact ⟨l, n, -1, _, rfl, RgC.neg (by omega) (by omega) (by omega) (by omega), k _ _ _ _ _ _ q r1 f1 iters_c⟩⟩
theorem dsl_ints {K : PySem.W.Frag} {Hf : Hp} : ∀ {xs : List V} {js : List Int}, DsL K Hf xs (js.map .int) → xs = js.map V.int
  | _, [], .nil => rfl
  | _, j :: js, .cons h t => by cases ds_int h; rw [dsl_ints t]; rfl
/-- i not in a tuple of numbers -/
theorem os_notInT {i : Int} {js : List Int} {Q : SD → List SD → Prop} (q : Q (.dat (.bl (!js.contains i))) A) : OS X A (compareOp .NotIn) (.int i) (.tup (js.map .int)) Q := fun Hf H σ rel v u hv hu R k => by
  cases ds_int hv
  obtain ⟨a, xs, rfl, h1, h2⟩ := ds_tup hu
  have e := dsl_ints h2
  subst e
  refine ⟨_, op_notIn_seq, a, _, rfl, .inr (seqT rel.sm h1), rfl, by simp [flatV], ?_⟩
  have e2 : inV (.int i) (js.map V.int) = js.contains i := by
    unfold inV
    rw [List.any_map, List.contains_eq_any_beq]
    congr 1
    funext j
    show (j == i) = (i == j)
    exact Bool.beq_comm
  rw [e2]
  exact fin_d rel q (.bl _) k
theorem os_isB {i j : Bool} {Q : SD → List SD → Prop} (q : Q (.dat (.bl (decide (i = j)))) A) : OS X A (compareOp .Is) (.bl i) (.bl j) Q := fun Hf H σ rel v u hv hu R k =>
  ⟨_, op_isBl, i, j, ds_bl hv, ds_bl hu, fin_d rel q (.bl _) k⟩
/-- a part of a tuple, not all of it -/
theorem ex_slT {lo hi : Option Expr} {p2 : Pos} {Q : SD → List SD → Prop} (h : ED X Z A e fun d A1 => ∃ ds, d = .tup ds ∧ PX X Z A1 lo fun i A2 => PX X Z A2 hi fun j A3 => ¬ (HT.sIx ds.length 0 i = 0 ∧ HT.sIx ds.length ds.length j = ds.length) ∧ Q (.dat (.tup (cutD ds i j))) A3) : EX X Z A (.Subscript e (.Slice lo hi none p2) pos) Q := fun Hf H σ rel xo R k =>
  ⟨_, pe_slice sl_tup we wpo wpo, h Hf H σ rel xo _ fun d A1 v Hf1 H1 ⟨ds, e, hp⟩ r1 s1 f1 => by
    subst e
    obtain ⟨t1, ht1, run1⟩ := po_run hp
    refine ⟨t1, ht1, run1 Hf1 H1 σ r1 (xo.step f1) _ fun i A2 Hf2 H2 q2 r2 f2 => ?_⟩
    obtain ⟨t2, ht2, run2⟩ := po_run q2
    refine ⟨t2, ht2, run2 Hf2 H2 σ r2 (xo.step (f1.trans f2)) _ fun j A3 Hf3 H3 ⟨ne, q3⟩ r3 f3 => ?_⟩
    obtain ⟨a, xs, rfl, h1, h2⟩ := ds_tup s1
    have ff := f2.ef.trans f3.ef
    exact ⟨a, xs, rfl, seqT r3.sm (seqT ff h1), by rw [h2.length]; exact ne, fun p hp => fin_t r3 hp q3 (dsl_cut (h2.mono ff) i j) fun r A' v Hf' H' q r4 f4 => k _ _ _ _ _ q r4 (((f1.trans f2).trans f3).trans f4)⟩⟩
/-! repr of one thing by itself -/
theorem call_reprV : CallR X (.builtin "repr") fun vs H Q => ∃ v x, vs = [v] ∧ ((v = .non ∧ x = PyData.none) ∨ (∃ b, v = .bl b ∧ x = .bool b) ∨ (∃ i, v = .int i ∧ i.natAbs.log2 < 1920 ∧ x = .int i) ∨ ∃ s, v = .str s ∧ x = .str s ∧ (reprText s).length ≤ sizeLine) ∧ Q (.str x.shown) H := by
  rintro pins s σ H vs us R I r ⟨v, x, rfl, hv, q⟩
  obtain ⟨u, rfl, ru⟩ := vals1 r
  rcases hv with ⟨rfl, rfl⟩ | ⟨b, rfl, rfl⟩ | ⟨i, rfl, hi, rfl⟩ | ⟨y, rfl, rfl, hy⟩
  · cases ru
    exact PySem.P.repr_of_none ⟨.str _, H, I.tok _, ⟨_, rfl⟩, q⟩
  · cases ru
    exact PySem.P.repr_of_bool ⟨.str _, H, I.tok _, ⟨_, rfl⟩, q⟩
  · obtain ⟨t, rfl⟩ := ru
    exact PySem.P.repr_of_int hi ⟨.str _, H, I.tok _, ⟨_, rfl⟩, q⟩
  · obtain ⟨t, rfl⟩ := ru
    exact PySem.P.repr_of_str ⟨.str _, H, I.tok _, ⟨_, rfl⟩, q⟩ hy
end
/-! ### tuple * 1 is the tuple -/
theorem tuple_mul1 (l : Addr) (items : Array Value) (n : Nat) (dd : Option Addr) (sl : Array (Option Value)) (u : Tok) :
    Meets (Builtin.«tuple.__mul__» ⟨[.ref l, .int 1 u], []⟩) fun _ R s => s.heap.get? l = some { cls := .type "tuple", dict := dd, data := .seq items n, slots := sl } ∧ R (.ok (.ret (.ref l))) s := Meets.of_wp fun P w A R s h => by
  obtain ⟨hp, g, d, tk, os⟩ := s
  obtain ⟨hl, h⟩ := h
  have f1 := AutoSeq1.idx_int
  wp_walk using wpAny_loadPart' hl
  exact ⟨_, rfl, h⟩
theorem op_rep1 {X : Cx} : OpR X (binaryOp .Mult) fun x y H Q => ∃ l xs, x = .ref l ∧ y = .int 1 ∧ SqT X.K H l xs ∧ Q (.ref l) H := by
  rintro pins s σ H x y v u Q I rx ry ⟨l, xs, rfl, rfl, hT, q⟩
  cases rx
  obtain ⟨t, rfl⟩ := ry
  obtain ⟨its, r, ⟨⟨cls, dd, data, sl⟩, ho, hc, n, hd⟩, _⟩ := I.tuple hT
  simp only at hc hd
  subst hc hd
  have t1 : s.TypeIs (.ref l) "tuple" := ⟨_, ho, rfl⟩
  exact wpAny_binaryOp_repeat_ref (T := "tuple") (U := "int") (by decide) t1 (fun s' => typeIs_int s' 1 t) noFill_tuple_mul F.fills_int_mul F.slot_int_rmul repeat_tuple F.slot_int_index.lookup
    (call_meets F.slot_int_rmul (typeIs_int s 1 t) F.entry_int_rmul (F.args_int_rmul_2 _ _) (int_rmul_tuple 1 t l its.toArray n dd sl) ⟨ho, rfl, t1, call_meets F.slot_tuple_mul t1 F.entry_tuple_mul (F.args_tuple_mul_2 _ _) (tuple_mul1 l its.toArray n dd sl t) ⟨ho, .ref l, H, I, rfl, q⟩⟩)
theorem os_repT1 {X : Cx} {A : List SD} {ds : List D} {Q : SD → List SD → Prop} (q : Q (.dat (.tup ds)) A) : OS X A (binaryOp .Mult) (.tup ds) (.int 1) Q := fun Hf H σ rel v u hv hu R k => by
  obtain ⟨a, xs, rfl, h1, h2⟩ := ds_tup hv
  cases ds_int hu
  exact ⟨_, op_rep1, a, xs, rfl, rfl, seqT rel.sm h1, fin_d rel q (.tup h1 h2) k⟩
/-! repr of any thing that is small -/
inductive Lil : D → Prop
  | non : Lil .non
  | bl (b : Bool) : Lil (.bl b)
  | int (i : Int) : i.natAbs < 191 → Lil (.int i)
  | str (x : Str) : PyData.canLay0 (.str x) = true → (reprText x).length ≤ 100 → Lil (.str x)
/-- small, n deep, no list longer than m -/
inductive Sml (m : Nat) : Nat → D → Prop
  | lil {n : Nat} {d : D} : Lil d → Sml m n d
  | lst {n : Nat} {ds : List D} : ds.length ≤ m → (∀ x ∈ ds, Sml m n x) → Sml m (n + 1) (.lst ds)
  | tup {n : Nat} {ds : List D} : ds.length ≤ m → (∀ x ∈ ds, Sml m n x) → Sml m (n + 1) (.tup ds)
def smlLen (m : Nat) : Nat → Nat
  | 0 => 100
  | n + 1 => m * (smlLen m n + 2) + 100
theorem sml_low (m : Nat) : ∀ n, 100 ≤ smlLen m n
  | 0 => Nat.le_refl _
  | n + 1 => by show 100 ≤ m * (smlLen m n + 2) + 100; omega
theorem log_small {i : Int} (hi : i.natAbs < 1000) : i.natAbs.log2 < 1920 := by
  by_cases h0 : i.natAbs = 0
  · rw [h0]; decide
  · exact Nat.lt_of_lt_of_le ((Nat.log2_lt h0).mpr (Nat.lt_of_lt_of_le hi (by decide : 1000 ≤ 2 ^ 10))) (by decide)
theorem sml_ok {m : Nat} : ∀ {n : Nat} {d : D}, Sml m n d → d.flat = true ∧ d.py.showable = true ∧ d.py.hasDict = false ∧ d.py.shown.length ≤ smlLen m n := by
  intro n d h
  induction h with
  | @lil n d h =>
    have low := sml_low m n
    cases h with
    | non => exact ⟨rfl, rfl, rfl, Nat.le_trans (by decide) low⟩
    | bl b => exact ⟨rfl, rfl, rfl, Nat.le_trans (by cases b <;> decide) low⟩
    | int i hi =>
      refine ⟨rfl, decide_eq_true (log_small (by omega)), rfl, Nat.le_trans ?_ low⟩
      show (Str.ofString (toString i)).length ≤ 100
      rw [len_of]
      exact Nat.le_trans (int_text_length_le10 (k := 3) (by decide) (by omega)) (by decide)
    | str x hx hl => exact ⟨hx, rfl, rfl, Nat.le_trans hl low⟩
  | @lst n ds hl hx ih =>
    obtain ⟨a1, a2, a3, a4⟩ := tiny_all (L := smlLen m n) (ds := ds) ih
    have a5 : piled (PyData.shownAll (D.pys ds)) ≤ m * (smlLen m n + 2) := Nat.le_trans a4 (Nat.mul_le_mul_right _ hl)
    refine ⟨by simp [D.flat, a1], by simp [D.py, PyData.showable, a2], by simp [D.py, PyData.hasDict, a3], ?_⟩
    have := list_le (PyData.shownAll (D.pys ds))
    show (listText (PyData.shownAll (D.pys ds))).length ≤ m * (smlLen m n + 2) + 100
    omega
  | @tup n ds hl hx ih =>
    obtain ⟨a1, a2, a3, a4⟩ := tiny_all (L := smlLen m n) (ds := ds) ih
    have a5 : piled (PyData.shownAll (D.pys ds)) ≤ m * (smlLen m n + 2) := Nat.le_trans a4 (Nat.mul_le_mul_right _ hl)
    refine ⟨by simp [D.flat, a1], by simp [D.py, PyData.showable, a2], by simp [D.py, PyData.hasDict, a3], ?_⟩
    have := tuple_le (PyData.shownAll (D.pys ds))
    show (tupleText (PyData.shownAll (D.pys ds))).length ≤ m * (smlLen m n + 2) + 100
    omega
theorem lil_pl {n : Nat} {d : D} (h : Lil d) : Pl n d := by
  cases h with
  | non => exact Pl.non
  | bl b => exact Pl.bl b
  | int i _ => exact Pl.int i
  | str x hx _ => exact ⟨hx, Nat.zero_le _⟩
theorem sml_pl {m : Nat} : ∀ {n : Nat} {d : D}, Sml m n d → Pl n d := by
  intro n d h
  induction h with
  | lil h => exact lil_pl h
  | lst hl hx ih => exact Pl.lst ih
  | tup hl hx ih => exact Pl.tup ih
theorem cs_reprS {X : Cx} {A : List SD} {d : D} {m n : Nat} {Q : SD → List SD → Prop} [c : Cok X] (h : Sml m n d) (hn : n ≤ 60) (hz : smlLen m n ≤ sizeLine) (q : Q (.dat (.str d.py.shown)) A) : CS X A (.builtin "repr") [d] Q := by
  obtain ⟨h1, h2, h3, h4⟩ := sml_ok h
  have h5 := Nat.le_trans h4 hz
  cases h with
  | lst hl hx => exact cs_repr (.inl ⟨_, rfl⟩) (Pl.lst fun x hxm => sml_pl (hx x hxm)) hn h2 h3 h5 q
  | tup hl hx => exact cs_repr (.inr ⟨_, rfl⟩) (Pl.tup fun x hxm => sml_pl (hx x hxm)) hn h2 h3 h5 q
  | lil hl =>
    intro Hf H σ rel vs hv R k
    obtain ⟨v, rfl, g⟩ := dsl1 hv
    refine ⟨_, call_reprV, v, d.py, rfl, ?_, fin_d rel q (.str _) k⟩
    cases hl with
    | non => cases g; exact .inl ⟨rfl, rfl⟩
    | bl b => cases g; exact .inr (.inl ⟨b, rfl, rfl⟩)
    | int i hi => cases g; exact .inr (.inr (.inl ⟨i, rfl, log_small (by omega), rfl⟩))
    | str x hx hl => cases g; exact .inr (.inr (.inr ⟨x, rfl, rfl, h5⟩))
end Y

namespace Y
open PySem L2 PySem.Spec NdefX LamX
open PyProof.Rows hiding St
/-! ### cells, locked and free again -/
/-- H where the cells of C are locked as M tells -/
def lockH (M : Addr → Option Obj) (H : Hp) : Hp := fun b => match M b with
  | some o => some (CellF o)
  | none => H b
def freeH (M : Addr → Option Obj) (H : Hp) : Hp := fun b => match M b with
  | some _ => none
  | none => H b
section
variable {M : Addr → Option Obj} {H H' : Hp} {b : Addr} {o : Obj}
theorem lock_in (h : M b = some o) : lockH M H b = some (CellF o) := by unfold lockH; rw [h]
theorem lock_out (h : M b = none) : lockH M H b = H b := by unfold lockH; rw [h]
theorem free_in (h : M b = some o) : freeH M H b = none := by unfold freeH; rw [h]
theorem free_out (h : M b = none) : freeH M H b = H b := by unfold freeH; rw [h]
theorem cellF_inj {o u : Obj} (h : CellF o = CellF u) : o = u := by
  unfold CellF at h
  injection h
/-- what the mask tells is so -/
theorem hok_lock {P : Program} {w : World} {h : Heap} (k : HOk P w H h) (hM : ∀ b o, M b = some o → h.get? b = some o ∧ H b = none) : HOk P w (lockH M H) h := by
  intro a u e
  cases hm : M a with
  | some o =>
    rw [lock_in hm] at e
    cases e
    exact ⟨(hM a o hm).1, trivial, ⟨o, (hM a o hm).1⟩, fun _ _ _ _ => trivial⟩
  | none =>
    rw [lock_out hm] at e
    have up : ∀ b x, H b = some x → lockH M H b = some x := fun b x q => by
      cases hb : M b with
      | some o => rw [(hM b o hb).2] at q; cases q
      | none => rw [lock_out hb]; exact q
    exact (k a u e).stay (fun _ _ _ q => q) (fun b q => up b _ q) (fun b xs q => up b _ q)
theorem hok_free {P : Program} {w : World} {h : Heap} (k : HOk P w H h) (hM : ∀ b o, M b = some o → H b = some (CellF o)) : HOk P w (freeH M H) h := by
  intro a u e
  cases hm : M a with
  | some o => rw [free_in hm] at e; cases e
  | none =>
    rw [free_out hm] at e
    refine (k a u e).stay (fun _ _ _ q => q) (fun b q => ?_) (fun b xs q => ?_)
    · cases hb : M b with
      | some o => rw [hM b o hb] at q; cases q
      | none => rw [free_out hb]; exact q
    · cases hb : M b with
      | some o => rw [hM b o hb] at q; cases q
      | none => rw [free_out hb]; exact q
/-- a run seen from where the cells are free -/
theorem un_free {fs : List Addr} {h h' : Heap} {P : Program} {w : World} (u : Un fs [] (lockH M H) H' h h') (hok : HOk P w H' h') (hM : ∀ b o, M b = some o → h.get? b = some o ∧ H b = none) :
    Un fs [] H (freeH M H') h h' ∧ HOk P w (freeH M H') h' := by
  have inn : ∀ b o, M b = some o → H' b = some (CellF o) := fun b o e => u.frzs b o _ (lock_in e)
  refine ⟨⟨fun b o e n hb hx => ?_, fun b o e n hb hx => ?_, fun b o e n hx => ?_, u.there, fun b xs e => ?_, fun b o v e => ?_, fun b ps e => ?_⟩, hok_free hok inn⟩
  · cases hm : M b with
    | some o' =>
      have z := (hM b o' hm).1
      rw [e] at z; cases z
      exact (hok b _ (inn b _ hm)).1
    | none => exact u.keep b o e ((lock_out hm).trans n) hb hx
  · cases hm : M b with
    | some o' =>
      have z := (hM b o' hm).1
      rw [e] at z; cases z
      exact ⟨o.slots, (hok b _ (inn b _ hm)).1⟩
    | none => exact u.slot b o e ((lock_out hm).trans n) hb hx
  · cases hm : M b with
    | some o' => exact free_in hm
    | none => rw [free_out hm]; exact u.free b o e ((lock_out hm).trans n) hx
  · have hm : M b = none := by
      cases hm : M b with
      | none => rfl
      | some o => rw [(hM b o hm).2] at e; cases e
    rw [free_out hm]
    exact u.tups b xs ((lock_out hm).trans e)
  · have hm : M b = none := by
      cases hm : M b with
      | none => rfl
      | some o => rw [(hM b o hm).2] at e; cases e
    rw [free_out hm]
    exact u.frzs b o v ((lock_out hm).trans e)
  · have hm : M b = none := by
      cases hm : M b with
      | none => rfl
      | some o => rw [(hM b o hm).2] at e; cases e
    rw [free_out hm]
    exact u.tbls b ps ((lock_out hm).trans e)
/-- a run of what has the cells, seen from where they are locked -/
theorem un_lock {fs : List Addr} {h h' : Heap} {P : Program} {w : World} (u : Un fs [] (freeH M H) H' h h') (hok : HOk P w H' h') (hM : ∀ b o, M b = some o → h.get? b = some o ∧ H b = some (CellF o) ∧ b ∉ fs) :
    Un fs [] H (lockH M H') h h' ∧ HOk P w (lockH M H') h' := by
  have out : ∀ b x, H b = some x → (∀ o, x ≠ CellF o) → M b = none := fun b x e n => by
    cases hm : M b with
    | none => rfl
    | some o => rw [(hM b o hm).2.1] at e; cases e; exact absurd rfl (n o)
  have out0 : ∀ b, H b = none → M b = none := fun b e => by
    cases hm : M b with
    | none => rfl
    | some o => rw [(hM b o hm).2.1] at e; cases e
  have stay : ∀ b o, M b = some o → h'.get? b = some o ∧ H' b = none := fun b o e => by
    obtain ⟨e1, _, e3⟩ := hM b o e
    exact ⟨u.keep b o e1 (free_in e) e3 (by simp), u.free b o e1 (free_in e) (by simp)⟩
  refine ⟨⟨fun b o e n hb hx => ?_, fun b o e n hb hx => ?_, fun b o e n hx => ?_, u.there, fun b xs e => ?_, fun b o v e => ?_, fun b ps e => ?_⟩, hok_lock hok stay⟩
  · exact u.keep b o e ((free_out (out0 b n)).trans n) hb hx
  · exact u.slot b o e ((free_out (out0 b n)).trans n) hb hx
  · rw [lock_out (out0 b n)]; exact u.free b o e ((free_out (out0 b n)).trans n) hx
  · have hm := out b _ e fun o z => by cases z
    rw [lock_out hm]; exact u.tups b xs ((free_out hm).trans e)
  · cases hm : M b with
    | some o' =>
      rw [(hM b o' hm).2.1] at e
      unfold CellF at e
      injection e with e
      injection e with e1 e2
      subst e1
      rw [lock_in hm, ← e2]
      rfl
    | none => rw [lock_out hm]; exact u.frzs b o v ((free_out hm).trans e)
  · have hm := out b _ e fun o z => by cases z
    rw [lock_out hm]; exact u.tbls b ps ((free_out hm).trans e)
end
end Y

namespace Y
open PySem L2 PySem.Spec NdefX LamX
open PyProof.Rows hiding St
variable [I : NmC]
section
variable {M : Addr → Option Obj} {Hf H Hf' H' : Hp} {o0 o1 : List Addr}
theorem tabA_free {P : Addr} (t : TabA I H P) (hM : ∀ b o, M b = some o → H b = some (CellF o)) : TabA I (freeH M H) P := by
  obtain ⟨ps, h1, h2, h3⟩ := t
  have out : ∀ b x, H b = some x → (∀ o, x ≠ CellF o) → freeH M H b = some x := fun b x e n => by
    cases hm : M b with
    | some o => rw [hM b o hm] at e; cases e; exact absurd rfl (n o)
    | none => rw [free_out hm]; exact e
  refine ⟨ps, out _ _ h1 (fun o z => by cases z), h2, fun pos cv hc => ?_⟩
  obtain ⟨c, e1, e2⟩ := h3 pos cv hc
  exact ⟨c, e1, out _ _ e2 fun o z => by cases z⟩
theorem tabA_lock {P : Addr} (t : TabA I H P) (hM : ∀ b o, M b = some o → H b = none) : TabA I (lockH M H) P :=
  t.ext fun b x e => by
    cases hm : M b with
    | some o => rw [hM b o hm] at e; cases e
    | none => rw [lock_out hm]; exact e
theorem fr_lock (f : Fr o0 (freeH M Hf) (freeH M H) o1 Hf' H') (h1 : ∀ b o, M b = some o → H b = some (CellF o)) (h2 : ∀ b o, M b = some o → Hf b = some (CellF o)) (h3 : ∀ b o, M b = some o → H' b = none) (h4 : ∀ p ∈ o1, H' p ≠ none) :
    Fr o0 Hf H o1 (lockH M Hf') (lockH M H') := by
  have nM : ∀ b x, H b = some x → (∀ o, x ≠ CellF o) → M b = none := fun b x e n => by
    cases hm : M b with
    | some o => rw [h1 b o hm] at e; cases e; exact absurd rfl (n o)
    | none => rfl
  refine ⟨fun b x e => ?_, fun a o e ow n h => ?_, fun a o e nt h => ?_, fun p hp => ?_, fun a ps e => ?_, fun P t => ?_⟩
  · cases hm : M b with
    | some o => rw [h2 b o hm] at e; cases e; exact lock_in hm
    | none => rw [lock_out hm]; exact f.ef b x ((free_out hm).trans e)
  · have hm := nM a o e fun o' z => by subst z; exact ow
    rw [lock_out hm]
    exact f.st a o ((free_out hm).trans e) ow ((free_out hm).trans n) h
  · cases hm : M a with
    | some o' => rw [h1 a o' hm] at e; cases e; exact lock_in hm
    | none => rw [lock_out hm]; exact f.kp a o ((free_out hm).trans e) nt h
  · rcases f.gr p hp with z | z
    · exact .inl z
    · cases hm : M p with
      | some o => exact absurd (h3 p o hm) (h4 p hp)
      | none => rw [free_out hm] at z; exact .inr z
  · have hm := nM a _ e fun o' z => by cases z
    rw [lock_out hm]
    exact f.tb a ps ((free_out hm).trans e)
  · exact tabA_lock (f.ts P (tabA_free t h1)) h3
theorem fr_free (f : Fr o0 (lockH M Hf) (lockH M H) o1 Hf' H') (h1 : ∀ b o, M b = some o → H b = none) (h2 : ∀ b o, M b = some o → H' b = some (CellF o)) (sm : Same Hf H) : Fr o0 Hf H o1 (freeH M Hf') (freeH M H') := by
  have nM : ∀ b x, H b = some x → M b = none := fun b x e => by
    cases hm : M b with
    | some o => rw [h1 b o hm] at e; cases e
    | none => rfl
  refine ⟨fun b x e => ?_, fun a o e ow n h => ?_, fun a o e nt h => ?_, fun p hp => ?_, fun a ps e => ?_, fun P t => ?_⟩
  · have hm := nM b x (sm b x e)
    rw [free_out hm]; exact f.ef b x ((lock_out hm).trans e)
  · have hm := nM a o e
    rw [free_out hm]; exact f.st a o ((lock_out hm).trans e) ow ((lock_out hm).trans n) h
  · have hm := nM a o e
    rw [free_out hm]; exact f.kp a o ((lock_out hm).trans e) nt h
  · rcases f.gr p hp with z | z
    · exact .inl z
    · cases hm : M p with
      | some o => rw [lock_in hm] at z; cases z
      | none => rw [lock_out hm] at z; exact .inr z
  · have hm := nM a _ e
    rw [free_out hm]; exact f.tb a ps ((lock_out hm).trans e)
  · exact tabA_free (f.ts P (tabA_lock t h1)) h2
end
/-! ### data without lambdas -/
mutual
def D.nofn : D → Bool
  | .fn _ _ _ _ _ => false
  | .lst ds => D.nofns ds
  | .rls ds => D.nofns ds
  | .tup ds => D.nofns ds
  | .ins _ _ ds => D.nofns ds
  | _ => true
def D.nofns : List D → Bool
  | [] => true
  | d :: ds => D.nofn d && D.nofns ds
end
section
variable {K : PySem.W.Frag} {M : Addr → Option Obj} {H : Hp}
theorem free_of {a : Addr} {x : HO} (hM : ∀ b o, M b = some o → H b = some (CellF o)) (n : ∀ o, x ≠ CellF o) (e : H a = some x) : freeH M H a = some x := by
  cases hm : M a with
  | some o => rw [hM a o hm] at e; cases e; exact absurd rfl (n o)
  | none => rw [free_out hm]; exact e
theorem sqL_free {a : Addr} {xs : List V} (hM : ∀ b o, M b = some o → H b = some (CellF o)) (h : SqL K H a xs) : SqL K (freeH M H) a xs := by
  rcases h with (h | ⟨o, h⟩) | h
  · exact .inl (.inl (free_of hM (fun o z => by cases z) h))
  · exact .inl (.inr ⟨o, free_of hM (fun o z => by cases z) h⟩)
  · exact .inr h
theorem sqT_free {a : Addr} {xs : List V} (hM : ∀ b o, M b = some o → H b = some (CellF o)) (h : SqT K H a xs) : SqT K (freeH M H) a xs := by
  rcases h with (h | ⟨o, h⟩) | h
  · exact .inl (.inl (free_of hM (fun o z => by cases z) h))
  · exact .inl (.inr ⟨o, free_of hM (fun o z => by cases z) h⟩)
  · exact .inr h
mutual
theorem Ds.free (hM : ∀ b o, M b = some o → H b = some (CellF o)) : ∀ {v : V} {d : D}, Ds K H v d → d.nofn = true → Ds K (freeH M H) v d
  | _, _, .non, _ => .non
  | _, _, .bl b, _ => .bl b
  | _, _, .int i, _ => .int i
  | _, _, .str x, _ => .str x
  | _, _, .ptr a, _ => .ptr a
  | _, _, .ty n, _ => .ty n
  | _, _, .lst h q, e => .lst (free_of hM (fun o z => by cases z) h) (DsL.free hM q (by simpa [D.nofn] using e))
  | _, _, .rls h q, e => .rls (sqL_free hM h) (DsL.free hM q (by simpa [D.nofn] using e))
  | _, _, .tup h q, e => .tup (sqT_free hM h) (DsL.free hM q (by simpa [D.nofn] using e))
  | _, _, .ins h q, e => .ins (free_of hM (fun o z => by cases z) h) (DsL.free hM q (by simpa [D.nofn] using e))
  | _, _, .fn _ _ _ _, e => by simp [D.nofn] at e
theorem DsL.free (hM : ∀ b o, M b = some o → H b = some (CellF o)) : ∀ {vs : List V} {ds : List D}, DsL K H vs ds → D.nofns ds = true → DsL K (freeH M H) vs ds
  | _, _, .nil, _ => .nil
  | _, _, .cons h q, e => by
    simp only [D.nofns, Bool.and_eq_true] at e
    exact .cons (Ds.free hM h e.1) (DsL.free hM q e.2)
end
end
/-! ### the mask of a lambda's cells -/
open Classical in
noncomputable def maskC (cl : List (Str × Addr)) (H : Hp) : Addr → Option Obj := fun b => if ∃ y, cl.lookup y = some b then (match H b with
  | some (.frz o _) => some o
  | _ => none) else none
theorem mask_is {H : Hp} {cl : List (Str × Addr)} {fr : List Str} {vs : List V} (c : CellsV H cl fr vs) {b : Addr} {o : Obj} (h : maskC cl H b = some o) : H b = some (CellF o) := by
  unfold maskC at h
  split at h
  · rename_i hy
    obtain ⟨y, hy⟩ := hy
    obtain ⟨o', v, e1, _⟩ := c.all y b hy
    rw [e1] at h
    cases h
    exact e1
  · cases h
theorem mask_at {H : Hp} {cl : List (Str × Addr)} {fr : List Str} {vs : List V} (c : CellsV H cl fr vs) {y : Str} {b : Addr} (h : cl.lookup y = some b) : ∃ o v, maskC cl H b = some o ∧ H b = some (CellF o) ∧ o.data = .cell v := by
  obtain ⟨o, v, e1, e2⟩ := c.all y b h
  refine ⟨o, v, ?_, e1, e2⟩
  unfold maskC
  rw [if_pos ⟨y, h⟩, e1]
  rfl
theorem cells_at {P : Program} {w : World} {h : Heap} {H : Hp} {cl : List (Str × Addr)} {fr : List Str} {vs : List V} (c : CellsV H cl fr vs) (k : HOk P w H h) : CellsAt cl fr (vs.map some) h (freeH (maskC cl H) H) := by
  refine ⟨by rw [List.length_map]; exact c.len, fun y a e => ?_, c.inj, fun i y e => ?_⟩
  · obtain ⟨o, v, h1, h2, h3⟩ := mask_at c e
    exact ⟨free_in h1, v, o, (k a _ h2).1, h3⟩
  · have hl : i < vs.length := by rw [c.len]; exact (List.getElem?_eq_some_iff.mp e).1
    obtain ⟨a, o, u, q1, q2, q3, q4⟩ := c.has i y vs[i] e (by simp [hl])
    refine ⟨a, q1, fun v ev => ?_⟩
    rw [List.getElem?_map] at ev
    have : vs[i]? = some vs[i] := by simp [hl]
    rw [this] at ev
    cases ev
    exact ⟨u, q4, o, (k a _ q2).1, q3⟩
/-! ### the lambda's promise -/
theorem lamO_at {P : Program} {w : World} {H : Hp} {h : Heap} {f : Addr} {F : NF} {e : Expr} (hok : HOk P w H h) (q : H f = some (LamO f F e)) : ∃ pm ctv : Value, h.get? f = some (PySem.W.kla_obj F.name F.qual F.params e F.scope F.cl pm F.c ctv) := by
  obtain ⟨z, _, _⟩ := hok f _ q
  exact z
/-- ws: what its captured cells hold -/
structure LOk (P : Program) (w : World) (K : PySem.W.Frag) (mg : Str → Option Value) (base : Heap) (k : Nat) (f : Addr) (F : NF) (e : Expr) (fr : List Str) (sp : Sp) : Prop where
  run : ∀ (A : Around) (outer : List Env) (s : Shared) (H : Hp) (us : List Value) (vs ws : List V) (Q : VK) (E : XK), Good k A → Env0 P w K mg base A outer s H → H f = some (LamO f F e) → H F.c = some (CodeO F.c F.qual) →
    CellsAt F.cl fr (ws.map some) s.heap H → Vals vs us → sp (vs ++ ws) H Q E → codeAny (model P w) A (.call (.ref f) ⟨us, []⟩) (CR (L2.CX P w) outer P w H s Q E) s
theorem LOk.mono {P : Program} {w : World} {K : PySem.W.Frag} {mg : Str → Option Value} {base : Heap} {j k : Nat} {f : Addr} {F : NF} {e : Expr} {fr : List Str} {sp : Sp} (G : LOk P w K mg base j f F e fr sp) (h : j ≤ k) : LOk P w K mg base k f F e fr sp :=
  ⟨fun A outer s H us vs ws Q E g => G.run A outer s H us vs ws Q E (g.mono h)⟩
/-- .. from its body -/
theorem lok_of {P : Program} {w : World} {K : PySem.W.Frag} {mg : Str → Option Value} {base : Heap} {N ps fr : List Str} {F : NF} {e : Expr} {f : Addr} {k : Nat} {S : FSp} {T : List Addr} (sc : NScope N ps fr F.scope) (no : ∀ x ∈ bnames, mg x = none)
    (hb : ∀ (pm ctv : Value) (us : List Value), us.length = ps.length → bindArgs (PySem.W.kla_fn F.name F.qual F.params e F.scope F.cl pm (.ref F.c) ctv) ⟨us, []⟩ = pure (ps.zip us)) (hl : ∀ A Post Z, S A Post Z → A.length = ps.length + fr.length)
    (hbody : ∀ (A : Around) (outer : List Env) (s : Shared) (H : Hp) (E : XK), Cok (ncx (L2.CX P w) P w K mg base N F f A outer s H E) → Good k (ncx (L2.CX P w) P w K mg base N F f A outer s H E).A →
      ∀ B Post Z, S B Post Z → EX (ncx (L2.CX P w) P w K mg base N F f A outer s H E) (BodyZ T B Z) (B ++ List.replicate (N.length - ps.length - fr.length) .any) e fun r A' => ∃ B', Aft A' B B' ∧ Post r B') : LOk P w K mg base (k + 1) f F e fr (SpOf K T S) := by
  refine ⟨fun A outer s H us vs ws Q E g e0 hf hc C rv hsp => ?_⟩
  obtain ⟨tabs, Hf, B, Post, Z, rel, hS, kQ, kE⟩ := hsp
  have lz := Paired.length rel.al
  rw [List.length_map, List.length_append, hl B Post Z hS] at lz
  have lw : ws.length = fr.length := by rw [← C.len, List.length_map]
  have lv : vs.length = ps.length := by omega
  have noLim := e0.mod.nolimit.keeps fun b o q => (e0.bs b o q).1
  obtain ⟨pm, ctv, ho⟩ := lamO_at e0.hok hf
  refine PySem.W.kla_callFunE g.rm.depth ho rfl sc.co sc.gen rfl (codeO_at e0.hok hc) ?_
  rw [hb pm ctv us (by rw [← rv.length]; exact lv)]
  refine wpAny_pure (wpAny_newFunctionEnv sc.nocell (fun ⟨n, _⟩ hy => sc.par n (List.of_mem_zip hy).1) (fun h₁ hns hsb => ⟨noLim.fresh _ hsb, ?_⟩) sc.kind)
  show codeAny _ _ (.expr e (envF F f s.heap.objs.size)) _ _
  have kp : ∀ b o, s.heap.get? b = some o → h₁.get? b = some o := fun b o q => hsb.extBut b o (Nat.ne_of_lt (Heap.lt_size q)) (Heap.get?_push_of_some _ q)
  have room := g.rm.deeper (envF F f s.heap.objs.size)
  have inv : L2.Inv (ncx (L2.CX P w) P w K mg base N F f A outer s H E) [] (startF N vs (ws.map some)) H { s with heap := h₁, toks := s.toks + (ps.zip us).length } := inv_startN sc g.rm.hd e0 lv rv C hns kp
  have cok : Cok (ncx (L2.CX P w) P w K mg base N F f A outer s H E) := ⟨rfl, sc.nd, no, room.units, g.gd, L2.passes_of rfl⟩
  have rel0 : Rel K Hf H (startF N vs (ws.map some)) (B ++ List.replicate (N.length - ps.length - fr.length) .any) := by
    have e1 : startF N vs (ws.map some) = (vs ++ ws).map some ++ List.replicate (N.length - ps.length - fr.length) none := by
      unfold startF
      rw [List.map_append, List.length_map, lv, lw, List.append_assoc]
    rw [e1]
    exact rel.pad _
  have own0 : owns (B ++ List.replicate (N.length - ps.length - fr.length) .any) = owns B := owns_pad _ _
  have body := hbody A outer s H E cok ⟨room, g.gd⟩ B Post Z hS
  refine PySem.W.kla_codeExpr (wpAny_mono (we.run [] _ (startF N vs (ws.map some)) H Q inv (body Hf H _ rel0 ⟨tabs, _, L2.takes_of rfl rfl rfl rfl, ?_⟩ _ ?_)) (fun u s' z => ?_) fun _ _ z => z)
  · rintro c fs B' d σ' Hf' H' ⟨A', aft, z⟩ r' xd f'
    rw [own0] at f'
    exact kE c fs A' d Hf' H' z (aft.rel rel r' f'.ef) xd (f'.less aft.sub.2)
  · rintro r A' v Hf' H' ⟨B', aft, q⟩ r' f'
    rw [own0] at f'
    have e := aft.rel rel r'.tail f'.ef
    refine kQ _ _ _ _ _ q (e.cons r'.head fun p o z hp => ?_) (f'.less fun p hp => ?_)
    · subst z
      exact r'.notTail (aft.sub.2 p hp)
    · rcases own_head p hp with z | ⟨o, z⟩
      · exact owns_tail _ _ p (aft.sub.2 p z)
      · subst z; exact List.mem_cons_self
  · obtain ⟨v, H', J, ru, q⟩ := z
    exact ⟨v, H', J.os, J.bare, J.base, J.hok, ru, q⟩
end Y

namespace Y
open PySem L2 PySem.Spec NdefX LamX
open PyProof.Rows hiding St
variable [I : NmC]
/-! ### a lambda called by a name that holds it -/
theorem noCX {P : Program} {w : World} {outer : List Env} {H : Hp} {s s' : Shared} {u : Value} (h : L2.CX P w outer H s (fun _ _ _ => False) u s') : False := by
  obtain ⟨_, _, _, _, _, _, _, _, _, _, _, _, z⟩ := h
  exact z
section
variable {X : Cx} {Z : ZZ} {A : List SD} {e b : Expr} {es : List Expr} {pos p : Pos} {k : Nat} {x : Str}
theorem pe_callF {i : Nat} {f : Addr} {F : NF} {fr : List Str} {sp : Sp} {t : TA} (G : LOk X.prog X.w X.K X.mg X.base k f F b fr sp) (g : Good k X.A) (hN : X.N[i]? = some x) (hv : Vis X.env.scope x) (ha : PA X (e :: es) t)
    (hd : (x == ("__debug__" : Str)) = false) (hcd : (x == ("__classdict__" : Str)) = false) (he : starEach (e :: es) X.env = (false, eval e X.env) :: starEach es X.env) (hpl : (backTo pos (starEach es X.env)).any (·.1) = false) :
    PE X (.Call (.Name x p) (e :: es) [] pos) fun σ H R => σ[i]? = some (some (.ref f)) ∧ H f = some (LamO f F b) ∧ t σ H fun vs H1 => H1 f = some (LamO f F b) ∧ H1 F.c = some (CodeO F.c F.qual) ∧
      ∃ ws, CellsV H1 F.cl fr ws ∧ sp (vs ++ ws) (freeH (maskC F.cl H1) H1) (fun v H' => (∀ b o, maskC F.cl H1 b = some o → H' b = none) → R v (lockH (maskC F.cl H1) H')) fun _ _ _ => False := by
  constructor
  rintro pins s σ H R J ⟨hs, hf, ht⟩
  have fn : ∀ {pins σ H s}, L2.Inv X pins σ H s → H f = some (LamO f F b) → PySem.W.FnAt f s.heap := fun J q => by
    obtain ⟨pm, ctv, ho⟩ := lamO_at J.hok q
    exact ⟨_, _, _, _, ho⟩
  refine wpAny_Call_Name_kw (thn ((pe_var (pos := p) hN hv hd hcd).run pins s σ H (fun v H1 => v = .ref f ∧ H1 = H) J ⟨.ref f, hs, rfl, rfl⟩) ?_)
  rintro u s1 ⟨v, H1, J1, r1, rfl, rfl⟩
  obtain rfl : u = Value.ref f := r1
  refine PySem.W.callWith_F (first := []) (fn J1 hf) (thn (ha.run pos pins s1 σ _ _ J1 ht) ?_) he hpl
  rintro us s2 ⟨vs, H2, J2, r, h1, h2, ws, cv, q⟩
  refine ⟨fn J2 h1, ?_⟩
  show wpAny _ _ (call (.ref f) us) _ _ _
  have hM : ∀ b o, maskC F.cl H2 b = some o → H2 b = some (CellF o) := fun b o z => mask_is cv z
  have lamF : ∀ {b o}, H2 b = some o → (∀ u, o ≠ CellF u) → freeH (maskC F.cl H2) H2 b = some o := fun q n => free_of hM n q
  have e2 := J2.env0
  have e0 : Env0 X.prog X.w X.K X.mg X.base X.A X.stack s2 (freeH (maskC F.cl H2) H2) := by
    have up : ∀ b, H2 b = none → freeH (maskC F.cl H2) H2 b = none := fun b n => by
      cases hm : maskC F.cl H2 b with
      | some o => exact free_in hm
      | none => rw [free_out hm]; exact n
    exact ⟨e2.frames, e2.mod, fun b o z => ⟨(e2.bs b o z).1, up b (e2.bs b o z).2⟩, e2.bsz, e2.funs, fun b hb => up b (e2.frf b hb), hok_free e2.hok hM, e2.bare⟩
  refine wpAny_call (codeAny_mono (G.run X.A X.stack s2 _ us vs ws _ _ g e0 (lamF h1 fun u z => by cases z) (lamF h2 fun u z => by cases z) (cells_at cv J2.hok) r q) ?_)
  intro r s' hr
  match r, hr with
  | .error c, hr => exact (noCX hr).elim
  | .ok (.ret u), hr =>
    obtain ⟨v, H', os, bare, un, hok, rv, q⟩ := hr
    have un2 := un_lock un hok fun b o z => ⟨(J2.hok b _ (hM b o z)).1, hM b o z, fun hb => by
      have w := hM b o z
      rw [J2.stkFree b hb] at w
      cases w⟩
    exact J2.after ⟨v, _, os, bare, un2.1, un2.2, rv, q fun b o z => un.free b o (J2.hok b _ (hM b o z)).1 (free_in z) (by simp)⟩
  | .ok .next, hr => exact hr.elim
  | .ok .brk, hr => exact hr.elim
  | .ok .cont, hr => exact hr.elim
theorem rel_dats {K : PySem.W.Frag} {Hf H : Hp} {vs : List V} {ds : List D} (sm : Same Hf H) (nt : ∀ a o, Hf a = some o → NoT o) (h : DsL K Hf vs ds) : Rel K Hf H (vs.map some) (ds.map .dat) := (dats_rel sm nt h).1
/-- f(..), f a name that holds a lambda; the arguments are data without lambdas -/
theorem ex_callF (i : Nat) {f : Addr} {F : NF} {fr : List Str} {cds : List D} {S : FSp} {Q : SD → List SD → Prop} (hA : A[i]? = some (.dat (.fn f F b fr cds))) (G : LOk X.prog X.w X.K X.mg X.base k f F b fr (SpOf X.K Z.T S)) (g : Good k X.A)
    (h : EA X Z A (e :: es) fun ds A1 => D.nofns ds = true ∧ D.nofns cds = true ∧ S ((ds ++ cds).map .dat) (fun r _ => Q r A1) Z0)
    (hN : X.N[i]? = some x := by kernel_rfl) (hv : Vis X.env.scope x := by exact vis_of (by kernel_rfl)) (hd : (x == ("__debug__" : Str)) = false := by kernel_rfl) (hcd : (x == ("__classdict__" : Str)) = false := by kernel_rfl)
    (he : starEach (e :: es) X.env = (false, eval e X.env) :: starEach es X.env := by kernel_rfl) (hpl : (backTo pos (starEach es X.env)).any (·.1) = false := by kernel_rfl) : EX X Z A (.Call (.Name x p) (e :: es) [] pos) Q := by
  intro Hf H σ rel xo R kk
  obtain ⟨v0, hs, hds⟩ := rel.slot (X := X) hA
  cases hds with
  | fn hf hc cv hws =>
    rename_i ws
    refine ⟨_, pe_callF G g hN hv wa hd hcd he hpl, hs, rel.sm _ _ hf, h Hf H σ rel xo _ ?_⟩
    rintro ds A1 vs Hf1 H1 ⟨n1, n2, hS⟩ r1 s1 f1
    have cvf : CellsV Hf1 F.cl fr ws := cv.mono f1.ef
    have cvH : CellsV H1 F.cl fr ws := cvf.mono r1.sm
    have hM : ∀ b o, maskC F.cl H1 b = some o → H1 b = some (CellF o) := fun b o z => mask_is cvH z
    have hMf : ∀ b o, maskC F.cl H1 b = some o → Hf1 b = some (CellF o) := fun b o z => by
      have z0 := z
      unfold maskC at z
      split at z
      · rename_i hy
        obtain ⟨y, hy⟩ := hy
        obtain ⟨o', v, w1, w2⟩ := cvf.all y b hy
        have := r1.sm _ _ w1
        rw [hM b o z0] at this
        rw [w1]; exact this.symm
      · cases z
    refine ⟨r1.sm _ _ (f1.ef _ _ hf), r1.sm _ _ (f1.ef _ _ hc), ws, cvH, ?_⟩
    have smF : Same (freeH (maskC F.cl H1) Hf1) (freeH (maskC F.cl H1) H1) := fun b o z => by
      cases hm : maskC F.cl H1 b with
      | some u => rw [free_in hm] at z; cases z
      | none => rw [free_out hm] at z ⊢; exact r1.sm b o z
    have ntF : ∀ a o, freeH (maskC F.cl H1) Hf1 a = some o → NoT o := fun b o z => by
      cases hm : maskC F.cl H1 b with
      | some u => rw [free_in hm] at z; cases z
      | none => rw [free_out hm] at z; exact r1.nt b o z
    have dv : DsL X.K (freeH (maskC F.cl H1) Hf1) (vs ++ ws) (ds ++ cds) := (s1.free hMf n1).append ((hws.mono f1.ef).free hMf n2)
    have o1 : owns ((ds ++ cds).map SD.dat) = [] := owns_dats _
    refine ⟨fun P hP => tabA_free (f1.ts P (xo.1 P hP)) hM, _, _, _, _, rel_dats smF ntF dv, hS, ?_, fun c fs A' d Hf' H' z => z.elim⟩
    intro r A' v Hf' H' q r2 f2 cN
    rw [o1] at f2
    have cNf : ∀ b o, maskC F.cl H1 b = some o → Hf' b = none := fun b o z => by
      cases hb : Hf' b with
      | none => rfl
      | some u =>
        have := r2.sm b u hb
        rw [cN b o z] at this
        cases this
    have f3 : Fr [] Hf1 H1 (owns (r :: A')) (lockH (maskC F.cl H1) Hf') (lockH (maskC F.cl H1) H') := fr_lock f2 hM hMf cN fun p hp => r2.there hp
    have up : ∀ {G : Hp}, (∀ b o, maskC F.cl H1 b = some o → G b = none) → Same G (lockH (maskC F.cl H1) G) := fun hG b u z => by
      cases hm : maskC F.cl H1 b with
      | some o => rw [hG b o hm] at z; cases z
      | none => rw [lock_out hm]; exact z
    have sm3 : Same (lockH (maskC F.cl H1) Hf') (lockH (maskC F.cl H1) H') := fun b u z => by
      cases hm : maskC F.cl H1 b with
      | some o => rw [lock_in hm] at z ⊢; exact z
      | none => rw [lock_out hm] at z ⊢; exact r2.sm b u z
    have nt3 : ∀ a o, lockH (maskC F.cl H1) Hf' a = some o → NoT o := fun b u z => by
      cases hm : maskC F.cl H1 b with
      | some o => rw [lock_in hm] at z; cases z; exact fun ps w => by cases w
      | none => rw [lock_out hm] at z; exact r2.nt b u z
    have t3 : Rel X.K (lockH (maskC F.cl H1) Hf') (lockH (maskC F.cl H1) H') σ A1 := r1.through f3 sm3 nt3
    have hr : SdOk X.K (lockH (maskC F.cl H1) Hf') (lockH (maskC F.cl H1) H') (some v) r := r2.head.keep (up cNf) fun p o z => by
      subst z
      have al := r2.head.there
      have hm : maskC F.cl H1 p = none := by
        cases hm : maskC F.cl H1 p with
        | none => rfl
        | some o => exact absurd (cN p o hm) al
      rw [lock_out hm, lock_out hm]
      exact ⟨r2.head.2.1, rfl⟩
    refine kk r A1 v _ _ q (t3.cons hr fun p o z hp => ?_) (f1.trans (f3.wide fun p hp => ?_))
    · subst z
      rcases f3.gr p List.mem_cons_self with z | z
      · cases z
      · exact r1.there hp z
    · exact (own_head p hp).imp id fun ⟨o, e⟩ => by subst e; exact List.mem_cons_self
end
end Y

namespace Y
open PySem L2 PySem.Spec NdefX LamX
open PyProof.Rows hiding St
variable [I : NmC]
/-! ### a lambda made -/
theorem lamO_ok {P : Program} {w : World} {H : Hp} {h : Heap} {f : Addr} {F : NF} {e : Expr} {pm ctv : Value} (q : h.get? f = some (PySem.W.kla_obj F.name F.qual F.params e F.scope F.cl pm F.c ctv)) : ObjOk P w H h f (LamO f F e) :=
  ⟨⟨pm, ctv, q⟩, ⟨_, q⟩, fun h1 h2 ⟨a, b, z⟩ k => ⟨a, b, k _ z⟩⟩
abbrev lamF (X : Cx) (params : Arguments) (scope : Scope) (c' : Addr) : NF := ⟨"<lambda>", X.env.qual ++ "<lambda>", params, [], scope, cloFrom X.env.cells scope.names [], c'⟩
/-- what a lambda's making changes -/
structure Made (H H1 : Hp) (f c' : Addr) (F : NF) (e : Expr) : Prop where
  ex : ExtN H H1
  tb : ∀ b ps, H b = some (.tbl ps) → ∃ qs, H1 b = some (.tbl qs)
  ts : ∀ P, TabA I H P → TabA I H1 P
  nf : H f = none
  lf : H1 f = some (LamO f F e)
  lc : H1 c' = some (CodeO c' F.qual)
theorem lam_new {X : Cx} {pins : List (Addr × Obj)} {σ : L2.St} {H : Hp} {s : Shared} {c P : Addr} {params : Arguments} {e : Expr} {scope : Scope} {pos : Pos} {E : Value → Shared → Prop} {Q : Value → Shared → Prop} (J : L2.Inv X pins σ H s) (TB : TabB X.base X.mg c P)
    (hcode : X.env.code = .ref c) (hT : TabA I H P) (hn : I.nm P = X.env.qual ++ "<lambda>") (hdef : defaultsOf params X.env = ([], [])) (hfree : ∀ y ∈ scope.names, y.2 = .free → ∃ c, X.env.cells.lookup y.1 = some c)
    (k : ∀ (f c' : Addr) (H1 : Hp) (s' : Shared), L2.Inv X pins σ H1 s' → Made H H1 f c' (lamF X params scope c') e → Q (.ref f) s') :
    wpAny (model X.prog X.w) X.A (eval (.Lambda params e scope pos) X.env) Q E s := by
  obtain ⟨ps, hP, ht, ha⟩ := hT
  refine PySem.W.kla_eval hdef ?_
  have atP := J.hok P _ hP
  cases hc : codeAmong pos ps.toList with
  | some cv =>
    obtain ⟨c', rfl, hco⟩ := ha pos cv hc
    rw [hn] at hco
    refine PySem.W.kla_makeFunctionHit (mg := X.mg) (c := c) (P := P) (ps := ps) (closure_ok hfree) J.ok.glob (J.mod.glob.keeps J.bk) hcode (TB.code.keeps J.bk) atP ht hc (TB.bm.keeps J.bk) ?_
    intro ctv h' tk hx hsz
    have I1 : L2.Inv X pins σ H { s with heap := h', toks := tk } := J.kept hx
    obtain ⟨nf, I2⟩ := inv_laid (t' := tk) (o := LamO h'.objs.size (lamF X params scope c') e) I1 (fun b u q => Heap.get?_push_of_some _ q) (fun b u q => Nat.ne_of_lt (Heap.lt_size q)) (lamO_ok (Heap.get?_push_size _ rfl))
    have far : ∀ {b : Addr} {u : HO}, H b = some u → upd H h'.objs.size (LamO h'.objs.size (lamF X params scope c') e) b = some u := fun q => (upd_ne (ne_of_none q nf)).trans q
    exact k _ c' _ _ I2 ⟨fun b u q _ => far q, fun b ps q => ⟨ps, far q⟩, fun Q t => t.ext fun b u q => far q, nf, upd_same, far hco⟩
  | none =>
    refine PySem.W.kla_makeFunction (mg := X.mg) (c := c) (P := P) (ps := ps) (closure_ok hfree) J.ok.glob (J.mod.glob.keeps J.bk) hcode (TB.code.keeps J.bk) atP ht hc TB.gP (TB.bm.keeps J.bk) ?_
    intro c' ctv h' tk hx hge hlt hrec htb
    obtain ⟨c2, oc, vs, t, e2, hoc, hd, hv⟩ := hrec
    cases e2
    have nC : H c' = none := J.hok.fresh hge
    have I1 := inv_table (t' := tk) (q := X.env.qual ++ "<lambda>") (more := #[rawInt pos.line, rawInt pos.col, .ref c']) J hP hx htb hge ⟨oc, vs, t, hoc, hd, hv⟩
    have e0 : ∀ b, b ≠ P → b ≠ c' → upd (upd H P (.tbl (ps ++ #[rawInt pos.line, rawInt pos.col, .ref c']))) c' (CodeO c' (X.env.qual ++ "<lambda>")) b = H b := fun b h1 h2 => by rw [upd_ne h2, upd_ne h1]
    have eP : upd (upd H P (.tbl (ps ++ #[rawInt pos.line, rawInt pos.col, .ref c']))) c' (CodeO c' (X.env.qual ++ "<lambda>")) P = some (.tbl (ps ++ #[rawInt pos.line, rawInt pos.col, .ref c'])) := by rw [upd_ne (ne_of_none hP nC), upd_same]
    have eC : upd (upd H P (.tbl (ps ++ #[rawInt pos.line, rawInt pos.col, .ref c']))) c' (CodeO c' (X.env.qual ++ "<lambda>")) c' = some (CodeO c' (X.env.qual ++ "<lambda>")) := upd_same
    generalize upd (upd H P (.tbl (ps ++ #[rawInt pos.line, rawInt pos.col, .ref c']))) c' (CodeO c' (X.env.qual ++ "<lambda>")) = G at I1 e0 eP eC
    have GE : ExtN H G := fun b u q n => by
      rw [e0 b (fun z => n ps (Option.some.inj (q.symm.trans (by rw [z]; exact hP)))) (ne_of_none q nC)]
      exact q
    have GB : ∀ b qs, H b = some (.tbl qs) → ∃ rs, G b = some (.tbl rs) := fun b qs q => by
      by_cases hb : b = P
      · subst hb; exact ⟨_, eP⟩
      · exact ⟨qs, (e0 b hb (ne_of_none q nC)).trans q⟩
    have GT : TabA I G P := by
      have eL : (ps ++ #[rawInt pos.line, rawInt pos.col, .ref c']).toList = ps.toList ++ [rawInt pos.line, rawInt pos.col, .ref c'] := by simp
      refine ⟨_, eP, by rw [eL]; exact PySem.TriplesOk_snoc _ _ _ _ ht, fun p' cv hcv => ?_⟩
      rw [eL] at hcv
      rcases among_app _ ht hcv with z | z
      · obtain ⟨c0, w1, w2⟩ := ha p' cv z
        exact ⟨c0, w1, GE _ _ w2 codeO_ne⟩
      · exact ⟨c', z, by rw [hn]; exact eC⟩
    have GS : ∀ Q, TabA I H Q → TabA I G Q := fun Q t => by
      by_cases hb : Q = P
      · subst hb; exact GT
      · obtain ⟨qs, q1, q2, q3⟩ := t
        refine ⟨qs, (e0 Q hb (ne_of_none q1 nC)).trans q1, q2, fun p' cv hcv => ?_⟩
        obtain ⟨c0, w1, w2⟩ := q3 p' cv hcv
        exact ⟨c0, w1, GE _ _ w2 codeO_ne⟩
    obtain ⟨nf, I2⟩ := inv_laid (t' := tk) (o := LamO h'.objs.size (lamF X params scope c') e) I1 (fun b u q => Heap.get?_push_of_some _ q) (fun b u q => Nat.ne_of_lt (Heap.lt_size q)) (lamO_ok (Heap.get?_push_size _ rfl))
    have far : ∀ {b : Addr} {u : HO}, G b = some u → upd G h'.objs.size (LamO h'.objs.size (lamF X params scope c') e) b = some u := fun q => (upd_ne (ne_of_none q nf)).trans q
    refine k _ c' _ _ I2 ⟨fun b u q n => far (GE b u q n), fun b qs q => ?_, fun Q t => (GS Q t).ext fun b u q => far q, J.hok.fresh (Nat.le_trans hge (Nat.le_of_lt hlt)), upd_same, far eC⟩
    obtain ⟨rs, z⟩ := GB b qs q
    exact ⟨rs, far z⟩
theorem pe_lam {X : Cx} {c P : Addr} {params : Arguments} {e : Expr} {scope : Scope} {pos : Pos} (TB : TabB X.base X.mg c P) (hcode : X.env.code = .ref c) (hn : I.nm P = X.env.qual ++ "<lambda>") (hdef : defaultsOf params X.env = ([], []))
    (hfree : ∀ y ∈ scope.names, y.2 = .free → X.env.scope.names.lookup y.1 = some .cell ∨ X.env.scope.names.lookup y.1 = some .free) :
    PE X (.Lambda params e scope pos) fun σ H R => TabA I H P ∧ ∀ f c' H1, Made H H1 f c' (lamF X params scope c') e → R (.ref f) H1 := by
  constructor
  rintro pins s σ H R J ⟨hT, h⟩
  refine lam_new J TB hcode hT hn hdef (fun y hy q => (hfree y hy q).elim (fun z => J.ok.has _ (.inl z)) fun z => J.ok.has _ (.inr z)) fun f c' H1 s' J1 m => ⟨.ref f, H1, J1, rfl, h f c' H1 m⟩
/-! ### a def called with a lambda: its cells are locked meanwhile -/
section
variable {X : Cx} {Z : ZZ} {A : List SD} {e b : Expr} {es : List Expr} {pos p : Pos} {k : Nat} {x qual : Str} {st : Stmt} {f : Addr} {fd : FuncData} {ps : List Str}
open Classical in
/-- the cells of the running frame that cl tells, as objects -/
noncomputable def cellM (cl : List (Str × Addr)) (h : Heap) : Addr → Option Obj := fun b => if ∃ y, cl.lookup y = some b then h.get? b else none
theorem pe_callGL {t : TA} {sp : Sp} {cl : List (Str × Addr)} {fr : List Str} {js : List Nat} (hm : X.mg x = some (.ref f)) (F : Fun X.K qual qual st f fd) (G : GOk X.prog X.w X.K X.mg X.base k f fd ps sp) (g : Good k X.A) (hg : Gl X x)
    (cp : X.Ok → Caps X cl fr js) (hfn : ∀ y, X.fn y = true)
    (hb : ∀ (s : Shared) (us : List Value), us.length = ps.length → BindsTo s fd ⟨us, []⟩ (ps.zip us)) (ha : PA X (e :: es) t) (hdb : (x == ("__debug__" : Str)) = false)
    (he : starEach (e :: es) X.env = (false, eval e X.env) :: starEach es X.env) (hpl : (backTo pos (starEach es X.env)).any (·.1) = false) :
    PE X (.Call (.Name x p) (e :: es) [] pos) fun σ H R => t σ H fun vs H1 => ∃ ws : List V, js.map (slotAt σ) = ws.map some ∧ ∀ M : Addr → Option Obj, (∀ b o, M b = some o → H1 b = none) → (∀ G : Hp, CellsV (lockH M G) cl fr ws) →
      sp vs (lockH M H1) (fun v H' => (∀ b o, M b = some o → H' b = some (CellF o)) → R v (freeH M H')) fun _ _ _ => False := by
  constructor
  intro pins s σ H R J h
  refine wpAny_Call_Name_kw (ld_glob J hg hm ?_ hdb)
  refine PySem.W.callWith_K (h₀ := X.base) J.ok.mod.kin F.kp (thn (ha.run pos pins s σ H _ J h) ?_) he hpl
  rintro us s1 ⟨vs, H1, J1, r, ws, hws, q⟩
  refine ⟨J1.kIn, ?_⟩
  have C := cells_of J1 (cp J1.ok)
  rw [hws] at C
  have sub := (cp J1.ok).sub
  -- a captured cell is new and no frame
  have big : ∀ b, (∃ y, cl.lookup y = some b) → X.s_0.heap.objs.size ≤ b := fun b ⟨y, hy⟩ => J1.ok.cab y b (hfn y) (sub y b hy)
  have hM : ∀ b o, cellM cl s1.heap b = some o → s1.heap.get? b = some o ∧ H1 b = none := fun b o z => by
    unfold cellM at z
    split at z
    · rename_i hy
      obtain ⟨y, hy⟩ := hy
      exact ⟨z, (C.all y b hy).1⟩
    · cases z
  have inn : ∀ b o, cellM cl s1.heap b = some o → ∃ y, cl.lookup y = some b := fun b o z => by
    unfold cellM at z
    split at z
    · assumption
    · cases z
  have at_ : ∀ y b, cl.lookup y = some b → ∀ o, s1.heap.get? b = some o → cellM cl s1.heap b = some o := fun y b hy o ho => by
    unfold cellM
    rw [if_pos ⟨y, hy⟩, ho]
  have out : ∀ b, ¬ (∃ y, cl.lookup y = some b) → cellM cl s1.heap b = none := fun b n => if_neg n
  have cv : ∀ G : Hp, CellsV (lockH (cellM cl s1.heap) G) cl fr ws := by
    intro G
    refine ⟨by have := C.len; rwa [List.length_map] at this, fun y b hy => ?_, C.inj, fun i y v h1 h2 => ?_⟩
    · obtain ⟨_, v, o, ho, hd⟩ := C.all y b hy
      exact ⟨o, v, lock_in (at_ y b hy o ho), hd⟩
    · obtain ⟨c, hc, hv⟩ := C.has i y h1
      obtain ⟨u, ru, o, ho, hd⟩ := hv v (by rw [List.getElem?_map, h2]; rfl)
      exact ⟨c, o, u, hc, lock_in (at_ y c hc o ho), hd, ru⟩
  have e2 := J1.env0
  have e0 : Env0 X.prog X.w X.K X.mg X.base X.A X.stack s1 (lockH (cellM cl s1.heap) H1) := by
    refine ⟨e2.frames, e2.mod, fun b o z => ⟨(e2.bs b o z).1, ?_⟩, e2.bsz, e2.funs, fun b hb => ?_, hok_lock e2.hok hM, e2.bare⟩
    · rw [lock_out (out b fun hy => ?_)]
      · exact (e2.bs b o z).2
      · exact absurd (Nat.lt_of_lt_of_le (Heap.lt_size z) (Nat.le_trans J1.ok.bsz (big b hy))) (Nat.lt_irrefl _)
    · rw [lock_out (out b fun hy => ?_)]
      · exact e2.frf b hb
      · rcases List.mem_cons.mp (J1.stkSub b hb) with z | z
        · obtain ⟨y, hy⟩ := hy
          exact J1.cne y b (sub y b hy) z
        · obtain ⟨_, o, ho, _⟩ := J1.ok.funs.mem z
          exact absurd (Nat.lt_of_lt_of_le (Heap.lt_size ho) (big b hy)) (Nat.lt_irrefl _)
  have q := q (cellM cl s1.heap) (fun b o z => (hM b o z).2) cv
  refine wpAny_call (codeAny_mono (G.run X.A X.stack s1 _ ⟨us, []⟩ us vs _ _ g e0 (hb s1 us (by rw [← r.length]; exact G.len _ _ _ _ q)) r q) ?_)
  intro r s' hr
  match r, hr with
  | .error c, hr => exact (noCX hr).elim
  | .ok (.ret u), hr =>
    obtain ⟨v, H', os, bare, un, hok, rv, q⟩ := hr
    have un2 := un_free un hok hM
    exact J1.after ⟨v, _, os, bare, un2.1, un2.2, rv, q fun b o z => un.frzs b o _ (lock_in z)⟩
  | .ok .next, hr => exact hr.elim
  | .ok .brk, hr => exact hr.elim
  | .ok .cont, hr => exact hr.elim
end
end Y

namespace Y
open PySem L2 PySem.Spec NdefX LamX
open PyProof.Rows hiding St
theorem code_of_tab {K : PySem.W.Frag} {x : Str} {f c P : Addr} {oc : Value} {od : Option Addr} {fd : FuncData} {sl : Array (Option Value)} (a : PySem.W.nsIn K mainGlobals x = some (some (.ref f))) (l : K.lookup f = some ⟨oc, od, .func fd, sl⟩) (ht : PySem.W.tabIn K x = some (c, P)) : fd.code = .ref c := by
  unfold PySem.W.tabIn at ht
  rw [a] at ht
  dsimp only at ht
  rw [l] at ht
  dsimp only at ht
  split at ht
  · rename_i c2 hc
    split at ht
    · split at ht
      · cases ht; exact hc
      · cases ht
    · cases ht
  · cases ht
variable [I : NmC]
section
variable {X : Cx} {Z : ZZ} {A : List SD} {a b : Expr} {pos p lpos : Pos} {k : Nat} {x qual : Str} {st : Stmt} {ps : List Str} {S : FSp} {Q : SD → List SD → Prop} {params : Arguments} {scope : Scope}
def SD.nofn : SD → Bool
  | .any => true
  | .dat d => d.nofn
  | .own _ (.lst ds) => D.nofns ds
/-- x(a, lambda ..: b), x a def of the program; js: where the names stand that the lambda captures, fr: these names -/
theorem ex_callLam (js : List Nat) (fr : List Str) {c P : Addr} (F : Fn Z.T X.prog X.w X.K X.mg X.base k x qual st ps S) (g : Good k X.A) (hb : Bnd st qual ps) (TB : TabB X.base X.mg c P) (hcode : X.env.code = .ref c) (hP : P ∈ Z.T) (hn : I.nm P = X.env.qual ++ "<lambda>")
    (hfn : ∀ y, X.fn y = true)
    (h : ED X Z A a fun d A1 => ∃ cds : List D, js.map (fun j => A1[j]?) = cds.map (fun d => some (.dat d)) ∧ ∀ f c', S [.dat d, .dat (.fn f (lamF X params scope c') b fr cds)] (fun r _ => r.nofn = true ∧ Q r A1) Z0)
    (hdef : defaultsOf params X.env = ([], []) := by kernel_rfl) (hsc : ndefB X.env.scope scope fr = true := by kernel_rfl) (hjs : js.map (fun j => X.N[j]?) = fr.map some := by kernel_rfl)
    (hg : Gl X x := by exact gl_of (by kernel_rfl)) (hdb : (x == ("__debug__" : Str)) = false := by kernel_rfl)
    (he : starEach [a, .Lambda params b scope lpos] X.env = (false, eval a X.env) :: starEach [.Lambda params b scope lpos] X.env := by kernel_rfl) (he2 : starEach [.Lambda params b scope lpos] X.env = (false, eval (.Lambda params b scope lpos) X.env) :: starEach [] X.env := by kernel_rfl)
    (hpl : (backTo pos (starEach [.Lambda params b scope lpos] X.env)).any (·.1) = false := by kernel_rfl) : EX X Z A (.Call (.Name x p) [a, .Lambda params b scope lpos] [] pos) Q := by
  obtain ⟨f0, fd, hm, F, G⟩ := F.ex
  intro Hf H σ rel xo R kk
  have cp : X.Ok → Caps X (cloFrom X.env.cells scope.names []) fr js := fun ok => Caps.made ok (ndef_free hsc) (ndef_fr hsc) hjs
  refine ⟨_, pe_callGL hm F G g hg cp hfn (hb.to F) (pa_cons we (pa_cons (pe_lam TB hcode hn hdef (ndef_free hsc)) pa_nil he2) he) hdb he hpl, h Hf H σ rel xo _ ?_⟩
  rintro d A1 v0 Hf1 H1 ⟨cds, hcds, hS⟩ r1 s1 f1
  refine ⟨f1.ts P (xo.1 P hP), fun f c' H2 m => ?_⟩
  -- the lambda's own objects, frozen
  obtain ⟨Hf2, hHf2⟩ : ∃ Hf2 : Hp, Hf2 = fun b => if b = f then H2 f else if b = c' then H2 c' else Hf1 b := ⟨_, rfl⟩
  have g1 : Hf2 f = some (LamO f (lamF X params scope c') b) := by rw [hHf2]; exact (if_pos rfl).trans m.lf
  have g2 : Hf2 c' = some (CodeO c' (lamF X params scope c').qual) := by
    rw [hHf2]
    by_cases z : c' = f
    · exact (if_pos z).trans (by rw [← z]; exact m.lc)
    · exact (if_neg z).trans ((if_pos rfl).trans m.lc)
  have g3 : ∀ q, q ≠ f → q ≠ c' → Hf2 q = Hf1 q := fun q h1 h2 => by rw [hHf2]; exact (if_neg h1).trans (if_neg h2)
  have g4 : ∀ q o, Hf2 q = some o → H2 q = some o ∧ NoT o := fun q o e => by
    by_cases z : q = f
    · subst z; rw [g1] at e; cases e; exact ⟨m.lf, fun _ w => by cases w⟩
    · by_cases z2 : q = c'
      · subst z2; rw [g2] at e; cases e; exact ⟨m.lc, fun _ w => by cases w⟩
      · rw [g3 q z z2] at e; exact ⟨m.ex q o (r1.sm q o e) (r1.nt q o e), r1.nt q o e⟩
  have g5 : ∀ q o, H1 q = some o → Ow o → q ≠ f ∧ q ≠ c' := fun q o e w => ⟨ne_of_none e m.nf, fun z => by
    have k := m.ex q o e w.noT
    rw [z, m.lc] at k
    cases k
    exact w⟩
  have e12 : Same Hf1 Hf2 := fun q o e => by
    have eh := r1.sm q o e
    by_cases z2 : q = c'
    · have k := m.ex q o eh (r1.nt q o e)
      subst z2
      rw [m.lc] at k; cases k
      exact g2
    · rw [g3 q (ne_of_none eh m.nf) z2]; exact e
  have fm : Fr [] Hf1 H1 [] Hf2 H2 := ⟨e12, fun q o e w n _ => by rw [g3 q (g5 q o e w).1 (g5 q o e w).2]; exact n, fun q o e nt _ => m.ex q o e nt, fun q hq => (by cases hq), m.tb, m.ts⟩
  -- the captured values
  obtain ⟨ws, hws, dws⟩ : ∃ ws : List V, js.map (slotAt σ) = ws.map some ∧ DsL X.K Hf1 ws cds := by
    clear hS hjs cp h
    revert cds
    induction js with
    | nil =>
      intro cds e
      cases cds with
      | nil => exact ⟨[], rfl, .nil⟩
      | cons _ _ => cases e
    | cons j js ih =>
      intro cds e
      cases cds with
      | nil => cases e
      | cons d0 cds =>
        rw [List.map_cons, List.map_cons] at e
        injection e with e1 e2
        obtain ⟨ws, w1, w2⟩ := ih cds e2
        obtain ⟨w, q1, q2⟩ := r1.slot (X := X) e1
        exact ⟨w :: ws, by rw [List.map_cons, List.map_cons, slotAt_of q1, w1], .cons q2 w2⟩
  refine ⟨ws, hws, fun M hM hC => ?_⟩
  have hMf : ∀ q o, M q = some o → Hf2 q = none := fun q o z => by
    cases hq : Hf2 q with
    | none => rfl
    | some u => have := (g4 q u hq).1; rw [hM q o z] at this; cases this
  have up : Same Hf2 (lockH M Hf2) := fun q u e => by
    cases hm : M q with
    | some o => rw [hMf q o hm] at e; cases e
    | none => rw [lock_out hm]; exact e
  have sm3 : Same (lockH M Hf2) (lockH M H2) := fun q u e => by
    cases hm : M q with
    | some o => rw [lock_in hm] at e ⊢; exact e
    | none => rw [lock_out hm] at e ⊢; exact (g4 q u e).1
  have nt3 : ∀ q o, lockH M Hf2 q = some o → NoT o := fun q u e => by
    cases hm : M q with
    | some o => rw [lock_in hm] at e; cases e; exact fun ps w => by cases w
    | none => rw [lock_out hm] at e; exact (g4 q u e).2
  have s3 := (s1.mono e12).mono up
  have dfn : Ds X.K (lockH M Hf2) (.ref f) (.fn f (lamF X params scope c') b fr cds) := .fn (up _ _ g1) (up _ _ g2) (hC _) ((dws.mono e12).mono up)
  have rd := dats_rel (K := X.K) sm3 nt3 (.cons s3 (.cons dfn .nil))
  refine ⟨fun Q hQ => tabA_lock (m.ts Q (f1.ts Q (xo.1 Q hQ))) hM, _, _, _, _, rd.1, hS f c', ?_, fun c fs A' d Hf' H' z => z.elim⟩
  rintro r A' v Hf' H' ⟨nf, q⟩ r2 f2 cM
  rw [rd.2] at f2
  have f3 := fm.trans (fr_free f2 hM cM fun q u e => (g4 q u e).1)
  have cMf : ∀ q o, M q = some o → Hf' q = some (CellF o) := fun q o z => f2.ef q _ (lock_in z)
  have sm4 : Same (freeH M Hf') (freeH M H') := fun q u e => by
    cases hm : M q with
    | some o => rw [free_in hm] at e; cases e
    | none => rw [free_out hm] at e ⊢; exact r2.sm q u e
  have nt4 : ∀ q o, freeH M Hf' q = some o → NoT o := fun q u e => by
    cases hm : M q with
    | some o => rw [free_in hm] at e; cases e
    | none => rw [free_out hm] at e; exact r2.nt q u e
  have t4 := r1.through f3 sm4 nt4
  have hr : SdOk X.K (freeH M Hf') (freeH M H') (some v) r := by
    have h0 := r2.head
    cases r with
    | any => trivial
    | dat d =>
      obtain ⟨w, e1, e2⟩ := h0
      exact ⟨w, e1, e2.free cMf nf⟩
    | own y o =>
      obtain ⟨e1, e2, e3⟩ := h0
      have hm : M y = none := by
        cases hm : M y with
        | none => rfl
        | some u =>
          have := cMf y u hm
          rw [e2] at this; cases this
      cases o with
      | lst ds =>
        obtain ⟨xs, q1, q2⟩ := e3
        exact ⟨e1, (free_out hm).trans e2, xs, (free_out hm).trans q1, q2.free cMf nf⟩
  refine kk r A1 v _ _ q (t4.cons hr fun p o z hp => ?_) (f1.trans (f3.wide fun p hp => ?_))
  · subst z
    rcases f3.gr p List.mem_cons_self with z | z
    · cases z
    · exact r1.there hp z
  · exact (own_head p hp).imp id fun ⟨o, e⟩ => by subst e; exact List.mem_cons_self
end
end Y

namespace Y
open PySem L2 PySem.Spec NdefX LamX
open PyProof.Rows hiding St
open PySem.W (EachIs SortsAt KeyedOut KeepsBut copyHeap dataLe)
/-! ### sorted by a key of the program's own -/
structure Go (X : Cx) (s : Shared) (H : Hp) (s' : Shared) (H' : Hp) : Prop where
  os : s'.os = s.os
  bare : AllBare s'.gens
  un : Un (frs X.stack) [] H H' s.heap s'.heap
  hok : HOk X.prog X.w H' s'.heap
section
variable {X : Cx} {pins : List (Addr × Obj)} {σ : L2.St} {H H' H2 : Hp} {s s' s2 : Shared}
theorem Go.inv (g : Go X s H s' H') (J : L2.Inv X pins σ H s) : L2.Inv X pins σ H' s' := J.call' (ch := []) g.os g.un g.hok g.bare fun b hb => by cases hb
theorem Go.trans (g : Go X s H s' H') (g2 : Go X s' H' s2 H2) : Go X s H s2 H2 := ⟨g2.os.trans g.os, g2.bare, g.un.trans g2.un, g2.hok⟩
/-- an untracked object that is new since s has changed -/
theorem Go.new {h : Heap} {t : Nat} {a : Addr} (g : Go X s H s' H') (hs : ∀ b o, b ≠ a → s'.heap.get? b = some o → h.get? b = some o) (ha : s.heap.get? a = none) (hH : H' a = none) : Go X s H { s' with heap := h, toks := t } H' := by
  have ne : ∀ b o, s.heap.get? b = some o → b ≠ a := fun b o e z => by subst z; rw [ha] at e; cases e
  refine ⟨g.os, g.bare, ⟨fun b o e n h1 h2 => hs b o (ne b o e) (g.un.keep b o e n h1 h2), fun b o e n h1 h2 => ?_, g.un.free, fun b o e h2 => ?_, g.un.tups, g.un.frzs, g.un.tbls⟩, fun b u e => ?_⟩
  · obtain ⟨sl, q⟩ := g.un.slot b o e n h1 h2
    exact ⟨sl, hs b _ (ne b o e) q⟩
  · obtain ⟨o', q⟩ := g.un.there b o e h2
    exact ⟨o', hs b _ (ne b o e) q⟩
  · refine (g.hok b u e).stay (fun c v hc q => hs c v (fun z => ?_) q) (fun _ q => q) fun _ _ q => q
    subst z
    rcases hc with z | z
    · rw [z] at hH; rw [hH] at e; cases e
    · rw [hH] at z; cases z
theorem int_alike {kz : List PyData} (h : ∀ d ∈ kz, ∃ i : Int, d = .int i) : PySem.W.AllAlike kz ∧ PySem.W.Sortable kz := by
  refine ⟨fun d hd d' hd' => ?_, .inr fun d hd => ?_⟩
  · obtain ⟨i, rfl⟩ := h d hd
    obtain ⟨j, rfl⟩ := h d' hd'
    rfl
  · obtain ⟨i, rfl⟩ := h d hd
    exact ⟨fun z => (by cases z), fun xs z => (by cases z)⟩
theorem sort_run {α : Type} {R : Value → α → Prop} {kf : α → Int} {zs : List α} {vs : List Value} {l q : Addr} {Q E : Value → Shared → Prop} (J : L2.Inv X pins σ H s) (hl : s.heap.IsList l vs.toArray) (hR : EachIs R vs zs) (hz : vs.length ≤ sizeLine) (hu : X.A.units + 64 < cLine)
    (Pg : Hp → Prop) (hP : Pg H)
    (turn : ∀ v z, R v z → z ∈ zs → ∀ s' H', L2.Inv X pins σ H' s' → Pg H' → wpAny (model X.prog X.w) X.A.in1.in1 (call (.ref q) [v]) (fun u s'' => ∃ t H'', u = .int (kf z) t ∧ Go X s' H' s'' H'' ∧ Pg H'') (fun _ _ => False) s')
    (fin : ∀ out p H' s' c, Go X s H s' H' → Pg H' → s.heap.get? p = none → H' p = none → s'.heap.get? p = some (seqObj "list" (List.toArray out) c) → EachIs R out (zs.mergeSort fun a b => decide (kf a ≤ kf b)) → Q (.ref p) s') :
    wpAny (model X.prog X.w) X.A (call (.builtin "sorted") [.ref l] [(Str.ofString "key", .ref q)]) Q E s := by
  have lz : zs.length = vs.length := hR.length.symm
  refine PySem.W.sorted_of_sort hl hz (ksk_s1 _ _) (fun _ => ksk_l1 _ _) fun E' => ?_
  rw [ksk_t1]
  have cp := PySem.W.copyHeap_at s.heap vs
  have old0 : ∀ b o, s.heap.get? b = some o → (copyHeap s.heap vs).get? b = some o := fun b o e => PySem.W.copyHeap_old e
  have hsz : s.heap.objs.size + 1 < (copyHeap s.heap vs).objs.size := Heap.lt_size cp
  generalize copyHeap s.heap vs = h0 at cp old0 hsz
  generalize ea : s.heap.objs.size + 1 = a at cp hsz
  have a0 : s.heap.get? a = none := Heap.get?_none_of_le (by omega)
  obtain ⟨e1, g1⟩ : ∃ e1, (h0.update a (Obj.mapSeq fun _ => (#[] : Array Value))).get? a = some (seqObj "list" #[] e1) := ⟨_, get?_update_seq cp fun _ => #[]⟩
  have sb1 := Heap.SameBut.update h0 a (Obj.mapSeq fun _ => (#[] : Array Value))
  have zs1 : (h0.update a (Obj.mapSeq fun _ => (#[] : Array Value))).objs.size = h0.objs.size := Heap.size_update _ _ _
  generalize eh1 : h0.update a (Obj.mapSeq fun _ => (#[] : Array Value)) = h1 at g1 sb1 zs1
  unfold ksk_tree
  refine wpAny_bind (listItems_at (s := { s with heap := h0 }) cp rfl (wpAny_bind (listUpdate_at (s := { s with heap := h0 }) cp rfl ?_ (by rw [List.size_toArray]; exact hz) (Nat.zero_le _))))
  rw [show ({ s with heap := h0 } : Shared).heap.update a (Obj.mapSeq fun _ => (#[] : Array Value)) = h1 from eh1]
  refine wpAny_bind (seqEpoch_at (s := { s with heap := h1 }) g1 rfl (wpAny_bind (wpAny_newTuple (wpAny_bind (wpAny_newList (wpAny_holding ?_) (Nat.zero_le _))) (by show vs.length ≤ _; exact hz))))
  -- the store of keys
  obtain ⟨kS, ekS⟩ : ∃ kS, kS = (h1.push { cls := .type "tuple", data := .seq vs.toArray.toList.toArray }).objs.size := ⟨_, rfl⟩
  have kS1 : kS = h0.objs.size + 1 := by rw [ekS, size_push', zs1]
  have nk0 : ((h1.push { cls := .type "tuple", data := .seq vs.toArray.toList.toArray }).push { cls := .type "list", data := .seq ([] : List Value).toArray }).get? kS = some (seqObj "list" #[] 0) := by rw [ekS]; exact Heap.get?_push_size _ rfl
  have na0 : ((h1.push { cls := .type "tuple", data := .seq vs.toArray.toList.toArray }).push { cls := .type "list", data := .seq ([] : List Value).toArray }).get? a = some (seqObj "list" #[] e1) := Heap.get?_push_of_some _ (Heap.get?_push_of_some _ g1)
  have old2 : ∀ b o, s.heap.get? b = some o → ((h1.push { cls := .type "tuple", data := .seq vs.toArray.toList.toArray }).push { cls := .type "list", data := .seq ([] : List Value).toArray }).get? b = some o := fun b o e => by
    have nb : b ≠ a := fun z => by subst z; rw [a0] at e; cases e
    exact Heap.get?_push_of_some _ (Heap.get?_push_of_some _ ((sb1.2 b nb).trans (old0 b o e)))
  rw [← ekS]
  generalize (h1.push { cls := .type "tuple", data := .seq vs.toArray.toList.toArray }).push { cls := .type "list", data := .seq ([] : List Value).toArray } = h2 at nk0 na0 old2
  have k0 : s.heap.get? kS = none := Heap.get?_none_of_le (by omega)
  have hka : kS ≠ a := by omega
  have nfr : ∀ b, s.heap.get? b = none → b ∉ frs X.stack := fun b hb z => by
    obtain ⟨_, o, ho, _⟩ := J.stack.mem z
    rw [hb] at ho; cases ho
  have Ha : H a = none := J.hok.fresh (by omega)
  have Hk : H kS = none := J.hok.fresh (by omega)
  have go2 : Go X s H { s with heap := h2 } H := ⟨rfl, J.bare, Un.kept old2, J.hok.kept old2⟩
  unfold ksk_rest
  refine wpAny_bind (wpAny_rule ?_)
  first
    | rw [List.forIn_toArray]
    | (rw [← Array.forIn_toList]; simp only [List.toList_toArray])
    | rw [← Array.forIn_toList]
  refine wpAny_bind (ksk_fold (fun i s' => ∃ H' kA e, Go X s H s' H' ∧ Pg H' ∧ H' a = none ∧ H' kS = none ∧ s'.heap.get? kS = some (seqObj "list" kA e) ∧ s'.heap.get? a = some (seqObj "list" #[] e1) ∧ IntsAre kA.toList ((zs.take i).map kf)) vs 0 { s with heap := h2 }
    ⟨H, #[], 0, go2, hP, Ha, Hk, nk0, na0, .nil⟩ ?step ?done)
  case step =>
    rintro j v s' hv ⟨H', kA, e, g, pg, h1, h2, nk, na, hk⟩
    simp only [Nat.zero_add] at hk ⊢
    have hj : j < vs.length := (List.getElem?_eq_some_iff.mp hv).1
    have hzj : zs[j]? = some zs[j] := List.getElem?_eq_getElem (by omega)
    have hRj : R v zs[j] := hR.zip (v, zs[j]) (List.mem_of_getElem? (i := j) (by rw [List.getElem?_zip_eq_some]; exact ⟨hv, hzj⟩))
    have sz : kA.size = j := by
      have := hk.length
      rw [Array.length_toList, List.length_map, List.length_take] at this
      omega
    refine wpAny_bind (wpAny_attempt (wpAny_mono (turn v zs[j] hRj (List.mem_of_getElem? hzj) s' H' (g.inv J) pg) ?_ fun _ _ z => z.elim))
    rintro u s3 ⟨t, H3, rfl, g3, pg3⟩
    have nfk : kS ∉ frs X.stack := nfr kS k0
    have nfa : a ∉ frs X.stack := nfr a a0
    have nk3 := g3.un.keep kS _ nk h2 nfk (by simp)
    have na3 := g3.un.keep a _ na h1 nfa (by simp)
    have sb := Heap.SameBut.update s3.heap kS (Obj.mapSeq (·.push (.int (kf zs[j]) t)))
    obtain ⟨c2, hc2⟩ : ∃ c2, (s3.heap.update kS (Obj.mapSeq (·.push (.int (kf zs[j]) t)))).get? kS = some (seqObj "list" (kA.push (.int (kf zs[j]) t)) c2) := ⟨_, get?_update_seq nk3 (·.push (.int (kf zs[j]) t))⟩
    refine wpAny_bind (listUpdate_at nk3 rfl (wpAny_pure ⟨rfl, H3, kA.push (.int (kf zs[j]) t), c2, (g.trans g3).new (fun b o hb q => (sb.2 b hb).trans q) k0 (g3.un.free kS _ nk h2 (by simp)), pg3, g3.un.free a _ na h1 (by simp), g3.un.free kS _ nk h2 (by simp), hc2, (sb.2 a hka.symm).trans na3, ?_⟩) (by omega) (by show (kA.push _).size ≤ _; rw [Array.size_push]; omega))
    have ek : (zs.take (j + 1)).map kf = (zs.take j).map kf ++ [kf zs[j]] := by
      rw [List.take_add_one, hzj, List.map_append]
      rfl
    rw [ek, show (kA.push (.int (kf zs[j]) t)).toList = kA.toList ++ [.int (kf zs[j]) t] by simp]
    exact ksk_snoc hk
  case done =>
    rintro s' ⟨H', kA, e, g, pg, h1, h2, nk, na, hk⟩
    have e3 : zs.take (0 + vs.length) = zs := List.take_of_length_le (by omega)
    rw [e3] at hk
    have sz : kA.size = vs.length := by
      have := hk.length
      rw [Array.length_toList, List.length_map] at this
      omega
    refine wpAny_bind (listItems_at nk rfl ?_)
    obtain ⟨G, G1, G2⟩ := restrict s'.heap fun b => decide (b ≠ kS)
    have hk2 : EachIs (fun v d => ∃ as, Reads s'.heap v d as) kA.toList (zs.map fun z => PyData.int (kf z)) := by
      have : ∀ {us : List Value} {ns : List Int}, IntsAre us ns → EachIs (fun v d => ∃ as, Reads s'.heap v d as) us (ns.map PyData.int) := by
        intro us ns h
        induction h with
        | nil => exact .nil
        | cons n t _ ih => exact .cons ⟨[], .int n t⟩ ih
      have := this hk
      rwa [List.map_map] at this
    obtain ⟨al, so⟩ := int_alike (kz := zs.map fun z => PyData.int (kf z)) fun d hd => by
      obtain ⟨z, _, rfl⟩ := List.mem_map.mp hd
      exact ⟨_, rfl⟩
    refine PySem.W.keyH_end (κ := PySem.W.dataKind s'.heap (zs.map fun z => PyData.int (kf z))) (h₁ := G) (fun b o hb q => ?_) (G2 kS (by simp)) nk na hka (SortsAt.data hk2 al so fun d hd => ?_) (by omega) hz fun h' tk c kp hD => ⟨rfl, ?_⟩
    · by_cases hbk : b = kS
      · subst hbk; rw [G2 _ (by simp)] at q; cases q
      · rw [G1 b (by simpa using hbk)] at q; exact q
    · obtain ⟨z, _, rfl⟩ := List.mem_map.mp hd
      show X.A.units + 1 + 1 + 0 < cLine
      omega
    · have kp2 : ∀ b o, b ≠ a → b ≠ kS → s'.heap.get? b = some o → h'.get? b = some o := fun b o h1 h2 q => kp b o h1 ((G1 b (by simpa using h2)).trans q)
      have ko : KeyedOut false (zs.map fun z => PyData.int (kf z)) vs (PySem.W.sortVals (PySem.W.dataKind s'.heap (zs.map fun z => PyData.int (kf z))) false kA.toList vs) := ⟨s'.heap, kA.toList, al, rfl, hk2⟩
      have ho := PySem.W.keyedOut_each (fun z => PyData.int (kf z)) ko hR
      rw [PySem.W.dataLe_int kf] at ho
      refine fin _ a H' { s' with heap := h', toks := tk } c ?_ pg a0 h1 hD ho
      have u0 : Go X s H s' H' := g
      have ne : ∀ b o, s.heap.get? b = some o → b ≠ a ∧ b ≠ kS := fun b o e => ⟨fun z => (by subst z; rw [a0] at e; cases e), fun z => (by subst z; rw [k0] at e; cases e)⟩
      refine ⟨g.os, g.bare, ⟨fun b o e n x1 x2 => kp2 b o (ne b o e).1 (ne b o e).2 (g.un.keep b o e n x1 x2), fun b o e n x1 x2 => ?_, g.un.free, fun b o e x2 => ?_, g.un.tups, g.un.frzs, g.un.tbls⟩, fun b u e => ?_⟩
      · obtain ⟨sl, q⟩ := g.un.slot b o e n x1 x2
        exact ⟨sl, kp2 b _ (ne b o e).1 (ne b o e).2 q⟩
      · obtain ⟨o', q⟩ := g.un.there b o e x2
        exact ⟨o', kp2 b _ (ne b o e).1 (ne b o e).2 q⟩
      · refine (g.hok b u e).stay (fun x w hx q => kp2 x w (fun z => ?_) (fun z => ?_) q) (fun _ q => q) fun _ _ q => q
        · subst z
          rcases hx with z | z
          · rw [z] at h1; rw [h1] at e; cases e
          · rw [h1] at z; cases z
        · subst z
          rcases hx with z | z
          · rw [z] at h2; rw [h2] at e; cases e
          · rw [h2] at z; cases z
end
end Y

namespace Y
open PySem L2 PySem.Spec NdefX LamX
open PyProof.Rows hiding St
open PySem.W (EachIs)
variable [I : NmC]
section
variable {X : Cx} {Z : ZZ} {A : List SD} {a b : Expr} {pos p lpos kp : Pos} {k : Nat} {S : FSp} {Q : SD → List SD → Prop} {params : Arguments} {scope : Scope}
/-- the lambda's own objects, frozen -/
theorem made_rel {K : PySem.W.Frag} {Hf H H2 : Hp} {σ : St} {f c' : Addr} {F : NF} (m : Made H H2 f c' F b) (r : Rel K Hf H σ A) : ∃ Hf2, Rel K Hf2 H2 σ A ∧ Fr (owns A) Hf H (owns A) Hf2 H2 := by
  have fm : Fr [] Hf H [] Hf H2 := ⟨fun _ _ h => h, fun q o e w n _ => n, fun q o e nt _ => m.ex q o e nt, fun q hq => (by cases hq), m.tb, m.ts⟩
  exact ⟨Hf, r.through fm (fun q o e => m.ex q o (r.sm q o e) (r.nt q o e)) r.nt, ⟨fm.ef, fun q o e w n _ => n, fun q o e nt _ => m.ex q o e nt, fun q hq => .inl hq, m.tb, m.ts⟩⟩
theorem each_vals {K : PySem.W.Frag} {Hf : Hp} {α : Type} {F : α → D} : ∀ {vs : List Value} {zs : List α}, EachIs (fun v z => ∃ x, L2.RelV x v ∧ Ds K Hf x (F z)) vs zs → ∃ xs, Vals xs vs ∧ DsL K Hf xs (zs.map F)
  | _, _, .nil => ⟨[], .nil, .nil⟩
  | _, _, .cons ⟨x, h1, h2⟩ t => by
    obtain ⟨xs, q1, q2⟩ := each_vals t
    exact ⟨x :: xs, .cons h1 q1, .cons h2 q2⟩
theorem vals_each {K : PySem.W.Frag} {Hf : Hp} {α : Type} {F : α → D} : ∀ {xs : List V} {vs : List Value} {zs : List α}, Vals xs vs → DsL K Hf xs (zs.map F) → EachIs (fun v z => ∃ x, L2.RelV x v ∧ Ds K Hf x (F z)) vs zs
  | _, _, [], .nil, .nil => .nil
  | _, _, z :: zs, .cons h1 q1, .cons h2 q2 => .cons ⟨_, h1, h2⟩ (vals_each q1 q2)
theorem EachIs_len {α β : Type} {R : α → β → Prop} {as : List α} {bs : List β} (h : EachIs R as bs) : as.length = bs.length := h.length
/-- sorted(a, key=lambda ..: b): kf is what the key tells; js: where the names stand that it captures -/
theorem ex_sortedLam {α : Type} (zs : List α) (F : α → D) (kf : α → Int) (js : List Nat) (fr : List Str) {c P : Addr} [ck : Cok X] (TB : TabB X.base X.mg c P) (hcode : X.env.code = .ref c) (hP : P ∈ Z.T) (hn : I.nm P = X.env.qual ++ "<lambda>") (g : Good (k + 2) X.A)
    (G : ∀ f c', LOk X.prog X.w X.K X.mg X.base k f (lamF X params scope c') b fr (SpOf X.K Z.T S))
    (h : ES X Z A a fun l ds A1 => l = true ∧ ds = zs.map F ∧ zs.length ≤ 1000000 ∧ ∃ cds : List D, js.map (fun j => A1[j]?) = cds.map (fun d => some (.dat d)) ∧ (∀ z ∈ zs, S ((F z :: cds).map .dat) (fun r _ => r = .dat (.int (kf z))) Z0) ∧
      ∀ q, Q (.own q (.lst ((zs.mergeSort fun a b => decide (kf a ≤ kf b)).map F))) A1)
    (hdef : defaultsOf params X.env = ([], []) := by kernel_rfl) (hsc : ndefB X.env.scope scope fr = true := by kernel_rfl) (hjs : js.map (fun j => X.N[j]?) = fr.map some := by kernel_rfl)
    (hg : Gl X "sorted" := by exact gl_of (by kernel_rfl)) (he : backTo pos (starEach [a] X.env) = (false, eval a X.env) :: backTo pos (starEach [] X.env) := by kernel_rfl) (he2 : starEach [a] X.env = (false, eval a X.env) :: starEach [] X.env := by kernel_rfl) (hpl : (backTo pos (starEach [a] X.env)).any (·.1) = false := by kernel_rfl)
    (hall : (backToKw pos (keywordEach [⟨some "key", .Lambda params b scope lpos, kp⟩] X.env)).all (·.1.isSome) = true := by kernel_rfl) (hnone : (backToKw pos (keywordEach [⟨some "key", .Lambda params b scope lpos, kp⟩] X.env)).any (·.1.isNone) = false := by kernel_rfl)
    (hks : (backToKw pos (keywordEach [⟨some "key", .Lambda params b scope lpos, kp⟩] X.env)).filterMap (·.1) = [("key" : Str)] := by kernel_rfl) :
    EX X Z A (.Call (.Name "sorted" p) [a] [⟨some "key", .Lambda params b scope lpos, kp⟩] pos) Q := by
  intro Hf H σ rel xo R kk
  have cp : X.Ok → Caps X (cloFrom X.env.cells scope.names []) fr js := fun ok => Caps.made ok (ndef_free hsc) (ndef_fr hsc) hjs
  have pe : PE X (.Call (.Name "sorted" p) [a] [⟨some "key", .Lambda params b scope lpos, kp⟩] pos) fun σ H R => WE X a σ H fun x H1 => ∃ v0, [x] = [v0] ∧ TabA I H1 P ∧ ∀ f c' H2, Made H1 H2 f c' (lamF X params scope c') b →
      ∀ pins s u0, L2.Inv X pins σ H2 s → L2.RelV v0 u0 → wpAny (model X.prog X.w) X.A (call (.builtin "sorted") [u0] [(Str.ofString "key", .ref f)]) (EP X pins σ R) X.xe s := by
    constructor
    intro pins s σ H R J h
    refine wpAny_Call_Name_kw (ld_blt J hg (ck.no _ (by decide)) (show bootBuiltins "sorted" = some (.builtin "sorted") by kernel_rfl) ?_ (by decide) (by decide))
    refine PyProof.Rows.callWith_kw (thn ((pa_cons we pa_nil he2).run pos pins s σ H (fun vs H1 => ∃ v0, vs = [v0] ∧ TabA I H1 P ∧ ∀ f c' H2, Made H1 H2 f c' (lamF X params scope c') b →
      ∀ pins s u0, L2.Inv X pins σ H2 s → L2.RelV v0 u0 → wpAny (model X.prog X.w) X.A (call (.builtin "sorted") [u0] [(Str.ofString "key", .ref f)]) (EP X pins σ R) X.xe s) J h) ?_) he hpl hall hnone
    rintro us s1 ⟨vs, H1, J1, r1, v0, rfl, hT, h1⟩
    cases r1 with
    | cons rv rn =>
      cases rn
      refine thn ((pk_cons (pe_lam TB hcode hn hdef (ndef_free hsc)) pk_nil).run pos pins s1 σ H1 (fun ws H2 => ∃ f c', ws = [V.ref f] ∧ Made H1 H2 f c' (lamF X params scope c') b) J1 ⟨hT, fun f c' H2 m => ⟨f, c', rfl, m⟩⟩) ?_
      rintro ws s2 ⟨zs, H2, J2, r2, f, c', rfl, m⟩
      cases r2 with
      | cons rf rn =>
        cases rn
        obtain rfl := show _ = Value.ref f from rf
        rw [hks]
        exact h1 f c' H2 m pins s2 _ J2 rv
  refine ⟨_, pe, h Hf H σ rel xo _ ?_⟩
  rintro l ds A1 v0 Hf1 H1 ⟨rfl, rfl, hz, cds, hcds, hS, hQ⟩ r1 sv f1
  refine ⟨v0, rfl, f1.ts P (xo.1 P hP), fun f c' H2 m pins s u0 J ru => ?_⟩
  obtain ⟨l0, xs, rfl, hx, dx⟩ := sv.l
  obtain rfl := show u0 = Value.ref l0 from ru
  obtain ⟨Hf2, r2, f2⟩ := made_rel m r1
  have hx2 : SqL X.K H2 l0 xs := by
    rcases hx with (hx | ⟨o, hx⟩) | hx
    · exact .inl (.inl (m.ex _ _ hx NoT.lst))
    · exact .inl (.inr ⟨o, m.ex _ _ hx fun _ z => by cases z⟩)
    · exact .inr hx
  obtain ⟨vs, rvs, pl, hz2⟩ := J.list hx2
  have dx2 := dx.mono f2.ef
  -- the captured values
  obtain ⟨ws, hws, dws⟩ : ∃ ws : List V, js.map (slotAt σ) = ws.map some ∧ DsL X.K Hf2 ws cds := by
    clear hS hjs cp h G pe hQ
    revert cds
    induction js with
    | nil =>
      intro cds e
      cases cds with
      | nil => exact ⟨[], rfl, .nil⟩
      | cons _ _ => cases e
    | cons j js ih =>
      intro cds e
      cases cds with
      | nil => cases e
      | cons d0 cds =>
        rw [List.map_cons, List.map_cons] at e
        injection e with e1 e2
        obtain ⟨ws, w1, w2⟩ := ih cds e2
        obtain ⟨w, q1, q2⟩ := r2.slot (X := X) e1
        exact ⟨w :: ws, by rw [List.map_cons, List.map_cons, slotAt_of q1, w1], .cons q2 w2⟩
  have hE : EachIs (fun v z => ∃ x, L2.RelV x v ∧ Ds X.K Hf2 x (F z)) vs zs := vals_each rvs dx2
  have g2 : Good k X.A.in1.in1 := ⟨g.rm.in1.in1, g.gd⟩
  refine sort_run (kf := kf) J pl.isList hE (by rw [EachIs_len hE]; exact mil hz) ck.un (fun H' => ∃ Hf', Rel X.K Hf' H' σ A1 ∧ Fr (owns A1) Hf2 H2 (owns A1) Hf' H') ⟨Hf2, r2, Fr.refl _ _ _⟩ ?_ ?_
  · rintro v z ⟨x, rx, hd⟩ hzm s' H' J' ⟨Hf', r', f'⟩
    have C := cells_of J' (cp J'.ok)
    rw [hws] at C
    have e2 := J'.env0
    have e0 : Env0 X.prog X.w X.K X.mg X.base X.A.in1.in1 X.stack s' H' := ⟨e2.frames, e2.mod, e2.bs, e2.bsz, e2.funs, e2.frf, e2.hok, e2.bare⟩
    have m1 : H' f = some (LamO f (lamF X params scope c') b) := f'.kp f _ m.lf (fun _ z => by cases z) (fun hf => by
      obtain ⟨o, ho⟩ := of_owns hf
      obtain ⟨ov, _, q⟩ := Paired.mem r2.al ho
      obtain ⟨u, hu, ow⟩ := q.2.2.ow
      rw [m.lf] at hu; cases hu; exact ow)
    have m2 : H' c' = some (CodeO c' (lamF X params scope c').qual) := f'.kp c' _ m.lc (fun _ z => by cases z) (fun hf => by
      obtain ⟨o, ho⟩ := of_owns hf
      obtain ⟨ov, _, q⟩ := Paired.mem r2.al ho
      obtain ⟨u, hu, ow⟩ := q.2.2.ow
      rw [m.lc] at hu; cases hu; exact ow)
    have rd := dats_rel (K := X.K) r'.sm r'.nt (.cons (hd.mono f'.ef) (dws.mono f'.ef))
    refine wpAny_call (codeAny_mono ((G f c').run X.A.in1.in1 X.stack s' H' [v] [x] ws (fun u H3 => u = .int (kf z) ∧ ∃ Hf3, Rel X.K Hf3 H3 σ A1 ∧ Fr (owns A1) Hf2 H2 (owns A1) Hf3 H3) (fun _ _ _ => False) g2 e0 m1 m2 C (.cons rx .nil)
      ⟨fun P hP => f'.ts P (m.ts P (f1.ts P (xo.1 P hP))), Hf', _, _, _, rd.1, hS z hzm, ?_, fun c fs A' d Hf' H' z => z.elim⟩) ?_)
    · rintro r A' u Hf3 H3 rfl r3 f3
      rw [rd.2] at f3
      exact ⟨ds_int (head_d r3), Hf3, r'.through f3 r3.sm r3.nt, f'.trans (f3.wide fun p hp => .inl hp)⟩
    · intro r s3 hr
      match r, hr with
      | .error c, hr => exact (noCX hr).elim
      | .ok (.ret u), hr =>
        obtain ⟨v3, H3, os, bare, un, hok, rv, rfl, pg⟩ := hr
        obtain ⟨t, rfl⟩ := rv
        exact ⟨t, H3, rfl, ⟨os, bare, un, hok⟩, pg⟩
      | .ok .next, hr => exact hr.elim
      | .ok .brk, hr => exact hr.elim
      | .ok .cont, hr => exact hr.elim
  · rintro out q H' s' cc go ⟨Hf', r', f'⟩ q0 qn hq ho
    obtain ⟨ys, ry, dy⟩ := each_vals ho
    have ly : ys.length ≤ sizeLine := by
      rw [dy.length, List.length_map, List.length_mergeSort]
      exact mil hz
    have lt := Heap.lt_size hq
    have ne : ∀ b u, H' b = some u → b ≠ q := fun b u e => ne_of_none e qn
    have go2 : Go X s H2 s' (upd H' q (.lst ys)) := by
      refine ⟨go.os, go.bare, ⟨go.un.keep, go.un.slot, fun b o e n hx => ?_, go.un.there, fun b xs e => ?_, fun b o u e => ?_, fun b ps e => ?_⟩, fun b u e => ?_⟩
      · rw [upd_ne (fun z => by subst z; rw [q0] at e; cases e)]; exact go.un.free b o e n hx
      · have := go.un.tups b xs e; rw [upd_ne (ne b _ this)]; exact this
      · have := go.un.frzs b o u e; rw [upd_ne (ne b _ this)]; exact this
      · obtain ⟨more, this⟩ := go.un.tbls b ps e; exact ⟨more, by rw [upd_ne (ne b _ this)]; exact this⟩
      · by_cases hb : b = q
        · subst hb
          rw [upd_same] at e; cases e
          exact ⟨ly, out, cc, ry, hq⟩
        · rw [upd_ne hb] at e
          exact (go.hok b u e).stay (fun _ _ _ q => q) (fun c z => by rw [upd_ne (ne c _ z)]; exact z) fun c xs z => by rw [upd_ne (ne c _ z)]; exact z
    obtain ⟨rn, fn, nf, no⟩ := r'.newO (o := .lst ys) qn
    refine ⟨.ref q, _, go2.inv J, rfl, kk _ A1 (.ref q) Hf' _ (hQ q) (rn.cons ⟨rfl, nf, ys, upd_same, dy.mono f'.ef⟩ fun p o e => by cases e; exact no) ?_⟩
    exact f1.trans ((f2.trans f').trans fn)
end
end Y

namespace Y
open PySem L2 PySem.Spec NdefX LamX
open PyProof.Rows hiding St
variable [I : NmC]
/-! ### // by any divisor but 0 -/
def CDivZ (_ j : Int) : Prop := j ≠ 0 ∧ j.natAbs.log2 < 9000
theorem op_fdivZ {X : Cx} : OpR X (binaryOp .FloorDiv) (rI CDivZ fun i j => .int (i.fdiv j)) := opI fun _ _ _ _ _ _ _ hc q => floordiv_int hc.1 q (.inl (PyProof.noPylong_of_log2 hc.2))
theorem divZ_of {i j : Int} {b : Nat} (h : j ≠ 0) (hb : j.natAbs < 2 ^ b) (h0 : 0 < b) (h9 : b ≤ 9000) : CDivZ i j := ⟨h, Nat.lt_of_lt_of_le (PySem.Flt.log2_lt_of h0 hb) h9⟩
theorem os_divZ {X : Cx} {A : List SD} {Q : SD → List SD → Prop} {i j : Int} (hc : CDivZ i j) (q : Q (.dat (.int (i.fdiv j))) A) : OS X A (binaryOp .FloorDiv) (.int i) (.int j) Q := fun Hf H σ rel v u hv hu R k => ⟨_, op_fdivZ, i, j, ds_int hv, ds_int hu, hc, fin_d rel q (.int _) k⟩
/-! ### arguments that stay one's own -/
def EAO (X : Cx) (Z : ZZ) (A : List SD) (es : List Expr) (Q : List SD → List SD → Prop) : Prop :=
  ∀ Hf H σ, Rel X.K Hf H σ A → XOk X Z (owns A) Hf H → ∀ R : List V → Hp → Prop, (∀ rs A' vs Hf' H', Q rs A' → Rel X.K Hf' H' (vs.map some ++ σ) (rs ++ A') → vs.length = rs.length → Fr (owns A) Hf H (owns (rs ++ A')) Hf' H' → R vs H') → WA X es σ H R
section
variable {X : Cx} {Z : ZZ} {A : List SD} {e a b : Expr} {es : List Expr} {pos : Pos} {E : AE}
theorem eao_nil {Q : List SD → List SD → Prop} (q : Q [] A) : EAO X Z A [] Q := fun Hf H σ rel xo R k => ⟨_, pa_nil, k [] A [] _ _ q rel rfl (Fr.refl _ _ _)⟩
theorem eao_cons {Q : List SD → List SD → Prop} (h : EX X Z A e fun r A1 => EAO X Z A1 es fun rs A2 => Q (r :: rs) A2) (hs : starEach (e :: es) X.env = (false, eval e X.env) :: starEach es X.env := by kernel_rfl) : EAO X Z A (e :: es) Q := fun Hf H σ rel xo R k =>
  ⟨_, pa_cons we wa hs, h Hf H σ rel xo _ fun r A1 v Hf1 H1 h1 r1 f1 => h1 Hf1 H1 σ r1.tail (xo.step (f1.less (owns_tail _ _))) _ fun rs A2 vs Hf2 H2 q2 r2 l2 f2 => k (r :: rs) A2 (v :: vs) _ _ q2 (r1.frame r2 f2) (by simp [l2]) (f1.trans (Fr.frame r1 f2))⟩
/-- a, b = x, y, two local names; what is one's own stays so -/
theorem sx_parO (i j : Nat) {x y : Str} {px py pt : Pos} {kt k2 pt2} [c : Cok X] (h : EAO X Z A [a, b] fun rs A1 => ∃ d g, rs = [d, g] ∧ E.nx ((A1.set i d).set j g)) (hi : X.N[i]? = some x := by kernel_rfl) (hj : X.N[j]? = some y := by kernel_rfl) (hij : i ≠ j := by decide)
    (hx : X.env.scope.names.lookup x = some .local := by kernel_rfl) (hy : X.env.scope.names.lookup y = some .local := by kernel_rfl)
    (hw : swappedStores [.Tuple [.Name x px, .Name y py] kt pt] (.Tuple [a, b] k2 pt2) X.env = pure (some [x, y]) := by kernel_rfl)
    (hs : swapsWithSole [.Tuple [.Name x px, .Name y py] kt pt] (.Tuple [a, b] k2 pt2) pos.line X.env = pure false := by kernel_rfl) : SX X Z A (.Assign [.Tuple [.Name x px, .Name y py] kt pt] (.Tuple [a, b] k2 pt2) pos) E := fun Hf H σ rel xo D k =>
  ⟨_, ps_par c.calm c.nd hi hj hij hx hy wa hw hs, h Hf H σ rel xo _ fun rs A' vs Hf' H' ⟨d, g, e, q⟩ r1 l1 f1 => by
    subst e
    match vs, l1 with
    | [v, u], _ =>
      have r1 : Rel X.K Hf' H' (some v :: some u :: σ) (d :: g :: A') := r1
      obtain ⟨r2, s2⟩ := r1.tail.tail.setA (i := i) (ov := some v) (s := d) r1.head fun p o z hp => by subst z; exact r1.notTail (owns_tail _ _ _ hp)
      obtain ⟨r3, s3⟩ := r2.setA (i := j) (ov := some u) (s := g) r1.tail.head fun p o z hp => by
        subst z
        have := s2 p hp
        cases d with
        | any => exact r1.tail.notTail this
        | dat d => exact r1.tail.notTail this
        | own p2 o2 =>
          rcases List.mem_cons.mp this with z | z
          · subst z; exact r1.notTail List.mem_cons_self
          · exact r1.tail.notTail z
      refine ⟨v, u, rfl, k.nx _ _ _ _ q r3 (f1.less fun p hp => ?_)⟩
      have := s3 p hp
      show p ∈ owns (d :: g :: A')
      cases g with
      | any =>
        have := s2 p this
        cases d <;> exact this
      | dat g =>
        have := s2 p this
        cases d <;> exact this
      | own p2 o2 =>
        rcases List.mem_cons.mp this with z | z
        · subst z; exact owns_tail _ _ _ List.mem_cons_self
        · have := s2 p z
          cases d with
          | any => exact List.mem_cons_of_mem _ this
          | dat d => exact List.mem_cons_of_mem _ this
          | own p3 o3 =>
            rcases List.mem_cons.mp this with z | z
            · subst z; exact List.mem_cons_self
            · exact List.mem_cons_of_mem _ (List.mem_cons_of_mem _ z)⟩
end
end Y

namespace Y
open PySem L2 PySem.Spec NdefX LamX
open PyProof.Rows hiding St
variable [I : NmC]
/-! ### an own object handed over -/
theorem owns_gone {p : Addr} {o : OD} : ∀ {l : List SD} {j : Nat}, (owns l).Nodup → l[j]? = some (.own p o) → p ∉ owns (l.set j .any)
  | [], _, _, h => by simp at h
  | y :: l, 0, hn, h => by
    have h : y = .own p o := Option.some.inj h
    subst h
    exact (List.nodup_cons.mp hn).1
  | y :: l, j + 1, hn, h => by
    have h : l[j]? = some (.own p o) := by simpa using h
    show p ∉ owns (y :: l.set j .any)
    cases y with
    | any => exact owns_gone (l := l) hn h
    | dat w => exact owns_gone (l := l) hn h
    | own q w =>
      obtain ⟨n1, n2⟩ := List.nodup_cons.mp hn
      intro z
      rcases List.mem_cons.mp z with rfl | z
      · exact n1 (mem_owns (List.mem_of_getElem? h))
      · exact owns_gone n2 h z
theorem ex_mv {X : Cx} {Z : ZZ} {A : List SD} {pos : Pos} (i : Nat) {x : Str} {p : Addr} {o : OD} {Q : SD → List SD → Prop} (hA : A[i]? = some (.own p o)) (q : Q (.own p o) (A.set i .any)) (hN : X.N[i]? = some x := by kernel_rfl) (hv : Vis X.env.scope x := by exact vis_of (by kernel_rfl))
    (hdb : (x == ("__debug__" : Str)) = false := by kernel_rfl) (hcd : (x == ("__classdict__" : Str)) = false := by kernel_rfl) : EX X Z A (.Name x pos) Q := fun Hf H σ rel xo R k => by
  obtain ⟨ov, h1, h2, h3, h4⟩ := Paired.at rel.al hA
  subst h2
  have sub := owns_sub (s := .any) (fun _ _ z => by cases z) A i
  have rel2 : Rel X.K Hf H σ (A.set i .any) := by
    have hs : σ = σ.set i (some (.ref p)) := by
      apply List.ext_getElem?
      intro j
      by_cases hj : i = j
      · subst hj
        rw [List.getElem?_set_self (List.getElem?_eq_some_iff.mp h1).1, h1]
      · rw [List.getElem?_set_ne hj]
    refine ⟨rel.sm, ?_, rel.nd.sublist sub, rel.nt⟩
    have := Paired.set2 (G := SdOk X.K Hf H) (a := some (V.ref p)) (b := .any) trivial rel.al i
    rwa [← hs] at this
  exact ⟨_, pe_var hN hv hdb hcd, _, h1, k _ _ _ _ _ q (rel2.cons ⟨rfl, h3, h4⟩ fun p' o' e => by cases e; exact owns_gone rel.nd hA) ((Fr.refl _ _ _).less fun r hr => by
    rcases List.mem_cons.mp hr with rfl | hr
    · exact mem_owns (List.mem_of_getElem? hA)
    · exact sub.subset hr)⟩
end Y

namespace Y
open PySem L2 PySem.Spec NdefX LamX
open PyProof.Rows hiding St
variable [I : NmC]
/-! ### keyword-only defaults left out -/
/-- a def whose keyword-only defaults kws (whole numbers) stand -/
structure FnD (T : List Addr) (P : Program) (w : World) (K : PySem.W.Frag) (mg : Str → Option Value) (base : Heap) (k : Nat) (x qual : Str) (st : Stmt) (ps : List Str) (S : FSp) (ms : List (Str × Int)) : Prop where
  ex : ∃ (f : Addr) (fd : FuncData), mg x = some (.ref f) ∧ Fun K qual qual st f fd ∧ GOk P w K mg base k f fd ps (SpOf K T S) ∧ ∃ D : Addr, fd.kwdefaults = .ref D ∧ ∀ q ∈ ms, ∃ u, PySem.W.nsIn K D q.1 = some (some u) ∧ RelV (.int q.2) u
theorem FnD.fn {T : List Addr} {P : Program} {w : World} {K : PySem.W.Frag} {mg : Str → Option Value} {base : Heap} {k : Nat} {x qual : Str} {st : Stmt} {ps : List Str} {S : FSp} {ms : List (Str × Int)} (F : FnD T P w K mg base k x qual st ps S ms) : Fn T P w K mg base k x qual st ps S :=
  let ⟨f, fd, a, b, c, _⟩ := F.ex; ⟨f, fd, a, b, c⟩
abbrev BndD (st : Stmt) (qual : Str) (ps : List Str) (n : Nat) (ks : List Str) : Prop := ∀ (D : Addr) (doc pm : Value) (an : Option Addr) (cdv ct : Value) (us mv : List Value), us.length = n → mv.length = ks.length →
  KwChain D (ks.zip mv) (bindArgs (PySem.W.fnOf qual qual (defArgs st) (defBody st) (defScope st) .none (.ref D) doc pm an cdv ct) ⟨us, []⟩) (ps.zip (us ++ mv))
section
variable {X : Cx} {Z : ZZ} {A : List SD} {e : Expr} {es : List Expr} {pos p : Pos} {k n : Nat} {x qual : Str} {st : Stmt} {ps : List Str} {S : FSp} {Q : SD → List SD → Prop} {ms : List (Str × Int)}
theorem ints_rel {K : PySem.W.Frag} {Hf : Hp} : ∀ ms : List (Str × Int), DsL K Hf (ms.map fun m => V.int m.2) (ms.map fun m => D.int m.2)
  | [] => .nil
  | m :: ms => .cons (.int m.2) (ints_rel ms)
theorem kwd_of {K : PySem.W.Frag} {D : Addr} : ∀ {ms : List (Str × Int)}, (∀ q ∈ ms, ∃ u, PySem.W.nsIn K D q.1 = some (some u) ∧ RelV (.int q.2) u) → ∃ mv : List Value, mv.length = ms.length ∧ Vals (ms.map fun m => V.int m.2) mv ∧ ∀ q ∈ (ms.map (·.1)).zip mv, PySem.W.nsIn K D q.1 = some (some q.2)
  | [], _ => ⟨[], rfl, .nil, fun q hq => by cases hq⟩
  | m :: ms, h => by
    obtain ⟨u, e1, e2⟩ := h m List.mem_cons_self
    obtain ⟨us, l, r, a⟩ := kwd_of (ms := ms) fun q hq => h q (List.mem_cons_of_mem _ hq)
    refine ⟨u :: us, by simp [l], .cons e2 r, fun q hq => ?_⟩
    rcases List.mem_cons.mp (show q ∈ (m.1, u) :: (ms.map (·.1)).zip us from hq) with rfl | hq
    · exact e1
    · exact a q hq
theorem ex_callD (F : FnD Z.T X.prog X.w X.K X.mg X.base k x qual st ps S ms) (g : Good k X.A) (hb : BndD st qual ps n (ms.map (·.1))) (h : EA X Z A (e :: es) fun ds A1 => ds.length = n ∧ S ((ds ++ ms.map fun m => D.int m.2).map .dat) (fun r _ => Q r A1) (fun c fs _ => Z.z c fs A1)) (hg : Gl X x := by exact gl_of (by kernel_rfl)) (hdb : (x == ("__debug__" : Str)) = false := by kernel_rfl)
    (he : starEach (e :: es) X.env = (false, eval e X.env) :: starEach es X.env := by kernel_rfl) (hpl : (backTo pos (starEach es X.env)).any (·.1) = false := by kernel_rfl) : EX X Z A (.Call (.Name x p) (e :: es) [] pos) Q := by
  obtain ⟨f, fd, hm, F, G, D, hD, hq⟩ := F.ex
  obtain ⟨mv, lm, rm, am⟩ := kwd_of hq
  intro Hf H σ rel xo R kk
  obtain ⟨tabs, W, tk, kz⟩ := xo
  have pe : PE X (.Call (.Name x p) (e :: es) [] pos) (fun σ H R => WA X (e :: es) σ H fun vs H1 => vs.length = n ∧ SpOf X.K Z.T S (vs ++ ms.map fun m => V.int m.2) H1 R fun c d H2 => W c d σ H2) := by
    constructor
    intro pins s σ H R J h
    refine wpAny_Call_Name_kw (ld_glob J hg hm ?_ hdb)
    refine PySem.W.callWith_K (h₀ := X.base) J.ok.mod.kin F.kp (thn (wa.run pos pins s σ H _ J h) ?_) he hpl
    rintro us s1 ⟨vs, H1, J1, r, l1, q⟩
    refine ⟨J1.kIn, ?_⟩
    have bt : BindsTo s1 fd ⟨us, []⟩ (ps.zip (us ++ mv)) := by
      obtain ⟨oc, od, kV, doc, pm, an, cdv, ct, osl, rfl, _, _⟩ := F.ex
      obtain rfl : kV = .ref D := hD
      exact L2.BindsTo.of_looks fun M => KwChain.looks J1.kIn am (hb D doc pm an cdv ct us mv (r.length.symm.trans l1) (by rw [lm, List.length_map]))
    refine wpAny_call (codeAny_mono (run_g G g J1 bt (Paired.app r rm) tk (fun _ _ _ h => h) q) ?_)
    intro r s' hr
    match r, hr with
    | .error e, hr => exact hr
    | .ok (.ret u), hr => exact hr
    | .ok .next, hr => exact hr.elim
    | .ok .brk, hr => exact hr.elim
    | .ok .cont, hr => exact hr.elim
  refine ⟨_, pe, h Hf H σ rel ⟨tabs, W, tk, kz⟩ _ ?_⟩
  rintro ds A1 vs Hf1 H1 ⟨l1, hS⟩ r1 s1 f1
  exact ⟨s1.length.trans l1, call_end (f := f) (fd := fd) r1 (s1.append (ints_rel ms)) (fun p hp => f1.ts _ (tabs p hp)) hS (fun r A' v Hf' H' q r3 f3 => kk r A' v Hf' H' q r3 (f1.trans f3)) fun c fs A' d σ' Hf' H' z r3 xd f3 => kz c fs A' d σ' Hf' H' z r3 xd (f1.trans f3)⟩
end
end Y

namespace Y
open PySem L2
open PyProof.Rows hiding St
variable [I : NmC]

/-! ### enumerate of a zip of two lists: the zip's own tuple stays out -/
abbrev IsZG (h : Heap) (z TI TO : Addr) (f0 : Value) (f : Bool) : Prop := h.get? z = some { cls := .type "zip", dict := none, data := .fields #[f0, .bool f, .bool false, .ref TI, .ref TO], slots := #[] }
def Out0 (f0 : Value) : Prop := f0 = .none ∨ ∃ T : Nat, f0 = rawInt T
structure ZgIn (h : Heap) (z TI TO i1 i2 l1 l2 : Addr) (i : Nat) : Prop where
  z : ∃ f0 f, IsZG h z TI TO f0 f ∧ Out0 f0
  ti : IsTupOf2 h TI (.ref i1) (.ref i2)
  to : ∃ a b, IsTupOf2 h TO a b
  i1 : h.IsListIter i1 l1 i
  i2 : h.IsListIter i2 l2 i
section
variable {prog : Program} {w : World} {A : Around} {E : Value → Shared → Prop} {s : Shared} {z TI TO i1 i2 l1 l2 : Addr}
theorem zg_free {f0 : Value} {f : Bool} {Q : Bool → Shared → Prop} (hz : IsZG s.heap z TI TO f0 f) (h0 : Out0 f0) (ht : Q true s) (hf : ∀ h', IsZG h' z TI TO f0 true → Heap.SameBut z s.heap h' → Q false { s with heap := h' }) :
    wpAny (model prog w) A (Builtin.SmallTypes.ownedTupleIsFree (.ref z)) Q E s := by
  rcases h0 with rfl | ⟨T, rfl⟩
  · unfold Builtin.SmallTypes.ownedTupleIsFree
    exact wpAny_bind (wpAny_field hz rfl (x := .none) rfl (wpAny_pure ht))
  · cases hT : s.heap.get? T with
    | some oT => exact wpAny_tupleHeld_zip (T := T) hz hT hf
    | none =>
      unfold Builtin.SmallTypes.ownedTupleIsFree
      refine wpAny_bind (wpAny_field hz rfl (x := rawInt T) rfl ?_)
      show wpAny _ _ (loadIfAlive ((T : Int).toNat) >>= _) _ _ _
      rw [Int.toNat_natCast]
      refine wpAny_bind ?_
      refine fun _ _ _ => ?_
      show wpAny _ _ _ _ _ _
      rw [hT]
      exact wpAny_pure ht
theorem zg_item {k : Nat} {xs ys : Array Value} {x y : Value} {Q : Value → Shared → Prop} (D : ZipApart z TI TO i1 i2 l1 l2) (hz : ZgIn s.heap z TI TO i1 i2 l1 l2 k) (hl1 : s.heap.IsList l1 xs) (hl2 : s.heap.IsList l2 ys) (hx : xs[k]? = some x) (hy : ys[k]? = some y)
    (hQ : ∀ h' (T : Addr), T = s.heap.objs.size → ZgIn h' z TI TO i1 i2 l1 l2 (k + 1) → IsTupOf2 h' T x y → h'.objs.size = T + 1 → (∀ c o, c ≠ z → c ≠ TO → c ≠ i1 → c ≠ i2 → s.heap.get? c = some o → h'.get? c = some o) → Q (.ref T) { s with heap := h' }) :
    wpAny (model prog w) A (Builtin.«zip.__next__» ⟨[.ref z], []⟩) (fun fin s' => ∃ v, fin = .done (.ret v) ∧ Q v s') E s := by
  obtain ⟨hp, g, d, tk, os⟩ := s
  obtain ⟨⟨f0, f, hz, h0⟩, hTI, ⟨a1, a2, hTO⟩, h1, h2⟩ := hz
  show wpAny _ _ (field (.ref z) 2 >>= _) _ _ _
  refine wpAny_bind (wpAny_field hz rfl (x := .bool false) rfl ?_)
  show wpAny _ _ (field (.ref z) 3 >>= _) _ _ _
  refine wpAny_bind (wpAny_field hz rfl (x := .ref TI) rfl ?_)
  refine wpAny_bind (wpAny_seqItems hTI rfl ?_)
  show wpAny _ _ (Builtin.SmallTypes.ownedTupleIsFree (.ref z) >>= _) _ _ _
  refine wpAny_bind (zg_free hz h0 ?_ fun g0 hz0 hs0 => ?_)
  · simp only [if_true]
    refine wpAny_bind (wpAny_rule ?_)
    refine wpAny_bind (wpAny_field hz rfl (x := .ref TO) rfl ?_)
    refine wpAny_bind (wpAny_setField_rec hz (by simp) fun g0 hz0 hs0 => ?_)
    replace hz0 : IsZG g0 z TI TO .ellipsis f := hz0
    replace hs0 : Heap.SameBut z hp g0 := hs0
    refine wpAny_bind ?_
    simp only [List.zipIdx_cons, List.zipIdx_nil, List.forIn_cons, List.forIn_nil]
    refine wpAny_bind (wpAny_bind (wpAny_onRaise ?_))
    show wpAny _ _ (Builtin.SmallTypes.nextOf (.ref i1) >>= _) _ _ ⟨g0, g, d, tk, os⟩
    refine wpAny_bind (wpAny_nextOf_list_item (s := ⟨g0, g, d, tk, os⟩) (h1.extBut hs0.extBut D.i1z) (hl1.extBut hs0.extBut D.l1z) hx fun p1 n1 hp1 => wpAny_pure ?_)
    replace hp1 : Heap.SameBut i1 g0 p1 := hp1
    have hU1 : IsTupOf2 p1 TO a1 a2 := hp1.extBut _ _ D.TOi1 (hs0.extBut _ _ D.TOz hTO)
    refine wpAny_bind (wpAny_seqItems (s := ⟨p1, g, d, tk, os⟩) hU1 rfl ?_)
    refine wpAny_bind (updateSeq_IsTupOf2 (s := ⟨p1, g, d, tk, os⟩) hU1 fun g1 hT1 hs1 => ?_)
    replace hT1 : IsTupOf2 g1 TO x a2 := hT1
    replace hs1 : Heap.SameBut TO p1 g1 := hs1
    refine wpAny_bind (wpAny_letGo (wpAny_pure ?_))
    refine wpAny_bind (wpAny_bind (wpAny_onRaise ?_))
    show wpAny _ _ (Builtin.SmallTypes.nextOf (.ref i2) >>= _) _ _ ⟨g1, g, d, tk, os⟩
    refine wpAny_bind (wpAny_nextOf_list_item (s := ⟨g1, g, d, tk, os⟩) (((h2.extBut hs0.extBut D.i2z).extBut hp1.extBut D.i12.symm).extBut hs1.extBut D.TOi2.symm) (((hl2.extBut hs0.extBut D.l2z).extBut hp1.extBut D.l2i1).extBut hs1.extBut D.l2TO) hy fun p2 n2 hp2 => wpAny_pure ?_)
    replace hp2 : Heap.SameBut i2 g1 p2 := hp2
    have hU2 : IsTupOf2 p2 TO x a2 := hp2.extBut _ _ D.TOi2 hT1
    refine wpAny_bind (wpAny_seqItems (s := ⟨p2, g, d, tk, os⟩) hU2 rfl ?_)
    refine wpAny_bind (updateSeq_IsTupOf2 (s := ⟨p2, g, d, tk, os⟩) hU2 fun g2 hT2 hs2 => ?_)
    replace hT2 : IsTupOf2 g2 TO x y := hT2
    replace hs2 : Heap.SameBut TO p2 g2 := hs2
    refine wpAny_bind (wpAny_letGo (wpAny_pure (wpAny_pure ?_)))
    refine wpAny_bind (wpAny_seqItems (s := ⟨g2, g, d, tk, os⟩) hT2 rfl ?_)
    refine wpAny_bind (wpAny_newTuple ?_)
    have hsz : g2.objs.size = hp.objs.size := by rw [hs2.1, hp2.1, hs1.1, hp1.1, hs0.1]
    have hzz : IsZG g2 z TI TO .ellipsis f := (hs2.extBut _ _ D.TOz.symm (hp2.extBut _ _ D.i2z.symm (hs1.extBut _ _ D.TOz.symm (hp1.extBut _ _ D.i1z.symm hz0))))
    have hkk : ∀ c o, c ≠ z → c ≠ TO → c ≠ i1 → c ≠ i2 → hp.get? c = some o → g2.get? c = some o := fun c o cz cT c1 c2 e => (hs2.extBut _ _ cT (hp2.extBut _ _ c2 (hs1.extBut _ _ cT (hp1.extBut _ _ c1 (hs0.extBut _ _ cz e)))))
    have hj1 : g2.IsListIter i1 l1 (k + 1) := ((n1.extBut hs1.extBut D.TOi1.symm).extBut hp2.extBut D.i12).extBut hs2.extBut D.TOi1.symm
    have hj2 : g2.IsListIter i2 l2 (k + 1) := n2.extBut hs2.extBut D.TOi2.symm
    have hzlt : z < g2.objs.size := Heap.lt_size hzz
    show wpAny _ _ (Builtin.SmallTypes.ownedTupleHandOut (.ref z) (.ref g2.objs.size) >>= _) _ _ ⟨g2.push { cls := .type "tuple", data := .seq #[x, y] }, g, d, tk, os⟩
    refine wpAny_bind ?_
    unfold Builtin.SmallTypes.ownedTupleHandOut
    have hz6 : IsZG (g2.push { cls := .type "tuple", data := .seq #[x, y] }) z TI TO .ellipsis f := Heap.get?_push_of_some _ hzz
    refine wpAny_bind (wpAny_setField_rec hz6 (by simp) fun h7 hz7 hs7 => ?_)
    replace hz7 : IsZG h7 z TI TO (rawInt g2.objs.size) f := hz7
    refine wpAny_setField_rec hz7 (by simp) fun h8 hz8 hs8 => ?_
    replace hz8 : IsZG h8 z TI TO (rawInt g2.objs.size) false := hz8
    replace hs7 : Heap.SameBut z (g2.push { cls := .type "tuple", data := .seq #[x, y] }) h7 := hs7
    replace hs8 : Heap.SameBut z h7 h8 := hs8
    have up : ∀ c o, c ≠ z → g2.get? c = some o → h8.get? c = some o := fun c o c1 e => hs8.extBut _ _ c1 (hs7.extBut _ _ c1 (Heap.get?_push_of_some _ e))
    have hT8 : IsTupOf2 h8 g2.objs.size x y := hs8.extBut _ _ (Nat.ne_of_gt hzlt) (hs7.extBut _ _ (Nat.ne_of_gt hzlt) (Heap.get?_push_size _ rfl))
    have hn8 : h8.objs.size = g2.objs.size + 1 := by rw [hs8.1, hs7.1, Heap.size_push]
    refine wpAny_pure ⟨_, rfl, ?_⟩
    refine hQ h8 g2.objs.size hsz ⟨⟨_, _, hz8, .inr ⟨_, rfl⟩⟩, up _ _ D.TIz (hkk _ _ D.TIz D.TITO D.TIi1 D.TIi2 hTI), ⟨x, y, up _ _ D.TOz hT2⟩, hj1.at fun o e => up _ o D.i1z e, hj2.at fun o e => up _ o D.i2z e⟩ hT8 hn8 fun c o cz cT c1 c2 e => up c o cz (hkk c o cz cT c1 c2 e)
  · replace hs0 : Heap.SameBut z hp g0 := hs0
    simp only [Bool.false_eq_true, if_false]
    refine wpAny_bind ?_
    rw [← Array.forIn_toList]
    simp only [List.forIn_cons, List.forIn_nil]
    refine wpAny_bind (wpAny_bind (wpAny_holding ?_))
    show wpAny _ _ (Builtin.SmallTypes.nextOf (.ref i1) >>= _) _ _ ⟨g0, g, d, tk, os⟩
    refine wpAny_bind (wpAny_nextOf_list_item (s := ⟨g0, g, d, tk, os⟩) (h1.extBut hs0.extBut D.i1z) (hl1.extBut hs0.extBut D.l1z) hx fun p1 n1 hp1 => wpAny_pure ?_)
    replace hp1 : Heap.SameBut i1 g0 p1 := hp1
    refine wpAny_pure ?_
    refine wpAny_bind (wpAny_bind (wpAny_holding ?_))
    show wpAny _ _ (Builtin.SmallTypes.nextOf (.ref i2) >>= _) _ _ ⟨p1, g, d, tk, os⟩
    refine wpAny_bind (wpAny_nextOf_list_item (s := ⟨p1, g, d, tk, os⟩) ((h2.extBut hs0.extBut D.i2z).extBut hp1.extBut D.i12.symm) ((hl2.extBut hs0.extBut D.l2z).extBut hp1.extBut D.l2i1) hy fun p2 n2 hp2 => wpAny_pure ?_)
    replace hp2 : Heap.SameBut i2 p1 p2 := hp2
    refine wpAny_pure (wpAny_pure ?_)
    show wpAny _ _ (newTuple [x, y] >>= _) _ _ ⟨p2, g, d, tk, os⟩
    refine wpAny_bind (wpAny_newTuple ?_)
    have hsz : p2.objs.size = hp.objs.size := by rw [hp2.1, hp1.1, hs0.1]
    have hzz : IsZG p2 z TI TO f0 true := hp2.extBut _ _ D.i2z.symm (hp1.extBut _ _ D.i1z.symm hz0)
    have hkk : ∀ c o, c ≠ z → c ≠ i1 → c ≠ i2 → hp.get? c = some o → p2.get? c = some o := fun c o cz c1 c2 e => hp2.extBut _ _ c2 (hp1.extBut _ _ c1 (hs0.extBut _ _ cz e))
    have n1' : p2.IsListIter i1 l1 (k + 1) := n1.extBut hp2.extBut D.i12
    have up : ∀ c o, p2.get? c = some o → (p2.push { cls := .type "tuple", data := .seq #[x, y] }).get? c = some o := fun c o e => Heap.get?_push_of_some _ e
    refine wpAny_pure ⟨_, rfl, ?_⟩
    exact hQ _ p2.objs.size hsz ⟨⟨_, _, up _ _ hzz, h0⟩, up _ _ (hkk _ _ D.TIz D.TIi1 D.TIi2 hTI), ⟨a1, a2, up _ _ (hkk _ _ D.TOz D.TOi1 D.TOi2 hTO)⟩, n1'.at fun o e => up _ o e, n2.at fun o e => up _ o e⟩ (Heap.get?_push_size _ rfl) (Heap.size_push ..) fun c o cz cT c1 c2 e => up c o (hkk c o cz c1 c2 e)
theorem zg_end {k : Nat} {xs ys : Array Value} {Q : Fin → Shared → Prop} (hh : A.handled = none) (D : ZipApart z TI TO i1 i2 l1 l2) (hz : ZgIn s.heap z TI TO i1 i2 l1 l2 k) (hl1 : s.heap.IsList l1 xs) (hl2 : s.heap.IsList l2 ys) (hend : xs[k]? = none ∨ ys[k]? = none)
    (hE : ∀ h' e, (∀ c o, c ≠ z → c ≠ TO → c ≠ i1 → c ≠ i2 → s.heap.get? c = some o → h'.get? c = some o) → (∃ o, h'.get? e = some o ∧ o.cls = .type "StopIteration") → E (.ref e) { s with heap := h' }) :
    wpAny (model prog w) A (Builtin.«zip.__next__» ⟨[.ref z], []⟩) Q E s := by
  obtain ⟨hp, g, d, tk, os⟩ := s
  obtain ⟨⟨f0, f, hz, h0⟩, hTI, ⟨a1, a2, hTO⟩, h1, h2⟩ := hz
  show wpAny _ _ (field (.ref z) 2 >>= _) _ _ _
  refine wpAny_bind (wpAny_field hz rfl (x := .bool false) rfl ?_)
  show wpAny _ _ (field (.ref z) 3 >>= _) _ _ _
  refine wpAny_bind (wpAny_field hz rfl (x := .ref TI) rfl ?_)
  refine wpAny_bind (wpAny_seqItems hTI rfl ?_)
  show wpAny _ _ (Builtin.SmallTypes.ownedTupleIsFree (.ref z) >>= _) _ _ _
  refine wpAny_bind (zg_free hz h0 ?_ fun g0 hz0 hs0 => ?_)
  · simp only [if_true]
    refine wpAny_bind (wpAny_rule ?_)
    refine wpAny_bind (wpAny_field hz rfl (x := .ref TO) rfl ?_)
    refine wpAny_bind (wpAny_setField_rec hz (by simp) fun g0 hz0 hs0 => ?_)
    replace hz0 : IsZG g0 z TI TO .ellipsis f := hz0
    replace hs0 : Heap.SameBut z hp g0 := hs0
    refine wpAny_bind ?_
    simp only [List.zipIdx_cons, List.zipIdx_nil, List.forIn_cons, List.forIn_nil]
    refine wpAny_bind (wpAny_bind (wpAny_onRaise ?_))
    show wpAny _ _ (Builtin.SmallTypes.nextOf (.ref i1) >>= _) _ _ ⟨g0, g, d, tk, os⟩
    cases hx : xs[k]? with
    | none =>
      refine wpAny_bind (wpAny_nextOf_list_end (s := ⟨g0, g, d, tk, os⟩) hh (h1.extBut hs0.extBut D.i1z) (hl1.extBut hs0.extBut D.l1z) hx fun q e hq he => ?_)
      replace hq : Heap.ExtBut i1 g0 q := hq
      obtain ⟨oe, hoe, hce⟩ := he
      replace hoe : q.get? e = some oe := hoe
      have hzq : IsZG q z TI TO .ellipsis f := hq _ _ D.i1z.symm hz0
      have hez : e ≠ z := fun x => by subst x; rw [hzq] at hoe; cases hoe; simp at hce
      refine wpAny_setField_rec (s := ⟨q, g, d, tk, os⟩) hzq (by simp) fun q' _ hq' => ?_
      replace hq' : Heap.SameBut z q q' := hq'
      exact hE q' e (fun c o cz cT c1 c2 x => hq'.extBut _ _ cz (hq _ _ c1 (hs0.extBut _ _ cz x))) ⟨oe, hq'.extBut _ _ hez hoe, hce⟩
    | some x =>
      have hy : ys[k]? = none := by rcases hend with h | h; rw [hx] at h; cases h; exact h
      refine wpAny_bind (wpAny_nextOf_list_item (s := ⟨g0, g, d, tk, os⟩) (h1.extBut hs0.extBut D.i1z) (hl1.extBut hs0.extBut D.l1z) hx fun p1 n1 hp1 => wpAny_pure ?_)
      replace hp1 : Heap.SameBut i1 g0 p1 := hp1
      have hU1 : IsTupOf2 p1 TO a1 a2 := hp1.extBut _ _ D.TOi1 (hs0.extBut _ _ D.TOz hTO)
      refine wpAny_bind (wpAny_seqItems (s := ⟨p1, g, d, tk, os⟩) hU1 rfl ?_)
      refine wpAny_bind (updateSeq_IsTupOf2 (s := ⟨p1, g, d, tk, os⟩) hU1 fun g1 hT1 hs1 => ?_)
      replace hs1 : Heap.SameBut TO p1 g1 := hs1
      refine wpAny_bind (wpAny_letGo (wpAny_pure ?_))
      refine wpAny_bind (wpAny_bind (wpAny_onRaise ?_))
      show wpAny _ _ (Builtin.SmallTypes.nextOf (.ref i2) >>= _) _ _ ⟨g1, g, d, tk, os⟩
      refine wpAny_bind (wpAny_nextOf_list_end (s := ⟨g1, g, d, tk, os⟩) hh (((h2.extBut hs0.extBut D.i2z).extBut hp1.extBut D.i12.symm).extBut hs1.extBut D.TOi2.symm) (((hl2.extBut hs0.extBut D.l2z).extBut hp1.extBut D.l2i1).extBut hs1.extBut D.l2TO) hy fun q e hq he => ?_)
      replace hq : Heap.ExtBut i2 g1 q := hq
      obtain ⟨oe, hoe, hce⟩ := he
      replace hoe : q.get? e = some oe := hoe
      have hzq : IsZG q z TI TO .ellipsis f := hq _ _ D.i2z.symm (hs1.extBut _ _ D.TOz.symm (hp1.extBut _ _ D.i1z.symm hz0))
      have hez : e ≠ z := fun x => by subst x; rw [hzq] at hoe; cases hoe; simp at hce
      refine wpAny_setField_rec (s := ⟨q, g, d, tk, os⟩) hzq (by simp) fun q' _ hq' => ?_
      replace hq' : Heap.SameBut z q q' := hq'
      exact hE q' e (fun c o cz cT c1 c2 x => hq'.extBut _ _ cz (hq _ _ c2 (hs1.extBut _ _ cT (hp1.extBut _ _ c1 (hs0.extBut _ _ cz x))))) ⟨oe, hq'.extBut _ _ hez hoe, hce⟩
  · replace hs0 : Heap.SameBut z hp g0 := hs0
    simp only [Bool.false_eq_true, if_false]
    refine wpAny_bind ?_
    rw [← Array.forIn_toList]
    simp only [List.forIn_cons, List.forIn_nil]
    refine wpAny_bind (wpAny_bind (wpAny_holding ?_))
    show wpAny _ _ (Builtin.SmallTypes.nextOf (.ref i1) >>= _) _ _ ⟨g0, g, d, tk, os⟩
    cases hx : xs[k]? with
    | none =>
      refine wpAny_bind (wpAny_nextOf_list_end (s := ⟨g0, g, d, tk, os⟩) hh (h1.extBut hs0.extBut D.i1z) (hl1.extBut hs0.extBut D.l1z) hx fun q e hq he => ?_)
      exact hE q e (fun c o cz cT c1 c2 x => hq _ _ c1 (hs0.extBut _ _ cz x)) he
    | some x =>
      have hy : ys[k]? = none := by rcases hend with h | h; rw [hx] at h; cases h; exact h
      refine wpAny_bind (wpAny_nextOf_list_item (s := ⟨g0, g, d, tk, os⟩) (h1.extBut hs0.extBut D.i1z) (hl1.extBut hs0.extBut D.l1z) hx fun p1 n1 hp1 => wpAny_pure ?_)
      replace hp1 : Heap.SameBut i1 g0 p1 := hp1
      refine wpAny_pure ?_
      refine wpAny_bind (wpAny_bind (wpAny_holding ?_))
      show wpAny _ _ (Builtin.SmallTypes.nextOf (.ref i2) >>= _) _ _ ⟨p1, g, d, tk, os⟩
      refine wpAny_bind (wpAny_nextOf_list_end (s := ⟨p1, g, d, tk, os⟩) hh ((h2.extBut hs0.extBut D.i2z).extBut hp1.extBut D.i12.symm) ((hl2.extBut hs0.extBut D.l2z).extBut hp1.extBut D.l2i1) hy fun q e hq he => ?_)
      exact hE q e (fun c o cz cT c1 c2 x => hq _ _ c2 (hp1.extBut _ _ c1 (hs0.extBut _ _ cz x))) he
theorem zg_next {k : Nat} {xs ys : Array Value} {x y : Value} {Q : Value → Shared → Prop} (D : ZipApart z TI TO i1 i2 l1 l2) (hz : ZgIn s.heap z TI TO i1 i2 l1 l2 k) (hl1 : s.heap.IsList l1 xs) (hl2 : s.heap.IsList l2 ys) (hx : xs[k]? = some x) (hy : ys[k]? = some y)
    (hQ : ∀ h' (T : Addr), T = s.heap.objs.size → ZgIn h' z TI TO i1 i2 l1 l2 (k + 1) → IsTupOf2 h' T x y → h'.objs.size = T + 1 → (∀ c o, c ≠ z → c ≠ TO → c ≠ i1 → c ≠ i2 → s.heap.get? c = some o → h'.get? c = some o) → Q (.ref T) { s with heap := h' }) :
    wpAny (model prog w) A (Builtin.SmallTypes.nextOf (.ref z)) Q E s := by
  have hT : s.TypeIs (.ref z) "zip" := let ⟨_, _, q, _⟩ := hz.z; ⟨_, q, rfl⟩
  unfold Builtin.SmallTypes.nextOf
  exact wpAny_bind (wpAny_callSpecial?_slot (name := Str.ofString "__next__") hT F.slot_zip_next (wpAny_call_entry F.slot_zip_next hT F.entry_zip_next
    (zg_item D hz hl1 hl2 hx hy fun h' T a1 a2 a3 a4 a5 => wpAny_pure (hQ h' T a1 a2 a3 a4 a5)) (F.args_zip_next_1 _)))
theorem zg_stop {k : Nat} {xs ys : Array Value} {Q : Value → Shared → Prop} (hh : A.handled = none) (D : ZipApart z TI TO i1 i2 l1 l2) (hz : ZgIn s.heap z TI TO i1 i2 l1 l2 k) (hl1 : s.heap.IsList l1 xs) (hl2 : s.heap.IsList l2 ys) (hend : xs[k]? = none ∨ ys[k]? = none)
    (hE : ∀ h' e, (∀ c o, c ≠ z → c ≠ TO → c ≠ i1 → c ≠ i2 → s.heap.get? c = some o → h'.get? c = some o) → (∃ o, h'.get? e = some o ∧ o.cls = .type "StopIteration") → E (.ref e) { s with heap := h' }) :
    wpAny (model prog w) A (Builtin.SmallTypes.nextOf (.ref z)) Q E s := by
  have hT : s.TypeIs (.ref z) "zip" := let ⟨_, _, q, _⟩ := hz.z; ⟨_, q, rfl⟩
  unfold Builtin.SmallTypes.nextOf
  exact wpAny_bind (wpAny_callSpecial?_slot (name := Str.ofString "__next__") hT F.slot_zip_next (wpAny_call_entry F.slot_zip_next hT F.entry_zip_next
    (zg_end hh D hz hl1 hl2 hend hE) (F.args_zip_next_1 _)))
/-- e lies apart from the zip's cells -/
structure EzApart (e z TI TO i1 i2 : Addr) : Prop where
  z : e ≠ z
  ti : e ≠ TI
  to : e ≠ TO
  i1 : e ≠ i1
  i2 : e ≠ i2
theorem ZgIn.over {h h' : Heap} {x : Addr} {k : Nat} (q : ZgIn h z TI TO i1 i2 l1 l2 k) (n : EzApart x z TI TO i1 i2) (s : Heap.SameBut x h h') : ZgIn h' z TI TO i1 i2 l1 l2 k := by
  obtain ⟨⟨f0, f, hz, h0⟩, hTI, ⟨a1, a2, hTO⟩, h1, h2⟩ := q
  exact ⟨⟨f0, f, s.extBut _ _ n.z.symm hz, h0⟩, s.extBut _ _ n.ti.symm hTI, ⟨a1, a2, s.extBut _ _ n.to.symm hTO⟩, h1.extBut s.extBut n.i1.symm, h2.extBut s.extBut n.i2.symm⟩
theorem ZgIn.keep {h h' : Heap} {k : Nat} (q : ZgIn h z TI TO i1 i2 l1 l2 k) (s : ∀ c o, (c = z ∨ c = TI ∨ c = TO ∨ c = i1 ∨ c = i2) → h.get? c = some o → h'.get? c = some o) : ZgIn h' z TI TO i1 i2 l1 l2 k := by
  obtain ⟨⟨f0, f, hz, h0⟩, hTI, ⟨a1, a2, hTO⟩, h1, h2⟩ := q
  exact ⟨⟨f0, f, s _ _ (by simp) hz, h0⟩, s _ _ (by simp) hTI, ⟨a1, a2, s _ _ (by simp) hTO⟩, h1.at fun o e => s _ _ (by simp) e, h2.at fun o e => s _ _ (by simp) e⟩
theorem ez_item {e : Addr} {c : Int} {old : Value} {k : Nat} {xs ys : Array Value} {x y : Value} {Q : Value → Shared → Prop} (D : ZipApart z TI TO i1 i2 l1 l2) (N : EzApart e z TI TO i1 i2) (he : IsEnum s.heap e z c old) (hz : ZgIn s.heap z TI TO i1 i2 l1 l2 k) (hl1 : s.heap.IsList l1 xs) (hl2 : s.heap.IsList l2 ys) (hx : xs[k]? = some x) (hy : ys[k]? = some y)
    (hQ : ∀ h' (T : Addr), T = s.heap.objs.size → IsEnumOut h' e z (c + 1) (.ref T) (T + 1) → ZgIn h' z TI TO i1 i2 l1 l2 (k + 1) → IsTupOf2 h' T x y → h'.get? (T + 1) = some { cls := .type "tuple", data := .seq #[.int c s.toks, .ref T] } →
      (∀ b o, b ≠ e → b ≠ z → b ≠ TO → b ≠ i1 → b ≠ i2 → s.heap.get? b = some o → h'.get? b = some o) → Q (.ref (T + 1)) { s with heap := h', toks := s.toks + 1 }) :
    wpAny (model prog w) A (Builtin.«enumerate.__next__» ⟨[.ref e], []⟩) (fun fin s' => ∃ v, fin = .done (.ret v) ∧ Q v s') E s := by
  obtain ⟨hp, g, d, tk, os⟩ := s
  show wpAny _ _ (field (.ref e) 2 >>= _) _ _ _
  refine wpAny_bind (wpAny_field he rfl (x := .ref z) rfl ?_)
  have el0 : e < hp.objs.size := Heap.lt_size he
  refine wpAny_bind (zg_next D hz hl1 hl2 hx hy fun h1 T eT z1 t1 n1 k1 => ?_)
  have eT : T = hp.objs.size := eT
  have k1 : ∀ c o, c ≠ z → c ≠ TO → c ≠ i1 → c ≠ i2 → hp.get? c = some o → h1.get? c = some o := k1
  have e1 : IsEnum h1 e z c old := k1 _ _ N.z N.to N.i1 N.i2 he
  show wpAny _ _ (field (.ref e) 3 >>= _) _ _ ⟨h1, g, d, tk, os⟩
  refine wpAny_bind (wpAny_field e1 rfl (x := rawInt c) rfl ?_)
  show wpAny _ _ (field (.ref e) 4 >>= _) _ _ ⟨h1, g, d, tk, os⟩
  refine wpAny_bind (wpAny_field e1 rfl (x := .none) rfl ?_)
  show wpAny _ _ (mkInt c >>= _) _ _ ⟨h1, g, d, tk, os⟩
  refine wpAny_bind (wpAny_mkInt ?_)
  show wpAny _ _ (setField (.ref e) 3 (rawInt (c + 1)) >>= _) _ _ ⟨h1, g, d, tk + 1, os⟩
  refine wpAny_bind (wpAny_setField_rec e1 (by simp) fun h2 e2 s2 => ?_)
  replace s2 : Heap.SameBut e h1 h2 := s2
  replace e2 : IsEnum h2 e z (c + 1) old := e2
  show wpAny _ _ (setField (.ref e) 4 .none >>= _) _ _ ⟨h2, g, d, tk + 1, os⟩
  refine wpAny_bind (wpAny_setField_rec e2 (by simp) fun h3 e3 s3 => ?_)
  replace s3 : Heap.SameBut e h2 h3 := s3
  replace e3 : IsEnum h3 e z (c + 1) old := e3
  show wpAny _ _ (newTuple [.int c tk, .ref T] >>= _) _ _ ⟨h3, g, d, tk + 1, os⟩
  refine wpAny_bind (wpAny_newTuple ?_)
  have n3 : h3.objs.size = T + 1 := by rw [s3.1, s2.1, n1]
  have neT : T ≠ e := by rw [eT]; exact Nat.ne_of_gt el0
  have neT1 : T + 1 ≠ e := by rw [eT]; exact Nat.ne_of_gt (Nat.lt_succ_of_lt el0)
  have e4 : IsEnum (h3.push { cls := .type "tuple", data := .seq #[.int c tk, .ref T] }) e z (c + 1) old := Heap.get?_push_of_some _ e3
  have z4 : ZgIn (h3.push { cls := .type "tuple", data := .seq #[.int c tk, .ref T] }) z TI TO i1 i2 l1 l2 (k + 1) := ((z1.over N s2).over N s3).keep fun c o _ q => Heap.get?_push_of_some _ q
  have t4 : IsTupOf2 (h3.push { cls := .type "tuple", data := .seq #[.int c tk, .ref T] }) T x y := Heap.get?_push_of_some _ (s3.extBut _ _ neT (s2.extBut _ _ neT t1))
  have r4 : (h3.push { cls := .type "tuple", data := .seq #[.int c tk, .ref T] }).get? (T + 1) = some { cls := .type "tuple", data := .seq #[.int c tk, .ref T] } := by rw [← n3]; exact Heap.get?_push_size _ rfl
  have k4 : ∀ b o, b ≠ e → b ≠ z → b ≠ TO → b ≠ i1 → b ≠ i2 → hp.get? b = some o → (h3.push { cls := .type "tuple", data := .seq #[.int c tk, .ref T] }).get? b = some o := fun b o h0 h1 h2 h3 h4 q => Heap.get?_push_of_some _ (s3.extBut _ _ h0 (s2.extBut _ _ h0 (k1 _ _ h1 h2 h3 h4 q)))
  rw [n3]
  generalize h3.push { cls := .type "tuple", data := .seq #[.int c tk, .ref T] } = h4 at *
  show wpAny _ _ (Builtin.SmallTypes.ownedTupleIsFree (.ref e) >>= _) _ _ ⟨h4, g, d, tk + 1, os⟩
  refine wpAny_bind ?_
  unfold Builtin.SmallTypes.ownedTupleIsFree
  refine wpAny_bind (wpAny_field e4 rfl (x := .none) rfl (wpAny_pure ?_))
  simp only [if_true]
  refine wpAny_bind (wpAny_rule ?_)
  refine wpAny_bind (wpAny_field e4 rfl (x := old) rfl ?_)
  refine wpAny_bind (wpAny_setField_rec e4 (by simp) fun h5 e5 s5 => ?_)
  replace s5 : Heap.SameBut e h4 h5 := s5
  replace e5 : IsEnum h5 e z (c + 1) (.ref T) := e5
  show wpAny _ _ (Builtin.SmallTypes.ownedTupleHandOut (.ref e) (.ref (T + 1)) >>= _) _ _ ⟨h5, g, d, tk + 1, os⟩
  refine wpAny_bind ?_
  unfold Builtin.SmallTypes.ownedTupleHandOut
  refine wpAny_bind (wpAny_setField_rec e5 (by simp) fun h6 e6 s6 => ?_)
  replace s6 : Heap.SameBut e h5 h6 := s6
  replace e6 : IsEnumOut h6 e z (c + 1) (.ref T) (T + 1) := e6
  refine wpAny_setField_rec e6 (by simp) fun h7 e7 s7 => ?_
  replace s7 : Heap.SameBut e h6 h7 := s7
  replace e7 : IsEnumOut h7 e z (c + 1) (.ref T) (T + 1) := e7
  have up : ∀ b o, b ≠ e → h4.get? b = some o → h7.get? b = some o := fun b o n q => s7.extBut _ _ n (s6.extBut _ _ n (s5.extBut _ _ n q))
  exact wpAny_bind (wpAny_letGo (wpAny_pure ⟨_, rfl, hQ h7 T eT e7 (((z4.over N s5).over N s6).over N s7) (up _ _ neT t4) (up _ _ neT1 r4) fun b o h0 h1 h2 h3 h4 q => up _ _ h0 (k4 _ _ h0 h1 h2 h3 h4 q)⟩))
theorem ez_next {e : Addr} {c : Int} {old : Value} {k : Nat} {xs ys : Array Value} {x y : Value} {Q : Option Value → Shared → Prop} (D : ZipApart z TI TO i1 i2 l1 l2) (N : EzApart e z TI TO i1 i2) (he : IsEnum s.heap e z c old) (hz : ZgIn s.heap z TI TO i1 i2 l1 l2 k) (hl1 : s.heap.IsList l1 xs) (hl2 : s.heap.IsList l2 ys) (hx : xs[k]? = some x) (hy : ys[k]? = some y)
    (hQ : ∀ h' (T : Addr), T = s.heap.objs.size → IsEnumOut h' e z (c + 1) (.ref T) (T + 1) → ZgIn h' z TI TO i1 i2 l1 l2 (k + 1) → IsTupOf2 h' T x y → h'.get? (T + 1) = some { cls := .type "tuple", data := .seq #[.int c s.toks, .ref T] } →
      (∀ b o, b ≠ e → b ≠ z → b ≠ TO → b ≠ i1 → b ≠ i2 → s.heap.get? b = some o → h'.get? b = some o) → Q (some (.ref (T + 1))) { s with heap := h', toks := s.toks + 1 }) :
    wpAny (model prog w) A (pyNext (.ref e)) Q E s := by
  have hTy : s.TypeIs (.ref e) "enumerate" := ⟨_, he, rfl⟩
  unfold pyNext
  exact wpAny_bind (wpAny_attempt (wpAny_callSpecial?_slot (name := Str.ofString "__next__") hTy F.slot_enumerate_next
    (wpAny_call_entry F.slot_enumerate_next hTy F.entry_enumerate_next
      (ez_item D N he hz hl1 hl2 hx hy fun h' T a1 a2 a3 a4 a5 a6 => wpAny_pure (hQ h' T a1 a2 a3 a4 a5 a6)) (F.args_enumerate_next_1 _))))
theorem ez_stop {e : Addr} {c : Int} {old : Value} {k : Nat} {xs ys : Array Value} {Q : Option Value → Shared → Prop} (hh : A.in1.handled = none) (D : ZipApart z TI TO i1 i2 l1 l2) (he : IsEnum s.heap e z c old) (hz : ZgIn s.heap z TI TO i1 i2 l1 l2 k) (hl1 : s.heap.IsList l1 xs) (hl2 : s.heap.IsList l2 ys) (hend : xs[k]? = none ∨ ys[k]? = none)
    (hQ : ∀ h', (∀ c o, c ≠ z → c ≠ TO → c ≠ i1 → c ≠ i2 → s.heap.get? c = some o → h'.get? c = some o) → Q none { s with heap := h' }) : wpAny (model prog w) A (pyNext (.ref e)) Q E s := by
  have hT : s.TypeIs (.ref e) "enumerate" := ⟨_, he, rfl⟩
  unfold pyNext
  refine wpAny_bind (wpAny_attempt (wpAny_callSpecial?_slot (name := Str.ofString "__next__") hT F.slot_enumerate_next
    (wpAny_call_entry F.slot_enumerate_next hT F.entry_enumerate_next ?_ (F.args_enumerate_next_1 _))))
  show wpAny _ _ (field (.ref e) 2 >>= _) _ _ _
  refine wpAny_bind (wpAny_field he rfl (x := .ref z) rfl ?_)
  refine wpAny_bind (zg_stop hh D hz hl1 hl2 hend fun h' x he' hx' => ?_)
  obtain ⟨o, ho, hc⟩ := hx'
  refine wpAny_bind (wpAny_isInstance (T := "StopIteration") (b := true) ⟨o, ho, hc⟩ isSubtype_stop ?_)
  exact wpAny_pure (hQ _ he')
end
end Y

namespace Y
open PySem L2
open PyProof.Rows hiding St
variable [I : NmC]
/-- two new objects -/
theorem turned2 {X : Cx} {pins : List (Addr × Obj)} {σ : L2.St} {H : Hp} {s : Shared} {h' : Heap} {t' : Nat} {ch : List Addr} {T U : Addr} {ob oc : HO} (I : L2.Inv X pins σ H s) (k : ∀ b o, b ∉ ch → s.heap.get? b = some o → h'.get? b = some o) (hf : ∀ b ∈ ch, FpOk X pins H b) (hT : s.heap.objs.size ≤ T) (hU : s.heap.objs.size ≤ U) (ne : T ≠ U)
    (new1 : ObjOk X.prog X.w (upd (upd H T ob) U oc) h' T ob) (new2 : ObjOk X.prog X.w (upd (upd H T ob) U oc) h' U oc) : L2.Inv X pins σ (upd (upd H T ob) U oc) { s with heap := h', toks := t' } := by
  have hn : H T = none := I.hok.fresh hT
  have hm : H U = none := I.hok.fresh hU
  have far : ∀ {b : Addr} {u : HO}, H b = some u → upd (upd H T ob) U oc b = some u := fun q => by rw [upd_ne (ne_of_none q hm), upd_ne (ne_of_none q hn)]; exact q
  have nit : ∀ b u, H b = some u → b ∉ ch := fun b u e z => by
    have q := (hf b z).1
    rw [q] at e; cases e
  refine I.step (g' := s.gens) (d' := s.drawn) (ch := ch) (fun b hb => ⟨(hf b hb).2.2.2.1, (hf b hb).2.1, (hf b hb).2.2.2.2.1, (hf b hb).2.2.2.2.2⟩) (fun b o _ _ hc e _ => k b o hc e) (fun b o _ _ hc e _ => ⟨o.slots, k b o hc e⟩)
    (fun b o _ e n => ?_) (fun b o hc e => ⟨o, k b o hc e⟩) (fun b xs e => far e) (fun b o u e => far e) (fun b ps e => ⟨#[], ?_⟩) (fun m hm => ?_) (fun b u e => ?_) I.bare
  · rw [upd_ne (Nat.ne_of_lt (Nat.lt_of_lt_of_le (Heap.lt_size e) hU)), upd_ne (Nat.ne_of_lt (Nat.lt_of_lt_of_le (Heap.lt_size e) hT))]; exact n
  · rw [far e]; simp
  · obtain ⟨o, es, ep, ho, r⟩ := hm
    exact ⟨o, es, ep, k _ o (fun z => (hf _ z).2.1 rfl) ho, r⟩
  · by_cases hb : b = U
    · subst hb
      rw [upd_same] at e
      cases e
      exact new2
    · rw [upd_ne hb] at e
      by_cases hc : b = T
      · subst hc
        rw [upd_same] at e
        cases e
        exact new1
      · rw [upd_ne hc] at e
        refine (I.hok b u e).stay (fun c v hc q => k c v ?_ q) (fun c q => far q) fun c xs q => far q
        rcases hc with z | z
        · rw [z]; exact nit b u e
        · exact nit c _ z
def ItEz (K : PySem.W.Frag) (a b : Addr) : It where
  go i H := ∃ xs ys, SqL K H a xs ∧ SqL K H b ys ∧ i < xs.length ∧ i < ys.length
  yld i H v H' := ∃ T U x y, v = .ref U ∧ H T = none ∧ H U = none ∧ T ≠ U ∧ H' = upd (upd H T (.tup [x, y])) U (.tup [.int (i : Nat), .ref T]) ∧ (∀ xs, SqL K H a xs → xs[i]? = some x) ∧ ∀ ys, SqL K H b ys → ys[i]? = some y
  stop i H := ∃ xs ys, SqL K H a xs ∧ SqL K H b ys ∧ (xs.length ≤ i ∨ ys.length ≤ i)
theorem mem6 {c e z a b d f : Addr} (h : c ∈ [e, z, a, b, d, f]) : c = e ∨ c = z ∨ c = a ∨ c = b ∨ c = d ∨ c = f := by simpa using h
theorem turn_ez {P : Program} {w : World} {K : PySem.W.Frag} {es : List Expr} {n : Nat} {tp : Pos} {a b e z TI TO i1 i2 : Addr} (D : ZipApart z TI TO i1 i2 a b) (N : EzApart e z TI TO i1 i2) :
    Turn P w K (.Tuple es n tp) (ItEz K a b) [e, z, TI, TO, i1, i2] e fun i h => (∃ old, IsEnum h e z ((i : Nat) : Int) old) ∧ ZgIn h z TI TO i1 i2 a b i where
  mem := List.mem_cons_self
  obj := fun i h ⟨⟨old, q0⟩, ⟨f0, f, hz, h0⟩, hTI, ⟨a1, a2, hTO⟩, h1, h2⟩ c hc => by
    rcases mem6 hc with rfl | rfl | rfl | rfl | rfl | rfl
    · exact ⟨_, q0, fun v z => by cases z⟩
    · exact ⟨_, hz, fun v z => by cases z⟩
    · exact ⟨_, hTI, fun v z => by cases z⟩
    · exact ⟨_, hTO, fun v z => by cases z⟩
    · exact itB_obj (l := true) h1
    · exact itB_obj (l := true) h2
  keep := fun i h h' ⟨⟨old, q0⟩, q1⟩ k => ⟨⟨old, k _ (by simp) _ q0⟩, q1.keep fun c o hc => k c (by rcases hc with rfl | rfl | rfl | rfl | rfl <;> simp) o⟩
  item := by
    rintro X rfl rfl rfl calm i pins s σ H E I free ⟨⟨old, q0⟩, q1⟩ ⟨xs, ys, sx, sy, lx, ly⟩
    obtain ⟨us, rx, ax⟩ := sqB_in (l := true) I sx
    obtain ⟨ws, ry, ay⟩ := sqB_in (l := true) I sy
    obtain ⟨u1, gx, rx1⟩ := rx.get (List.getElem?_eq_getElem lx)
    obtain ⟨u2, gy, ry1⟩ := ry.get (List.getElem?_eq_getElem ly)
    refine ez_next D N q0 q1 ax ay (by simpa using gx) (by simpa using gy) fun h1 T eT p0 p1 p2 p3 k => ?_
    refine ⟨_, rfl, wpAny_letOwnedTupleGo_enum (s := { s with heap := h1, toks := s.toks + 1 }) p0 fun h2 p0' sb => ?_⟩
    have sb : Heap.SameBut e h1 h2 := sb
    have el : e < s.heap.objs.size := Heap.lt_size q0
    have nT : T ≠ e := by rw [eT]; exact Nat.ne_of_gt el
    have nU : T + 1 ≠ e := by rw [eT]; exact Nat.ne_of_gt (Nat.lt_succ_of_lt el)
    have up : ∀ b o, b ∉ [e, z, TI, TO, i1, i2] → s.heap.get? b = some o → h2.get? b = some o := fun c o hb q => (sb.2 c fun z => hb (by simp [z])).trans (k c o (fun z => hb (by simp [z])) (fun z => hb (by simp [z])) (fun z => hb (by simp [z])) (fun z => hb (by simp [z])) (fun z => hb (by simp [z])) q)
    refine ⟨.ref (T + 1), upd (upd H T (.tup [xs[i], ys[i]])) (T + 1) (.tup [.int (i : Nat), .ref T]), turned2 (s := s) (h' := h2) (t' := s.toks + 1) I up free (by rw [eT]; exact Nat.le_refl _) (by rw [eT]; exact Nat.le_succ _) (Nat.ne_of_lt (Nat.lt_succ_self T)) ?_ ?_, rfl,
      ⟨T, T + 1, _, _, rfl, I.hok.fresh (by rw [eT]; exact Nat.le_refl _), I.hok.fresh (by rw [eT]; exact Nat.le_succ _), Nat.ne_of_lt (Nat.lt_succ_self T), rfl, fun zs hz => by rw [sqB_inj (l := true) I hz sx]; exact List.getElem?_eq_getElem lx, fun zs hz => by rw [sqB_inj (l := true) I hz sy]; exact List.getElem?_eq_getElem ly⟩,
      ⟨⟨.ref T, ?_⟩, p1.over N sb⟩, fun c hc => ?_⟩
    · exact ⟨(by decide : 2 ≤ sizeLine), [u1, u2], .cons rx1 (.cons ry1 .nil), _, (sb.2 _ nT).trans p2, rfl, _, rfl⟩
    · exact ⟨(by decide : 2 ≤ sizeLine), [.int i s.toks, .ref T], .cons ⟨_, rfl⟩ (.cons rfl .nil), _, (sb.2 _ nU).trans p3, rfl, _, rfl⟩
    · have e2 : ((i + 1 : Nat) : Int) = (i : Int) + 1 := by omega
      rw [e2]
      exact p0'
    · have lt : c < s.heap.objs.size := by
        obtain ⟨⟨f0, f, hz, h0⟩, hTI, ⟨a1, a2, hTO⟩, h1, h2⟩ := q1
        rcases mem6 hc with rfl | rfl | rfl | rfl | rfl | rfl
        · exact el
        · exact Heap.lt_size hz
        · exact Heap.lt_size hTI
        · exact Heap.lt_size hTO
        · exact itB_lt (l := true) h1
        · exact itB_lt (l := true) h2
      rw [upd_ne (by rw [eT]; exact Nat.ne_of_lt (Nat.lt_succ_of_lt lt)), upd_ne (by rw [eT]; exact Nat.ne_of_lt lt)]
      exact (free c hc).1
  done := by
    rintro X rfl rfl rfl calm i pins s σ H E I free ⟨⟨old, q0⟩, q1⟩ ⟨xs, ys, sx, sy, le⟩
    obtain ⟨us, rx, ax⟩ := sqB_in (l := true) I sx
    obtain ⟨ws, ry, ay⟩ := sqB_in (l := true) I sy
    have hh : X.A.in1.handled = none := I.ok.hd calm
    have e1 := rx.length
    have e2 := ry.length
    refine ez_stop hh D q0 q1 ax ay (by
      rcases le with le | le
      · exact .inl (by simp; omega)
      · exact .inr (by simp; omega)) fun h1 k => ⟨rfl, I.turnedL (t' := s.toks) (ch := [e, z, TI, TO, i1, i2]) (fun c o hb q => k c o (fun z => hb (by simp [z])) (fun z => hb (by simp [z])) (fun z => hb (by simp [z])) (fun z => hb (by simp [z])) q) free⟩
  self := fun A i s Q E q h => let ⟨⟨_, q0⟩, _⟩ := q; wpAny_pyIter_enum q0 h
/-! ### how it begins -/
theorem enum_meetsZ {z TI TO : Addr} : Meets (Builtin.«enumerate.__new__» ⟨[.type "enumerate", .ref z], []⟩) fun _ R s => IsZip s.heap z TI TO .none ∧
    R (.ok (.ret (.ref s.heap.objs.size))) { s with heap := s.heap.push { cls := .type "enumerate", data := .fields #[.none, .bool false, .ref z, rawInt 0, .none, .none] } } := Meets.of_wp fun P w A R s ht => by
  obtain ⟨hp, g, d, tk, os⟩ := s
  obtain ⟨h1, ht⟩ := ht
  have subt := sub_enumerate
  have start : ∀ {A' : Around} {E : Value → Shared → Prop} {Q : Value → Shared → Prop}, Q (.ref z) ⟨hp, g, d, tk, os⟩ → wpAny (model P w) A' (pyIter (.ref z)) Q E ⟨hp, g, d, tk, os⟩ := fun q => wpAny_pyIter_zip h1 q
  wp_walk using start
  refine wpAny_stack_any (fun _ => wpAny_pure ?_)
  split
  · rename_i c _ _ _ _ _
    cases (c == Value.type "enumerate") <;> (wp_walk using start; exact ⟨_, rfl, ht⟩)
  · wp_walk using start
    exact ⟨_, rfl, ht⟩
theorem enum_newZ {P : Program} {w : World} {A : Around} {E : Value → Shared → Prop} {s : Shared} {z TI TO : Addr} {Q : Value → Shared → Prop} (h1 : IsZip s.heap z TI TO .none)
    (ht : ∀ h', IsEnum h' s.heap.objs.size z 0 .none → (∀ b u, s.heap.get? b = some u → h'.get? b = some u) → Q (.ref s.heap.objs.size) { s with heap := h' }) :
    wpAny (model P w) A (call (.type "enumerate") [.ref z]) Q E s := by
  refine callType_new F.called_enumerate (by decide) (F.typeCall_enumerate_1 _) (F.newCall_enumerate_1 _) (fun x => F.args_object_init_2 x _) F.entry_enumerate_new (enum_meetsZ (z := z) (TI := TI) (TO := TO)) ⟨h1, ?_⟩
  have last := Heap.get?_push_size s.heap (o := { cls := .type "enumerate", data := .fields #[.none, .bool false, .ref z, rawInt 0, .none, .none] }) rfl
  exact ⟨⟨_, last, rfl⟩, ht _ last fun b u x => Heap.get?_push_of_some _ x⟩
def iEz (K : PySem.W.Frag) (ta : TA) : TI := fun σ H R => ta σ H fun vs H1 => ∃ a b xs ys, vs = [.ref a, .ref b] ∧ SqL K H1 a xs ∧ SqL K H1 b ys ∧ R (ItEz K a b) H1
theorem pi_ez {X : Cx} {e e2 : Expr} {ta : TA} {p p2 pos pos2 tp : Pos} {es : List Expr} {n : Nat} (hg : Gl X "zip") (hm : X.mg "zip" = none) (hg2 : Gl X "enumerate") (hm2 : X.mg "enumerate" = none) (ha : PA X [e, e2] ta)
    (hs : starEach [e, e2] X.env = (false, eval e X.env) :: starEach [e2] X.env) (hpl : (backTo pos (starEach [e2] X.env)).any (·.1) = false) (hs2 : starEach [.Call (.Name "zip" p) [e, e2] [] pos] X.env = [(false, eval (.Call (.Name "zip" p) [e, e2] [] pos) X.env)]) :
    PI X (.Tuple es n tp) (.Call (.Name "enumerate" p2) [.Call (.Name "zip" p) [e, e2] [] pos] [] pos2) (iEz X.K ta) := by
  constructor
  intro pins s σ H R I h
  refine Call_ (ld_blt I hg2 hm2 boot_enumerate (Pv.callWith_type1 ?_ hs2 rfl))
  rw [hs2]
  show wpAny _ _ (spliced [(false, eval (.Call (.Name "zip" p) [e, e2] [] pos) X.env)]) _ _ _
  refine Calls.spliced_cons (Call_ (ld_blt I hg hm boot_zip (Pv.callWith_type1 (thn (ha.run pos pins s σ H _ I h) ?_) hs hpl)))
  rintro us s1 ⟨vs, H1, I1, r1, a, b, xs, ys, rfl, sx, sy, q⟩
  cases r1 with
  | cons ra rr =>
    cases rr with
    | cons rb rr =>
      cases rr
      cases ra
      cases rb
      obtain ⟨us, rx, ax⟩ := sqB_in (l := true) I1 sx
      obtain ⟨ws, ry, ay⟩ := sqB_in (l := true) I1 sy
      refine zip_begins2 (begB true a us.toArray) (begB true b ws.toArray) ax ay fun h' p0 p1 p2 p3 p4 sz k => ?_
      refine Calls.spliced_nil (enum_newZ (s := { s1 with heap := h' }) p0 fun h2 e0 k2 => wpAny_pyIter_enum e0 ?_)
      have k2 : ∀ b u, h'.get? b = some u → h2.get? b = some u := k2
      have sz : h'.objs.size = s1.heap.objs.size + 5 := sz
      have N : EzApart h'.objs.size (s1.heap.objs.size + 4) (s1.heap.objs.size + 2) (s1.heap.objs.size + 3) s1.heap.objs.size (s1.heap.objs.size + 1) := by
        rw [sz]
        exact ⟨fun x => absurd x (by simp), fun x => absurd x (by simp), fun x => absurd x (by simp), fun x => absurd x (by simp), fun x => absurd x (by simp)⟩
      refine ⟨h'.objs.size, [h'.objs.size, s1.heap.objs.size + 4, s1.heap.objs.size + 2, s1.heap.objs.size + 3, s1.heap.objs.size, s1.heap.objs.size + 1], _, _, H1, rfl, I1.kept (t' := s1.toks) fun b u x => k2 b u (k b u x), turn_ez (PySem.W.ktu_apart s1.heap.objs.size a b (arB_lt (l := true) ax) (arB_lt (l := true) ay)) N,
        ⟨⟨_, e0⟩, ⟨⟨_, _, k2 _ _ p0, .inl rfl⟩, k2 _ _ p1, ⟨_, _, k2 _ _ p2⟩, (begB_it (l := true) p3).at fun o x => k2 _ _ x, (begB_it (l := true) p4).at fun o x => k2 _ _ x⟩⟩, fun c hc => ?_, q⟩
      have le : s1.heap.objs.size ≤ c := by
        rcases mem6 hc with rfl | rfl | rfl | rfl | rfl | rfl <;> omega
      exact I1.fpOk le (I1.hok.fresh le)
def enumZ (ds es : List D) : List D := enumD (zipD ds es)
theorem enumZ_get {ds es : List D} {i : Nat} {d : D} (h : (enumZ ds es)[i]? = some d) : ∃ x y, ds[i]? = some x ∧ es[i]? = some y ∧ d = .tup [.int (i : Nat), .tup [x, y]] := by
  obtain ⟨u, h1, rfl⟩ := enumD_get h
  obtain ⟨x, y, h2, h3, rfl⟩ := zipD_get h1
  exact ⟨x, y, h2, h3, rfl⟩
theorem enumZ_len {ds es : List D} : (enumZ ds es).length = min ds.length es.length := by
  unfold enumZ enumD
  rw [List.length_map, List.length_range, zipD_len]
section
variable {K : PySem.W.Frag} {Hf : Hp} {a b : Addr} {xs ys : List V} {ds es : List D}
theorem iters_ez (h1 : SqL K Hf a xs) (h2 : DsL K Hf xs ds) (h3 : SqL K Hf b ys) (h4 : DsL K Hf ys es) : Iters K (ItEz K a b) (enumZ ds es) Hf none where
  go := fun Hf1 H1 σ1 A1 i e r _ hi => by
    rw [enumZ_len, ← h2.length, ← h4.length] at hi
    exact ⟨xs, ys, (e.trans r.sm).seq h1, (e.trans r.sm).seq h3, by omega, by omega⟩
  stop := fun Hf1 H1 σ1 A1 e r _ => ⟨xs, ys, (e.trans r.sm).seq h1, (e.trans r.sm).seq h3, by rw [enumZ_len, ← h2.length, ← h4.length]; omega⟩
  yld := fun Hf1 H1 σ1 A1 i d x H2 e r _ hd y => by
    obtain ⟨T, U, u, v, rfl, hT, hU, ne, rfl, q1, q2⟩ := y
    obtain ⟨dx, dy, g1, g2, rfl⟩ := enumZ_get hd
    obtain ⟨u', u1, u2⟩ := h2.get g1
    obtain ⟨v', v1, v2⟩ := h4.get g2
    cases u1.symm.trans (q1 xs ((e.trans r.sm).seq h1))
    cases v1.symm.trans (q2 ys ((e.trans r.sm).seq h3))
    obtain ⟨Hf2, r2, d2, f2⟩ := pair_new r hT (u2.mono e) (v2.mono e)
    obtain ⟨Hf3, r3, d3, f3⟩ := pair_new (T := U) (x := .int (i : Nat)) r2 (by rw [upd_ne ne.symm]; exact hU) (.int _) d2
    exact ⟨Hf3, r3, d3, f2.trans f3⟩
end
section
variable {X : Cx} {Z : ZZ} {A : List SD} {a b : Expr} {es : List Expr} {pos pos2 : Pos} {Q : List D → Option (Nat × Addr × List D) → List SD → Prop}
/-- for i, (x, y) in enumerate(zip(xs, ys)) -/
theorem ei_ez {p p2 : Pos} {elts : List Expr} {kk : Nat} {tpos : Pos} [c : Cok X] (h : EA X Z A [a, b] fun ds A1 => ∃ xs ys, ds = [.lst xs, .lst ys] ∧ Q (enumZ xs ys) none A1) (hg : Gl X "zip" := by exact gl_of (by kernel_rfl)) (hg2 : Gl X "enumerate" := by exact gl_of (by kernel_rfl))
    (hs : starEach [a, b] X.env = (false, eval a X.env) :: starEach [b] X.env := by kernel_rfl) (hpl : (backTo pos (starEach [b] X.env)).any (·.1) = false := by kernel_rfl)
    (hs2 : starEach [.Call (.Name "zip" p) [a, b] [] pos] X.env = [(false, eval (.Call (.Name "zip" p) [a, b] [] pos) X.env)] := by kernel_rfl) :
    EI X Z A (.Tuple elts kk tpos) (.Call (.Name "enumerate" p2) [.Call (.Name "zip" p) [a, b] [] pos] [] pos2) Q := fun Hf H σ rel xo R k =>
  ⟨_, pi_ez hg (c.no _ (by decide)) hg2 (c.no _ (by decide)) wa hs hpl hs2, h Hf H σ rel xo _ fun d A1 v Hf1 H1 ⟨xs, ys, e, q⟩ r1 s1 f1 => by
    subst e
    obtain ⟨v, u, rfl, g1, g2⟩ := dsl2 s1
    obtain ⟨x, us, rfl, h1, h2⟩ := ds_lst g1
    obtain ⟨y, ws, rfl, h3, h4⟩ := ds_lst g2
    exact ⟨x, y, us, ws, rfl, .inl (.inl (r1.sm _ _ h1)), .inl (.inl (r1.sm _ _ h3)), k _ _ _ _ _ _ q r1 f1 (iters_ez (.inl (.inl h1)) h2 (.inl (.inl h3)) h4)⟩⟩
end
end Y

namespace Y
open PySem L2
variable [I : NmC]
/-! ### own lists lent for one expression -/
def lockAll : List Nat → List SD → Option (List SD)
  | [], A => some A
  | j :: js, A => match A[j]? with
    | some (.own _ o) => match o.frz with
      | some d => lockAll js (A.set j (.dat d))
      | none => none
    | _ => none
theorem lock_ok {K : PySem.W.Frag} {H : Hp} {σ : List (Option V)} : ∀ {js : List Nat} {A A1 : List SD} {Hf : Hp}, lockAll js A = some A1 → Rel K Hf H σ A → ∃ Hf1, Rel K Hf1 H σ A1 ∧ Fr (owns A) Hf H (owns A1) Hf1 H
  | [], A, A1, Hf, h, r => by cases h; exact ⟨Hf, r, Fr.refl _ _ _⟩
  | j :: js, A, A1, Hf, h, r => by
    unfold lockAll at h
    cases hA : A[j]? with
    | none => rw [hA] at h; cases h
    | some x =>
      rw [hA] at h
      cases x with
      | any => cases h
      | dat d => cases h
      | own p o =>
        cases hd : o.frz with
        | none => simp [hd] at h
        | some d =>
          simp only [hd] at h
          obtain ⟨Hf', h1, h2, h3, h4⟩ := r.freezeAt hA hd
          obtain ⟨Hf1, r1, f1⟩ := lock_ok h h2
          exact ⟨Hf1, r1, h4.trans f1⟩
theorem Rel.lent {K : PySem.W.Frag} {Hf H H1 : Hp} {σ : List (Option V)} {A : List SD} (r : Rel K Hf H σ A) (k : ∀ a o, H a = some o → NoT o → H1 a = some o) (s : Same Hf H1) : Rel K Hf H1 σ A := by
  exact ⟨s, Paired.mapP r.al fun ov x h => by
    cases x with
    | any => trivial
    | dat d => exact h
    | own p o =>
      cases o with
      | lst ds =>
        obtain ⟨h1, h2, xs, h3, h4⟩ := h
        exact ⟨h1, h2, xs, k _ _ h3 .lst, h4⟩, r.nd, r.nt⟩
/-- what is lent comes back as it was -/
theorem lent_back {K : PySem.W.Frag} {Hf Hf1 H Hf' H' : Hp} {σ : List (Option V)} {A A1 : List SD} (r : Rel K Hf H σ A) (ho : owns A1 = []) (f1 : Fr (owns A) Hf H (owns A1) Hf1 H) (r2 : Rel K Hf' H' σ A1) (f2 : Fr (owns A1) Hf1 H (owns A1) Hf' H') : Rel K Hf H' σ A ∧ Fr (owns A) Hf H (owns A) Hf H' := by
  rw [ho] at f2
  have k : ∀ a o, H a = some o → NoT o → H' a = some o := fun a o h n => f2.kp a o h n (by simp)
  exact ⟨r.lent k ((f1.ef.trans f2.ef).trans r2.sm), ⟨fun _ _ h => h, fun a o _ _ h _ => h, fun a o h n _ => k a o h n, fun p h => .inl h, f2.tb, f2.ts⟩⟩
section
variable {X : Cx} {Z : ZZ} {A : List SD} {e : Expr}
theorem tx_lend (js : List Nat) {A1 : List SD} {Q : Bool → List SD → Prop} (hl : lockAll js A = some A1) (ho : owns A1 = []) (h : TX X Z A1 e fun b A' => A' = A1 ∧ Q b A) : TX X Z A e Q := fun Hf H σ rel xo R k => by
  obtain ⟨Hf1, r1, f1⟩ := lock_ok hl rel
  refine h Hf1 H σ r1 (xo.step f1) R fun b A' Hf' H' ⟨e, q⟩ r f => ?_
  subst e
  obtain ⟨r3, f3⟩ := lent_back rel ho f1 r f
  exact k _ _ _ _ q r3 f3
end
end Y

namespace Y
open PySem L2
variable [I : NmC]
/-- something new that nothing holds -/
theorem fresh_by {K : PySem.W.Frag} {Hf H : Hp} {σ : List (Option V)} {A : List SD} {o0 : List Addr} {Hf0 H0 : Hp} {a : Addr} {xs : List V} (r : Rel K Hf H σ A) (f : Fr o0 Hf0 H0 (owns A) Hf H) (ha : H a = none) : Rel K Hf (upd H a (.tup xs)) σ A ∧ Fr o0 Hf0 H0 (owns A) Hf (upd H a (.tup xs)) := by
  have far : ∀ {b : Addr} {u : HO}, H b = some u → upd H a (.tup xs) b = some u := fun q => by rw [upd_ne (ne_of_none q ha)]; exact q
  have sf : Same Hf (upd H a (.tup xs)) := fun b o h => far (r.sm _ _ h)
  refine ⟨r.lent (fun b o h _ => far h) sf, f.trans ⟨fun _ _ h => h, fun b o _ _ h _ => h, fun b o h _ _ => far h, fun p h => .inl h, fun b ps h => ⟨ps, far h⟩, fun P t => tabS_to t fun b o h _ => far h⟩⟩
section
variable {X : Cx} {Z : ZZ} {A : List SD} {e a b : Expr} {es : List Expr} {pos : Pos} {E : AE}
/-- a, b = x, y, names that blocks may hold; what is one's own stays so -/
theorem sx_parC (i j : Nat) {x y : Str} {px py pt : Pos} {kt k2 pt2} [c : Cok X] (h : EAO X Z A [a, b] fun rs A1 => ∃ d g, rs = [d, g] ∧ E.nx ((A1.set i d).set j g)) (hi : X.N[i]? = some x := by kernel_rfl) (hj : X.N[j]? = some y := by kernel_rfl) (hij : i ≠ j := by decide)
    (hx : Loc X.env.scope x := by exact loc_of (by kernel_rfl)) (hy : Loc X.env.scope y := by exact loc_of (by kernel_rfl))
    (fx : X.fn x = true ∨ X.env.scope.names.lookup x = some .local := by exact fn_B (by kernel_rfl)) (fy : X.fn y = true ∨ X.env.scope.names.lookup y = some .local := by exact fn_B (by kernel_rfl))
    (hw : swappedStores [.Tuple [.Name x px, .Name y py] kt pt] (.Tuple [a, b] k2 pt2) X.env = pure none := by kernel_rfl)
    (hs : swapsWithSole [.Tuple [.Name x px, .Name y py] kt pt] (.Tuple [a, b] k2 pt2) pos.line X.env = pure false := by kernel_rfl)
    (h1 : (assignEach [.Tuple [.Name x px, .Name y py] kt pt] X.env).map (·.2) = [assign (.Tuple [.Name x px, .Name y py] kt pt) X.env] := by kernel_rfl)
    (hn : (assignEach [.Name x px, .Name y py] X.env).length = 2 := by kernel_rfl) (hst : (assignEach [.Name x px, .Name y py] X.env).findIdx? (·.1) = none := by kernel_rfl)
    (hs1 : (assignEach [.Name x px, .Name y py] X.env).map (·.2) = assign (.Name x px) X.env :: (assignEach [.Name y py] X.env).map (·.2) := by kernel_rfl) (hs2 : (assignEach [.Name y py] X.env).map (·.2) = assign (.Name y py) X.env :: (assignEach [] X.env).map (·.2) := by kernel_rfl) :
    SX X Z A (.Assign [.Tuple [.Name x px, .Name y py] kt pt] (.Tuple [a, b] k2 pt2) pos) E := fun Hf H σ rel xo D k =>
  ⟨_, ps_asg (pe_tup wa) (pg_tup c.calm (pgs_cons (pg_name c.nd hi hx fx) (pgs_cons (pg_name c.nd hj hy fy) pgs_nil hs2) hs1) hn hst) hs hw h1, h Hf H σ rel xo _ fun rs A' vs Hf' H' ⟨d, g, e, q⟩ r0 l1 f0 => ⟨by rw [l1, e]; exact (by decide : 2 ≤ sizeLine), fun t ht => by
    subst e
    match vs, l1 with
    | [v, u], _ =>
      obtain ⟨r1, f1⟩ := fresh_by (xs := [v, u]) (a := t) r0 f0 ht
      have r1 : Rel X.K Hf' (upd H' t (.tup [v, u])) (some v :: some u :: σ) (d :: g :: A') := r1
      obtain ⟨r2, s2⟩ := r1.tail.tail.setA (i := i) (ov := some v) (s := d) r1.head fun p o z hp => by subst z; exact r1.notTail (owns_tail _ _ _ hp)
      obtain ⟨r3, s3⟩ := r2.setA (i := j) (ov := some u) (s := g) r1.tail.head fun p o z hp => by
        subst z
        have := s2 p hp
        cases d with
        | any => exact r1.tail.notTail this
        | dat d => exact r1.tail.notTail this
        | own p2 o2 =>
          rcases List.mem_cons.mp this with z | z
          · subst z; exact r1.notTail List.mem_cons_self
          · exact r1.tail.notTail z
      refine ⟨t, [v, u], rfl, .of upd_same, rfl, v, [u], rfl, u, [], rfl, rfl, k.nx _ _ _ _ q r3 (f1.less fun p hp => ?_)⟩
      have := s3 p hp
      show p ∈ owns (d :: g :: A')
      cases g with
      | any =>
        have := s2 p this
        cases d <;> exact this
      | dat g =>
        have := s2 p this
        cases d <;> exact this
      | own p2 o2 =>
        rcases List.mem_cons.mp this with z | z
        · subst z; exact owns_tail _ _ _ List.mem_cons_self
        · have := s2 p z
          cases d with
          | any => exact List.mem_cons_of_mem _ this
          | dat d => exact List.mem_cons_of_mem _ this
          | own p3 o3 =>
            rcases List.mem_cons.mp this with z | z
            · subst z; exact List.mem_cons_self
            · exact List.mem_cons_of_mem _ (List.mem_cons_of_mem _ z)⟩⟩
end
end Y

namespace Y
open PySem L2 PySem.Spec NdefX LamX
open PyProof.Rows hiding St

/-! ### the end for a program whose makers' tables the hook tells of -/
/-- makers: their code objects and tables -/
theorem walk_gt {ts : List Addr} {l : PySem.W.OpenLaw} {n k : Nat} {q : Program} {loose : List Str} {XP : (Str → Option Value) → Heap → Prop} {YP : World → Heap → Prop} {d : DefRec} {K : Params → PySem.W.Frag} {S : FSp} {x : Str} (hm : l.most = some n) (hn : n ≤ sizeLine) (hd : d.params.defaults = []) (hr : Room k callerA)
    (hY : ∀ (w : World) (h : Heap), YP w h → (K w.params).In h) (hYT : ∀ (w : World) (h : Heap), YP w h → ∀ P ∈ ts, h.get? P = some (PySem.W.tabObj #[]))
    (hF : ∀ (w : World) (mg : Str → Option Value) (fa : Addr) (h : Heap), (K w.params).In h → h.Ns mainGlobals mg → mg d.name = some (.ref fa) → ∃ (nm : Addr → Str) (fd : FuncData) (T : List Addr) (cs : List (Addr × Addr)), (∀ (s : Shared) (u : Value), BindsTo s fd ⟨[u], []⟩ [(x, u)]) ∧
      (∀ p ∈ cs, PySem.W.codeHdIn (K w.params) p.1 p.2 = true ∧ p.2 ∈ ts ∧ (K w.params).lookup p.2 = none) ∧ (∀ p ∈ T, ∃ c, (c, p) ∈ cs) ∧
      ∀ base : Heap, (K w.params).In base → base.Ns mainGlobals mg → (∀ p ∈ cs, TabB base mg p.1 p.2) → GOk l.prog w (K w.params) mg base k fa fd [x] (@SpOf ⟨nm⟩ (K w.params) T S))
    (hS : ∀ ns : List Int, ns.length ≤ n → S [.dat (.rls (ns.map .int))] (fun r _ => r = .dat (.bl true)) Z0) : PySem.W.WalkO q loose XP YP l.row.toRowW d [] (fun f vs => PySem.call f vs) := by
  refine Att.attach_call hm hd ?_
  intro w s₀ s mg mb fa o pm cd doc a vs ns G y ho hdd hcd hmg hobj hints hlen hg
  have inK := hY w _ y
  obtain ⟨nm, fd, T, cs, bd, hcs, hTc, hG⟩ := hF w mg fa _ inK G.T.g hmg
  letI : NmC := ⟨nm⟩
  have rv := ints_vals hints
  have hz : (ns.map V.int).length ≤ sizeLine := by rw [List.length_map]; exact Nat.le_trans hlen hn
  have le : vs.length = ns.length := by rw [← rv.length, List.length_map]
  have hC : ∀ p ∈ cs, PySem.W.CodeHd s.heap p.1 p.2 ∧ s.heap.get? p.2 = some tbO ∧ (K w.params).lookup p.2 = none := fun p hp => by
    obtain ⟨h1, h2, h3⟩ := hcs p hp
    exact ⟨PySem.W.codeHd_of_K inK h1, hYT w _ y _ h2, h3⟩
  have na : ¬ ∃ c, (c, a) ∈ cs := fun ⟨c, hc⟩ => by
    have := (hC _ hc).2.1
    rw [hobj] at this
    cases this
  cases hk : (K w.params).lookup a with
  | some ob =>
    have e := inK a ob hk
    rw [hobj] at e
    cases e
    refine at_top (H := fun b => open Classical in if ∃ c, (c, b) ∈ cs then some (.tbl #[]) else none) inK G.T.g G.T.b G.T.builtins G.T.nolimit hg hobj hr G.T.bmain hC (fun p hp => if_pos (hTc p hp)) hG bd (hS ns hlen) (.inr ⟨_, vs.toArray, _, hk, rfl, rfl, rfl, ?_, by simpa using rv⟩) (fun b u z => ?_) (fun b u z => ?_)
    · rw [List.size_toArray, le]
      exact Nat.le_trans hlen hn
    · by_cases hb : ∃ c, (c, b) ∈ cs
      · cases (if_pos hb).symm.trans z
        obtain ⟨c, hc⟩ := hb
        exact (hC _ hc).2.1
      · cases (if_neg hb).symm.trans z
    · by_cases hb : ∃ c, (c, b) ∈ cs
      · cases (if_pos hb).symm.trans z
        exact .inr ⟨hb, rfl⟩
      · cases (if_neg hb).symm.trans z
  | none =>
    refine at_top (H := fun b => open Classical in if b = a then some (.frz { cls := .type "list", data := .seq vs.toArray } (.lst (ns.map V.int))) else if ∃ c, (c, b) ∈ cs then some (.tbl #[]) else none) inK G.T.g G.T.b G.T.builtins G.T.nolimit hg hobj hr G.T.bmain hC
      (fun p hp => (if_neg (show ¬ p = a from fun z => na (by rw [← z]; exact hTc p hp))).trans (if_pos (hTc p hp))) hG bd (hS ns hlen) (.inl (.inr ⟨_, if_pos rfl⟩)) ?_ ?_
    · intro b u z
      by_cases hb : b = a
      · subst hb
        cases (if_pos rfl).symm.trans z
        exact ⟨hobj, hz, vs, _, rv, hobj⟩
      · have z1 := (if_neg hb).symm.trans z
        by_cases hb2 : ∃ c, (c, b) ∈ cs
        · cases (if_pos hb2).symm.trans z1
          obtain ⟨c, hc⟩ := hb2
          exact (hC _ hc).2.1
        · cases (if_neg hb2).symm.trans z1
    · intro b u z
      by_cases hb : b = a
      · subst hb
        cases (if_pos rfl).symm.trans z
        exact .inl ⟨rfl, hk, _, rfl⟩
      · have z1 := (if_neg hb).symm.trans z
        by_cases hb2 : ∃ c, (c, b) ∈ cs
        · cases (if_pos hb2).symm.trans z1
          exact .inr ⟨hb2, rfl⟩
        · cases (if_neg hb2).symm.trans z1
end Y

namespace K2
open PySem L2 Y
def top (i : Nat) : Stmt := PySem.Challenge.pw_wedgelight_k04_levels.main.body.getD i (.Pass ⟨0, 0, 0, 0⟩)
abbrev sTimes : Stmt := top 2
abbrev nTimes : List Str := ["one", "other", "mine", "its"]
abbrev pTimes : List Str := ["one", "other"]
theorem bTimes : Bnd sTimes "times" pTimes := fun _ _ _ _ _ _ us hl => match us, hl with | [_, _], _ => rfl
theorem scTimes : FnScope nTimes pTimes (defScope sTimes) := ⟨rfl, rfl, rfl, by decide +kernel, rfl, by decide +kernel, by decide +kernel⟩
abbrev sContrary : Stmt := top 3
abbrev nContrary : List Str := ["row", "number"]
abbrev pContrary : List Str := ["row"]
theorem bContrary : Bnd sContrary "contrary" pContrary := fun _ _ _ _ _ _ us hl => match us, hl with | [_], _ => rfl
theorem scContrary : FnScope nContrary pContrary (defScope sContrary) := ⟨rfl, rfl, rfl, by decide +kernel, rfl, by decide +kernel, by decide +kernel⟩
abbrev sMoreOf : Stmt := top 4
abbrev nMoreOf : List Str := ["row", "step", "other", "mine", "its"]
abbrev pMoreOf : List Str := ["row", "step", "other"]
theorem bMoreOf : Bnd sMoreOf "more_of" pMoreOf := fun _ _ _ _ _ _ us hl => match us, hl with | [_, _, _], _ => rfl
theorem scMoreOf : FnScope nMoreOf pMoreOf (defScope sMoreOf) := ⟨rfl, rfl, rfl, by decide +kernel, rfl, by decide +kernel, by decide +kernel⟩
abbrev sRankOf : Stmt := top 5
abbrev nRankOf : List Str := ["rows", "left", "row", "rank", "place", "heads", "head", "others", "one"]
abbrev pRankOf : List Str := ["rows"]
theorem bRankOf : Bnd sRankOf "rank_of" pRankOf := fun _ _ _ _ _ _ us hl => match us, hl with | [_], _ => rfl
theorem scRankOf : FnScope nRankOf pRankOf (defScope sRankOf) := ⟨rfl, rfl, rfl, by decide +kernel, rfl, by decide +kernel, by decide +kernel⟩
abbrev sSingleHeaded : Stmt := top 6
abbrev nSingleHeaded : List Str := ["rows", "tell", "some", "heads", "row", "rest", "head", "others", "lesser"]
abbrev pSingleHeaded : List Str := ["rows", "tell"]
theorem bSingleHeaded : Bnd sSingleHeaded "single_headed" pSingleHeaded := fun _ _ _ _ _ _ us hl => match us, hl with | [_, _], _ => rfl
theorem scSingleHeaded : FnScope nSingleHeaded pSingleHeaded (defScope sSingleHeaded) := ⟨rfl, rfl, rfl, by decide +kernel, rfl, by decide +kernel, by decide +kernel⟩
abbrev sStepped : Stmt := top 7
abbrev nStepped : List Str := ["rows", "side", "found", "rest", "place", "heads", "head", "row"]
abbrev pStepped : List Str := ["rows", "side"]
theorem bStepped : Bnd sStepped "stepped" pStepped := fun _ _ _ _ _ _ us hl => match us, hl with | [_, _], _ => rfl
theorem scStepped : FnScope nStepped pStepped (defScope sStepped) := ⟨rfl, rfl, rfl, by decide +kernel, rfl, by decide +kernel, by decide +kernel⟩
abbrev sLevelsOf : Stmt := top 8
abbrev nLevelsOf : List Str := ["rows", "side", "found", "at", "place", "row", "heads"]
abbrev pLevelsOf : List Str := ["rows", "side"]
theorem scLevelsOf : FnScope nLevelsOf pLevelsOf (defScope sLevelsOf) := ⟨rfl, rfl, rfl, by decide +kernel, rfl, by decide +kernel, by decide +kernel⟩
abbrev sLawCellAt : Stmt := top 10
abbrev nLawCellAt : List Str := ["script", "k"]
abbrev pLawCellAt : List Str := ["script", "k"]
theorem bLawCellAt : Bnd sLawCellAt "_law_cell_at" pLawCellAt := fun _ _ _ _ _ _ us hl => match us, hl with | [_, _], _ => rfl
theorem scLawCellAt : FnScope nLawCellAt pLawCellAt (defScope sLawCellAt) := ⟨rfl, rfl, rfl, by decide +kernel, rfl, by decide +kernel, by decide +kernel⟩
abbrev sLawBox : Stmt := top 11
abbrev nLawBox : List Str := ["script", "k", "cell"]
abbrev pLawBox : List Str := ["script", "k"]
theorem bLawBox : Bnd sLawBox "_law_box" pLawBox := fun _ _ _ _ _ _ us hl => match us, hl with | [_, _], _ => rfl
theorem scLawBox : FnScope nLawBox pLawBox (defScope sLawBox) := ⟨rfl, rfl, rfl, by decide +kernel, rfl, by decide +kernel, by decide +kernel⟩
abbrev sLawTake : Stmt := top 12
abbrev nLawTake : List Str := ["box", "size", "found", "once", "twice"]
abbrev pLawTake : List Str := ["box", "size"]
theorem bLawTake : Bnd sLawTake "_law_take" pLawTake := fun _ _ _ _ _ _ us hl => match us, hl with | [_, _], _ => rfl
theorem scLawTake : FnScope nLawTake pLawTake (defScope sLawTake) := ⟨rfl, rfl, rfl, by decide +kernel, rfl, by decide +kernel, by decide +kernel⟩
abbrev sLawSame : Stmt := top 13
abbrev nLawSame : List Str := ["found", "due", "one", "two"]
abbrev pLawSame : List Str := ["found", "due"]
theorem bLawSame : Bnd sLawSame "_law_same" pLawSame := fun _ _ _ _ _ _ us hl => match us, hl with | [_, _], _ => rfl
theorem scLawSame : FnScope nLawSame pLawSame (defScope sLawSame) := ⟨rfl, rfl, rfl, by decide +kernel, rfl, by decide +kernel, by decide +kernel⟩
abbrev sLawOf : Stmt := top 14
abbrev nLawOf : List Str := ["box", "some"]
abbrev pLawOf : List Str := ["box", "some"]
theorem bLawOf : Bnd sLawOf "_law_of" pLawOf := fun _ _ _ _ _ _ us hl => match us, hl with | [_, _], _ => rfl
theorem scLawOf : FnScope nLawOf pLawOf (defScope sLawOf) := ⟨rfl, rfl, rfl, by decide +kernel, rfl, by decide +kernel, by decide +kernel⟩
abbrev sLawTell : Stmt := top 15
abbrev nLawTell : List Str := ["one", "two", "first", "second"]
abbrev pLawTell : List Str := ["one", "two"]
theorem bLawTell : Bnd sLawTell "_law_tell" pLawTell := fun _ _ _ _ _ _ us hl => match us, hl with | [_, _], _ => rfl
theorem scLawTell : FnScope nLawTell pLawTell (defScope sLawTell) := ⟨rfl, rfl, rfl, by decide +kernel, rfl, by decide +kernel, by decide +kernel⟩
abbrev sLawSome : Stmt := top 16
abbrev nLawSome : List Str := ["box", "wide", "top", "some", "at", "turn", "digit"]
abbrev pLawSome : List Str := ["box", "wide"]
theorem bLawSome : Bnd sLawSome "_law_some" pLawSome := fun _ _ _ _ _ _ us hl => match us, hl with | [_, _], _ => rfl
theorem scLawSome : FnScope nLawSome pLawSome (defScope sLawSome) := ⟨rfl, rfl, rfl, by decide +kernel, rfl, by decide +kernel, by decide +kernel⟩
abbrev sLawNothing : Stmt := top 17
abbrev nLawNothing : List Str := ["some", "row", "one"]
abbrev pLawNothing : List Str := ["some", "row"]
theorem bLawNothing : Bnd sLawNothing "_law_nothing" pLawNothing := fun _ _ _ _ _ _ us hl => match us, hl with | [_, _], _ => rfl
theorem scLawNothing : FnScope nLawNothing pLawNothing (defScope sLawNothing) := ⟨rfl, rfl, rfl, by decide +kernel, rfl, by decide +kernel, by decide +kernel⟩
abbrev sLawHeads : Stmt := top 18
abbrev nLawHeads : List Str := ["found", "at", "digit", "row"]
abbrev pLawHeads : List Str := ["found"]
theorem bLawHeads : Bnd sLawHeads "_law_heads" pLawHeads := fun _ _ _ _ _ _ us hl => match us, hl with | [_], _ => rfl
theorem scLawHeads : FnScope nLawHeads pLawHeads (defScope sLawHeads) := ⟨rfl, rfl, rfl, by decide +kernel, rfl, by decide +kernel, by decide +kernel⟩
abbrev sLawStepsRight : Stmt := top 19
abbrev nLawStepsRight : List Str := ["found", "row", "heads", "digit", "at", "one"]
abbrev pLawStepsRight : List Str := ["found"]
theorem bLawStepsRight : Bnd sLawStepsRight "_law_steps_right" pLawStepsRight := fun _ _ _ _ _ _ us hl => match us, hl with | [_], _ => rfl
theorem scLawStepsRight : FnScope nLawStepsRight pLawStepsRight (defScope sLawStepsRight) := ⟨rfl, rfl, rfl, by decide +kernel, rfl, by decide +kernel, by decide +kernel⟩
abbrev sLawGoneDown : Stmt := top 20
abbrev nLawGoneDown : List Str := ["found", "row", "left", "one", "at", "step", "digit", "other"]
abbrev pLawGoneDown : List Str := ["found", "row"]
theorem bLawGoneDown : Bnd sLawGoneDown "_law_gone_down" pLawGoneDown := fun _ _ _ _ _ _ us hl => match us, hl with | [_, _], _ => rfl
theorem scLawGoneDown : FnScope nLawGoneDown pLawGoneDown (defScope sLawGoneDown) := ⟨rfl, rfl, rfl, by decide +kernel, rfl, by decide +kernel, by decide +kernel⟩
abbrev sLawBoxRows : Stmt := top 21
abbrev nLawBoxRows : List Str := ["wide", "top", "found", "turn", "longer", "one", "digit"]
abbrev pLawBoxRows : List Str := ["wide", "top"]
theorem bLawBoxRows : Bnd sLawBoxRows "_law_box_rows" pLawBoxRows := fun _ _ _ _ _ _ us hl => match us, hl with | [_, _], _ => rfl
theorem scLawBoxRows : FnScope nLawBoxRows pLawBoxRows (defScope sLawBoxRows) := ⟨rfl, rfl, rfl, by decide +kernel, rfl, by decide +kernel, by decide +kernel⟩
abbrev sLawRight : Stmt := top 22
abbrev nLawRight : List Str := ["box", "wide", "some", "before", "found", "row", "one", "others", "digit", "told"]
abbrev pLawRight : List Str := ["box"]
theorem bLawRight : Bnd sLawRight "_law_right" pLawRight := fun _ _ _ _ _ _ us hl => match us, hl with | [_], _ => rfl
theorem scLawRight : FnScope nLawRight pLawRight (defScope sLawRight) := ⟨rfl, rfl, rfl, by decide +kernel, rfl, by decide +kernel, by decide +kernel⟩
abbrev sLaw : Stmt := top 23
abbrev nLaw : List Str := ["script", "k", "box", "turn", "known", "due"]
abbrev pLaw : List Str := ["script"]
theorem bLaw : Bnd sLaw "law" pLaw := fun _ _ _ _ _ _ us hl => match us, hl with | [_], _ => rfl
theorem scLaw : FnScope nLaw pLaw (defScope sLaw) := ⟨rfl, rfl, rfl, by decide +kernel, rfl, by decide +kernel, by decide +kernel⟩
end K2

namespace K2
open PySem L2 Y
variable [I : NmC]
/-! the law's helpers that every law has -/
/-- a box of draws: at most n drawn so far -/
def BoxOk (n : Nat) (ds : List D) : Prop := ∃ a b c : Int, ds = [.int a, .int b, .int c] ∧ 0 ≤ a ∧ 0 ≤ b ∧ b < 4611686018427387904 ∧ 0 ≤ c ∧ c ≤ n
theorem BoxOk.mono {n m : Nat} {ds : List D} (h : BoxOk n ds) (e : n ≤ m) : BoxOk m ds := by
  obtain ⟨a, b, c, e0, h1, h2, h3, h4, h5⟩ := h
  exact ⟨a, b, c, e0, h1, h2, h3, h4, by omega⟩
def spCell : FSp := fun A Post _ => ∃ (ns : List Int) (i : Nat), A = [.dat (.rls (ns.map .int)), .dat (.int i)] ∧ ∀ j : Int, Post (.dat (.int j)) A
def spBox : FSp := fun A Post _ => ∃ (ns : List Int) (i : Nat), A = [.dat (.rls (ns.map .int)), .dat (.int i)] ∧ i ≤ 1000 ∧ ∀ p ds, BoxOk 0 ds → Post (.own p (.lst ds)) A
def spTake : FSp := fun A Post _ => ∃ (p : Addr) (ds : List D) (n : Nat) (size : Int), A = [.own p (.lst ds), .dat (.int size)] ∧ BoxOk n ds ∧ n ≤ 1000000 ∧ 0 < size ∧ size ≤ 1000000 ∧
  ∀ r ds', 0 ≤ r → r < size → BoxOk (n + 1) ds' → Post (.dat (.int r)) [.own p (.lst ds'), .dat (.int size)]
def spOf : FSp := fun A Post _ => ∃ (p : Addr) (ds es : List D) (n : Nat), A = [.own p (.lst ds), .dat (.lst es)] ∧ BoxOk n ds ∧ n ≤ 1000000 ∧ es ≠ [] ∧ es.length ≤ 1000000 ∧
  ∀ d ds', d ∈ es → BoxOk (n + 1) ds' → Post (.dat d) [.own p (.lst ds'), .dat (.lst es)]
/-- flat, at most n deep, no list too long -/
inductive Sc : D → Prop
  | non : Sc .non
  | bl (b : Bool) : Sc (.bl b)
  | int (i : Int) : Sc (.int i)
  | str (x : Str) : PyData.canLay0 (.str x) = true → Sc (.str x)
def Sm : Nat → D → Prop
  | 0, d => Sc d
  | n + 1, d => Sc d ∨ ∃ ds : List D, (d = .lst ds ∨ d = .tup ds) ∧ ds.length ≤ 1000000 ∧ ∀ x ∈ ds, Sm n x
theorem Sc.pl {n : Nat} {d : D} (h : Sc d) : Pl n d := by
  cases h with
  | non => exact Pl.non
  | bl b => exact Pl.bl b
  | int i => exact Pl.int i
  | str x h => exact ⟨h, Nat.zero_le _⟩
theorem Sm.pl : ∀ {n : Nat} {d : D}, Sm n d → Pl n d
  | 0, _, h => Sc.pl h
  | n + 1, _, .inl h => h.pl
  | n + 1, _, .inr ⟨ds, .inl e, _, h⟩ => by subst e; exact Pl.lst fun x hx => (h x hx).pl
  | n + 1, _, .inr ⟨ds, .inr e, _, h⟩ => by subst e; exact Pl.tup fun x hx => (h x hx).pl
theorem Sm.sc {n : Nat} {d : D} (h : Sc d) : Sm n d := by cases n with
  | zero => exact h
  | succ n => exact .inl h
def spSame (n : Nat) : FSp := fun A Post _ => ∃ d : D, A = [.dat d, .dat d] ∧ Sm n d ∧ Post (.dat (.bl true)) A
section
variable {T : List Addr} {P : Program} {w : World} {K : PySem.W.Frag} {mg : Str → Option Value} {base : Heap} {f : Addr} {fd : FuncData}
theorem get_nat {α : Type} {ns : List α} {i : Nat} (h : i < ns.length) : atI ns (i : Int) = some ns[i] := atI_nat (by simp)
theorem cm_b (i : Int) (k : Bool) : CMul i (if k = true then 1 else 0) := .inr (by cases k <;> decide)
theorem bi (k : Bool) : (0 : Int) ≤ if k = true then 1 else 0 := by cases k <;> decide
theorem small_div {i j : Int} (h : 0 < j) (h2 : j ≤ 1000000) : CDivW i j := wide_div h (b := 20) (by omega) (by decide) (by decide)
theorem ok_cell (F : Fun K "_law_cell_at" "_law_cell_at" sLawCellAt f fd) (no : ∀ x ∈ bnames, mg x = none) : GOk P w K mg base 1 f fd pLawCellAt (SpOf K T spCell) := by
  refine g_of F scLawCellAt no (fun A Post Z h => by obtain ⟨_, _, rfl, _⟩ := h; rfl) (by decide) ?_
  rintro cdv A fr s H E cok g B Post Z ⟨ns, i, rfl, q⟩
  refine ssx_cons (sx_if (tx_cmp ?_))
  refine ed_n 1 rfl (ed_of (ex_seqB "len" (es_of (ex_of (ed_n 0 rfl ⟨_, _, rfl, cq_len ⟨_, rfl, os_lt ⟨_, rfl, fun h => ?_, fun h => ?_⟩⟩⟩)))))
  · have h := of_decide_eq_true h
    refine ssx_one (sx_ret (ex_ix (ed_n 0 rfl (ed_n 1 rfl (xs_r (get_nat (by simpa using h)) ?_)))))
    rw [List.getElem_map]
    exact ⟨_, .dat (.dat .nil), q _⟩
  · refine ssx_nil (ssx_one (sx_ret (ex_of (ed_int ?_))))
    exact ⟨_, .dat (.dat .nil), q _⟩
theorem ok_box (F : Fun K "_law_box" "_law_box" sLawBox f fd) (no : ∀ x ∈ bnames, mg x = none) (Cl : Fn T P w K mg base 1 "_law_cell_at" "_law_cell_at" sLawCellAt pLawCellAt spCell) : GOk P w K mg base 2 f fd pLawBox (SpOf K T spBox) := by
  refine g_of F scLawBox no (fun A Post Z h => by obtain ⟨_, _, rfl, _⟩ := h; rfl) (by decide) ?_
  rintro cdv A fr s H E cok g B Post Z ⟨ns, i, rfl, hi, q⟩
  refine ssx_cons (sx_set 2 (ex_call Cl g bLawCellAt (ea_cons (ed_n 0 rfl (ea_cons (ed_n 1 rfl (ea_nil ⟨ns, i, rfl, fun j => ?_⟩)))))))
  refine ssx_one (sx_ret (ex_lst (ea_cons (ed_of (ex_bin ?_)))))
  refine ed_of (ex_callB "abs" (ea_cons (ed_n 2 rfl (ea_nil (cs_abs ⟨_, rfl, ?_⟩)))))
  refine ed_of (ex_callT "int" (ea_cons (ed_of (ex_cmp ?_))))
  refine ed_of (ex_callB "abs" (ea_cons (ed_n 2 rfl (ea_nil (cs_abs ⟨_, rfl, ?_⟩)))))
  refine ed_of (ex_bin (ed_int (ed_int (os_pow ⟨by decide, by decide, by decide⟩ ⟨_, rfl, os_ge ⟨_, rfl, ?_⟩⟩))))
  refine ea_nil (cs_intB ⟨_, rfl, os_mulL (cm_b _ _) ⟨_, rfl, ?_⟩⟩)
  refine ea_cons (ed_of (ex_bin ?_))
  refine ed_of (ex_bin ?_)
  refine ed_of (ex_bin (ed_n 2 rfl (ed_int (os_mod (by decide) ⟨_, rfl, ?_⟩))))
  refine ed_of (ex_bin (ed_int (ed_n 1 rfl (os_mulL (.inl (by decide)) ⟨_, rfl, os_add ⟨_, rfl, ?_⟩⟩))))
  refine ed_int (os_add ⟨_, rfl, ea_cons (ed_int (ea_nil ⟨by simp, fun p => ?_⟩))⟩)
  refine ⟨_, .dat (.dat .nil), q p _ ⟨_, _, _, rfl, ?_, ?_, ?_, by decide, by decide⟩⟩
  · refine Int.mul_nonneg ?_ ?_
    · split <;> omega
    · exact bi _
  · omega
  · omega
theorem ok_take (F : Fun K "_law_take" "_law_take" sLawTake f fd) (no : ∀ x ∈ bnames, mg x = none) : GOk P w K mg base 1 f fd pLawTake (SpOf K T spTake) := by
  refine g_of F scLawTake no (fun A Post Z h => by obtain ⟨_, _, _, _, rfl, _⟩ := h; rfl) (by decide) ?_
  rintro cdv A fr s H E cok g B Post Z ⟨p, ds, n, size, rfl, ⟨a, b, c, rfl, ha, hb, hb2, hc, hcn⟩, hn, hs, hs2, q⟩
  have ml : ∀ {i j : Int}, (0 ≤ j ∧ j < 10000000000) → CMul i j := fun h => .inr (by omega)
  refine ssx_cons (sx_if (tx_cmp ?_))
  refine ed_of (ex_ixo 0 rfl (ed_int ⟨_, _, _, _, rfl, rfl, rfl, _, rfl, ed_int (os_gt ⟨_, rfl, fun h => ?_, fun h => ?_⟩)⟩))
  · have h := of_decide_eq_true h
    refine ssx_cons (sx_set 2 (ex_bin (ed_of (ex_ixo 0 rfl (ed_int ⟨_, _, _, _, rfl, rfl, rfl, _, rfl, ed_n 1 rfl (os_mod hs ?_)⟩)))))
    refine ssx_cons (sx_asg (ed_of (ex_bin (ed_of (ex_ixo 0 rfl (ed_int ⟨_, _, _, _, rfl, rfl, rfl, _, rfl, ed_n 1 rfl (os_div (small_div hs hs2) ⟨_, rfl, ?_⟩)⟩))))))
    · refine gx_set 0 rfl (ed_int ⟨_, _, _, 0, rfl, rfl, rfl, ?_⟩)
      refine ssx_one (sx_ret (ex_of (ed_n 2 rfl ?_)))
      refine ⟨_, .own (List.mem_cons_self) (.dat .nil), q _ _ (Int.emod_nonneg _ (by omega)) (Int.emod_lt_of_pos _ hs) ⟨_, _, _, rfl, ?_, hb, hb2, hc, by omega⟩⟩
      exact Int.ediv_nonneg ha (by omega)
  · refine ssx_nil (ssx_cons (sx_asg (ed_of (ex_bin (ed_of (ex_ixo 0 rfl (ed_int ⟨_, _, _, _, rfl, rfl, rfl, _, rfl, ed_int (os_add ⟨_, rfl, ?_⟩)⟩)))))))
    refine gx_set 0 rfl (ed_int ⟨_, _, _, 2, rfl, rfl, rfl, ?_⟩)
    refine ssx_cons (sx_set 3 (ex_bin (ed_of (ex_bin (ed_of (ex_bin ?_))))))
    refine ed_of (ex_ixo 0 rfl (ed_int ⟨_, _, _, _, rfl, rfl, rfl, _, rfl, ?_⟩))
    refine ed_of (ex_bin (ed_int (ed_of (ex_ixo 0 rfl (ed_int ⟨_, _, _, _, rfl, rfl, rfl, _, rfl, os_mulL (.inl (by decide)) ⟨_, rfl, os_add ⟨_, rfl, ?_⟩⟩⟩)))))
    refine ed_of (ex_bin (ed_int (ed_of (ex_ixo 0 rfl (ed_int ⟨_, _, _, _, rfl, rfl, rfl, _, rfl, os_add ⟨_, rfl, os_mulL (ml (by omega)) ⟨_, rfl, ed_int (os_mod (by decide) ?_)⟩⟩⟩)))))
    generalize hx : (b + 48271 * (c + 1)) * (39373 + (c + 1)) % 2147483647 = x
    have x1 : 0 ≤ x ∧ x < 2147483647 := by omega
    refine ssx_cons (sx_set 4 (ex_bin (ed_of (ex_bin (ed_of (ex_bin (ed_of (ex_bin (ed_n 3 rfl ?_)))))))))
    refine ed_of (ex_ixo 0 rfl (ed_int ⟨_, _, _, _, rfl, rfl, rfl, _, rfl, os_add ⟨_, rfl, ?_⟩⟩))
    refine ed_of (ex_bin (ed_of (ex_ixo 0 rfl (ed_int ⟨_, _, _, _, rfl, rfl, rfl, _, rfl, ed_int (os_div ⟨by decide, by decide⟩ ⟨_, rfl, os_add ⟨_, rfl, ?_⟩⟩)⟩))))
    refine ed_of (ex_bin (ed_of (ex_bin (ed_n 3 rfl (ed_int (os_mod (by decide) ⟨_, rfl, ed_int (os_add ⟨_, rfl, os_mulL (ml (by omega)) ⟨_, rfl, ed_int (os_mod (by decide) ?_)⟩⟩)⟩))))))
    generalize hy : (x + (c + 1) + b / 1000003) * (x % 40009 + 7) % 2147483629 = y
    have y1 : 0 ≤ y ∧ y < 2147483629 := by omega
    refine ssx_one (sx_ret (ex_bin (ed_of (ex_bin (ed_of (ex_bin (ed_of (ex_bin (ed_of (ex_bin (ed_n 4 rfl (ed_int (os_mulL (.inr (by decide)) ⟨_, rfl, ?_⟩)))))))))))))
    refine ed_n 3 rfl (os_add ⟨_, rfl, ed_int (os_mod (by decide) ⟨_, rfl, ed_int (os_div ⟨by decide, by decide⟩ ⟨_, rfl, ed_n 1 rfl (os_mod hs ?_)⟩)⟩)⟩)
    exact ⟨_, .own (List.mem_cons_self) (.dat .nil), q _ _ (Int.emod_nonneg _ (by omega)) (Int.emod_lt_of_pos _ hs) ⟨_, _, _, rfl, ha, hb, hb2, by omega, by omega⟩⟩
theorem ok_of (F : Fun K "_law_of" "_law_of" sLawOf f fd) (no : ∀ x ∈ bnames, mg x = none) (Tk : Fn T P w K mg base 1 "_law_take" "_law_take" sLawTake pLawTake spTake) : GOk P w K mg base 2 f fd pLawOf (SpOf K T spOf) := by
  refine g_of F scLawOf no (fun A Post Z h => by obtain ⟨_, _, _, _, rfl, _⟩ := h; rfl) (by decide) ?_
  rintro cdv A fr s H E cok g B Post Z ⟨p, ds, es, n, rfl, hB, hn, he, hz, q⟩
  refine ssx_one (sx_ret (ex_ix (ed_n 1 rfl (ed_of (ex_callO 0 Tk g bLawTake rfl (ea_cons (ed_of (ex_seqB "len" (es_of (ex_of (ed_n 1 rfl ⟨_, _, rfl, cq_len ⟨_, rfl, ea_nil ?_⟩⟩)))))))))))
  have hp : 0 < es.length := List.length_pos_iff.mpr he
  refine ⟨_, rfl, p, ds, n, _, rfl, hB, hn, by omega, by omega, fun r ds' h0 h1 hb => ⟨_, _, rfl, _, rfl, ?_⟩⟩
  obtain ⟨j, rfl⟩ := Int.eq_ofNat_of_zero_le h0
  have hj : j < es.length := by omega
  refine xs_l (get_nat hj) ⟨_, .own List.mem_cons_self (.dat .nil), q _ _ (List.getElem_mem hj) hb⟩
theorem zip_same : ∀ ds : List D, zipD ds ds = ds.map fun d => .tup [d, d]
  | [] => rfl
  | d :: ds => by
    show D.tup [d, d] :: zipD ds ds = _
    rw [zip_same ds]
    rfl
theorem eqv_same {n : Nat} {d : D} (h : Pl n d) : d.eqv d = true := SeqAt.eqv_refl d.py (flat_lay h.1)
theorem ok_same (F : Fun K "_law_same" "_law_same" sLawSame f fd) (no : ∀ x ∈ bnames, mg x = none) (hm : mg "_law_same" = some (.ref f)) : ∀ n, GOk P w K mg base (n + 1) f fd pLawSame (SpOf K T (spSame n)) := by
  intro n
  have step : ∀ n, (∀ m, n = m + 1 → GOk P w K mg base n f fd pLawSame (SpOf K T (spSame m))) → GOk P w K mg base (n + 1) f fd pLawSame (SpOf K T (spSame n)) := by
    intro n ih
    refine g_of F scLawSame no (fun A Post Z h => by obtain ⟨_, rfl, _⟩ := h; rfl) (by decide) ?_
    rintro cdv A fr s H E cok g B Post Z ⟨d, rfl, hd, q⟩
    -- numbers, truths, None, texts
    have scal : ∀ U b1 b2, Sc d → TyD d U → kitAnyB U ["list", "tuple"] = some false → kitB U "bool" = some b1 → kitB U "int" = some b2 → SSX (cxOf (CX P w) P w K mg base nLawSame "_law_same" (defScope sLawSame) f cdv A fr s H E) (BodyZ T [.dat d, .dat d] Z) ([.dat d, .dat d] ++ List.replicate (nLawSame.length - pLawSame.length) .any) (defBody sLawSame) (BodyE [.dat d, .dat d] Post) := by
      intro U b1 b2 hs ht k0 k1 k2
      refine ssx_cons (sx_if (tx_val (ex_isiT (cs := ["list", "tuple"]) ?_ (by decide))))
      refine ed_n 1 rfl (ea_cons (ed_cls "list" (ea_cons (ed_cls "tuple" (ea_nil ?_)))))
      refine ⟨U, false, rfl, ht, k0, _, rfl, fun h => ?_, fun _ => ?_⟩
      · cases h
      refine ssx_nil (ssx_cons (sx_if (tx_w (tw_or (tx_cmp ?_)))))
      refine ed_of (ex_callB "isinstance" (ea_cons (ed_n 0 rfl (ea_cons (ed_cls "bool" (ea_nil (cs_isi ht k1 ⟨_, rfl, ?_⟩)))))))
      refine ed_of (ex_callB "isinstance" (ea_cons (ed_n 1 rfl (ea_cons (ed_cls "bool" (ea_nil (cs_isi ht k1 ⟨_, rfl, os_neB ⟨_, rfl, fun _ => ?_, fun h => ?_⟩⟩)))))))
      · refine tw_or1 (tx_cmp ?_)
        refine ed_of (ex_callB "isinstance" (ea_cons (ed_n 0 rfl (ea_cons (ed_cls "int" (ea_nil (cs_isi ht k2 ⟨_, rfl, ?_⟩)))))))
        refine ed_of (ex_callB "isinstance" (ea_cons (ed_n 1 rfl (ea_cons (ed_cls "int" (ea_nil (cs_isi ht k2 ⟨_, rfl, os_neB ⟨_, rfl, fun h => ?_, fun _ => ?_⟩⟩)))))))
        · simp at h
        · refine ssx_nil (ssx_one (sx_ret (ex_cmp (ed_n 0 rfl (ed_n 1 rfl (os_eqD (n := 0) (m := 0) hs.pl hs.pl (by decide) (by decide) ?_))))))
          rw [eqv_same (n := 0) hs.pl]
          exact ⟨_, .dat (.dat .nil), q⟩
      · simp at h
    have sc : Sc d → SSX (cxOf (CX P w) P w K mg base nLawSame "_law_same" (defScope sLawSame) f cdv A fr s H E) (BodyZ T [.dat d, .dat d] Z) ([.dat d, .dat d] ++ List.replicate (nLawSame.length - pLawSame.length) .any) (defBody sLawSame) (BodyE [.dat d, .dat d] Post) := fun hs => by
      cases hs with
      | non => exact scal "NoneType" false false .non .non (by decide +kernel) (by decide +kernel) (by decide +kernel)
      | bl b => exact scal "bool" true true (.bl b) (.bl b) (by decide +kernel) (by decide +kernel) (by decide +kernel)
      | int i => exact scal "int" false true (.int i) (.int i) (by decide +kernel) (by decide +kernel) (by decide +kernel)
      | str x hx => exact scal "str" false false (.str x hx) (.str x) (by decide +kernel) (by decide +kernel) (by decide +kernel)
    -- lists, tuples
    have seq : ∀ U b1 b2 ds, (d = .lst ds ∨ d = .tup ds) → TyD d U → kitAnyB U ["list", "tuple"] = some true → kitB U "list" = some b1 → kitB U "tuple" = some b2 → ds.length ≤ 1000000 → (∀ x ∈ ds, ∃ m, n = m + 1 ∧ Sm m x) →
        SSX (cxOf (CX P w) P w K mg base nLawSame "_law_same" (defScope sLawSame) f cdv A fr s H E) (BodyZ T [.dat d, .dat d] Z) ([.dat d, .dat d] ++ List.replicate (nLawSame.length - pLawSame.length) .any) (defBody sLawSame) (BodyE [.dat d, .dat d] Post) := by
      intro U b1 b2 ds hds ht k0 k1 k2 hz hx
      have hseq : ∃ l, (SD.dat d).seq = some (l, ds) := by rcases hds with rfl | rfl; exact ⟨_, rfl⟩; exact ⟨_, rfl⟩
      obtain ⟨l, hseq⟩ := hseq
      refine ssx_cons (sx_if (tx_val (ex_isiT (cs := ["list", "tuple"]) ?_ (by decide))))
      refine ed_n 1 rfl (ea_cons (ed_cls "list" (ea_cons (ed_cls "tuple" (ea_nil ?_)))))
      refine ⟨U, true, rfl, ht, k0, _, rfl, fun _ => ?_, fun h => ?_⟩
      rotate_left
      · cases h
      refine ssx_cons (sx_if (tx_w (tw_or (tx_cmp ?_))))
      refine ed_of (ex_callB "isinstance" (ea_cons (ed_n 0 rfl (ea_cons (ed_cls "list" (ea_nil (cs_isi ht k1 ⟨_, rfl, ?_⟩)))))))
      refine ed_of (ex_callB "isinstance" (ea_cons (ed_n 1 rfl (ea_cons (ed_cls "list" (ea_nil (cs_isi ht k1 ⟨_, rfl, os_neB ⟨_, rfl, fun _ => ?_, fun h => ?_⟩⟩)))))))
      · refine tw_or1 (tx_cmp ?_)
        refine ed_of (ex_callB "isinstance" (ea_cons (ed_n 0 rfl (ea_cons (ed_cls "tuple" (ea_nil (cs_isi ht k2 ⟨_, rfl, ?_⟩)))))))
        refine ed_of (ex_callB "isinstance" (ea_cons (ed_n 1 rfl (ea_cons (ed_cls "tuple" (ea_nil (cs_isi ht k2 ⟨_, rfl, os_neB ⟨_, rfl, fun h => ?_, fun _ => ?_⟩⟩)))))))
        · simp at h
        · refine ssx_nil (ssx_one (sx_ret (ex_and (ed_of (ex_cmp ?_)))))
          refine ed_of (ex_seqB "len" (es_of (ex_of (ed_n 0 rfl ⟨_, _, hseq, cq_len ⟨_, rfl, ?_⟩⟩))))
          refine ed_of (ex_seqB "len" (es_of (ex_of (ed_n 1 rfl ⟨_, _, hseq, cq_len ⟨_, rfl, os_eq ⟨_, rfl, _, rfl, fun _ => ?_, fun h => ?_⟩⟩⟩))))
          · refine ex_one (ex_seqB "all" (es_of (ex_lc [("one", 2), ("two", 3)] (ei_z (ea_cons (ed_n 0 rfl (ea_cons (ed_n 1 rfl (ea_nil ⟨ds, ds, by rcases hds with rfl | rfl; exact .inl rfl; exact .inr rfl, ?_⟩)))))))))
            rw [zip_same]
            refine lc_map ds _ (fun _ => .bl true) hz (by exact trivial) ?_ ?_
            · intro x hxs s H0 C cl fp
              obtain ⟨m, hm', hsm⟩ := hx x hxs
              subst hm'
              have Rec : Fn T P w K mg base (m + 1) "_law_same" "_law_same" sLawSame pLawSame (spSame m) := ⟨f, fd, hm, F, ih m rfl⟩
              refine gx_tup (gxs_cons (gx_n 2 (gxs_cons (gx_n 3 (gxs_nil ?_)))))
              intro s H0 C cl fp
              refine ed_of (ex_call Rec g bLawSame (ea_cons (ed_n 2 rfl (ea_cons (ed_n 3 rfl (ea_nil ⟨x, rfl, hsm, _, rfl, rfl, rfl⟩))))))
            · intro p
              refine ⟨_, _, rfl, cq_all ?_⟩
              have e : (ds.all fun _ => true) = true := by simp
              rw [e]
              exact ⟨_, .dat (.dat .nil), q⟩
          · simp at h
      · simp at h
    cases n with
    | zero => exact sc hd
    | succ n =>
      rcases hd with hd | ⟨ds, rfl | rfl, hz, hx⟩
      · exact sc hd
      · exact seq "list" true false ds (.inl rfl) (.lst ds) (by decide +kernel) (by decide +kernel) (by decide +kernel) hz fun x hxs => ⟨n, rfl, hx x hxs⟩
      · exact seq "tuple" false true ds (.inr rfl) (.tup ds) (by decide +kernel) (by decide +kernel) (by decide +kernel) hz fun x hxs => ⟨n, rfl, hx x hxs⟩
  induction n with
  | zero => exact step 0 fun m e => by omega
  | succ n ih => exact step (n + 1) fun m e => by cases e; exact ih
end
end K2

namespace K2
/-! ranks by determinants: plain law, rows of up to three numbers -/
def co (p : Nat) (r : List Int) : Int := r.getD p 0
def c0 (a b : List Int) : Int := co 1 a * co 2 b - co 2 a * co 1 b
def c1 (a b : List Int) : Int := co 2 a * co 0 b - co 0 a * co 2 b
def c2 (a b : List Int) : Int := co 0 a * co 1 b - co 1 a * co 0 b
def dt (a b c : List Int) : Int := co 0 a * c0 b c + co 1 a * c1 b c + co 2 a * c2 b c
def nz (a : List Int) : Prop := co 0 a ≠ 0 ∨ co 1 a ≠ 0 ∨ co 2 a ≠ 0
def cz (a b : List Int) : Prop := c0 a b ≠ 0 ∨ c1 a b ≠ 0 ∨ c2 a b ≠ 0
def P1 (L : List (List Int)) : Prop := ∃ a ∈ L, nz a
def P2 (L : List (List Int)) : Prop := ∃ a ∈ L, ∃ b ∈ L, cz a b
def P3 (L : List (List Int)) : Prop := ∃ a ∈ L, ∃ b ∈ L, ∃ c ∈ L, dt a b c ≠ 0
open Classical in
noncomputable def rk (L : List (List Int)) : Int := if P3 L then 3 else if P2 L then 2 else if P1 L then 1 else 0
theorem cz_nz {a b : List Int} (h : cz a b) : nz a := by
  unfold nz
  unfold cz c0 c1 c2 at h
  apply Classical.byContradiction
  intro n
  have e0 : co 0 a = 0 := by apply Classical.byContradiction; intro z; exact n (.inl z)
  have e1 : co 1 a = 0 := by apply Classical.byContradiction; intro z; exact n (.inr (.inl z))
  have e2 : co 2 a = 0 := by apply Classical.byContradiction; intro z; exact n (.inr (.inr z))
  rw [e0, e1, e2] at h
  simp at h
theorem not_cz {a b : List Int} (h : ¬ cz a b) : c0 a b = 0 ∧ c1 a b = 0 ∧ c2 a b = 0 := by
  unfold cz at h
  refine ⟨?_, ?_, ?_⟩ <;> (apply Classical.byContradiction; intro z; exact h (by simp [z]))
theorem dt_cz {a b c : List Int} (h : dt a b c ≠ 0) : cz b c := by
  apply Classical.byContradiction
  intro n
  obtain ⟨e0, e1, e2⟩ := not_cz n
  unfold dt at h
  rw [e0, e1, e2] at h
  simp at h
theorem p3_p2 {L : List (List Int)} (h : P3 L) : P2 L := let ⟨a, ha, b, hb, c, hc, q⟩ := h; ⟨b, hb, c, hc, dt_cz q⟩
theorem p2_p1 {L : List (List Int)} (h : P2 L) : P1 L := let ⟨a, ha, b, hb, q⟩ := h; ⟨a, ha, cz_nz q⟩
theorem rk3 {L : List (List Int)} (h : P3 L) : rk L = 3 := by unfold rk; exact if_pos h
theorem rk2 {L : List (List Int)} (h : ¬ P3 L) (h2 : P2 L) : rk L = 2 := by unfold rk; rw [if_neg h, if_pos h2]
theorem rk1 {L : List (List Int)} (h2 : ¬ P2 L) (h1 : P1 L) : rk L = 1 := by unfold rk; rw [if_neg fun z => h2 (p3_p2 z), if_neg h2, if_pos h1]
theorem rk0 {L : List (List Int)} (h1 : ¬ P1 L) : rk L = 0 := by unfold rk; rw [if_neg fun z => h1 (p2_p1 (p3_p2 z)), if_neg fun z => h1 (p2_p1 z), if_neg h1]
/-- x is s times y -/
def mul (x : List Int) (s : Int) (y : List Int) : Prop := co 0 x = s * co 0 y ∧ co 1 x = s * co 1 y ∧ co 2 x = s * co 2 y
def Sub (L L' : List (List Int)) : Prop := ∀ x ∈ L', (∃ y ∈ L, ∃ s, mul x s y) ∨ (co 0 x = 0 ∧ co 1 x = 0 ∧ co 2 x = 0)
theorem sub1 {L L' : List (List Int)} (h : Sub L L') (p : P1 L') : P1 L := by
  obtain ⟨a, ha, n⟩ := p
  rcases h a ha with ⟨y, hy, s, e0, e1, e2⟩ | ⟨e0, e1, e2⟩
  · refine ⟨y, hy, ?_⟩
    unfold nz at n ⊢
    rcases n with n | n | n
    · exact .inl fun z => n (by rw [e0, z]; simp)
    · exact .inr (.inl fun z => n (by rw [e1, z]; simp))
    · exact .inr (.inr fun z => n (by rw [e2, z]; simp))
  · unfold nz at n
    rw [e0, e1, e2] at n
    simp at n
theorem sub2 {L L' : List (List Int)} (h : Sub L L') (p : P2 L') : P2 L := by
  obtain ⟨a, ha, b, hb, n⟩ := p
  rcases h a ha with ⟨y, hy, s, e0, e1, e2⟩ | ⟨e0, e1, e2⟩
  · rcases h b hb with ⟨z, hz, t, f0, f1, f2⟩ | ⟨f0, f1, f2⟩
    · refine ⟨y, hy, z, hz, Classical.byContradiction fun m => ?_⟩
      obtain ⟨g0, g1, g2⟩ := not_cz m
      unfold c0 at g0; unfold c1 at g1; unfold c2 at g2
      unfold cz c0 c1 c2 at n
      rw [e0, e1, e2, f0, f1, f2] at n
      grind
    · unfold cz c0 c1 c2 at n
      rw [f0, f1, f2] at n
      simp at n
  · unfold cz c0 c1 c2 at n
    rw [e0, e1, e2] at n
    simp at n
theorem sub3 {L L' : List (List Int)} (h : Sub L L') (p : P3 L') : P3 L := by
  obtain ⟨a, ha, b, hb, c, hc, n⟩ := p
  rcases h a ha with ⟨y, hy, s, e0, e1, e2⟩ | ⟨e0, e1, e2⟩
  · rcases h b hb with ⟨z, hz, t, f0, f1, f2⟩ | ⟨f0, f1, f2⟩
    · rcases h c hc with ⟨u, hu, r, g0, g1, g2⟩ | ⟨g0, g1, g2⟩
      · refine ⟨y, hy, z, hz, u, hu, fun m => n ?_⟩
        unfold dt c0 c1 c2 at m ⊢
        rw [e0, e1, e2, f0, f1, f2, g0, g1, g2]
        grind
      · unfold dt c0 c1 c2 at n
        rw [g0, g1, g2] at n
        simp at n
    · unfold dt c0 c1 c2 at n
      rw [f0, f1, f2] at n
      simp at n
  · unfold dt at n
    rw [e0, e1, e2] at n
    simp at n
theorem rk_same {L L' : List (List Int)} (h : Sub L L') (h' : Sub L' L) : rk L = rk L' := by
  have e1 : P1 L ↔ P1 L' := ⟨sub1 h', sub1 h⟩
  have e2 : P2 L ↔ P2 L' := ⟨sub2 h', sub2 h⟩
  have e3 : P3 L ↔ P3 L' := ⟨sub3 h', sub3 h⟩
  by_cases h3 : P3 L
  · rw [rk3 h3, rk3 (e3.mp h3)]
  · by_cases h2 : P2 L
    · rw [rk2 h3 h2, rk2 (fun z => h3 (e3.mpr z)) (e2.mp h2)]
    · by_cases h1 : P1 L
      · rw [rk1 h2 h1, rk1 (fun z => h2 (e2.mpr z)) (e1.mp h1)]
      · rw [rk0 h1, rk0 (fun z => h1 (e1.mpr z))]
theorem sub_mem {L L' : List (List Int)} (h : ∀ x ∈ L', x ∈ L) : Sub L L' := fun x hx => .inl ⟨x, h x hx, 1, by simp [mul]⟩
def D9 (a0 a1 a2 b0 b1 b2 d0 d1 d2 : Int) : Int := a0 * (b1 * d2 - b2 * d1) + a1 * (b2 * d0 - b0 * d2) + a2 * (b0 * d1 - b1 * d0)
theorem d9_split {h t u v : List Int} {x y z : Int} : D9 (co 0 t + x * co 0 h) (co 1 t + x * co 1 h) (co 2 t + x * co 2 h) (co 0 u + y * co 0 h) (co 1 u + y * co 1 h) (co 2 u + y * co 2 h) (co 0 v + z * co 0 h) (co 1 v + z * co 1 h) (co 2 v + z * co 2 h) =
    dt t u v + x * dt h u v - y * dt h t v + z * dt h t u := by
  unfold D9 dt c0 c1 c2
  grind
theorem d9_two {h0 h1 h2 r0 r1 r2 s0 s1 s2 P x y : Int} : D9 h0 h1 h2 (P * r0 - x * h0) (P * r1 - x * h1) (P * r2 - x * h2) (P * s0 - y * h0) (P * s1 - y * h1) (P * s2 - y * h2) = P * P * D9 h0 h1 h2 r0 r1 r2 s0 s1 s2 := by
  unfold D9; grind
theorem d9_one {h0 h1 h2 r0 r1 r2 s0 s1 s2 P x : Int} : D9 h0 h1 h2 (P * r0 - x * h0) (P * r1 - x * h1) (P * r2 - x * h2) s0 s1 s2 = P * D9 h0 h1 h2 r0 r1 r2 s0 s1 s2 := by
  unfold D9; grind
theorem d9_onr {h0 h1 h2 r0 r1 r2 s0 s1 s2 P y : Int} : D9 h0 h1 h2 r0 r1 r2 (P * s0 - y * h0) (P * s1 - y * h1) (P * s2 - y * h2) = P * D9 h0 h1 h2 r0 r1 r2 s0 s1 s2 := by
  unfold D9; grind
theorem d9_all {a0 a1 a2 b0 b1 b2 d0 d1 d2 P : Int} : P * P * P * D9 a0 a1 a2 b0 b1 b2 d0 d1 d2 = D9 (P * a0) (P * a1) (P * a2) (P * b0) (P * b1) (P * b2) (P * d0) (P * d1) (P * d2) := by
  unfold D9; grind
theorem two_zero {P a b h k x y u v : Int} (hP : P ≠ 0) (e1 : P * a = x * h) (e2 : P * b = y * h) (f1 : P * u = x * k) (f2 : P * v = y * k) : a * v - u * b = 0 := by
  have : P * P * (a * v - u * b) = 0 := by
    have : P * P * (a * v - u * b) = (P * a) * (P * v) - (P * u) * (P * b) := by grind
    rw [this, e1, e2, f1, f2]
    grind
  rcases Int.mul_eq_zero.mp this with q | q
  · rcases Int.mul_eq_zero.mp q with q | q <;> exact absurd q hP
  · exact q
theorem cross_back {h0 h1 h2 r0 r1 r2 P x y rq : Int} (g0 : h1 * r2 - h2 * r1 = 0) (g1 : h2 * r0 - h0 * r2 = 0) (g2 : h0 * r1 - h1 * r0 = 0) (hp : (P = h0 ∧ x = r0) ∨ (P = h1 ∧ x = r1) ∨ (P = h2 ∧ x = r2))
    (hy : (y = h0 ∧ rq = r0) ∨ (y = h1 ∧ rq = r1) ∨ (y = h2 ∧ rq = r2)) : P * rq - x * y = 0 := by
  rcases hp with ⟨rfl, rfl⟩ | ⟨rfl, rfl⟩ | ⟨rfl, rfl⟩ <;> rcases hy with ⟨rfl, rfl⟩ | ⟨rfl, rfl⟩ | ⟨rfl, rfl⟩ <;> grind
theorem sub_zero2 {s t a b c d : Int} (h : a * d - b * c = 0) : s * a * (t * d) - s * b * (t * c) = 0 := by
  have : s * a * (t * d) - s * b * (t * c) = s * t * (a * d - b * c) := by grind
  rw [this, h]; simp
/-- one step: h with a number other than 0 at p; the others brought to 0 there -/
def gone (p : Nat) (h r e : List Int) : Prop := ∀ q, q < 3 → co q e = co p h * co q r - co p r * co q h
theorem rk_step {L E : List (List Int)} {p : Nat} {h : List Int} (hp : p < 3) (hL : h ∈ L) (hh : co p h ≠ 0) (hE : ∀ e ∈ E, ∃ r ∈ L, gone p h r e ∨ (e = r ∧ co p r = 0)) (hB : ∀ r ∈ L, (∃ e ∈ E, gone p h r e ∨ (e = r ∧ co p r = 0)) ∨ r = h) : rk L = 1 + rk E := by
  have zero : ∀ e ∈ E, co p e = 0 := by
    intro e he
    obtain ⟨r, hr, g | ⟨rfl, g⟩⟩ := hE e he
    · rw [g p hp, Int.mul_comm]; exact Int.sub_self _
    · exact g
  have one : P1 L := ⟨h, hL, by
    unfold nz
    rcases (by omega : p = 0 ∨ p = 1 ∨ p = 2) with rfl | rfl | rfl
    · exact .inl hh
    · exact .inr (.inl hh)
    · exact .inr (.inr hh)⟩
  have no3 : ¬ P3 E := by
    rintro ⟨a, ha, b, hb, c, hc, n⟩
    have za := zero a ha
    have zb := zero b hb
    have zc := zero c hc
    apply n
    unfold dt c0 c1 c2
    rcases (by omega : p = 0 ∨ p = 1 ∨ p = 2) with rfl | rfl | rfl
    · rw [za, zb, zc]; grind
    · rw [za, zb, zc]; grind
    · rw [za, zb, zc]; grind
  -- each row, times h's number, is its row in E and so many times h
  have two : P2 L ↔ P1 E := by
    constructor
    · rintro ⟨a, ha, b, hb, n⟩
      apply Classical.byContradiction
      intro m
      have all : ∀ r ∈ L, ∀ q, q < 3 → co p h * co q r = co p r * co q h := by
        intro r hr q hq
        have ez : ∀ e ∈ E, co q e = 0 := by
          intro e he
          apply Classical.byContradiction
          intro z
          apply m
          refine ⟨e, he, ?_⟩
          unfold nz
          rcases (by omega : q = 0 ∨ q = 1 ∨ q = 2) with rfl | rfl | rfl
          · exact .inl z
          · exact .inr (.inl z)
          · exact .inr (.inr z)
        rcases hB r hr with ⟨e, he, g | ⟨rfl, g⟩⟩ | rfl
        · have := g q hq
          rw [ez e he] at this
          omega
        · rw [ez e he, g]; simp
        · rfl
      have a0 := all a ha 0 (by omega)
      have a1 := all a ha 1 (by omega)
      have a2 := all a ha 2 (by omega)
      have b0 := all b hb 0 (by omega)
      have b1 := all b hb 1 (by omega)
      have b2 := all b hb 2 (by omega)
      have k0 : c0 a b = 0 := two_zero hh a1 b1 a2 b2
      have k1 : c1 a b = 0 := two_zero hh a2 b2 a0 b0
      have k2 : c2 a b = 0 := two_zero hh a0 b0 a1 b1
      unfold cz at n
      rw [k0, k1, k2] at n
      simp at n
    · rintro ⟨e, he, n⟩
      have ze := zero e he
      obtain ⟨r, hr, g⟩ := hE e he
      refine ⟨h, hL, r, hr, Classical.byContradiction fun m => ?_⟩
      obtain ⟨g0, g1, g2⟩ := not_cz m
      unfold c0 at g0; unfold c1 at g1; unfold c2 at g2
      have hx : ∀ z : Int, co p h * z = 0 → z = 0 := fun z hz => (Int.mul_eq_zero.mp hz).resolve_left hh
      -- e is 0, times h's number
      have zero' : ∀ q, q < 3 → co q e = 0 := by
        intro q hq
        rcases g with g | ⟨rfl, g⟩
        · have gq := g q hq
          have gp := g p hp
          rw [gq]
          exact cross_back (h0 := co 0 h) (h1 := co 1 h) (h2 := co 2 h) (r0 := co 0 r) (r1 := co 1 r) (r2 := co 2 r) g0 g1 g2 (by
            rcases (by omega : p = 0 ∨ p = 1 ∨ p = 2) with rfl | rfl | rfl
            · exact .inl ⟨rfl, rfl⟩
            · exact .inr (.inl ⟨rfl, rfl⟩)
            · exact .inr (.inr ⟨rfl, rfl⟩)) (by
            rcases (by omega : q = 0 ∨ q = 1 ∨ q = 2) with rfl | rfl | rfl
            · exact .inl ⟨rfl, rfl⟩
            · exact .inr (.inl ⟨rfl, rfl⟩)
            · exact .inr (.inr ⟨rfl, rfl⟩))
        · apply hx
          have := cross_back (h0 := co 0 h) (h1 := co 1 h) (h2 := co 2 h) (r0 := co 0 e) (r1 := co 1 e) (r2 := co 2 e) g0 g1 g2 (P := co p h) (x := co p e) (by
            rcases (by omega : p = 0 ∨ p = 1 ∨ p = 2) with rfl | rfl | rfl
            · exact .inl ⟨rfl, rfl⟩
            · exact .inr (.inl ⟨rfl, rfl⟩)
            · exact .inr (.inr ⟨rfl, rfl⟩)) (y := co q h) (rq := co q e) (by
            rcases (by omega : q = 0 ∨ q = 1 ∨ q = 2) with rfl | rfl | rfl
            · exact .inl ⟨rfl, rfl⟩
            · exact .inr (.inl ⟨rfl, rfl⟩)
            · exact .inr (.inr ⟨rfl, rfl⟩))
          rw [g] at this
          simpa using this
      unfold nz at n
      rw [zero' 0 (by omega), zero' 1 (by omega), zero' 2 (by omega)] at n
      simp at n
  have three : P3 L ↔ P2 E := by
    constructor
    · rintro ⟨a, ha, b, hb, c, hc, n⟩
      have tell : ∀ r ∈ L, ∃ t : List Int, (∀ q, q < 3 → co p h * co q r = co q t + co p r * co q h) ∧ Sub E [t] := by
        intro r hr
        rcases hB r hr with ⟨e, he, g | ⟨rfl, g⟩⟩ | rfl
        · refine ⟨e, fun q hq => by rw [g q hq]; omega, fun x hx => ?_⟩
          rw [List.mem_singleton.mp hx]
          exact .inl ⟨e, he, 1, by simp [mul]⟩
        · refine ⟨[co p h * co 0 e, co p h * co 1 e, co p h * co 2 e], fun q hq => ?_, fun x hx => ?_⟩
          · rw [g]
            rcases (by omega : q = 0 ∨ q = 1 ∨ q = 2) with rfl | rfl | rfl <;> simp [co]
          · rw [List.mem_singleton.mp hx]
            exact .inl ⟨e, he, co p h, by simp [mul, co]⟩
        · refine ⟨[0, 0, 0], fun q hq => ?_, fun x hx => ?_⟩
          · rcases (by omega : q = 0 ∨ q = 1 ∨ q = 2) with rfl | rfl | rfl <;> simp [co]
          · rw [List.mem_singleton.mp hx]
            exact .inr (by simp [co])
      obtain ⟨ta, ea, sa⟩ := tell a ha
      obtain ⟨tb, eb, sb⟩ := tell b hb
      obtain ⟨tc, ec, sc⟩ := tell c hc
      apply Classical.byContradiction
      intro m
      have sT : Sub E [ta, tb, tc] := by
        intro x hx
        simp only [List.mem_cons, List.not_mem_nil, or_false] at hx
        rcases hx with rfl | rfl | rfl
        · exact sa _ (by simp)
        · exact sb _ (by simp)
        · exact sc _ (by simp)
      have none : ∀ x ∈ [ta, tb, tc], ∀ y ∈ [ta, tb, tc], c0 x y = 0 ∧ c1 x y = 0 ∧ c2 x y = 0 := fun x hx y hy => not_cz fun z => m (sub2 sT ⟨x, hx, y, hy, z⟩)
      obtain ⟨u0, u1, u2⟩ := none tb (by simp) tc (by simp)
      obtain ⟨v0, v1, v2⟩ := none ta (by simp) tc (by simp)
      obtain ⟨w0, w1, w2⟩ := none ta (by simp) tb (by simp)
      have a0 := ea 0 (by omega); have a1 := ea 1 (by omega); have a2 := ea 2 (by omega)
      have b0 := eb 0 (by omega); have b1 := eb 1 (by omega); have b2 := eb 2 (by omega)
      have d0 := ec 0 (by omega); have d1 := ec 1 (by omega); have d2 := ec 2 (by omega)
      have s3 : co p h * co p h * co p h * dt a b c = D9 (co p h * co 0 a) (co p h * co 1 a) (co p h * co 2 a) (co p h * co 0 b) (co p h * co 1 b) (co p h * co 2 b) (co p h * co 0 c) (co p h * co 1 c) (co p h * co 2 c) := by
        exact d9_all
      rw [a0, a1, a2, b0, b1, b2, d0, d1, d2, d9_split] at s3
      have z0 : dt ta tb tc = 0 := by unfold dt; rw [u0, u1, u2]; simp
      have z1 : dt h tb tc = 0 := by unfold dt; rw [u0, u1, u2]; simp
      have z2 : dt h ta tc = 0 := by unfold dt; rw [v0, v1, v2]; simp
      have z3 : dt h ta tb = 0 := by unfold dt; rw [w0, w1, w2]; simp
      rw [z0, z1, z2, z3] at s3
      have s3 : co p h * co p h * co p h * dt a b c = 0 := by rw [s3]; simp
      rcases Int.mul_eq_zero.mp s3 with q | q
      · rcases Int.mul_eq_zero.mp q with q | q
        · rcases Int.mul_eq_zero.mp q with q | q <;> exact hh q
        · exact hh q
      · exact n q
    · rintro ⟨e, he, f, hf, n⟩
      have ze := zero e he
      have zf := zero f hf
      obtain ⟨r, hr, g⟩ := hE e he
      obtain ⟨s, hs, k⟩ := hE f hf
      refine ⟨h, hL, r, hr, s, hs, fun m => ?_⟩
      have m : D9 (co 0 h) (co 1 h) (co 2 h) (co 0 r) (co 1 r) (co 2 r) (co 0 s) (co 1 s) (co 2 s) = 0 := m
      have big : dt h e f = 0 := by
        show D9 (co 0 h) (co 1 h) (co 2 h) (co 0 e) (co 1 e) (co 2 e) (co 0 f) (co 1 f) (co 2 f) = 0
        rcases g with g | ⟨rfl, g⟩
        · rw [g 0 (by omega), g 1 (by omega), g 2 (by omega)]
          rcases k with k | ⟨rfl, k⟩
          · rw [k 0 (by omega), k 1 (by omega), k 2 (by omega), d9_two, m]; simp
          · rw [d9_one, m]; simp
        · rcases k with k | ⟨rfl, k⟩
          · rw [k 0 (by omega), k 1 (by omega), k 2 (by omega), d9_onr, m]; simp
          · exact m
      have only : ∀ z : Int, co p h * z = 0 → z = 0 := fun z hz => (Int.mul_eq_zero.mp hz).resolve_left hh
      unfold cz at n
      unfold dt at big
      rcases (by omega : p = 0 ∨ p = 1 ∨ p = 2) with rfl | rfl | rfl
      · have n1 : c1 e f = 0 := by unfold c1; rw [ze, zf]; simp
        have n2 : c2 e f = 0 := by unfold c2; rw [ze, zf]; simp
        rw [n1, n2] at n big
        have := only (c0 e f) (by simpa using big)
        simp [this] at n
      · have n1 : c0 e f = 0 := by unfold c0; rw [ze, zf]; simp
        have n2 : c2 e f = 0 := by unfold c2; rw [ze, zf]; simp
        rw [n1, n2] at n big
        have := only (c1 e f) (by simpa using big)
        simp [this] at n
      · have n1 : c0 e f = 0 := by unfold c0; rw [ze, zf]; simp
        have n2 : c1 e f = 0 := by unfold c1; rw [ze, zf]; simp
        rw [n1, n2] at n big
        have := only (c2 e f) (by simpa using big)
        simp [this] at n
  by_cases q2 : P2 E
  · rw [rk3 (three.mpr q2), rk2 no3 q2]; rfl
  · have n3 : ¬ P3 L := fun z => q2 (three.mp z)
    by_cases q1 : P1 E
    · rw [rk2 n3 (two.mpr q1), rk1 q2 q1]; rfl
    · rw [rk1 (fun z => q1 (two.mp z)) one, rk0 q1]; rfl
end K2

namespace K2
open PySem L2 Y
variable [I : NmC]
/-! rank_of, walked -/
def row (r : List Int) : D := .tup (r.map .int)
theorem row_of {α : Type} (zs : List α) (f : α → Int) : (D.tup (zs.map fun z => .int (f z))) = row (zs.map f) := by unfold row; rw [List.map_map]; rfl
def sq (l : Bool) (ds : List D) : D := if l = true then .lst ds else .tup ds
theorem zip_rows (xs ys : List Int) : zipD (xs.map .int) (ys.map .int) = (xs.zip ys).map fun p => .tup [.int p.1, .int p.2] := by
  unfold zipD
  rw [List.zipWith_map, List.zip, List.map_zipWith]
def moreOf (xs : List Int) (s : Int) (ys : List Int) : List Int := (xs.zip ys).map fun p => p.1 + s * p.2
def spMore : FSp := fun A Post _ => ∃ (l : Bool) (xs ys : List Int) (s : Int), A = [.dat (sq l (xs.map .int)), .dat (.int s), .dat (row ys)] ∧ xs.length ≤ 1000 ∧ (∀ y ∈ ys, CMulW s y) ∧ Post (.dat (row (moreOf xs s ys))) A
def Bits (n : Nat) (r : List Int) : Prop := ∀ x ∈ r, x.natAbs < 2 ^ n
def spRank : FSp := fun A Post _ => ∃ (l : Bool) (rows : List (List Int)) (wd : Nat), A = [.dat (sq l (rows.map row))] ∧ wd ≤ 3 ∧ rows.length ≤ 1000 ∧ (∀ r ∈ rows, r.length = wd ∧ Bits 1000 r) ∧ Post (.dat (.int (rk rows))) A
section
variable {T : List Addr} {P : Program} {w : World} {K : PySem.W.Frag} {mg : Str → Option Value} {base : Heap} {f : Addr} {fd : FuncData}
theorem ok_more (F : Fun K "more_of" "more_of" sMoreOf f fd) (no : ∀ x ∈ bnames, mg x = none) : GOk P w K mg base 1 f fd pMoreOf (SpOf K T spMore) := by
  refine g_of F scMoreOf no (fun A Post Z h => by obtain ⟨_, _, _, _, rfl, _⟩ := h; rfl) (by decide) ?_
  rintro cdv A fr s H E cok g B Post Z ⟨l, xs, ys, st, rfl, hl, hm, q⟩
  refine ssx_one (sx_ret (ex_seqT "tuple" (es_of (ex_lc [("mine", 3), ("its", 4)] (ei_zB ?_)))))
  refine ea_cons (ed_n 0 rfl (ea_cons (ed_n 2 rfl (ea_nil ⟨l, false, _, _, rfl, ?_⟩))))
  rw [zip_rows]
  refine lc_map (xs.zip ys) _ (fun p => .int (p.1 + st * p.2)) ?_ (by exact trivial) ?_ ?_
  · rw [List.length_zip]; omega
  · intro p hp s H0 C cl fp
    refine gx_tup (gxs_cons (gx_n 3 (gxs_cons (gx_n 4 (gxs_nil ?_)))))
    intro s H0 C cl fp
    refine ed_of (ex_bin (ed_n 3 rfl (ed_of (ex_bin (ed_n 1 rfl (ed_n 4 rfl (os_mul (hm p.2 (List.of_mem_zip hp).2) ⟨_, rfl, os_add ⟨_, rfl, rfl, rfl⟩⟩)))))))
  · intro p
    refine ⟨_, _, rfl, cq_tup ?_⟩
    rw [row_of]
    exact ⟨_, .dat (.dat (.dat .nil)), q⟩
/-! what the loop keeps -/
def bt (i : Nat) : Nat := 1001 * 2 ^ i - 1
theorem bt0 : bt 0 = 1000 := rfl
theorem bt1 : bt 1 = 2001 := rfl
theorem bt2 : bt 2 = 4003 := rfl
theorem bt3 : bt 3 = 8007 := rfl
theorem filter_two {α : Type} (L : List α) (c : α → Bool) : (L.filter c).length + (L.filter fun z => !c z).length = L.length := by
  induction L with
  | nil => rfl
  | cons x r ih => cases h : c x <;> simp [List.filter_cons, h] <;> omega
structure Lp (rows : List (List Int)) (wd i : Nat) (L : List (List Int)) (r : Int) : Prop where
  len : ∀ x ∈ L, x.length = wd
  bits : ∀ x ∈ L, Bits (bt i) x
  zero : ∀ x ∈ L, ∀ q, q < i → co q x = 0
  many : L.length ≤ 1000
  rank : rk rows = r + rk L
theorem co_get {x : List Int} {i : Nat} (h : i < x.length) : x[i] = co i x := by unfold co; rw [List.getD_eq_getElem?_getD, List.getElem?_eq_getElem h]; rfl
theorem co_more {xs ys : List Int} {s c : Int} {q : Nat} (h : xs.length = ys.length) : co q (moreOf (xs.map fun x => c * x) s ys) = c * co q xs + s * co q ys := by
  unfold co moreOf
  rw [List.getD_eq_getElem?_getD, List.getD_eq_getElem?_getD, List.getD_eq_getElem?_getD, List.getElem?_map]
  by_cases hq : q < xs.length
  · have h1 : q < ys.length := by omega
    have h2 : q < ((xs.map fun x => c * x).zip ys).length := by rw [List.length_zip, List.length_map]; omega
    rw [List.getElem?_eq_getElem h2, List.getElem?_eq_getElem hq, List.getElem?_eq_getElem h1]
    simp
  · rw [List.getElem?_eq_none (by rw [List.length_zip, List.length_map]; omega), List.getElem?_eq_none (by omega), List.getElem?_eq_none (by omega)]
    simp
theorem len_more {xs ys : List Int} {s : Int} (h : xs.length = ys.length) : (moreOf xs s ys).length = xs.length := by unfold moreOf; rw [List.length_map, List.length_zip]; omega
theorem bits_more {n : Nat} {xs ys : List Int} {c s : Int} (hx : Bits n xs) (hy : Bits n ys) (hc : c.natAbs < 2 ^ n) (hs : s.natAbs < 2 ^ n) : Bits (2 * n + 1) (moreOf (xs.map fun x => c * x) s ys) := by
  intro z hz
  unfold moreOf at hz
  obtain ⟨p, hp, rfl⟩ := List.mem_map.mp hz
  obtain ⟨h1, h2⟩ := List.of_mem_zip hp
  obtain ⟨x, h3, e⟩ := List.mem_map.mp h1
  rw [← e]
  have a1 := wide_lt hc (hx x h3)
  have a2 := wide_lt hs (hy _ h2)
  have e2 : 2 ^ (2 * n + 1) = 2 ^ (n + n) + 2 ^ (n + n) := by rw [show 2 * n + 1 = (n + n) + 1 by omega, Nat.pow_succ]; omega
  omega
theorem Lp.step {rows : List (List Int)} {wd i : Nat} {L : List (List Int)} {r : Int} (l : Lp rows wd i L r) (hi : i < wd) (hw : wd ≤ 3) {h : List Int} {t : List (List Int)} (e : L.filter (fun z => !decide (co i z = 0)) = h :: t) :
    Lp rows wd (i + 1) (L.filter (fun z => decide (co i z = 0)) ++ t.map fun z => moreOf (z.map fun x => co i h * x) (-co i z) h) (r + 1) := by
  have hm : h ∈ L.filter fun z => !decide (co i z = 0) := by rw [e]; exact List.mem_cons_self
  obtain ⟨hL, hn⟩ := List.mem_filter.mp hm
  have hn : co i h ≠ 0 := by simpa using hn
  have ht : ∀ z ∈ t, z ∈ L ∧ co i z ≠ 0 := fun z hz => by
    have : z ∈ L.filter fun z => !decide (co i z = 0) := by rw [e]; exact List.mem_cons_of_mem _ hz
    obtain ⟨h1, h2⟩ := List.mem_filter.mp this
    exact ⟨h1, by simpa using h2⟩
  have cob : ∀ z ∈ L, (co i z).natAbs < 2 ^ bt i := fun z hz => by
    have : i < z.length := by rw [l.len z hz]; exact hi
    rw [← co_get this]
    exact l.bits z hz _ (List.getElem_mem this)
  have b1 : bt (i + 1) = 2 * bt i + 1 := by
    unfold bt
    have := Nat.two_pow_pos i
    rw [Nat.pow_succ]
    omega
  have key : ∀ z ∈ L, gone i h z (moreOf (z.map fun x => co i h * x) (-co i z) h) := fun z hz q _ => by
    rw [co_more (by rw [l.len z hz, l.len h hL])]
    grind
  refine ⟨?_, ?_, ?_, ?_, ?_⟩
  · intro x hx
    rcases List.mem_append.mp hx with hx | hx
    · exact l.len x (List.mem_filter.mp hx).1
    · obtain ⟨z, hz, rfl⟩ := List.mem_map.mp hx
      rw [len_more (by rw [List.length_map, l.len z (ht z hz).1, l.len h hL]), List.length_map, l.len z (ht z hz).1]
  · intro x hx
    rw [b1]
    rcases List.mem_append.mp hx with hx | hx
    · intro y hy
      exact Nat.lt_of_lt_of_le (l.bits x (List.mem_filter.mp hx).1 y hy) (Nat.pow_le_pow_right (by decide) (by omega))
    · obtain ⟨z, hz, rfl⟩ := List.mem_map.mp hx
      exact bits_more (l.bits z (ht z hz).1) (l.bits h hL) (cob h hL) (by rw [Int.natAbs_neg]; exact cob z (ht z hz).1)
  · intro x hx q hq
    rcases List.mem_append.mp hx with hx | hx
    · obtain ⟨h1, h2⟩ := List.mem_filter.mp hx
      by_cases e : q = i
      · subst e; simpa using h2
      · exact l.zero x h1 q (by omega)
    · obtain ⟨z, hz, rfl⟩ := List.mem_map.mp hx
      have hz := (ht z hz).1
      rw [key z hz q (by omega)]
      by_cases e : q = i
      · subst e; grind
      · rw [l.zero z hz q (by omega), l.zero h hL q (by omega)]; simp
  · rw [List.length_append, List.length_map]
    have h1 : (L.filter fun z => decide (co i z = 0)).length + (L.filter fun z => !decide (co i z = 0)).length = L.length := by
      exact filter_two L _
    rw [e] at h1
    have h2 := l.many
    simp only [List.length_cons] at h1
    omega
  · rw [l.rank, rk_step (p := i) (h := h) (E := L.filter (fun z => decide (co i z = 0)) ++ t.map fun z => moreOf (z.map fun x => co i h * x) (-co i z) h) (by omega) hL hn ?_ ?_]
    · omega
    · intro x hx
      rcases List.mem_append.mp hx with hx | hx
      · obtain ⟨h1, h2⟩ := List.mem_filter.mp hx
        exact ⟨x, h1, .inr ⟨rfl, by simpa using h2⟩⟩
      · obtain ⟨z, hz, rfl⟩ := List.mem_map.mp hx
        exact ⟨z, (ht z hz).1, .inl (key z (ht z hz).1)⟩
    · intro z hz
      by_cases h0 : co i z = 0
      · exact .inl ⟨z, List.mem_append_left _ (List.mem_filter.mpr ⟨hz, by simpa using h0⟩), .inr ⟨rfl, h0⟩⟩
      · have : z ∈ L.filter fun z => !decide (co i z = 0) := List.mem_filter.mpr ⟨hz, by simpa using h0⟩
        rw [e] at this
        rcases List.mem_cons.mp this with rfl | hz'
        · exact .inr rfl
        · exact .inl ⟨_, List.mem_append_right _ (List.mem_map_of_mem hz'), .inl (key z hz)⟩
theorem Lp.stay {rows : List (List Int)} {wd i : Nat} {L : List (List Int)} {r : Int} (l : Lp rows wd i L r) (e : L.filter (fun z => !decide (co i z = 0)) = []) : Lp rows wd (i + 1) L r := by
  refine ⟨l.len, fun x hx y hy => Nat.lt_of_lt_of_le (l.bits x hx y hy) (Nat.pow_le_pow_right (by decide) ?_), fun x hx q hq => ?_, l.many, l.rank⟩
  · unfold bt
    have := Nat.two_pow_pos i
    rw [Nat.pow_succ]
    omega
  · by_cases h : q = i
    · subst h
      apply Classical.byContradiction
      intro n
      have : x ∈ L.filter fun z => !decide (co q z = 0) := List.mem_filter.mpr ⟨hx, by simpa using n⟩
      rw [e] at this
      cases this
    · exact l.zero x hx q (by omega)
theorem Lp.done {rows : List (List Int)} {wd : Nat} {L : List (List Int)} {r : Int} (l : Lp rows wd wd L r) : rk rows = r := by
  have z0 : ¬ P1 L := by
    rintro ⟨x, hx, n⟩
    have z : ∀ q, co q x = 0 := fun q => by
      by_cases h : q < wd
      · exact l.zero x hx q h
      · unfold co
        rw [List.getD_eq_getElem?_getD, List.getElem?_eq_none (by rw [l.len x hx]; omega)]
        rfl
    unfold nz at n
    rw [z 0, z 1, z 2] at n
    simp at n
  have := l.rank
  rw [rk0 z0] at this
  omega
end
end K2

namespace K2
open PySem L2 Y
variable [I : NmC]
section
variable {T : List Addr} {P : Program} {w : World} {K : PySem.W.Frag} {mg : Str → Option Value} {base : Heap} {f : Addr} {fd : FuncData}
theorem atI_row {x : List Int} {i : Nat} (h : i < x.length) : atI (x.map D.int) ((i : Nat) : Int) = some (.int (co i x)) := by
  rw [← co_get h]
  exact atI_nat (by rw [List.getElem?_map, List.getElem?_eq_getElem h]; rfl)
theorem seq_sq {l : Bool} {ds : List D} : (SD.dat (sq l ds)).seq = some (l, ds) := by cases l <;> rfl
/-- the state of the loop -/
def RkIn (l : Bool) (rows : List (List Int)) (wd i : Nat) (A : List SD) : Prop := ∃ (p : Addr) (L : List (List Int)) (r : Int) (s2 s4 s5 s6 s7 : SD), Lp rows wd i L r ∧
  A = [.dat (sq l (rows.map row)), .own p (.lst (L.map row)), s2, .dat (.int r), s4, s5, s6, s7, .any]
theorem ok_rank (F : Fun K "rank_of" "rank_of" sRankOf f fd) (no : ∀ x ∈ bnames, mg x = none) (Mo : Fn T P w K mg base 1 "more_of" "more_of" sMoreOf pMoreOf spMore) : GOk P w K mg base 2 f fd pRankOf (SpOf K T spRank) := by
  refine g_of F scRankOf no (fun A Post Z h => by obtain ⟨_, _, _, rfl, _⟩ := h; rfl) (by decide) ?_
  rintro cdv A fr s H E cok g B Post Z ⟨l, rows, wd, rfl, hw, hm, hr, q⟩
  refine ssx_cons (sx_setLc 1 [("row", 2)] (ei_sq 0 rfl rfl ?_))
  refine lc_map rows row row (by omega) (by exact trivial) ?_ ?_
  · intro r hr s H0 C cl fp
    refine gx_n 2 ?_
    intro s H0 C cl fp
    refine ed_of (ex_seqT "tuple" (es_of (ex_of (ed_n 2 rfl ?_))))
    exact ⟨false, r.map .int, rfl, cq_tupT ⟨_, rfl, rfl, rfl⟩⟩
  intro p
  refine ssx_cons (sx_set 3 (ex_of (ed_int ?_)))
  rcases rows with _ | ⟨r0, rest⟩
  · refine ssx_cons (sx_for (ei_r1 (ed_of (ex_if (tx_cmp (ed_of (ex_seqB "len" (es_o 1 rfl (cq_len ⟨_, rfl, ed_int (os_gt ⟨_, rfl, fun k => ?_, fun k => ?_⟩)⟩)))))))))
    · simp at k
    · refine ex_of (ed_int ⟨_, rfl, _, rfl, by decide, fun _ A' => A' = _, rfl, fun i A' _ _ => trivial, ?_, ?_⟩)
      · intro i d A' hd
        simp at hd
      · rintro A' rfl
        refine ssx_one (sx_ret (ex_of (ed_n 3 rfl ?_)))
        have := q
        rw [rk0 fun ⟨x, hx, _⟩ => by cases hx] at this
        exact ⟨_, .dat .nil, this⟩
  have h0 := hr r0 List.mem_cons_self
  have lp0 : Lp (r0 :: rest) wd 0 (r0 :: rest) 0 := ⟨fun x hx => (hr x hx).1, fun x hx => (hr x hx).2, fun x hx q hq => absurd hq (Nat.not_lt_zero _), hm, by omega⟩
  refine ssx_cons (sx_for (ei_r1 (ed_of (ex_if (tx_cmp (ed_of (ex_seqB "len" (es_o 1 rfl (cq_len ⟨_, rfl, ed_int (os_gt ⟨_, rfl, fun k => ?_, fun k => ?_⟩)⟩)))))))))
  rotate_left
  · simp at k
  refine ex_seqB "len" (es_of (ex_ixo 1 rfl (ed_int ⟨_, _, _, row r0, rfl, rfl, atI_nat (j := 0) rfl, ⟨false, r0.map .int, rfl, cq_len ⟨_, rfl, _, rfl, ?_, ?_⟩⟩⟩)))
  · rw [List.length_map, h0.1]; omega
  have el : ((((r0.map D.int).length : Nat) : Int)).toNat = wd := by rw [List.length_map, h0.1]; rfl
  rw [el]
  refine ⟨RkIn l (r0 :: rest) wd, ⟨p, _, 0, _, _, _, _, _, lp0, rfl⟩, fun i A' _ _ => trivial, ?_, ?_⟩
  · rintro i d A' hd ⟨p1, L, r, s2, s4, s5, s6, s7, lp, rfl⟩
    have hi : i < wd := by
      have := (List.getElem?_eq_some_iff.mp hd).1
      simpa using this
    rw [List.getElem?_map, List.getElem?_range hi] at hd
    cases hd
    refine gx_n 4 ?_
    have hco : ∀ z ∈ L, atI (z.map D.int) ((i : Nat) : Int) = some (.int (co i z)) := fun z hz => atI_row (by rw [lp.len z hz]; exact hi)
    refine ssx_cons (sx_setLc 5 [("row", 2)] (ei_o 1 rfl ?_))
    refine lc_filter L row (fun z => !decide (co i z = 0)) row (by have := lp.many; omega) (by exact rfl) ?_ ?_
    · intro z hz s H0 C cl fp
      refine gx_n 2 ?_
      intro s H0 C cl fp
      refine tx_cmp (ed_of (ex_ix (ed_n 2 rfl (ed_n 4 rfl (xs_t (hco z hz) ⟨_, rfl, ed_int (os_ne ⟨_, rfl, rfl, rfl, fun _ s H0 C cl fp => ed_n 2 rfl ⟨rfl, rfl⟩⟩)⟩)))))
    intro p5
    refine ssx_at (B := [_, _, _, _, _, _, _, _, _]) ?_ rfl
    cases e : L.filter (fun z => !decide (co i z = 0)) with
    | nil =>
      refine ssx_one (sx_if (tx_cmp (ed_of (ex_seqB "len" (es_o 5 rfl (cq_len ⟨_, rfl, ed_int (os_gt ⟨_, rfl, fun k => ?_, fun k => ?_⟩)⟩))))))
      · simp at k
      · exact ssx_nil ⟨p1, L, r, _, _, _, _, _, lp.stay e, rfl⟩
    | cons h t =>
      have lp2 := lp.step hi hw e
      have hin : ∀ z, z ∈ h :: t → z ∈ L := fun z hz => by rw [← e] at hz; exact (List.mem_filter.mp hz).1
      have tl : (h :: t).length ≤ L.length := by rw [← e]; exact List.length_filter_le _ _
      have fl := List.length_filter_le (fun z => decide (co i z = 0)) L
      have many := lp.many
      obtain ⟨N, hN, hN2, bits⟩ : ∃ N : Nat, 0 < N ∧ N ≤ 9000 ∧ ∀ z ∈ L, ∀ x ∈ z, x.natAbs < 2 ^ N := ⟨bt i, by
        have : i = 0 ∨ i = 1 ∨ i = 2 := by omega
        rcases this with rfl | rfl | rfl <;> decide, by
        have : i = 0 ∨ i = 1 ∨ i = 2 := by omega
        rcases this with rfl | rfl | rfl <;> decide, lp.bits⟩
      have cob : ∀ z ∈ L, (co i z).natAbs < 2 ^ N := fun z hz => by
        have : i < z.length := by rw [lp.len z hz]; exact hi
        rw [← co_get this]
        exact bits z hz _ (List.getElem_mem this)
      have hh := hin h List.mem_cons_self
      refine ssx_one (sx_if (tx_cmp (ed_of (ex_seqB "len" (es_o 5 rfl (cq_len ⟨_, rfl, ed_int (os_gt ⟨_, rfl, fun k => ?_, fun k => ?_⟩)⟩))))))
      rotate_left
      · simp at k
      refine ssx_cons (sx_asg (ed_nf 5 rfl rfl (gx_star2 (by rw [List.length_map]; simp at tl; omega) (gx_n 6 (gx_n 7 ?_)))))
      refine ssx_cons (sx_aug 3 rfl (ed_int (os_iadd ?_)))
      refine ssx_cons (sx_setLc 1 [("row", 2)] (ei_o 1 rfl ?_))
      refine lc_filter L row (fun z => decide (co i z = 0)) row (by omega) (by exact rfl) ?_ ?_
      · intro z hz s H0 C cl fp
        refine gx_n 2 ?_
        intro s H0 C cl fp
        refine tx_cmp (ed_of (ex_ix (ed_n 2 rfl (ed_n 4 rfl (xs_t (hco z hz) ⟨_, rfl, ed_int (os_eq ⟨_, rfl, rfl, rfl, fun _ s H0 C cl fp => ed_n 2 rfl ⟨rfl, rfl⟩⟩)⟩)))))
      intro p2
      refine ssx_at (B := [_, _, _, _, _, _, _, _, _]) ?_ rfl
      refine ssx_one (sx_ext 1 rfl (ed_of (ex_lc [("row", 2)] (ei_l (ed_n 7 rfl ⟨_, .inl rfl, ?_⟩)))))
      refine lc_map t row (fun z => row (moreOf (z.map fun x => co i h * x) (-co i z) h)) (by simp at tl; omega) (by exact trivial) ?_ ?_
      · intro z hz s H0 C cl fp
        refine gx_n 2 ?_
        intro s H0 C cl fp
        refine ed_at (B := [_, _, _, _, _, _, _, _, _]) ?_ rfl
        refine ed_of (ex_call Mo g bMoreOf (ea_cons (ed_of (ex_lc [("one", 8)] (ei_t (ed_n 2 rfl ⟨_, rfl, ?_⟩))))))
        have hz' := hin z (List.mem_cons_of_mem _ hz)
        have zl : z.length = wd := lp.len z hz'
        refine lc_map z _ (fun x => .int (co i h * x)) (by omega) (by exact trivial) ?_ ?_
        · intro x hx s H0 C cl fp
          refine gx_n 8 ?_
          intro s H0 C cl fp
          refine ed_at (B := [_, _, _, _, _, _, _, _, _]) ?_ rfl
          exact ed_of (ex_bin (ed_of (ex_ix (ed_n 6 rfl (ed_n 4 rfl (xs_t (hco h hh) ⟨_, rfl, ed_n 8 rfl (os_mul (wide_mul (cob h hh) (bits z hz' x hx) hN hN (by omega)) ⟨_, rfl, rfl, rfl⟩)⟩))))))
        intro p8
        refine ⟨_, rfl, ?_⟩
        refine ea_cons (ed_of (ex_un (ed_of (ex_ix (ed_n 2 rfl (ed_n 4 rfl (xs_t (hco z hz') ⟨_, rfl, us_neg ⟨_, rfl, ea_cons (ed_n 6 rfl (ea_nil ?_))⟩⟩)))))))
        refine ⟨true, z.map fun x => co i h * x, h, -co i z, by rw [List.map_map]; rfl, by rw [List.length_map]; omega, fun y hy => ?_, _, rfl, rfl, rfl⟩
        exact wide_mul (by rw [Int.natAbs_neg]; exact cob z hz') (bits h hh y hy) hN hN (by omega)
      intro p7
      refine ⟨_, rfl, _, _, _, rfl, rfl, by rw [List.length_map, List.length_map]; simp at tl; omega, ?_⟩
      refine ⟨p2, _, r + 1, ?_, ?_, ?_, ?_, ?_, lp2, ?_⟩
      rotate_left 5
      rw [List.map_append, List.map_map]
      rfl
  · rintro A' ⟨p1, L, r, s2, s4, s5, s6, s7, lp, rfl⟩
    rw [List.length_map, List.length_range] at lp
    refine ssx_one (sx_ret (ex_of (ed_n 3 rfl ?_)))
    have := q
    rw [lp.done] at this
    exact ⟨_, .dat .nil, this⟩
end
end K2

namespace K2
/-! whole sums of rows, told by their places; stepped rows -/
def cr (x : List Int) : Nat → Int := fun q => x.getD q 0
inductive Spn (L : List (List Int)) : (Nat → Int) → Prop
  | zero : Spn L fun _ => 0
  | step {v : Nat → Int} (s : Int) {x : List Int} : x ∈ L → Spn L v → Spn L fun q => s * cr x q + v q
theorem Spn.mem {L : List (List Int)} {x : List Int} (h : x ∈ L) : Spn L (cr x) := by
  have e : cr x = fun q => 1 * cr x q + (fun _ => (0 : Int)) q := by funext q; simp
  rw [e]
  exact .step 1 h .zero
theorem Spn.add {L : List (List Int)} {v w : Nat → Int} (h : Spn L v) (h2 : Spn L w) : Spn L fun q => v q + w q := by
  induction h with
  | zero =>
    have e : (fun q => (fun _ => (0 : Int)) q + w q) = w := by funext q; simp
    rw [e]
    exact h2
  | @step v s x hx _ ih =>
    have e : (fun q => (fun q => s * cr x q + v q) q + w q) = fun q => s * cr x q + (fun q => v q + w q) q := by funext q; show s * cr x q + v q + w q = s * cr x q + (v q + w q); omega
    rw [e]
    exact .step s hx ih
theorem Spn.mul {L : List (List Int)} {v : Nat → Int} (c : Int) (h : Spn L v) : Spn L fun q => c * v q := by
  induction h with
  | zero =>
    have e : (fun q => c * (fun _ : Nat => (0 : Int)) q) = fun _ => 0 := by funext q; simp
    rw [e]
    exact .zero
  | @step v s x hx _ ih =>
    have e : (fun q => c * (fun q => s * cr x q + v q) q) = fun q => (c * s) * cr x q + (fun q => c * v q) q := by funext q; show c * (s * cr x q + v q) = c * s * cr x q + c * v q; grind
    rw [e]
    exact .step _ hx ih
theorem Spn.trans {L M : List (List Int)} {v : Nat → Int} (h : Spn L v) (e : ∀ x ∈ L, Spn M (cr x)) : Spn M v := by
  induction h with
  | zero => exact .zero
  | @step v s x hx _ ih =>
    have := ((e x hx).mul s).add ih
    exact this
theorem Spn.mono {L M : List (List Int)} {v : Nat → Int} (h : Spn L v) (e : ∀ x ∈ L, x ∈ M) : Spn M v := h.trans fun x hx => .mem (e x hx)
/-- the first row apart -/
theorem Spn.split {h : List Int} {R : List (List Int)} {v : Nat → Int} (s : Spn (h :: R) v) : ∃ (c : Int) (w : Nat → Int), Spn R w ∧ v = fun q => c * cr h q + w q := by
  induction s with
  | zero => exact ⟨0, _, .zero, by funext q; simp⟩
  | @step v s x hx _ ih =>
    obtain ⟨c, w, hw, e⟩ := ih
    rcases List.mem_cons.mp hx with rfl | hx
    · refine ⟨s + c, w, hw, ?_⟩
      rw [e]
      funext q
      show s * cr x q + (c * cr x q + w q) = (s + c) * cr x q + w q
      grind
    · refine ⟨c, _, hw.step s hx, ?_⟩
      rw [e]
      funext q
      show s * cr x q + (c * cr h q + w q) = c * cr h q + (s * cr x q + w q)
      omega
theorem Spn.join {h : List Int} {R : List (List Int)} {w : Nat → Int} (c : Int) (s : Spn R w) : Spn (h :: R) fun q => c * cr h q + w q := .step c List.mem_cons_self (s.mono fun x hx => List.mem_cons_of_mem _ hx)
/-- what a row tells of another one -/
def tl (t v : Nat → Int) : Int := t 0 * v 0 + t 1 * v 1 + t 2 * v 2
theorem tl_step (t v : Nat → Int) (s : Int) (x : List Int) : tl t (fun q => s * cr x q + v q) = s * tl t (cr x) + tl t v := by unfold tl; grind
theorem tl_zero {t v : Nat → Int} {L : List (List Int)} (h : Spn L v) (z : ∀ x ∈ L, tl t (cr x) = 0) : tl t v = 0 := by
  induction h with
  | zero => simp [tl]
  | @step v s x hx _ ih => rw [tl_step, z x hx, ih]; simp
/-- rows of the span that tell nothing, where one row alone tells something -/
theorem kernel {t v : Nat → Int} {h : List Int} {R : List (List Int)} (s : Spn (h :: R) v) (hn : tl t (cr h) ≠ 0) (z : ∀ x ∈ R, tl t (cr x) = 0) (e : tl t v = 0) : Spn R v := by
  obtain ⟨c, w, hw, rfl⟩ := s.split
  rw [tl_step, tl_zero hw z] at e
  have : c = 0 := by
    rcases Int.mul_eq_zero.mp (by omega : c * tl t (cr h) = 0) with h | h
    · exact h
    · exact absurd h hn
  subst this
  have e2 : (fun q => 0 * cr h q + w q) = w := by funext q; simp
  rw [e2]
  exact hw
/-- stepped rows, the first numbers at places from p on -/
inductive Stp : Nat → List (List Int) → Prop
  | nil {p : Nat} : Stp p []
  | cons {p a : Nat} {h : List Int} {R : List (List Int)} : p ≤ a → (∀ q, q < a → cr h q = 0) → 0 < cr h a → Stp (a + 1) R → Stp p (h :: R)
theorem Stp.low {p : Nat} {L : List (List Int)} (h : Stp p L) : ∀ {v : Nat → Int}, Spn L v → ∀ q, q < p → v q = 0 := by
  have rows : ∀ {p : Nat} {L : List (List Int)}, Stp p L → ∀ x ∈ L, ∀ q, q < p → cr x q = 0 := by
    intro p L h
    induction h with
    | nil => intro x hx; cases hx
    | @cons p a h R hp hz h0 hs ih =>
      intro x hx q hq
      rcases List.mem_cons.mp hx with rfl | hx
      · exact hz q (by omega)
      · exact ih x hx q (by omega)
  intro v s
  induction s with
  | zero => intro q _; rfl
  | @step v s x hx _ ih =>
    intro q hq
    show s * cr x q + v q = 0
    rw [rows h x hx q hq, ih q hq]
    simp
/-- told by reduced numbers: h is less than each row of R at that row's first place -/
def Red (h : List Int) : List (List Int) → Prop
  | [] => True
  | r :: R => (∃ b, (∀ q, q < b → cr r q = 0) ∧ 0 < cr r b ∧ 0 ≤ cr h b ∧ cr h b < cr r b) ∧ Red h R
inductive All : List (List Int) → Prop
  | nil : All []
  | cons {h : List Int} {R : List (List Int)} : Red h R → All R → All (h :: R)
theorem first_place {r : List Int} {a b : Nat} (ha : ∀ q, q < a → cr r q = 0) (a0 : 0 < cr r a) (hb : ∀ q, q < b → cr r q = 0) (b0 : 0 < cr r b) : a = b := by
  rcases Nat.lt_trichotomy a b with h | h | h
  · have := hb a h; omega
  · exact h
  · have := ha b h; omega
/-- a sum of stepped rows that is less than each at its first place either way is of noughts -/
theorem small_zero : ∀ {p : Nat} {R : List (List Int)}, Stp p R → ∀ {h g : List Int}, Red h R → Red g R → Spn R (fun q => cr h q - cr g q) → ∀ q, cr h q - cr g q = 0
  | _, _, .nil, h, g, _, _, s => fun q => by
    have := Stp.low (p := q + 1) .nil s q (Nat.lt_succ_self q)
    exact this
  | _, _, .cons (a := a) (h := r) (R := R) hp hz h0 hs, h, g, rh, rg, s => by
    obtain ⟨⟨b, b1, b2, b3, b4⟩, rh⟩ := rh
    obtain ⟨⟨c, c1, c2, c3, c4⟩, rg⟩ := rg
    have e1 := first_place hz h0 b1 b2
    have e2 := first_place hz h0 c1 c2
    subst e1
    subst e2
    obtain ⟨k, w, hw, e⟩ := s.split
    have wa : w a = 0 := hs.low hw a (Nat.lt_succ_self a)
    have ea : cr h a - cr g a = k * cr r a + w a := congrFun e a
    have k0 : k = 0 := by
      rw [wa] at ea
      rcases Int.lt_trichotomy k 0 with hk | hk | hk
      · have : k * cr r a ≤ -1 * cr r a := Int.mul_le_mul_of_nonneg_right (by omega) (by omega)
        omega
      · exact hk
      · have : 1 * cr r a ≤ k * cr r a := Int.mul_le_mul_of_nonneg_right (by omega) (by omega)
        omega
    subst k0
    have e3 : (fun q => cr h q - cr g q) = w := by rw [e]; funext q; simp
    rw [← e3] at hw
    exact small_zero hs rh rg hw
/-- two stepped, reduced lists that have the same sums tell the same, row by row -/
theorem stp_unique : ∀ {p : Nat} {L M : List (List Int)}, Stp p L → Stp p M → All L → All M → (∀ v, Spn L v ↔ Spn M v) → L.length = M.length ∧ ∀ i : Nat, ∀ x y : List Int, L[i]? = some x → M[i]? = some y → ∀ q, cr x q = cr y q
  | p, [], [], _, _, _, _, _ => ⟨rfl, fun i x y h => by simp at h⟩
  | p, [], m :: M, _, .cons (a := a) hp hz h0 hs, _, _, e => by
    have := Stp.low (p := a + 1) (.nil) ((e _).mpr (.mem List.mem_cons_self)) a (Nat.lt_succ_self a)
    omega
  | p, l :: L, [], .cons (a := a) hp hz h0 hs, _, _, _, e => by
    have := Stp.low (p := a + 1) (.nil) ((e _).mp (.mem List.mem_cons_self)) a (Nat.lt_succ_self a)
    omega
  | p, l :: L, m :: M, .cons (a := a) hp hz h0 hs, .cons (a := b) hp' hz' h0' hs', .cons rl al, .cons rm am, e => by
    have lo : Stp a (l :: L) := .cons (Nat.le_refl a) hz h0 hs
    have mo : Stp b (m :: M) := .cons (Nat.le_refl b) hz' h0' hs'
    have ab : a = b := by
      rcases Nat.lt_trichotomy a b with h | h | h
      · have := mo.low ((e _).mp (.mem List.mem_cons_self)) a h
        omega
      · exact h
      · have := lo.low ((e _).mpr (.mem List.mem_cons_self)) b h
        omega
    subst ab
    obtain ⟨c, w, hw, ec⟩ := ((e _).mp (Spn.mem (L := l :: L) List.mem_cons_self)).split
    obtain ⟨d, u, hu, ed⟩ := ((e _).mpr (Spn.mem (L := m :: M) List.mem_cons_self)).split
    have ea : cr l a = c * cr m a + w a := congrFun ec a
    have eb : cr m a = d * cr l a + u a := congrFun ed a
    rw [hs'.low hw a (Nat.lt_succ_self a)] at ea
    rw [hs.low hu a (Nat.lt_succ_self a)] at eb
    have c1 : 1 ≤ c := by
      rcases Classical.em (c < 1) with h | h
      · have : c * cr m a ≤ 0 * cr m a := Int.mul_le_mul_of_nonneg_right (by omega) (by omega)
        omega
      · omega
    have d1 : 1 ≤ d := by
      rcases Classical.em (d < 1) with h | h
      · have : d * cr l a ≤ 0 * cr l a := Int.mul_le_mul_of_nonneg_right (by omega) (by omega)
        omega
      · omega
    have le1 : 1 * cr m a ≤ c * cr m a := Int.mul_le_mul_of_nonneg_right c1 (by omega)
    have le2 : 1 * cr l a ≤ d * cr l a := Int.mul_le_mul_of_nonneg_right d1 (by omega)
    have eq : cr l a = cr m a := by omega
    have one : c = 1 := by
      rcases Classical.em (1 < c) with h | h
      · have : 2 * cr m a ≤ c * cr m a := Int.mul_le_mul_of_nonneg_right (by omega) (by omega)
        omega
      · omega
    subst one
    have rest : ∀ v, Spn L v ↔ Spn M v := fun v => by
      constructor
      · intro s
        obtain ⟨k, x, hx, ek⟩ := ((e v).mp (s.mono fun y hy => List.mem_cons_of_mem _ hy)).split
        have va : v a = k * cr m a + x a := congrFun ek a
        rw [hs.low s a (Nat.lt_succ_self a), hs'.low hx a (Nat.lt_succ_self a)] at va
        have k0 : k = 0 := by
          rcases Int.mul_eq_zero.mp (by omega : k * cr m a = 0) with h | h
          · exact h
          · omega
        subst k0
        have : v = x := by rw [ek]; funext q; simp
        rw [this]
        exact hx
      · intro s
        obtain ⟨k, x, hx, ek⟩ := ((e v).mpr (s.mono fun y hy => List.mem_cons_of_mem _ hy)).split
        have va : v a = k * cr l a + x a := congrFun ek a
        rw [hs'.low s a (Nat.lt_succ_self a), hs.low hx a (Nat.lt_succ_self a)] at va
        have k0 : k = 0 := by
          rcases Int.mul_eq_zero.mp (by omega : k * cr l a = 0) with h | h
          · exact h
          · omega
        subst k0
        have : v = x := by rw [ek]; funext q; simp
        rw [this]
        exact hx
    obtain ⟨len, rows⟩ := stp_unique hs hs' al am rest
    -- the heads
    have wl : Spn L w := (rest w).mpr hw
    have diff : (fun q => cr l q - cr m q) = w := by
      funext q
      have : cr l q = 1 * cr m q + w q := congrFun ec q
      omega
    -- m is reduced by L too, as its rows tell what M's tell
    have red : ∀ {A B : List (List Int)}, A.length = B.length → (∀ i : Nat, ∀ x y : List Int, A[i]? = some x → B[i]? = some y → ∀ q, cr x q = cr y q) → Red m B → Red m A := by
      intro A
      induction A with
      | nil => intro B _ _ _; exact trivial
      | cons x A ih =>
        intro B hl hr hm
        cases B with
        | nil => cases hl
        | cons y B =>
          obtain ⟨⟨b, b1, b2, b3, b4⟩, hm⟩ := hm
          have xy := hr 0 x y rfl rfl
          refine ⟨⟨b, fun q hq => by rw [xy]; exact b1 q hq, by rw [xy]; exact b2, b3, by rw [xy]; exact b4⟩, ih (by simpa using hl) (fun i x' y' h1 h2 => hr (i + 1) x' y' h1 h2) hm⟩
    have z := small_zero hs rl (red len rows rm) (by rw [diff]; exact wl)
    refine ⟨by simp [len], fun i x y hx hy => ?_⟩
    cases i with
    | zero =>
      cases hx
      cases hy
      intro q
      have := z q
      omega
    | succ i => exact rows i x y hx hy
end K2

namespace K2
def Same (L M : List (List Int)) : Prop := ∀ v, Spn L v ↔ Spn M v
theorem Same.refl (L : List (List Int)) : Same L L := fun _ => Iff.rfl
theorem Same.symm {L M : List (List Int)} (h : Same L M) : Same M L := fun v => (h v).symm
theorem Same.trans {L M N : List (List Int)} (h : Same L M) (g : Same M N) : Same L N := fun v => (h v).trans (g v)
theorem same_of {L M : List (List Int)} (a : ∀ x ∈ L, Spn M (cr x)) (b : ∀ x ∈ M, Spn L (cr x)) : Same L M := fun v => ⟨fun h => h.trans a, fun h => h.trans b⟩
theorem same_mem {L M : List (List Int)} (e : ∀ x, x ∈ L ↔ x ∈ M) : Same L M := same_of (fun x h => .mem ((e x).mp h)) fun x h => .mem ((e x).mpr h)
/-- the others lessened by so many times one row -/
theorem step_same {h : List Int} {others rest : List (List Int)} {f : List Int → List Int} {k : List Int → Int} (hf : ∀ r ∈ others, ∀ q, cr (f r) q = cr r q + k r * cr h q) : Same (h :: (others.map f ++ rest)) (h :: (others ++ rest)) := by
  refine same_of (fun x hx => ?_) fun x hx => ?_
  · rcases List.mem_cons.mp hx with rfl | hx
    · exact .mem List.mem_cons_self
    · rcases List.mem_append.mp hx with hx | hx
      · obtain ⟨r, hr, rfl⟩ := List.mem_map.mp hx
        have e : cr (f r) = fun q => cr r q + (fun q => k r * cr h q) q := by funext q; exact hf r hr q
        rw [e]
        exact (Spn.mem (List.mem_cons_of_mem _ (List.mem_append_left _ hr))).add ((Spn.mem List.mem_cons_self).mul _)
      · exact .mem (List.mem_cons_of_mem _ (List.mem_append_right _ hx))
  · rcases List.mem_cons.mp hx with rfl | hx
    · exact .mem List.mem_cons_self
    · rcases List.mem_append.mp hx with hx | hx
      · have e : cr x = fun q => cr (f x) q + (fun q => (-k x) * cr h q) q := by
          funext q
          have := hf x hx q
          show cr x q = cr (f x) q + -k x * cr h q
          rw [this]
          grind
        rw [e]
        exact (Spn.mem (List.mem_cons_of_mem _ (List.mem_append_left _ (List.mem_map_of_mem hx)))).add ((Spn.mem List.mem_cons_self).mul _)
      · exact .mem (List.mem_cons_of_mem _ (List.mem_append_right _ hx))
/-- how much heads tell together -/
def wt (t : Nat → Int) (L : List (List Int)) : Nat := (L.map fun x => (tl t (cr x)).natAbs).sum
theorem wt_filter (t : Nat → Int) (c : List Int → Bool) : ∀ L : List (List Int), wt t (L.filter c) ≤ wt t L
  | [] => Nat.le_refl _
  | x :: L => by
    have ih := wt_filter t c L
    rw [List.filter_cons]
    split
    · show (tl t (cr x)).natAbs + wt t (L.filter c) ≤ (tl t (cr x)).natAbs + wt t L
      omega
    · show wt t (L.filter c) ≤ (tl t (cr x)).natAbs + wt t L
      omega
theorem wt_map {t : Nat → Int} {f : List Int → List Int} : ∀ {L : List (List Int)}, L ≠ [] → (∀ r ∈ L, (tl t (cr (f r))).natAbs < (tl t (cr r)).natAbs) → wt t (L.map f) < wt t L
  | [], h, _ => absurd rfl h
  | [x], _, h => by
    have := h x List.mem_cons_self
    show (tl t (cr (f x))).natAbs + 0 < (tl t (cr x)).natAbs + 0
    omega
  | x :: y :: L, _, h => by
    have ih := wt_map (t := t) (f := f) (L := y :: L) (by simp) fun r hr => h r (List.mem_cons_of_mem _ hr)
    have := h x List.mem_cons_self
    show (tl t (cr (f x))).natAbs + wt t ((y :: L).map f) < (tl t (cr x)).natAbs + wt t (y :: L)
    omega
theorem tl_more {t : Nat → Int} {r h x : List Int} {k : Int} (e : ∀ q, cr x q = cr r q + k * cr h q) : tl t (cr x) = tl t (cr r) + k * tl t (cr h) := by
  unfold tl
  rw [e 0, e 1, e 2]
  grind
/-- what single_headed tells -/
structure Headed (t : Nat → Int) (L heads rest : List (List Int)) : Prop where
  one : heads.length ≤ 1
  many : heads.length + rest.length = L.length
  hd : ∀ h ∈ heads, tl t (cr h) ≠ 0
  no : ∀ r ∈ rest, tl t (cr r) = 0
  same : Same (heads ++ rest) L
/-- .. of which the rest spans all that tells nothing -/
theorem Headed.kernel {t : Nat → Int} {L heads rest : List (List Int)} (h : Headed t L heads rest) (v : Nat → Int) : Spn rest v ↔ Spn L v ∧ tl t v = 0 := by
  constructor
  · intro s
    exact ⟨(h.same v).mp (s.mono fun x hx => List.mem_append_right _ hx), tl_zero s h.no⟩
  · rintro ⟨s, z⟩
    have s := (h.same v).mpr s
    match heads, h with
    | [], h => exact s
    | [x], h => exact K2.kernel s (h.hd x List.mem_cons_self) h.no z
    | _ :: _ :: _, h => exact absurd h.one (by simp)
/-! stepped -/
/-- first places from p on, below m -/
inductive Stm : Nat → Nat → List (List Int) → Prop
  | nil {p m : Nat} : Stm p m []
  | cons {p m a : Nat} {h : List Int} {R : List (List Int)} : p ≤ a → a < m → (∀ q, q < a → cr h q = 0) → 0 < cr h a → Stm (a + 1) m R → Stm p m (h :: R)
theorem Stm.stp {p m : Nat} {L : List (List Int)} (h : Stm p m L) : Stp p L := by
  induction h with
  | nil => exact .nil
  | cons h1 _ h2 h3 _ ih => exact .cons h1 h2 h3 ih
theorem Stm.up {p m n : Nat} {L : List (List Int)} (h : Stm p m L) (e : m ≤ n) : Stm p n L := by
  induction h with
  | nil => exact .nil
  | cons h1 h2 h3 h4 _ ih => exact .cons h1 (by omega) h3 h4 (ih e)
theorem Stm.snoc {p m : Nat} {F : List (List Int)} {h : List Int} {f : List Int → List Int} (s : Stm p m F) (hp : p ≤ m) (hz : ∀ q, q < m → cr h q = 0) (h0 : 0 < cr h m) (hf : ∀ x ∈ F, ∀ q, q < m → cr (f x) q = cr x q) : Stm p (m + 1) (F.map f ++ [h]) := by
  induction s with
  | nil => exact .cons hp (Nat.lt_succ_self _) hz h0 .nil
  | @cons p m a x R h1 h2 h3 h4 _ ih =>
    refine .cons h1 (by omega) (fun q hq => ?_) ?_ (ih (by omega) hz h0 fun y hy => hf y (List.mem_cons_of_mem _ hy))
    · rw [hf x List.mem_cons_self q (by omega)]
      exact h3 q hq
    · rw [hf x List.mem_cons_self a h2]
      exact h4
theorem red_snoc {x h : List Int} {m : Nat} {f : List Int → List Int} : ∀ {p : Nat} {R : List (List Int)}, Stm p m R → Red x R → (∀ q, q < m → cr (f x) q = cr x q) → (∀ y ∈ R, ∀ q, q < m → cr (f y) q = cr y q) → (∀ q, q < m → cr h q = 0) → 0 < cr h m → 0 ≤ cr (f x) m → cr (f x) m < cr h m → Red (f x) (R.map f ++ [h])
  | _, [], _, _, _, _, hz, h0, l1, l2 => ⟨⟨m, hz, h0, l1, l2⟩, trivial⟩
  | _, y :: R, .cons (a := a) h1 h2 h3 h4 hs, ⟨⟨b, b1, b2, b3, b4⟩, hr⟩, fx, fy, hz, h0, l1, l2 => by
    have e := first_place h3 h4 b1 b2
    subst e
    have ey := fy y List.mem_cons_self
    refine ⟨⟨a, fun q hq => by rw [ey q (by omega)]; exact b1 q hq, by rw [ey a h2]; exact b2, by rw [fx a h2]; exact b3, by rw [fx a h2, ey a h2]; exact b4⟩, red_snoc hs hr fx (fun z hz => fy z (List.mem_cons_of_mem _ hz)) hz h0 l1 l2⟩
theorem All.snoc {p m : Nat} {F : List (List Int)} {h : List Int} {f : List Int → List Int} (s : Stm p m F) (al : All F) (hf : ∀ x ∈ F, ∀ q, q < m → cr (f x) q = cr x q) (hz : ∀ q, q < m → cr h q = 0) (h0 : 0 < cr h m) (hl : ∀ x ∈ F, 0 ≤ cr (f x) m ∧ cr (f x) m < cr h m) : All (F.map f ++ [h]) := by
  induction s with
  | nil => exact .cons trivial .nil
  | @cons p m a x R h1 h2 h3 h4 hs ih =>
    cases al with
    | cons r al =>
      have lx := hl x List.mem_cons_self
      exact .cons (red_snoc hs r (hf x List.mem_cons_self) (fun y hy => hf y (List.mem_cons_of_mem _ hy)) hz h0 lx.1 lx.2) (ih al (fun y hy => hf y (List.mem_cons_of_mem _ hy)) hz h0 fun y hy => hl y (List.mem_cons_of_mem _ hy))
/-- a row of the span is gone down to noughts: the first step -/
theorem go_down {p a : Nat} {h : List Int} {R : List (List Int)} {v : Nat → Int} (hz : ∀ q, q < a → cr h q = 0) (h0 : 0 < cr h a) (hs : Stp (a + 1) R) (s : Spn (h :: R) v) : v a % cr h a = 0 ∧ Spn R fun q => v q - v a / cr h a * cr h q := by
  obtain ⟨c, w, hw, rfl⟩ := s.split
  have wa : w a = 0 := hs.low hw a (Nat.lt_succ_self a)
  have e : c * cr h a + w a = c * cr h a := by omega
  constructor
  · show (c * cr h a + w a) % cr h a = 0
    rw [e]
    exact Int.mul_emod_left c (cr h a)
  · have d : (c * cr h a + w a) / cr h a = c := by rw [e]; exact Int.mul_ediv_cancel c (by omega)
    have e2 : (fun q => (fun q => c * cr h q + w q) q - (fun q => c * cr h q + w q) a / cr h a * cr h q) = w := by
      funext q
      show c * cr h q + w q - (c * cr h a + w a) / cr h a * cr h q = w q
      rw [d]
      omega
    rw [e2]
    exact hw
end K2

namespace K2
/-! ranks grow just where a level tells something -/
theorem cr_co (x : List Int) (q : Nat) : cr x q = co q x := rfl
def Flat (n : Nat) (v : Nat → Int) : Prop := n = 3 ∨ (n = 2 ∧ v 2 = 0)
/-- v is told nothing by all of P, something by r -/
def Seen (n : Nat) (P : List (List Int)) (r : List Int) (v : Nat → Int) : Prop := Flat n v ∧ (∀ p ∈ P, tl (cr p) v = 0) ∧ tl (cr r) v ≠ 0
def vec (a b c : Int) : Nat → Int := fun q => if q = 0 then a else if q = 1 then b else if q = 2 then c else 0
theorem tl_vec (x : List Int) (a b c : Int) : tl (cr x) (vec a b c) = co 0 x * a + co 1 x * b + co 2 x * c := rfl
theorem seen3 {a b r : List Int} {v : Nat → Int} (c : cz a b) (ha : tl (cr a) v = 0) (hb : tl (cr b) v = 0) (hr : tl (cr r) v ≠ 0) : dt r a b ≠ 0 := by
  unfold tl at ha hb hr
  simp only [cr_co] at ha hb hr
  generalize v 0 = v0 at *
  generalize v 1 = v1 at *
  generalize v 2 = v2 at *
  intro z
  have e0 : c0 a b * (co 0 r * v0 + co 1 r * v1 + co 2 r * v2) = v0 * dt r a b := by unfold dt c0 c1 c2; grind
  have e1 : c1 a b * (co 0 r * v0 + co 1 r * v1 + co 2 r * v2) = v1 * dt r a b := by unfold dt c0 c1 c2; grind
  have e2 : c2 a b * (co 0 r * v0 + co 1 r * v1 + co 2 r * v2) = v2 * dt r a b := by unfold dt c0 c1 c2; grind
  rw [z, Int.mul_zero] at e0 e1 e2
  have k : ∀ {x y : Int}, x * y = 0 → y ≠ 0 → x = 0 := fun h n => by
    rcases Int.mul_eq_zero.mp h with h | h
    · exact h
    · exact absurd h n
  rcases c with c | c | c
  · exact c (k e0 hr)
  · exact c (k e1 hr)
  · exact c (k e2 hr)
theorem seen2 {a r : List Int} {v : Nat → Int} (na : nz a) (ha : tl (cr a) v = 0) (hr : tl (cr r) v ≠ 0) : cz a r := by
  unfold tl at ha hr
  simp only [cr_co] at ha hr
  generalize v 0 = v0 at *
  generalize v 1 = v1 at *
  generalize v 2 = v2 at *
  apply Classical.byContradiction
  intro n
  obtain ⟨z0, z1, z2⟩ := not_cz n
  unfold c0 at z0
  unfold c1 at z1
  unfold c2 at z2
  have e0 : co 0 a * (co 0 r * v0 + co 1 r * v1 + co 2 r * v2) = 0 := by grind
  have e1 : co 1 a * (co 0 r * v0 + co 1 r * v1 + co 2 r * v2) = 0 := by grind
  have e2 : co 2 a * (co 0 r * v0 + co 1 r * v1 + co 2 r * v2) = 0 := by grind
  have k : ∀ {x y : Int}, x * y = 0 → y ≠ 0 → x = 0 := fun h n => by
    rcases Int.mul_eq_zero.mp h with h | h
    · exact h
    · exact absurd h n
  rcases na with c | c | c
  · exact c (k e0 hr)
  · exact c (k e1 hr)
  · exact c (k e2 hr)
theorem seen1 {r : List Int} {v : Nat → Int} (hr : tl (cr r) v ≠ 0) : nz r := by
  apply Classical.byContradiction
  intro n
  unfold nz at n
  apply hr
  unfold tl
  simp only [cr_co]
  have : co 0 r = 0 ∧ co 1 r = 0 ∧ co 2 r = 0 := by omega
  rw [this.1, this.2.1, this.2.2]
  simp
theorem seen0 {a b c r : List Int} {v : Nat → Int} (n : dt a b c ≠ 0) (ha : tl (cr a) v = 0) (hb : tl (cr b) v = 0) (hc : tl (cr c) v = 0) : tl (cr r) v = 0 := by
  unfold tl at ha hb hc ⊢
  simp only [cr_co] at ha hb hc ⊢
  generalize v 0 = v0 at *
  generalize v 1 = v1 at *
  generalize v 2 = v2 at *
  have e0 : v0 * dt a b c = 0 := by unfold dt c0 c1 c2; grind
  have e1 : v1 * dt a b c = 0 := by unfold dt c0 c1 c2; grind
  have e2 : v2 * dt a b c = 0 := by unfold dt c0 c1 c2; grind
  have k : ∀ {x y : Int}, x * y = 0 → y ≠ 0 → x = 0 := fun h n => by
    rcases Int.mul_eq_zero.mp h with h | h
    · exact h
    · exact absurd h n
  rw [k e0 n, k e1 n, k e2 n]
  simp
theorem mem_snoc {P : List (List Int)} {r x : List Int} (h : x ∈ P ++ [r]) : x ∈ P ∨ x = r := by
  rcases List.mem_append.mp h with h | h
  · exact .inl h
  · exact .inr (List.mem_singleton.mp h)
theorem cz_self (x : List Int) : ¬ cz x x := by
  have e0 : c0 x x = 0 := by unfold c0; grind
  have e1 : c1 x x = 0 := by unfold c1; grind
  have e2 : c2 x x = 0 := by unfold c2; grind
  unfold cz
  omega
theorem cz_swap {x y : List Int} (h : cz x y) : cz y x := by
  have e0 : c0 y x = - c0 x y := by unfold c0; grind
  have e1 : c1 y x = - c1 x y := by unfold c1; grind
  have e2 : c2 y x = - c2 x y := by unfold c2; grind
  unfold cz at h ⊢
  omega
theorem dt_turn (x y z : List Int) : dt z x y = dt x y z := by unfold dt c0 c1 c2; grind
theorem dt_two_alike (x y : List Int) : dt x y y = 0 := by unfold dt c0 c1 c2; grind
/-- three rows of which one is new -/
theorem p3_new {P : List (List Int)} {r : List Int} (h : P3 (P ++ [r])) (n : ¬ P3 P) : ∃ x ∈ P, ∃ y ∈ P, dt r x y ≠ 0 := by
  obtain ⟨a, ha, b, hb, c, hc, d⟩ := h
  have two : ∀ x y : List Int, dt x y y = 0 := dt_two_alike
  have t1 := dt_turn a b c
  have t2 := dt_turn b c a
  rcases mem_snoc ha with ia | rfl
  · rcases mem_snoc hb with ib | rfl
    · rcases mem_snoc hc with ic | rfl
      · exact absurd ⟨a, ia, b, ib, c, ic, d⟩ n
      · exact ⟨a, ia, b, ib, by rw [t1]; exact d⟩
    · rcases mem_snoc hc with ic | rfl
      · refine ⟨c, ic, a, ia, ?_⟩
        have : dt b c a = dt a b c := by rw [← t2]
        rw [this]
        exact d
      · exact absurd (two _ _) d
  · rcases mem_snoc hb with ib | rfl
    · rcases mem_snoc hc with ic | rfl
      · exact ⟨b, ib, c, ic, d⟩
      · have : dt c b c = 0 := by unfold dt c0 c1 c2; grind
        exact absurd this d
    · have : dt b b c = 0 := by unfold dt c0 c1 c2; grind
      exact absurd this d
theorem p2_new {P : List (List Int)} {r : List Int} (h : P2 (P ++ [r])) (n : ¬ P2 P) : ∃ x ∈ P, cz x r := by
  obtain ⟨a, ha, b, hb, d⟩ := h
  rcases mem_snoc ha with ia | rfl
  · rcases mem_snoc hb with ib | rfl
    · exact absurd ⟨a, ia, b, ib, d⟩ n
    · exact ⟨a, ia, d⟩
  · rcases mem_snoc hb with ib | rfl
    · exact ⟨b, ib, cz_swap d⟩
    · exact absurd d (cz_self _)
theorem p1_new {P : List (List Int)} {r : List Int} (h : P1 (P ++ [r])) (n : ¬ P1 P) : nz r := by
  obtain ⟨a, ha, d⟩ := h
  rcases mem_snoc ha with ha | rfl
  · exact absurd ⟨a, ha, d⟩ n
  · exact d
theorem p1_up {P : List (List Int)} {r : List Int} (h : P1 P) : P1 (P ++ [r]) := let ⟨a, ha, d⟩ := h; ⟨a, List.mem_append_left _ ha, d⟩
theorem p2_up {P : List (List Int)} {r : List Int} (h : P2 P) : P2 (P ++ [r]) := let ⟨a, ha, b, hb, d⟩ := h; ⟨a, List.mem_append_left _ ha, b, List.mem_append_left _ hb, d⟩
theorem p3_up {P : List (List Int)} {r : List Int} (h : P3 P) : P3 (P ++ [r]) := let ⟨a, ha, b, hb, c, hc, d⟩ := h; ⟨a, List.mem_append_left _ ha, b, List.mem_append_left _ hb, c, List.mem_append_left _ hc, d⟩
theorem last_mem (P : List (List Int)) (r : List Int) : r ∈ P ++ [r] := List.mem_append_right _ List.mem_cons_self
theorem see3 {n : Nat} {P : List (List Int)} {r : List Int} (hn : n = 3 ∨ (n = 2 ∧ ∀ x ∈ P ++ [r], co 2 x = 0)) (h : P3 (P ++ [r])) (no : ¬ P3 P) : ∃ v, Seen n P r v := by
  obtain ⟨x, hx, y, hy, d⟩ := p3_new h no
  refine ⟨vec (c0 x y) (c1 x y) (c2 x y), ?_, fun p hp => ?_, ?_⟩
  · rcases hn with hn | ⟨_, z⟩
    · exact .inl hn
    · have zx := z x (List.mem_append_left _ hx)
      have zy := z y (List.mem_append_left _ hy)
      have zr := z r (last_mem P r)
      exact absurd (by unfold dt c0 c1 c2; rw [zx, zy, zr]; simp) d
  · rw [tl_vec]
    apply Classical.byContradiction
    intro q
    exact no ⟨p, hp, x, hx, y, hy, q⟩
  · rw [tl_vec]
    exact d
theorem see2 {n : Nat} {P : List (List Int)} {r : List Int} (hn : n = 3 ∨ (n = 2 ∧ ∀ x ∈ P ++ [r], co 2 x = 0)) (h : P2 (P ++ [r])) (no : ¬ P2 P) : ∃ v, Seen n P r v := by
  obtain ⟨x, hx, d⟩ := p2_new h no
  have alike : ∀ p ∈ P, c0 x p = 0 ∧ c1 x p = 0 ∧ c2 x p = 0 := fun p hp => not_cz fun q => no ⟨x, hx, p, hp, q⟩
  by_cases d2 : c2 x r = 0
  · have n3 : n = 3 := by
      rcases hn with hn | ⟨_, z⟩
      · exact hn
      · have zx := z x (List.mem_append_left _ hx)
        have zr := z r (last_mem P r)
        have e0 : c0 x r = 0 := by unfold c0; rw [zx, zr]; simp
        have e1 : c1 x r = 0 := by unfold c1; rw [zx, zr]; simp
        unfold cz at d
        omega
    by_cases d1 : c1 x r = 0
    · have d0 : c0 x r ≠ 0 := by unfold cz at d; omega
      refine ⟨vec 0 (- co 2 x) (co 1 x), .inl n3, fun p hp => ?_, ?_⟩
      · have := (alike p hp).1
        unfold c0 at this
        rw [tl_vec]
        grind
      · unfold c0 at d0
        rw [tl_vec]
        grind
    · refine ⟨vec (co 2 x) 0 (- co 0 x), .inl n3, fun p hp => ?_, ?_⟩
      · have := (alike p hp).2.1
        unfold c1 at this
        rw [tl_vec]
        grind
      · unfold c1 at d1
        rw [tl_vec]
        grind
  · refine ⟨vec (- co 1 x) (co 0 x) 0, ?_, fun p hp => ?_, ?_⟩
    · rcases hn with hn | ⟨hn, _⟩
      · exact .inl hn
      · exact .inr ⟨hn, rfl⟩
    · have := (alike p hp).2.2
      unfold c2 at this
      rw [tl_vec]
      grind
    · unfold c2 at d2
      rw [tl_vec]
      grind
theorem see1 {n : Nat} {P : List (List Int)} {r : List Int} (hn : n = 3 ∨ (n = 2 ∧ ∀ x ∈ P ++ [r], co 2 x = 0)) (h : P1 (P ++ [r])) (no : ¬ P1 P) : ∃ v, Seen n P r v := by
  have d := p1_new h no
  have z : ∀ p ∈ P, co 0 p = 0 ∧ co 1 p = 0 ∧ co 2 p = 0 := fun p hp => by
    have : ¬ nz p := fun q => no ⟨p, hp, q⟩
    unfold nz at this
    omega
  have fl : ∀ a b : Int, Flat n (vec a b 0) := fun a b => by
    rcases hn with hn | ⟨hn, _⟩
    · exact .inl hn
    · exact .inr ⟨hn, rfl⟩
  have say : ∀ a b c : Int, ∀ p ∈ P, tl (cr p) (vec a b c) = 0 := fun a b c p hp => by
    obtain ⟨e0, e1, e2⟩ := z p hp
    rw [tl_vec, e0, e1, e2]
    simp
  rcases d with d | d | d
  · exact ⟨vec 1 0 0, fl _ _, say _ _ _, by rw [tl_vec]; simpa using d⟩
  · exact ⟨vec 0 1 0, fl _ _, say _ _ _, by rw [tl_vec]; simpa using d⟩
  · have n3 : n = 3 := by
      rcases hn with hn | ⟨_, q⟩
      · exact hn
      · exact absurd (q r (last_mem P r)) d
    exact ⟨vec 0 0 1, .inl n3, say _ _ _, by rw [tl_vec]; simpa using d⟩
theorem rk_grow {n : Nat} {P : List (List Int)} {r : List Int} (hn : n = 3 ∨ (n = 2 ∧ ∀ x ∈ P ++ [r], co 2 x = 0)) : ((∃ v, Seen n P r v) → rk (P ++ [r]) = rk P + 1) ∧ ((¬ ∃ v, Seen n P r v) → rk (P ++ [r]) = rk P) := by
  have up2 : P3 (P ++ [r]) → P2 P := fun h => by
    by_cases q : P3 P
    · exact p3_p2 q
    · obtain ⟨x, hx, y, hy, d⟩ := p3_new h q
      exact ⟨x, hx, y, hy, dt_cz d⟩
  have up1 : P2 (P ++ [r]) → P1 P := fun h => by
    by_cases q : P2 P
    · exact p2_p1 q
    · obtain ⟨x, hx, d⟩ := p2_new h q
      exact ⟨x, hx, cz_nz d⟩
  constructor
  · rintro ⟨v, fl, z, s⟩
    by_cases p3 : P3 P
    · obtain ⟨a, ha, b, hb, c, hc, d⟩ := p3
      exact absurd (seen0 d (z a ha) (z b hb) (z c hc)) s
    · by_cases p2 : P2 P
      · obtain ⟨a, ha, b, hb, d⟩ := id p2
        have := seen3 d (z a ha) (z b hb) s
        rw [rk2 p3 p2, rk3 ⟨r, last_mem P r, a, List.mem_append_left _ ha, b, List.mem_append_left _ hb, this⟩]
        rfl
      · by_cases p1 : P1 P
        · obtain ⟨a, ha, d⟩ := id p1
          have := seen2 d (z a ha) s
          rw [rk1 p2 p1, rk2 (fun q => p2 (up2 q)) ⟨a, List.mem_append_left _ ha, r, last_mem P r, this⟩]
          rfl
        · have := seen1 s
          rw [rk0 p1, rk1 (fun q => p1 (up1 q)) ⟨r, last_mem P r, this⟩]
          rfl
  · intro no
    by_cases p3 : P3 P
    · rw [rk3 p3, rk3 (p3_up p3)]
    · have q3 : ¬ P3 (P ++ [r]) := fun h => no (see3 hn h p3)
      by_cases p2 : P2 P
      · rw [rk2 p3 p2, rk2 q3 (p2_up p2)]
      · have q2 : ¬ P2 (P ++ [r]) := fun h => no (see2 hn h p2)
        by_cases p1 : P1 P
        · rw [rk1 p2 p1, rk1 q2 (p1_up p1)]
        · have q1 : ¬ P1 (P ++ [r]) := fun h => no (see1 hn h p1)
          rw [rk0 p1, rk0 q1]
end K2

namespace K2
/-! single_headed's loop; levels row by row -/
structure HInv (t : Nat → Int) (L heads rest : List (List Int)) : Prop where
  many : heads.length + rest.length = L.length
  hd : ∀ h ∈ heads, tl t (cr h) ≠ 0
  no : ∀ r ∈ rest, tl t (cr r) = 0
  same : Same (heads ++ rest) L
theorem HInv.done {t : Nat → Int} {L heads rest : List (List Int)} (i : HInv t L heads rest) (h : heads.length ≤ 1) : Headed t L heads rest := ⟨h, i.many, i.hd, i.no, i.same⟩
def says (t : Nat → Int) (x : List Int) : Bool := !decide (tl t (cr x) = 0)
def mute (t : Nat → Int) (x : List Int) : Bool := decide (tl t (cr x) = 0)
theorem says_iff {t : Nat → Int} {x : List Int} : says t x = true ↔ tl t (cr x) ≠ 0 := by unfold says; simp
theorem mute_iff {t : Nat → Int} {x : List Int} : mute t x = true ↔ tl t (cr x) = 0 := by unfold mute; simp
theorem two_parts (t : Nat → Int) : ∀ L : List (List Int), (L.filter (says t)).length + (L.filter (mute t)).length = L.length
  | [] => rfl
  | x :: L => by
    have ih := two_parts t L
    by_cases h : tl t (cr x) = 0
    · have h1 : says t x = false := by unfold says; simp [h]
      have h2 : mute t x = true := mute_iff.mpr h
      rw [List.filter_cons, List.filter_cons, h1, h2]
      simp
      omega
    · have h1 : says t x = true := says_iff.mpr h
      have h2 : mute t x = false := by unfold mute; simp [h]
      rw [List.filter_cons, List.filter_cons, h1, h2]
      simp
      omega
theorem part_mem (t : Nat → Int) {L : List (List Int)} {x : List Int} : x ∈ L.filter (says t) ++ L.filter (mute t) ↔ x ∈ L := by
  rw [List.mem_append, List.mem_filter, List.mem_filter, says_iff, mute_iff]
  constructor
  · rintro (h | h) <;> exact h.1
  · intro h
    by_cases z : tl t (cr x) = 0
    · exact .inr ⟨h, z⟩
    · exact .inl ⟨h, z⟩
theorem HInv.start (t : Nat → Int) (L : List (List Int)) : HInv t L (L.filter (says t)) (L.filter (mute t)) where
  many := two_parts t L
  hd := fun h hh => says_iff.mp (List.mem_filter.mp hh).2
  no := fun h hh => mute_iff.mp (List.mem_filter.mp hh).2
  same := same_mem fun x => part_mem t
theorem wt_perm {t : Nat → Int} {L M : List (List Int)} (h : L.Perm M) : wt t L = wt t M := by
  induction h with
  | nil => rfl
  | cons x _ ih => show _ + _ = _ + _; exact congrArg _ ih
  | swap x y l =>
    show (tl t (cr y)).natAbs + ((tl t (cr x)).natAbs + wt t l) = (tl t (cr x)).natAbs + ((tl t (cr y)).natAbs + wt t l)
    omega
  | trans _ _ ih1 ih2 => exact ih1.trans ih2
theorem HInv.step {t : Nat → Int} {L heads rest : List (List Int)} (i : HInv t L heads rest) {head : List Int} {others : List (List Int)} {f : List Int → List Int} {k : List Int → Int} (p : heads.Perm (head :: others)) (ne : others ≠ [])
    (hf : ∀ r ∈ others, ∀ q, cr (f r) q = cr r q + k r * cr head q) (le : ∀ r ∈ others, (tl t (cr head)).natAbs ≤ (tl t (cr r)).natAbs) (sm : ∀ r ∈ others, (tl t (cr (f r))).natAbs < (tl t (cr head)).natAbs) :
    HInv t L (head :: (others.map f).filter (says t)) (rest ++ (others.map f).filter (mute t)) ∧ wt t (head :: (others.map f).filter (says t)) < wt t heads := by
  have hm : ∀ x, x ∈ heads ↔ x ∈ head :: others := fun x => p.mem_iff
  have two := two_parts t (others.map f)
  rw [List.length_map] at two
  constructor
  · refine ⟨?_, ?_, ?_, ?_⟩
    · have := i.many
      have pl := p.length_eq
      rw [List.length_cons] at pl
      rw [List.length_cons, List.length_append]
      omega
    · intro h hh
      rcases List.mem_cons.mp hh with rfl | hh
      · exact i.hd _ ((hm _).mpr List.mem_cons_self)
      · exact says_iff.mp (List.mem_filter.mp hh).2
    · intro r hr
      rcases List.mem_append.mp hr with hr | hr
      · exact i.no r hr
      · exact mute_iff.mp (List.mem_filter.mp hr).2
    · have s1 : Same (head :: (others.map f).filter (says t) ++ (rest ++ (others.map f).filter (mute t))) (head :: (others.map f ++ rest)) := same_mem fun x => by
        have := part_mem t (L := others.map f) (x := x)
        rw [List.mem_append] at this
        simp only [List.cons_append, List.mem_cons, List.mem_append]
        constructor
        · rintro (h | h | h | h)
          · exact .inl h
          · exact .inr (.inl (this.mp (.inl h)))
          · exact .inr (.inr h)
          · exact .inr (.inl (this.mp (.inr h)))
        · rintro (h | h | h)
          · exact .inl h
          · rcases this.mpr h with h | h
            · exact .inr (.inl h)
            · exact .inr (.inr (.inr h))
          · exact .inr (.inr (.inl h))
      have s2 : Same (head :: (others ++ rest)) (heads ++ rest) := same_mem fun x => by
        have := hm x
        rw [List.mem_cons] at this
        simp only [List.mem_cons, List.mem_append]
        rw [this]
        exact ⟨fun h => by rcases h with h | h | h <;> simp [h], fun h => by rcases h with (h | h) | h <;> simp [h]⟩
      exact (s1.trans (step_same hf)).trans (s2.trans i.same)
  · have w1 := wt_filter t (says t) (others.map f)
    have w2 := wt_map (t := t) (f := f) ne fun r hr => Nat.lt_of_lt_of_le (sm r hr) (le r hr)
    have w3 := wt_perm (t := t) p
    rw [w3]
    show (tl t (cr head)).natAbs + wt t ((others.map f).filter (says t)) < (tl t (cr head)).natAbs + wt t others
    omega
/-- levels so far: they span all of the side's rows that tell 0 of P, as many as are left -/
structure Lev (n : Nat) (P F : List (List Int)) : Prop where
  span : ∀ v, Spn F v ↔ (∀ q, n ≤ q → v q = 0) ∧ ∀ p ∈ P, tl (cr p) v = 0
  many : (F.length : Int) = n - rk P
theorem Lev.step {n : Nat} {P F heads rest : List (List Int)} {r : List Int} (hn : n = 3 ∨ (n = 2 ∧ ∀ x ∈ P ++ [r], co 2 x = 0)) (l : Lev n P F) (h : Headed (cr r) F heads rest) : Lev n (P ++ [r]) rest where
  span := fun v => by
    rw [h.kernel v, l.span v]
    constructor
    · rintro ⟨⟨h1, h2⟩, h3⟩
      refine ⟨h1, fun p hp => ?_⟩
      rcases mem_snoc hp with hp | rfl
      · exact h2 p hp
      · exact h3
    · rintro ⟨h1, h2⟩
      exact ⟨⟨h1, fun p hp => h2 p (List.mem_append_left _ hp)⟩, h2 r (last_mem P r)⟩
  many := by
    obtain ⟨g1, g2⟩ := rk_grow (P := P) (r := r) hn
    have m := l.many
    have hm := h.many
    match heads, h with
    | [], h =>
      have no : ¬ ∃ v, Seen n P r v := by
        rintro ⟨v, fl, z, s⟩
        let u : Nat → Int := fun q => if q < n then v q else 0
        have e : ∀ t : Nat → Int, tl t u = tl t v := fun t => by
          rcases fl with rfl | ⟨rfl, f2⟩
          · rfl
          · show t 0 * v 0 + t 1 * v 1 + t 2 * 0 = t 0 * v 0 + t 1 * v 1 + t 2 * v 2
            rw [f2]
        have su : Spn F u := (l.span u).mpr ⟨fun q hq => if_neg (by omega), fun p hp => by rw [e]; exact z p hp⟩
        have sr : Spn rest u := (h.same u).mpr su
        have := tl_zero sr h.no
        rw [e] at this
        exact s this
      rw [g2 no]
      simp at hm
      omega
    | [x], h =>
      have sx : Spn F (cr x) := (h.same _).mp (.mem (List.mem_append_left _ List.mem_cons_self))
      have hx := (l.span _).mp sx
      have yes : ∃ v, Seen n P r v := ⟨cr x, by
        rcases hn with hn | ⟨hn, _⟩
        · exact .inl hn
        · exact .inr ⟨hn, hx.1 2 (by omega)⟩, hx.2, h.hd x List.mem_cons_self⟩
      rw [g1 yes]
      simp at hm
      omega
    | _ :: _ :: _, h => exact absurd h.one (by simp)
end K2

namespace K2
/-! as many rows as the rank: none to spare; stepped's loop -/
theorem rk_snoc (P : List (List Int)) (r : List Int) : rk (P ++ [r]) ≤ rk P + 1 := by
  obtain ⟨g1, g2⟩ := rk_grow (n := 3) (P := P) (r := r) (.inl rfl)
  by_cases h : ∃ v, Seen 3 P r v
  · have := g1 h; omega
  · have := g2 h; omega
theorem rk_perm {L M : List (List Int)} (e : ∀ x, x ∈ L ↔ x ∈ M) : rk L = rk M := rk_same (sub_mem fun x h => (e x).mpr h) (sub_mem fun x h => (e x).mp h)
theorem rk_len : ∀ L : List (List Int), rk L ≤ L.length
  | [] => by rw [rk0 (fun ⟨x, hx, _⟩ => by cases hx)]; decide
  | x :: L => by
    have ih := rk_len L
    have e : rk (x :: L) = rk (L ++ [x]) := rk_perm fun y => by simp [or_comm]
    have := rk_snoc L x
    rw [e, List.length_cons]
    omega
theorem tl_comb {L : List (List Int)} {u v : Nat → Int} (s : Spn L u) (z : ∀ p ∈ L, tl (cr p) v = 0) : tl u v = 0 := by
  induction s with
  | zero => simp [tl]
  | @step u s x hx _ ih =>
    have e : tl (fun q => s * cr x q + u q) v = s * tl (cr x) v + tl u v := by unfold tl; grind
    rw [e, z x hx, ih]
    simp
theorem rk_add : ∀ {M L : List (List Int)}, (∀ x ∈ M, Spn L (cr x)) → rk (L ++ M) = rk L
  | [], L, _ => by rw [List.append_nil]
  | x :: M, L, h => by
    have e : rk (L ++ x :: M) = rk ((L ++ [x]) ++ M) := by rw [List.append_assoc]; rfl
    have g := (rk_grow (n := 3) (P := L) (r := x) (.inl rfl)).2 fun ⟨v, _, z, s⟩ => s (tl_comb (h x List.mem_cons_self) z)
    rw [e, rk_add fun y hy => (h y (List.mem_cons_of_mem _ hy)).mono fun z hz => List.mem_append_left _ hz, g]
theorem rk_span {L M : List (List Int)} (s : Same L M) : rk L = rk M := by
  have a : rk (L ++ M) = rk L := rk_add fun x hx => (s _).mpr (.mem hx)
  have b : rk (M ++ L) = rk M := rk_add fun x hx => (s _).mp (.mem hx)
  rw [← a, ← b]
  exact rk_perm fun x => by simp [or_comm]
/-- none to spare -/
def Tight (L : List (List Int)) : Prop := rk L = L.length
theorem Headed.tight {t : Nat → Int} {L heads rest : List (List Int)} (h : Headed t L heads rest) (g : Tight L) : Tight rest := by
  have e := rk_span h.same
  have m := h.many
  have l := rk_len rest
  unfold Tight at g ⊢
  match heads, h with
  | [], h =>
    simp at e m
    omega
  | [x], h =>
    have e2 : rk ([x] ++ rest) = rk (rest ++ [x]) := rk_perm fun y => by simp [or_comm]
    have := rk_snoc rest x
    simp at m
    omega
  | _ :: _ :: _, h => exact absurd h.one (by simp)
def unit (p : Nat) : Nat → Int := fun q => if q = p then 1 else 0
theorem tl_unit {p : Nat} (hp : p < 3) (v : Nat → Int) : tl (unit p) v = v p := by
  unfold tl unit
  have : p = 0 ∨ p = 1 ∨ p = 2 := by omega
  rcases this with rfl | rfl | rfl <;> simp
theorem low_span {p : Nat} {L : List (List Int)} (z : ∀ x ∈ L, ∀ q, q < p → cr x q = 0) {v : Nat → Int} (s : Spn L v) : ∀ q, q < p → v q = 0 := by
  induction s with
  | zero => intro q _; rfl
  | @step v s x hx _ ih =>
    intro q hq
    show s * cr x q + v q = 0
    rw [z x hx q hq, ih q hq]
    simp
/-- stepped's loop, ahead of place p -/
structure StInv (p : Nat) (L found rest : List (List Int)) : Prop where
  st : Stm 0 p found
  al : All found
  low : ∀ x ∈ rest, ∀ q, q < p → cr x q = 0
  same : Same (found ++ rest) L
  many : found.length + rest.length = L.length
theorem StInv.start (L : List (List Int)) : StInv 0 L [] L := ⟨.nil, .nil, fun x _ q hq => absurd hq (Nat.not_lt_zero q), Same.refl L, by simp⟩
theorem same_app {A B C : List (List Int)} (h : Same B C) : Same (A ++ B) (A ++ C) := same_of (fun x hx => by
  rcases List.mem_append.mp hx with hx | hx
  · exact .mem (List.mem_append_left _ hx)
  · exact ((h _).mp (.mem hx)).mono fun y hy => List.mem_append_right _ hy) fun x hx => by
  rcases List.mem_append.mp hx with hx | hx
  · exact .mem (List.mem_append_left _ hx)
  · exact ((h _).mpr (.mem hx)).mono fun y hy => List.mem_append_right _ hy
theorem StInv.none {p : Nat} {L found rest rest2 : List (List Int)} (i : StInv p L found rest) (hp : p < 3) (h : Headed (unit p) rest [] rest2) : StInv (p + 1) L found rest2 where
  st := i.st.up (Nat.le_succ p)
  al := i.al
  low := fun x hx q hq => by
    by_cases e : q = p
    · have := h.no x hx
      rw [tl_unit hp] at this
      rw [e]
      exact this
    · exact low_span i.low ((h.same _).mp (.mem hx)) q (by omega)
  same := (same_app h.same).trans i.same
  many := by
    have := h.many
    have := i.many
    simp at *
    omega
/-- a head comes: made positive, the found ones lessened by it -/
theorem StInv.head {p : Nat} {L found rest rest2 : List (List Int)} {x h : List Int} {f : List Int → List Int} {k : List Int → Int} (i : StInv p L found rest) (hp : p < 3) (hd : Headed (unit p) rest [x] rest2)
    (sg : (∀ q, cr h q = cr x q) ∨ ∀ q, cr h q = - cr x q) (pos : 0 < cr h p) (hf : ∀ r ∈ found, ∀ q, cr (f r) q = cr r q + k r * cr h q) (hl : ∀ r ∈ found, 0 ≤ cr (f r) p ∧ cr (f r) p < cr h p) : StInv (p + 1) L (found.map f ++ [h]) rest2 := by
  have sx : Spn rest (cr x) := (hd.same _).mp (.mem (List.mem_append_left _ List.mem_cons_self))
  have zx := low_span i.low sx
  have zh : ∀ q, q < p → cr h q = 0 := fun q hq => by
    rcases sg with e | e
    · rw [e, zx q hq]
    · rw [e, zx q hq]; rfl
  have keep : ∀ r ∈ found, ∀ q, q < p → cr (f r) q = cr r q := fun r hr q hq => by rw [hf r hr q, zh q hq]; simp
  refine ⟨i.st.snoc (Nat.zero_le p) zh pos keep, All.snoc i.st i.al keep zh pos hl, fun y hy q hq => ?_, ?_, ?_⟩
  · by_cases e : q = p
    · have := hd.no y hy
      rw [tl_unit hp] at this
      rw [e]
      exact this
    · exact low_span i.low ((hd.same _).mp (.mem (List.mem_append_right _ hy))) q (by omega)
  · have hx : Same ([h] ++ rest2) ([x] ++ rest2) := by
      have one : ∀ {a b : List Int}, ((∀ q, cr a q = cr b q) ∨ ∀ q, cr a q = - cr b q) → ∀ {R : List (List Int)}, b ∈ R → Spn R (cr a) := fun {a b} e {R} hb => by
        rcases e with e | e
        · have : cr a = cr b := funext e
          rw [this]
          exact .mem hb
        · have : cr a = fun q => (-1) * cr b q := by funext q; rw [e q]; omega
          rw [this]
          exact (Spn.mem hb).mul _
      have back : (∀ q, cr x q = cr h q) ∨ ∀ q, cr x q = - cr h q := by
        rcases sg with e | e
        · exact .inl fun q => (e q).symm
        · exact .inr fun q => by rw [e q]; omega
      refine same_of (fun y hy => ?_) fun y hy => ?_
      · rcases List.mem_append.mp hy with hy | hy
        · rw [List.mem_singleton.mp hy]
          exact one sg (List.mem_append_left _ List.mem_cons_self)
        · exact .mem (List.mem_append_right _ hy)
      · rcases List.mem_append.mp hy with hy | hy
        · rw [List.mem_singleton.mp hy]
          exact one back (List.mem_append_left _ List.mem_cons_self)
        · exact .mem (List.mem_append_right _ hy)
    have s1 : Same ((found.map f ++ [h]) ++ rest2) (h :: (found.map f ++ rest2)) := same_mem fun y => by
      simp only [List.mem_append, List.mem_cons, List.not_mem_nil, or_false]
      constructor
      · rintro ((h | h) | h)
        · exact .inr (.inl h)
        · exact .inl h
        · exact .inr (.inr h)
      · rintro (h | h | h)
        · exact .inl (.inr h)
        · exact .inl (.inl h)
        · exact .inr h
    have s2 : Same (h :: (found ++ rest2)) (found ++ ([h] ++ rest2)) := same_mem fun y => by
      simp only [List.mem_append, List.mem_cons, List.not_mem_nil, or_false]
      constructor
      · rintro (h | h | h)
        · exact .inr (.inl h)
        · exact .inl h
        · exact .inr (.inr h)
      · rintro (h | h | h)
        · exact .inr (.inl h)
        · exact .inl h
        · exact .inr (.inr h)
    exact s1.trans ((step_same hf).trans (s2.trans ((same_app hx).trans ((same_app hd.same).trans i.same))))
  · have := hd.many
    have := i.many
    simp at *
    omega
/-- behind the last place nothing is left -/
theorem StInv.done {n : Nat} {L found rest : List (List Int)} (i : StInv n L found rest) (g : Tight L) (z : ∀ v, Spn L v → ∀ q, n ≤ q → v q = 0) : rest = [] ∧ Same found L ∧ Stp 0 found ∧ All found := by
  have zero : ∀ x ∈ rest, ∀ q, cr x q = 0 := fun x hx q => by
    rcases Nat.lt_or_ge q n with h | h
    · exact i.low x hx q h
    · exact z _ ((i.same _).mp (.mem (List.mem_append_right _ hx))) q h
  have s : Same found (found ++ rest) := same_of (fun x hx => .mem (List.mem_append_left _ hx)) fun x hx => by
    rcases List.mem_append.mp hx with hx | hx
    · exact .mem hx
    · have e : cr x = fun _ => 0 := by funext q; exact zero x hx q
      rw [e]
      exact .zero
  have e := rk_span (s.trans i.same)
  have l := rk_len found
  have m := i.many
  unfold Tight at g
  have : rest.length = 0 := by omega
  exact ⟨List.eq_nil_of_length_eq_zero this, s.trans i.same, i.st.stp, i.al⟩
end K2

namespace K2
/-! the first levels; gone down -/
def idn (n : Nat) : List (List Int) := (List.range n).map fun p => (List.range n).map fun a => if a = p then 1 else 0
theorem idn2 : idn 2 = [[1, 0], [0, 1]] := by decide
theorem idn3 : idn 3 = [[1, 0, 0], [0, 1, 0], [0, 0, 1]] := by decide
theorem cr_past {x : List Int} {q : Nat} (h : x.length ≤ q) : cr x q = 0 := by unfold cr; rw [List.getD_eq_getElem?_getD, List.getElem?_eq_none h]; rfl
theorem past_span {n : Nat} {L : List (List Int)} (h : ∀ x ∈ L, x.length ≤ n) {v : Nat → Int} (s : Spn L v) : ∀ q, n ≤ q → v q = 0 := by
  induction s with
  | zero => intro q _; rfl
  | @step v s x hx _ ih =>
    intro q hq
    show s * cr x q + v q = 0
    rw [cr_past (Nat.le_trans (h x hx) hq), ih q hq]
    simp
theorem rk_none : rk [] = 0 := rk0 fun ⟨x, hx, _⟩ => by cases hx
theorem lev_start {n : Nat} (hn : n = 2 ∨ n = 3) : Lev n [] (idn n) ∧ Tight (idn n) := by
  rcases hn with rfl | rfl
  · rw [idn2]
    refine ⟨⟨fun v => ⟨fun s => ⟨past_span (by decide) s, fun p hp => by cases hp⟩, fun ⟨z, _⟩ => ?_⟩, by rw [rk_none]; decide⟩, ?_⟩
    · have s : Spn [[1, 0], [0, 1]] fun q => v 0 * cr [1, 0] q + (fun q => v 1 * cr [0, 1] q + (fun _ => (0 : Int)) q) q := .step _ (by simp) (.step _ (by simp) .zero)
      have e : (fun q => v 0 * cr [1, 0] q + (fun q => v 1 * cr [0, 1] q + (fun _ => (0 : Int)) q) q) = v := by
        funext q
        match q with
        | 0 => simp [cr]
        | 1 => simp [cr]
        | q + 2 => rw [z (q + 2) (by omega)]; simp [cr]
      rw [e] at s
      exact s
    · unfold Tight
      rw [rk2 (by unfold P3; decide) (by unfold P2 cz; decide)]
      rfl
  · rw [idn3]
    refine ⟨⟨fun v => ⟨fun s => ⟨past_span (by decide) s, fun p hp => by cases hp⟩, fun ⟨z, _⟩ => ?_⟩, by rw [rk_none]; decide⟩, ?_⟩
    · have s : Spn [[1, 0, 0], [0, 1, 0], [0, 0, 1]] fun q => v 0 * cr [1, 0, 0] q + (fun q => v 1 * cr [0, 1, 0] q + (fun q => v 2 * cr [0, 0, 1] q + (fun _ => (0 : Int)) q) q) q := .step _ (by simp) (.step _ (by simp) (.step _ (by simp) .zero))
      have e : (fun q => v 0 * cr [1, 0, 0] q + (fun q => v 1 * cr [0, 1, 0] q + (fun q => v 2 * cr [0, 0, 1] q + (fun _ => (0 : Int)) q) q) q) = v := by
        funext q
        match q with
        | 0 => simp [cr]
        | 1 => simp [cr]
        | 2 => simp [cr]
        | q + 3 => rw [z (q + 3) (by omega)]; simp [cr]
      rw [e] at s
      exact s
    · unfold Tight
      rw [rk3 (by unfold P3; decide)]
      rfl
/-- what levels_of tells -/
structure Levels (n : Nat) (P found : List (List Int)) : Prop where
  st : Stp 0 found
  al : All found
  span : ∀ v, Spn found v ↔ (∀ q, n ≤ q → v q = 0) ∧ ∀ p ∈ P, tl (cr p) v = 0
  many : (found.length : Int) = n - rk P
theorem levels_of_lev {n : Nat} {P L found rest : List (List Int)} (l : Lev n P L) (g : Tight L) (i : StInv n L found rest) : Levels n P found := by
  obtain ⟨e, s, st, al⟩ := i.done g fun v h => ((l.span v).mp h).1
  subst e
  refine ⟨st, al, fun v => (s v).trans (l.span v), ?_⟩
  have m := i.many
  have := l.many
  simp at m
  omega
/-- the same levels for rows that are told alike -/
theorem levels_unique {n : Nat} {P R F G : List (List Int)} (a : Levels n P F) (b : Levels n R G) (e : ∀ v, (∀ p ∈ P, tl (cr p) v = 0) ↔ ∀ p ∈ R, tl (cr p) v = 0) (lf : ∀ x ∈ F, x.length = n) (lg : ∀ x ∈ G, x.length = n) : F = G := by
  obtain ⟨len, rows⟩ := stp_unique a.st b.st a.al b.al fun v => by rw [a.span, b.span, e]
  apply List.ext_getElem? 
  intro i
  cases h : F[i]? with
  | none =>
    have := List.getElem?_eq_none_iff.mp h
    rw [List.getElem?_eq_none (by omega)]
  | some x =>
    have hi := (List.getElem?_eq_some_iff.mp h).1
    have h2 : G[i]? = some G[i] := List.getElem?_eq_getElem (by omega)
    rw [h2]
    congr 1
    have q := rows i x G[i] h h2
    have l1 := lf x (List.mem_of_getElem? h)
    have l2 := lg G[i] (List.getElem_mem _)
    apply List.ext_getElem (by omega)
    intro j h3 h4
    have := q j
    unfold cr at this
    rw [List.getD_eq_getElem?_getD, List.getD_eq_getElem?_getD, List.getElem?_eq_getElem h3, List.getElem?_eq_getElem h4] at this
    exact this
end K2

namespace K2
/-! single_headed's loop: how great its rows become -/
/-- q, r of a by b, as sizes -/
structure Qr (a b : Int) : Prop where
  rlt : (a.fmod b).natAbs < b.natAbs
  sgn : a.fmod b ≠ 0 → (0 < a.fmod b ↔ 0 < b)
  any : b.natAbs ≤ a.natAbs → ((a.fdiv b).natAbs + 1) * max (a.fmod b).natAbs 1 ≤ 3 * a.natAbs
  two : b.natAbs ≤ a.natAbs → (0 < a ↔ 0 < b) → ((a.fdiv b).natAbs + 1) * max (a.fmod b).natAbs 1 ≤ 2 * a.natAbs
  one : b.natAbs ≤ a.natAbs → (0 < a ↔ 0 < b) → 2 ≤ b.natAbs → ((a.fdiv b).natAbs + 1) * max (a.fmod b).natAbs 1 ≤ a.natAbs
theorem qr_pos (a : Int) {b : Int} (hb : 0 < b) : Qr a b := by
  have h1 := Int.fmod_nonneg_of_pos a hb
  have h2 := Int.fmod_lt_of_pos a hb
  have h3 := Int.mul_fdiv_add_fmod a b
  generalize hr : a.fmod b = r at *
  generalize hq : a.fdiv b = q at *
  obtain ⟨m, rfl⟩ := Int.eq_ofNat_of_zero_le (Int.le_of_lt hb)
  obtain ⟨s, rfl⟩ := Int.eq_ofNat_of_zero_le h1
  have hs : s < m := by omega
  have big : ∀ (u : Nat), 1 ≤ m → u ≤ m * u := fun u h => Nat.le_mul_of_pos_left u h
  have main : m ≤ a.natAbs → ∃ u : Nat, q.natAbs = u ∧ (u + 1) * max s 1 ≤ 3 * a.natAbs ∧ (0 < a → (u + 1) * max s 1 ≤ 2 * a.natAbs ∧ (2 ≤ m → (u + 1) * max s 1 ≤ a.natAbs)) := by
    intro hm
    refine ⟨q.natAbs, rfl, ?_⟩
    rcases (show q < 0 ∨ 0 ≤ q by omega) with hq0 | hq0
    · obtain ⟨u, hu⟩ := Int.eq_ofNat_of_zero_le (show 0 ≤ -q by omega)
      have eq : q = -(u : Int) := by omega
      subst eq
      have e1 : (m : Int) * (-(u : Int)) = -((m * u : Nat) : Int) := by rw [Int.mul_neg]; rfl
      rw [e1] at h3
      have eu : (-(u : Int)).natAbs = u := by omega
      rw [eu]
      have bu := big u (by omega)
      have t1 : a.natAbs + s = m * u := by omega
      by_cases s0 : s = 0
      · subst s0
        simp only [Nat.zero_le, Nat.max_eq_right, Nat.mul_one]
        refine ⟨by omega, fun ha => by omega⟩
      · have em : max s 1 = s := by omega
        rw [em]
        have k1 : u * s ≤ u * m := Nat.mul_le_mul_left u (by omega)
        have k2 : u * m = m * u := Nat.mul_comm _ _
        have k3 : (u + 1) * s = u * s + s := by rw [Nat.add_mul, Nat.one_mul]
        refine ⟨by omega, fun ha => by omega⟩
    · obtain ⟨u, hu⟩ := Int.eq_ofNat_of_zero_le hq0
      subst hu
      have e1 : (m : Int) * (u : Int) = ((m * u : Nat) : Int) := rfl
      rw [e1] at h3
      have eu : ((u : Int)).natAbs = u := by omega
      rw [eu]
      have bu := big u (by omega)
      have t1 : a.natAbs = m * u + s := by omega
      by_cases s0 : s = 0
      · subst s0
        simp only [Nat.zero_le, Nat.max_eq_right, Nat.mul_one]
        refine ⟨by omega, fun ha => ⟨by omega, fun h2 => ?_⟩⟩
        have : 2 * u ≤ m * u := Nat.mul_le_mul_right u h2
        omega
      · have em : max s 1 = s := by omega
        rw [em]
        have k1 : u * s ≤ u * m := Nat.mul_le_mul_left u (by omega)
        have k2 : u * m = m * u := Nat.mul_comm _ _
        have k3 : (u + 1) * s = u * s + s := by rw [Nat.add_mul, Nat.one_mul]
        refine ⟨by omega, fun ha => ⟨by omega, fun _ => by omega⟩⟩
  refine ⟨by rw [hr]; omega, fun h => by rw [hr] at h ⊢; omega, fun hm => ?_, fun hm hsg => ?_, fun hm hsg h2 => ?_⟩
  all_goals
    rw [hq, hr]
    obtain ⟨u, e, m1, m2⟩ := main (by omega)
    rw [e]
    have es : (s : Int).natAbs = s := by omega
    rw [es]
  · exact m1
  · exact (m2 (hsg.mpr hb)).1
  · exact (m2 (hsg.mpr hb)).2 (by omega)
theorem qr (a : Int) {b : Int} (hb : b ≠ 0) : Qr a b := by
  rcases Int.lt_or_gt_of_ne hb with h | h
  · have q := qr_pos (-a) (show 0 < -b by omega)
    have e1 := Int.neg_fmod_neg a b
    have e2 := Int.neg_fdiv_neg a b
    obtain ⟨q1, q2, q3, q4, q5⟩ := q
    rw [e1] at q1 q2 q3 q4 q5
    rw [e2] at q3 q4 q5
    simp only [Int.natAbs_neg] at q1 q3 q4 q5
    by_cases a0 : a = 0
    · subst a0
      simp at q1 q2 q3 q4 q5 ⊢
      refine ⟨by simpa using q1, fun h => by simp at h, fun h => by simp at h; omega, fun h => by simp at h; omega, fun h => by simp at h; omega⟩
    · exact ⟨q1, fun h => by have := q2 (by omega); omega, q3, fun h1 h2 => q4 h1 (by omega), fun h1 h2 h3 => q5 h1 (by omega) h3⟩
  · exact qr_pos a h
end K2

namespace K2
def tn (t : Nat → Int) (x : List Int) : Nat := (tl t (cr x)).natAbs
def pr (t : Nat → Int) : List (List Int) → Nat
  | [] => 1
  | x :: L => tn t x * pr t L
def Ent (M : Nat) (L : List (List Int)) : Prop := ∀ x ∈ L, ∀ y ∈ x, y.natAbs ≤ M
theorem Ent.mono {M N : Nat} {L : List (List Int)} (h : Ent M L) (e : M ≤ N) : Ent N L := fun x hx y hy => Nat.le_trans (h x hx y hy) e
theorem Ent.sub {M : Nat} {L K : List (List Int)} (h : Ent M L) (e : ∀ x ∈ K, x ∈ L) : Ent M K := fun x hx => h x (e x hx)
theorem pr_pos {t : Nat → Int} : ∀ {L : List (List Int)}, (∀ x ∈ L, tl t (cr x) ≠ 0) → 1 ≤ pr t L
  | [], _ => Nat.le_refl _
  | x :: L, h => by
    have h1 : 1 ≤ tn t x := by have := h x List.mem_cons_self; unfold tn; omega
    exact Nat.mul_le_mul h1 (pr_pos fun y hy => h y (List.mem_cons_of_mem _ hy))
theorem pr_perm {t : Nat → Int} {L M : List (List Int)} (h : L.Perm M) : pr t L = pr t M := by
  induction h with
  | nil => rfl
  | cons x _ ih => show _ * _ = _ * _; exact congrArg _ ih
  | swap x y l => show tn t y * (tn t x * pr t l) = tn t x * (tn t y * pr t l); rw [← Nat.mul_assoc, ← Nat.mul_assoc, Nat.mul_comm (tn t y)]
  | trans _ _ a b => exact a.trans b
def qs (t : Nat → Int) (b : Int) : List (List Int) → Nat
  | [] => 1
  | x :: L => (((tl t (cr x)).fdiv b).natAbs + 1) * qs t b L
theorem qs_pos (t : Nat → Int) (b : Int) : ∀ L, 1 ≤ qs t b L
  | [] => Nat.le_refl _
  | x :: L => Nat.mul_le_mul (show 1 ≤ ((tl t (cr x)).fdiv b).natAbs + 1 by omega) (qs_pos t b L)
theorem qs_mem {t : Nat → Int} {b : Int} : ∀ {L : List (List Int)} {x : List Int}, x ∈ L → ((tl t (cr x)).fdiv b).natAbs + 1 ≤ qs t b L
  | y :: L, x, h => by
    rcases List.mem_cons.mp h with rfl | h
    · exact Nat.le_mul_of_pos_right _ (qs_pos t b L)
    · exact Nat.le_trans (qs_mem h) (Nat.le_mul_of_pos_left _ (by omega))
theorem pr_filter {t : Nat → Int} {f : List Int → List Int} {b : Int} {c : Nat} : ∀ {L : List (List Int)}, (∀ r ∈ L, tl t (cr (f r)) = (tl t (cr r)).fmod b) → (∀ r ∈ L, (((tl t (cr r)).fdiv b).natAbs + 1) * max ((tl t (cr r)).fmod b).natAbs 1 ≤ c * tn t r) →
    qs t b L * pr t ((L.map f).filter (says t)) ≤ c ^ L.length * pr t L
  | [], _, _ => by simp [qs, pr]
  | r :: L, h1, h2 => by
    have ih := pr_filter (L := L) (fun x hx => h1 x (List.mem_cons_of_mem _ hx)) fun x hx => h2 x (List.mem_cons_of_mem _ hx)
    have e1 := h1 r List.mem_cons_self
    have e2 := h2 r List.mem_cons_self
    have e3 : pr t (((r :: L).map f).filter (says t)) = max ((tl t (cr r)).fmod b).natAbs 1 * pr t ((L.map f).filter (says t)) := by
      rw [List.map_cons, List.filter_cons]
      by_cases z : tl t (cr (f r)) = 0
      · have : says t (f r) = false := by unfold says; simp [z]
        rw [if_neg (by simp [this]), ← e1, z]
        simp
      · have : says t (f r) = true := says_iff.mpr z
        rw [if_pos this]
        show tn t (f r) * _ = _
        have em : max ((tl t (cr r)).fmod b).natAbs 1 = tn t (f r) := by
          rw [← e1]; unfold tn; omega
        rw [em]
    rw [e3]
    show (((tl t (cr r)).fdiv b).natAbs + 1) * qs t b L * (_ * _) ≤ c ^ (L.length + 1) * (tn t r * pr t L)
    have key := Nat.mul_le_mul e2 ih
    generalize ((tl t (cr r)).fdiv b).natAbs + 1 = A at *
    generalize max ((tl t (cr r)).fmod b).natAbs 1 = B at *
    generalize pr t ((L.map f).filter (says t)) = E at *
    generalize qs t b L = F at *
    generalize tn t r = G at *
    generalize pr t L = K at *
    rw [Nat.pow_succ]
    generalize c ^ L.length = X at *
    have l : A * F * (B * E) = A * B * (F * E) := by simp only [Nat.mul_assoc, Nat.mul_left_comm]
    have r : X * c * (G * K) = c * G * (X * K) := by simp only [Nat.mul_assoc, Nat.mul_left_comm, Nat.mul_comm]
    rw [l, r]
    exact key
def Sgn (t : Nat → Int) (L : List (List Int)) : Prop := ∃ b : Int, b ≠ 0 ∧ ∀ x ∈ L, (0 < tl t (cr x) ↔ 0 < b)
def Bnd (t : Nat → Int) (C : Nat) (heads rest : List (List Int)) : Prop := ∃ M, Ent M (heads ++ rest) ∧ (9 * (M * pr t heads) ≤ C ∨ (Sgn t heads ∧ M * pr t heads ≤ C) ∨ (heads.length ≤ 1 ∧ M ≤ 4 * C))
theorem Bnd.ent {t : Nat → Int} {C : Nat} {heads rest : List (List Int)} (h : Bnd t C heads rest) (hd : ∀ x ∈ heads, tl t (cr x) ≠ 0) : Ent (4 * C) (heads ++ rest) := by
  obtain ⟨M, e, h⟩ := h
  refine e.mono ?_
  have p := pr_pos hd
  have := Nat.le_mul_of_pos_right M p
  rcases h with h | ⟨_, h⟩ | ⟨_, h⟩ <;> omega
theorem pow_le {c : Nat} (hc : 1 ≤ c) : ∀ {n : Nat}, n ≤ 2 → c ^ n ≤ c * c
  | 0, _ => by rw [Nat.pow_zero]; exact Nat.mul_le_mul hc hc
  | 1, _ => by rw [Nat.pow_one]; exact Nat.le_mul_of_pos_right _ hc
  | 2, _ => by rw [Nat.pow_two]; exact Nat.le_refl _
  | n + 3, h => by omega
theorem Bnd.step {t : Nat → Int} {C : Nat} {heads rest : List (List Int)} (h : Bnd t C heads rest) {head : List Int} {others : List (List Int)} {f : List Int → List Int} (p : heads.Perm (head :: others)) (ne : others ≠ []) (two : others.length ≤ 2)
    (hd : ∀ x ∈ heads, tl t (cr x) ≠ 0) (le : ∀ r ∈ others, tn t head ≤ tn t r) (hf : ∀ r ∈ others, tl t (cr (f r)) = (tl t (cr r)).fmod (tl t (cr head)))
    (he : ∀ M, Ent M (head :: others) → ∀ r ∈ others, ∀ y ∈ f r, y.natAbs ≤ M * (((tl t (cr r)).fdiv (tl t (cr head))).natAbs + 1)) :
    Bnd t C (head :: (others.map f).filter (says t)) (rest ++ (others.map f).filter (mute t)) := by
  obtain ⟨M, e, h⟩ := h
  have hb : tl t (cr head) ≠ 0 := hd head (p.mem_iff.mpr List.mem_cons_self)
  have ho : ∀ r ∈ others, tl t (cr r) ≠ 0 := fun r hr => hd r (p.mem_iff.mpr (List.mem_cons_of_mem _ hr))
  have pp : pr t heads = tn t head * pr t others := pr_perm p
  have eo : Ent M (head :: others) := e.sub fun x hx => List.mem_append_left _ (p.mem_iff.mpr hx)
  have q1 := qs_pos t (tl t (cr head)) others
  have ent : Ent (M * qs t (tl t (cr head)) others) ((head :: (others.map f).filter (says t)) ++ (rest ++ (others.map f).filter (mute t))) := by
    have up : M ≤ M * qs t (tl t (cr head)) others := Nat.le_mul_of_pos_right _ q1
    have fr : ∀ x ∈ others.map f, ∀ y ∈ x, y.natAbs ≤ M * qs t (tl t (cr head)) others := fun x hx y hy => by
      obtain ⟨r, hr, rfl⟩ := List.mem_map.mp hx
      exact Nat.le_trans (he M eo r hr y hy) (Nat.mul_le_mul_left _ (qs_mem hr))
    intro x hx
    rcases List.mem_append.mp hx with hx | hx
    · rcases List.mem_cons.mp hx with rfl | hx
      · exact fun y hy => Nat.le_trans (eo _ List.mem_cons_self y hy) up
      · exact fr x (List.mem_filter.mp hx).1
    · rcases List.mem_append.mp hx with hx | hx
      · exact fun y hy => Nat.le_trans (e x (List.mem_append_right _ hx) y hy) up
      · exact fr x (List.mem_filter.mp hx).1
  have sg : Sgn t (head :: (others.map f).filter (says t)) := ⟨_, hb, fun x hx => by
    rcases List.mem_cons.mp hx with rfl | hx
    · exact Iff.rfl
    · obtain ⟨hx, hs⟩ := List.mem_filter.mp hx
      obtain ⟨r, hr, rfl⟩ := List.mem_map.mp hx
      have := (qr (tl t (cr r)) hb).sgn
      rw [← hf r hr] at this
      exact this (says_iff.mp hs)⟩
  -- one turn's growth
  have grow : ∀ c, (∀ r ∈ others, (((tl t (cr r)).fdiv (tl t (cr head))).natAbs + 1) * max ((tl t (cr r)).fmod (tl t (cr head))).natAbs 1 ≤ c * tn t r) → M * qs t (tl t (cr head)) others * pr t (head :: (others.map f).filter (says t)) ≤ c ^ others.length * (M * pr t heads) := fun c hc => by
    have k := pr_filter (c := c) hf hc
    rw [pp]
    show M * qs t (tl t (cr head)) others * (tn t head * _) ≤ _
    have k2 := Nat.mul_le_mul_left (M * tn t head) k
    generalize pr t ((others.map f).filter (says t)) = E at *
    generalize qs t (tl t (cr head)) others = F at *
    generalize tn t head = G at *
    generalize pr t others = K at *
    generalize c ^ others.length = X at *
    have l : M * F * (G * E) = M * G * (F * E) := by simp only [Nat.mul_assoc, Nat.mul_left_comm]
    have r : X * (M * (G * K)) = M * G * (X * K) := by simp only [Nat.mul_assoc, Nat.mul_left_comm, Nat.mul_comm]
    rw [l, r]
    exact k2
  refine ⟨_, ent, ?_⟩
  rcases h with h | ⟨⟨b, hb0, hbs⟩, h⟩ | ⟨h, _⟩
  · refine .inr (.inl ⟨sg, ?_⟩)
    have g := grow 3 fun r hr => (qr (tl t (cr r)) hb).any (le r hr)
    have := pow_le (c := 3) (by omega) two
    have := Nat.mul_le_mul_right (M * pr t heads) this
    omega
  · have ss : ∀ r ∈ others, (0 < tl t (cr r) ↔ 0 < tl t (cr head)) := fun r hr => (hbs r (p.mem_iff.mpr (List.mem_cons_of_mem _ hr))).trans (hbs head (p.mem_iff.mpr List.mem_cons_self)).symm
    by_cases m1 : 2 ≤ tn t head
    · refine .inr (.inl ⟨sg, ?_⟩)
      have g := grow 1 fun r hr => by rw [Nat.one_mul]; exact (qr (tl t (cr r)) hb).one (le r hr) (ss r hr) m1
      rw [Nat.one_pow, Nat.one_mul] at g
      omega
    · have none : (others.map f).filter (says t) = [] := by
        rw [List.filter_eq_nil_iff]
        intro x hx
        obtain ⟨r, hr, rfl⟩ := List.mem_map.mp hx
        have := (qr (tl t (cr r)) hb).rlt
        rw [← hf r hr] at this
        rw [says_iff]
        unfold tn at m1
        omega
      refine .inr (.inr ⟨by rw [none]; simp, ?_⟩)
      have g := grow 2 fun r hr => (qr (tl t (cr r)) hb).two (le r hr) (ss r hr)
      have := pow_le (c := 2) (by omega) two
      have := Nat.mul_le_mul_right (M * pr t heads) this
      rw [none] at g
      have h1 : tn t head = 1 := by unfold tn at m1 ⊢; omega
      have e1 : pr t [head] = 1 := by show tn t head * 1 = 1; rw [h1]
      rw [e1, Nat.mul_one] at g
      omega
  · have := p.length_eq
    rw [List.length_cons] at this
    have := List.length_pos_iff.mpr ne
    omega
end K2

namespace K2
/-- bits of k rows of a basis, rows of R bits looked at -/
def EB (R k : Nat) : Nat := if 3 ≤ k then 1 else if k = 2 then 3 * R + 20 else 15 * R + 100
theorem EB_le (R k : Nat) : EB R k ≤ 15 * R + 100 := by unfold EB; split <;> (try split) <;> omega
theorem EB_pos (R k : Nat) : 1 ≤ EB R k := by unfold EB; split <;> (try split) <;> omega
theorem EB_next (R k : Nat) (h : 2 ≤ k) (h3 : k ≤ 3) : 3 * R + 4 * EB R k + 12 ≤ EB R (k - 1) := by
  have : k = 2 ∨ k = 3 := by omega
  rcases this with rfl | rfl
  · show 3 * R + 4 * (3 * R + 20) + 12 ≤ 15 * R + 100; omega
  · show 3 * R + 4 * 1 + 12 ≤ 3 * R + 20; omega
theorem two_mono {a b : Nat} (h : a ≤ b) : 2 ^ a ≤ 2 ^ b := Nat.pow_le_pow_right (by decide) h
theorem pr_le {t : Nat → Int} {K : Nat} (hK : 1 ≤ K) : ∀ {L : List (List Int)}, (∀ x ∈ L, tn t x ≤ K) → L.length ≤ 3 → pr t L ≤ K ^ 3
  | [], _, _ => Nat.one_le_pow _ _ hK
  | [a], h, _ => by
    have := h a List.mem_cons_self
    show tn t a * 1 ≤ K ^ 3
    have : K ^ 1 ≤ K ^ 3 := Nat.pow_le_pow_right hK (by decide)
    simp at *
    omega
  | [a, b], h, _ => by
    have h1 := h a List.mem_cons_self
    have h2 := h b (List.mem_cons_of_mem _ List.mem_cons_self)
    show tn t a * (tn t b * 1) ≤ K ^ 3
    have h3 := Nat.mul_le_mul h1 h2
    have : K ^ 2 ≤ K ^ 3 := Nat.pow_le_pow_right hK (by decide)
    rw [Nat.pow_two] at this
    rw [Nat.mul_one]
    omega
  | [a, b, c], h, _ => by
    have h1 := h a List.mem_cons_self
    have h2 := h b (List.mem_cons_of_mem _ List.mem_cons_self)
    have h3 := h c (List.mem_cons_of_mem _ (List.mem_cons_of_mem _ List.mem_cons_self))
    show tn t a * (tn t b * (tn t c * 1)) ≤ K ^ 3
    rw [Nat.mul_one, Nat.pow_succ, Nat.pow_two, Nat.mul_assoc]
    exact Nat.mul_le_mul h1 (Nat.mul_le_mul h2 h3)
  | _ :: _ :: _ :: _ :: _, _, h => by simp at h
theorem cr_le {x : List Int} {M : Nat} (h : ∀ y ∈ x, y.natAbs ≤ M) (q : Nat) : (cr x q).natAbs ≤ M := by
  unfold cr
  rw [List.getD_eq_getElem?_getD]
  cases e : x[q]? with
  | none => exact Nat.zero_le _
  | some y => exact h y (List.mem_of_getElem? e)
theorem tl_le {r x : List Int} {M N : Nat} (hr : ∀ y ∈ r, y.natAbs ≤ M) (hx : ∀ y ∈ x, y.natAbs ≤ N) : tn (cr r) x ≤ 3 * (M * N) := by
  unfold tn tl
  have a0 := Int.natAbs_mul (cr r 0) (cr x 0)
  have a1 := Int.natAbs_mul (cr r 1) (cr x 1)
  have a2 := Int.natAbs_mul (cr r 2) (cr x 2)
  have b0 := Nat.mul_le_mul (cr_le hr 0) (cr_le hx 0)
  have b1 := Nat.mul_le_mul (cr_le hr 1) (cr_le hx 1)
  have b2 := Nat.mul_le_mul (cr_le hr 2) (cr_le hx 2)
  omega
/-- how single_headed is asked by levels_of -/
structure Asked (t : Nat → Int) (L : List (List Int)) (M C N : Nat) : Prop where
  m1 : 1 ≤ M
  ent : Ent M L
  c : 9 * (M * pr t (L.filter (says t))) ≤ C
  mc : M ≤ 4 * C
  n : 4 * C < 2 ^ N
  n8 : N ≤ 8000
theorem asked_of {t : Nat → Int} {L : List (List Int)} {e u : Nat} (h3 : L.length ≤ 3) (hM : Ent (2 ^ e) L) (ht : ∀ x ∈ L, tn t x ≤ 2 ^ u) (h : e + 3 * u + 7 ≤ 8000) :
    Asked t L (2 ^ e) (9 * (2 ^ e * 2 ^ (3 * u))) (e + 3 * u + 7) ∧ 4 * (9 * (2 ^ e * 2 ^ (3 * u))) ≤ 2 ^ (e + 3 * u + 6) := by
  have p : 2 ^ e * 2 ^ (3 * u) = 2 ^ (e + 3 * u) := (Nat.pow_add _ _ _).symm
  have q : 4 * (9 * 2 ^ (e + 3 * u)) ≤ 2 ^ (e + 3 * u + 6) := by rw [Nat.pow_add 2 (e + 3 * u) 6]; omega
  have one : 1 ≤ 2 ^ e := Nat.one_le_two_pow
  have one2 : 1 ≤ 2 ^ (3 * u) := Nat.one_le_two_pow
  have k := pr_le (t := t) (K := 2 ^ u) Nat.one_le_two_pow (L := L.filter (says t)) (fun x hx => ht x (List.mem_filter.mp hx).1) (Nat.le_trans (List.length_filter_le _ _) h3)
  rw [← Nat.pow_mul, Nat.mul_comm u 3] at k
  refine ⟨⟨one, hM, Nat.mul_le_mul_left _ (Nat.mul_le_mul_left _ k), ?_, ?_, h⟩, ?_⟩
  · have := Nat.le_mul_of_pos_right (2 ^ e) one2
    omega
  · rw [p]
    have : 2 ^ (e + 3 * u + 7) = 2 * 2 ^ (e + 3 * u + 6) := by rw [show e + 3 * u + 7 = (e + 3 * u + 6) + 1 by omega, Nat.pow_succ, Nat.mul_comm]
    have : 1 ≤ 2 ^ (e + 3 * u + 6) := Nat.one_le_two_pow
    omega
  · rw [p]; exact q
theorem bits_ent {R : Nat} {r : List Int} (h : ∀ x ∈ r, x.natAbs < 2 ^ R) : ∀ y ∈ r, y.natAbs ≤ 2 ^ R := fun y hy => Nat.le_of_lt (h y hy)
/-- by a row of R bits -/
theorem asked_row {R : Nat} {r : List Int} {L : List (List Int)} (hR : R ≤ 100) (hr : ∀ y ∈ r, y.natAbs ≤ 2 ^ R) (h3 : L.length ≤ 3) (hM : Ent (2 ^ EB R L.length) L) :
    ∃ M C N, Asked (cr r) L M C N ∧ (2 ≤ L.length → 4 * C ≤ 2 ^ EB R (L.length - 1)) := by
  have e1 := EB_le R L.length
  have ht : ∀ x ∈ L, tn (cr r) x ≤ 2 ^ (R + EB R L.length + 2) := fun x hx => by
    have := tl_le hr (hM x hx)
    rw [Nat.pow_add, Nat.pow_add]
    omega
  obtain ⟨a, b⟩ := asked_of h3 hM ht (by omega)
  refine ⟨_, _, _, a, fun h2 => Nat.le_trans b (two_mono ?_)⟩
  have := EB_next R L.length h2 h3
  omega
/-- by a place -/
theorem asked_place {R p : Nat} {L : List (List Int)} (hR : R ≤ 100) (hp : p < 3) (h3 : L.length ≤ 3) (hM : Ent (2 ^ EB R L.length) L) :
    ∃ M C N, Asked (fun q => if q = p then 1 else 0) L M C N ∧ (2 ≤ L.length → 4 * C ≤ 2 ^ EB R (L.length - 1)) ∧ 4 * C ≤ 2 ^ (60 * R + 410) := by
  have e1 := EB_le R L.length
  have ht : ∀ x ∈ L, tn (fun q => if q = p then 1 else 0) x ≤ 2 ^ EB R L.length := fun x hx => by
    have e : tl (fun q => if q = p then 1 else 0) (cr x) = cr x p := by
      have : p = 0 ∨ p = 1 ∨ p = 2 := by omega
      rcases this with rfl | rfl | rfl <;> simp [tl]
    unfold tn
    rw [e]
    exact cr_le (hM x hx) p
  obtain ⟨a, b⟩ := asked_of h3 hM ht (by omega)
  refine ⟨_, _, _, a, fun h2 => Nat.le_trans b (two_mono ?_), Nat.le_trans b (two_mono (by omega))⟩
  have := EB_next R L.length h2 h3
  omega
end K2

namespace K2
/-! what the law looks at: first places -/
def place (x : List Int) : Nat := x.findIdx fun y => !decide (y = 0)
/-- x begins at a, above 0 -/
def Hd (x : List Int) (a : Nat) : Prop := (∀ q, q < a → cr x q = 0) ∧ 0 < cr x a
theorem cr_get {x : List Int} {q : Nat} (h : q < x.length) : cr x q = x[q] := by unfold cr; rw [List.getD_eq_getElem?_getD, List.getElem?_eq_getElem h]; rfl
theorem cr_in {x : List Int} {q : Nat} (h : cr x q ≠ 0) : q < x.length := by
  rcases Nat.lt_or_ge q x.length with h1 | h1
  · exact h1
  · exact absurd (cr_past h1) h
theorem place_of {x : List Int} {a : Nat} (h : Hd x a) : place x = a := by
  have ha := cr_in (show cr x a ≠ 0 by have := h.2; omega)
  unfold place
  rw [List.findIdx_eq ha]
  refine ⟨?_, fun j hj => ?_⟩
  · have := h.2
    rw [cr_get ha] at this
    simp
    omega
  · have := h.1 j hj
    rw [cr_get (by omega)] at this
    simp [this]
theorem first_nz {x : List Int} {a : Nat} (h : Hd x a) : ∃ t, (List.range x.length).filter (fun i => !decide (cr x i = 0)) = a :: t := by
  have ha := cr_in (show cr x a ≠ 0 by have := h.2; omega)
  have e : List.range x.length = List.range a ++ a :: (List.range x.length).drop (a + 1) := by
    have h1 := (List.take_append_drop a (List.range x.length)).symm
    have h2 : (List.range x.length).drop a = a :: (List.range x.length).drop (a + 1) := by
      rw [List.drop_eq_getElem_cons (by simpa using ha)]
      simp
    have h3 : (List.range x.length).take a = List.range a := by rw [List.take_range]; congr 1; omega
    rw [h2, h3] at h1
    exact h1
  rw [e, List.filter_append, List.filter_cons]
  have h4 : (List.range a).filter (fun i => !decide (cr x i = 0)) = [] := by
    rw [List.filter_eq_nil_iff]
    intro q hq
    have := h.1 q (List.mem_range.mp hq)
    simp [this]
  have h5 : (!decide (cr x a = 0)) = true := by have := h.2; simp; omega
  rw [h4, if_pos h5]
  exact ⟨_, rfl⟩
/-- stepped rows, row by row -/
inductive Steps : Nat → List (List Int) → Prop
  | nil {p : Nat} : Steps p []
  | cons {p : Nat} {h : List Int} {R : List (List Int)} : p ≤ place h → Hd h (place h) → Steps (place h + 1) R → Steps p (h :: R)
theorem steps_of : ∀ {p : Nat} {G : List (List Int)}, Stp p G → Steps p G
  | _, _, .nil => .nil
  | p, _, .cons (a := a) h1 h2 h3 h4 => by
    have e := place_of ⟨h2, h3⟩
    exact .cons (by rw [e]; exact h1) (by rw [e]; exact ⟨h2, h3⟩) (by rw [e]; exact steps_of h4)
theorem Steps.hd : ∀ {p : Nat} {G : List (List Int)}, Steps p G → ∀ x ∈ G, Hd x (place x) ∧ p ≤ place x
  | _, _, .cons h1 h2 h3, x, hx => by
    rcases List.mem_cons.mp hx with rfl | hx
    · exact ⟨h2, h1⟩
    · have := h3.hd x hx
      exact ⟨this.1, by omega⟩
theorem Steps.up : ∀ {p : Nat} {G : List (List Int)}, Steps p G → G.Pairwise fun x y => place x < place y
  | _, _, .nil => .nil
  | _, _, .cons h1 h2 h3 => .cons (fun y hy => by have := (h3.hd y hy).2; omega) h3.up
theorem red_of {h : List Int} : ∀ {R : List (List Int)}, Red h R → ∀ y ∈ R, 0 ≤ cr h (place y) ∧ cr h (place y) < cr y (place y)
  | r :: R, ⟨⟨b, h1, h2, h3, h4⟩, hr⟩, y, hy => by
    rcases List.mem_cons.mp hy with rfl | hy
    · rw [place_of ⟨h1, h2⟩]; exact ⟨h3, h4⟩
    · exact red_of hr y hy
theorem all_of : ∀ {G : List (List Int)}, All G → G.Pairwise fun x y => 0 ≤ cr x (place y) ∧ cr x (place y) < cr y (place y)
  | _, .nil => .nil
  | _, .cons h1 h2 => .cons (red_of h1) (all_of h2)
/-- a sum gone down: what is left of v behind each row -/
theorem down_one {p : Nat} {h : List Int} {R : List (List Int)} {v : Nat → Int} (s : Steps p (h :: R)) (sp : Spn (h :: R) v) (st : Stp (place h + 1) R) : v (place h) % cr h (place h) = 0 ∧ Spn R fun q => v q - v (place h) / cr h (place h) * cr h q := by
  cases s with
  | cons h1 h2 h3 => exact go_down (p := p) h2.1 h2.2 st sp
theorem stp_tail {p : Nat} {h : List Int} {R : List (List Int)} (s : Stp p (h :: R)) : Stp (place h + 1) R := by
  cases s with
  | cons h1 h2 h3 h4 => rw [place_of ⟨h2, h3⟩]; exact h4
theorem spn_nil {v : Nat → Int} (s : Spn [] v) : ∀ q, v q = 0 := by
  cases s with
  | zero => intro q; rfl
  | step s h _ => cases h
end K2

open PySem L2 Y
namespace K2
theorem bdLevelsOf : BndD sLevelsOf "levels_of" pLevelsOf 1 ["side"] := fun D doc pm an cdv ct us mv h1 h2 => match us, mv, h1, h2 with
  | [a], [b], _, _ => ⟨_, _, _, _, _, _, rfl, rfl, rfl⟩
theorem bkLevelsOf : BndK sLevelsOf "levels_of" pLevelsOf 1 ["side"] [0, 1] := fun _ _ _ _ _ _ us ws h1 h2 => match us, ws, h1, h2 with
  | [_], [_], _, _ => rfl
theorem bnLevelsOf : BndK sLevelsOf "levels_of" pLevelsOf 0 ["side", "rows"] [1, 0] := fun _ _ _ _ _ _ us ws h1 h2 => match us, ws, h1, h2 with
  | [], [_, _], _, _ => rfl
end K2

namespace K2
open PySem L2 Y NdefX LamX
variable [I : NmC]
def dot (xs ys : List Int) : Int := ((xs.zip ys).map fun p => p.1 * p.2).sum
def spTimes : FSp := fun A Post _ => ∃ (xs ys : List Int) (m n : Nat), A = [.dat (row xs), .dat (row ys)] ∧ xs.length ≤ 1000 ∧ Bits m xs ∧ Bits n ys ∧ m + n ≤ 900000 ∧ Post (.dat (.int (dot xs ys))) A
def spContrary : FSp := fun A Post _ => ∃ (xs : List Int), A = [.dat (row xs)] ∧ xs.length ≤ 1000 ∧ Post (.dat (row (xs.map fun x => -x))) A
theorem bits_mul {m n : Nat} {x y : Int} (hx : x.natAbs < 2 ^ m) (hy : y.natAbs < 2 ^ n) (h : m + n ≤ 900000) : CMulW x y :=
  wide_mul (a := m + 1) (b := n + 1) (Nat.lt_of_lt_of_le hx (Nat.pow_le_pow_right (by decide) (by omega))) (Nat.lt_of_lt_of_le hy (Nat.pow_le_pow_right (by decide) (by omega))) (by omega) (by omega) (by omega)
theorem dot_tl {xs ys : List Int} (h : xs.length = ys.length) (h3 : xs.length ≤ 3) : dot xs ys = tl (cr xs) (cr ys) := by
  match xs, ys, h, h3 with
  | [], [], _, _ => rfl
  | [a], [d], _, _ => simp [dot, tl, cr]
  | [a, b], [d, e], _, _ => simp [dot, tl, cr]
  | [a, b, c], [d, e, f], _, _ => simp [dot, tl, cr]; exact (Int.add_assoc _ _ _).symm
  | _ :: _ :: _ :: _ :: _, _, _, h3 => exact absurd h3 (by simp)
section
variable {T : List Addr} {P : Program} {w : World} {K : PySem.W.Frag} {mg : Str → Option Value} {base : Heap} {f : Addr} {fd : FuncData}
theorem ok_times (F : Fun K "times" "times" sTimes f fd) (no : ∀ x ∈ bnames, mg x = none) : GOk P w K mg base 1 f fd pTimes (SpOf K T spTimes) := by
  refine g_of F scTimes no (fun A Post Z h => by obtain ⟨_, _, _, _, rfl, _⟩ := h; rfl) (by decide) ?_
  rintro cdv A fr s H E cok g B Post Z ⟨xs, ys, m, n, rfl, hl, hx, hy, hm, q⟩
  refine ssx_one (sx_ret (ex_seqB "sum" (es_of (ex_lc [("mine", 2), ("its", 3)] (ei_z (ea_cons (ed_n 0 rfl (ea_cons (ed_n 1 rfl (ea_nil ⟨_, _, .inr rfl, ?_⟩))))))))))
  rw [zip_rows]
  refine lc_map (xs.zip ys) _ (fun p => .int (p.1 * p.2)) ?_ (by exact trivial) ?_ ?_
  · rw [List.length_zip]; omega
  · intro p hp s H0 C cl fp
    refine gx_tup (gxs_cons (gx_n 2 (gxs_cons (gx_n 3 (gxs_nil ?_)))))
    intro s H0 C cl fp
    have hp := List.of_mem_zip hp
    refine ed_of (ex_bin (ed_n 2 rfl (ed_n 3 rfl (os_mul (bits_mul (hx _ hp.1) (hy _ hp.2) hm) ⟨_, rfl, rfl, rfl⟩))))
  · intro p
    refine ⟨_, _, rfl, cq_sum ?_⟩
    exact ⟨_, .dat (.dat .nil), q⟩
theorem ok_contrary (F : Fun K "contrary" "contrary" sContrary f fd) (no : ∀ x ∈ bnames, mg x = none) : GOk P w K mg base 1 f fd pContrary (SpOf K T spContrary) := by
  refine g_of F scContrary no (fun A Post Z h => by obtain ⟨_, rfl, _⟩ := h; rfl) (by decide) ?_
  rintro cdv A fr s H E cok g B Post Z ⟨xs, rfl, hl, q⟩
  refine ssx_one (sx_ret (ex_seqT "tuple" (es_of (ex_lc [("number", 1)] (ei_t (ed_n 0 rfl ⟨_, rfl, ?_⟩))))))
  refine lc_map xs _ (fun x => .int (-x)) (by omega) (by exact trivial) ?_ ?_
  · intro x hx s H0 C cl fp
    refine gx_n 1 ?_
    intro s H0 C cl fp
    exact ed_of (ex_un (ed_n 1 rfl (us_neg ⟨_, rfl, rfl, rfl⟩)))
  · intro p
    refine ⟨_, _, rfl, cq_tup ?_⟩
    rw [row_of]
    exact ⟨_, .dat .nil, q⟩
end
end K2

namespace K2
open PySem L2 Y NdefX LamX
variable [I : NmC]
def rows (L : List (List Int)) : D := .lst (L.map row)
def spTell (n Lim : Nat) (t : Nat → Int) (cds : List D) : FSp := fun A Post _ => ∃ x : List Int, A = (row x :: cds).map .dat ∧ x.length = n ∧ (∀ y ∈ x, y.natAbs ≤ Lim) ∧ Post (.dat (.int (tl t (cr x)))) A
/-- what single_headed tells of rows L -/
structure Shd (t : Nat → Int) (n C : Nat) (L heads rest : List (List Int)) : Prop where
  hd : Headed t L heads rest
  len : ∀ x ∈ heads ++ rest, x.length = n
  ent : Ent (4 * C) (heads ++ rest)
  non : heads = [] → rest = L
def spSH (P : Program) (w : World) (K : PySem.W.Frag) (mg : Str → Option Value) (base : Heap) (T : List Addr) (k : Nat) : FSp := fun A Post _ => ∃ (l : Bool) (L : List (List Int)) (f : Addr) (F : NF) (e : Expr) (fr : List Str) (cds : List D) (t : Nat → Int) (n M C N : Nat),
  A = [.dat (sq l (L.map row)), .dat (.fn f F e fr cds)] ∧ n ≤ 3 ∧ L.length ≤ 3 ∧ (∀ x ∈ L, x.length = n) ∧ Ent M L ∧ 1 ≤ M ∧ 9 * (M * pr t (L.filter (says t))) ≤ C ∧ M ≤ 4 * C ∧ 4 * C < 2 ^ N ∧ N ≤ 8000 ∧
  LOk P w K mg base k f F e fr (SpOf K T (spTell n (4 * C) t cds)) ∧ D.nofns cds = true ∧ ∀ heads rest, Shd t n C L heads rest → Post (.dat (.tup [rows heads, rows rest])) A
/-- the loop -/
structure ShIn (t : Nat → Int) (n C : Nat) (L heads rest : List (List Int)) : Prop where
  hi : HInv t L heads rest
  len : ∀ x ∈ heads ++ rest, x.length = n
  bnd : Bnd t C heads rest
  non : heads = [] → rest = L
theorem ShIn.few {t : Nat → Int} {n C : Nat} {L heads rest : List (List Int)} (h : ShIn t n C L heads rest) (h3 : L.length ≤ 3) : heads.length ≤ 3 ∧ rest.length ≤ 3 := by have := h.hi.many; omega
theorem ShIn.done {t : Nat → Int} {n C : Nat} {L heads rest : List (List Int)} (h : ShIn t n C L heads rest) (h1 : heads.length ≤ 1) : Shd t n C L heads rest := ⟨h.hi.done h1, h.len, h.bnd.ent h.hi.hd, h.non⟩
theorem ShIn.start {t : Nat → Int} {n M C : Nat} {L : List (List Int)} (hl : ∀ x ∈ L, x.length = n) (he : Ent M L) (hC : 9 * (M * pr t (L.filter (says t))) ≤ C) : ShIn t n C L (L.filter (says t)) (L.filter (mute t)) := by
  refine ⟨HInv.start t L, fun x hx => hl x ((part_mem t).mp hx), ⟨M, he.sub fun x hx => (part_mem t).mp hx, .inl hC⟩, fun z => ?_⟩
  rw [List.filter_eq_nil_iff] at z
  rw [List.filter_eq_self]
  intro x hx
  have := z x hx
  rw [says_iff] at this
  exact mute_iff.mpr (Classical.byContradiction this)
theorem cr_more {xs ys : List Int} {s : Int} (h : xs.length = ys.length) (q : Nat) : cr (moreOf xs s ys) q = cr xs q + s * cr ys q := by
  have := co_more (s := s) (c := 1) (q := q) h
  simpa [cr_co] using this
theorem ent_more {xs ys : List Int} {s : Int} {M : Nat} (hx : ∀ y ∈ xs, y.natAbs ≤ M) (hy : ∀ y ∈ ys, y.natAbs ≤ M) : ∀ y ∈ moreOf xs s ys, y.natAbs ≤ M * (s.natAbs + 1) := by
  intro y h
  obtain ⟨⟨a, b⟩, hp, rfl⟩ := List.mem_map.mp h
  have h1 := hx a (List.of_mem_zip hp).1
  have h2 := hy b (List.of_mem_zip hp).2
  show (a + s * b).natAbs ≤ _
  have h3 : (a + s * b).natAbs ≤ a.natAbs + (s * b).natAbs := Int.natAbs_add_le _ _
  rw [Int.natAbs_mul] at h3
  have h4 := Nat.mul_le_mul_left s.natAbs h2
  have h5 : M * (s.natAbs + 1) = s.natAbs * M + M := by rw [Nat.mul_add, Nat.mul_one, Nat.mul_comm]
  omega
theorem pr_mem {t : Nat → Int} : ∀ {L : List (List Int)} {r : List Int}, (∀ x ∈ L, tl t (cr x) ≠ 0) → r ∈ L → tn t r ≤ pr t L
  | y :: L, r, h, hr => by
    have h2 : ∀ x ∈ L, tl t (cr x) ≠ 0 := fun x hx => h x (List.mem_cons_of_mem _ hx)
    rcases List.mem_cons.mp hr with rfl | hr
    · exact Nat.le_mul_of_pos_right _ (pr_pos h2)
    · have : 1 ≤ tn t y := by have := h y List.mem_cons_self; unfold tn; omega
      exact Nat.le_trans (pr_mem h2 hr) (Nat.le_mul_of_pos_left _ this)
theorem cr_zero {x : List Int} (h : ∀ y ∈ x, y.natAbs ≤ 0) (q : Nat) : cr x q = 0 := by
  unfold cr
  rw [List.getD_eq_getElem?_getD]
  cases e : x[q]? with
  | none => rfl
  | some y => have := h y (List.mem_of_getElem? e); show y = 0; omega
/-- while there is a turn, what is told is not great -/
theorem ShIn.tells {t : Nat → Int} {n C : Nat} {L heads rest : List (List Int)} (h : ShIn t n C L heads rest) (m : 1 < heads.length) : ∀ r ∈ heads, tn t r ≤ 4 * C := by
  intro r hr
  obtain ⟨M, e, b⟩ := h.bnd
  have hp := pr_mem h.hi.hd hr
  have M1 : 1 ≤ M := by
    rcases M with _ | M
    · exfalso
      have z := cr_zero (e r (List.mem_append_left _ hr))
      apply h.hi.hd r hr
      unfold tl
      rw [z 0, z 1, z 2]
      simp
    · omega
  have := Nat.le_mul_of_pos_left (pr t heads) M1
  rcases b with b | ⟨_, b⟩ | ⟨b, _⟩ <;> omega
/-- one turn -/
theorem ShIn.step {t : Nat → Int} {n C : Nat} {L heads rest : List (List Int)} (h : ShIn t n C L heads rest) (h3 : L.length ≤ 3) {head : List Int} {others : List (List Int)} (p : heads.Perm (head :: others)) (ne : others ≠ [])
    (le : ∀ r ∈ others, tn t head ≤ tn t r) : ShIn t n C L (head :: (others.map fun r => moreOf r (-((tl t (cr r)).fdiv (tl t (cr head)))) head).filter (says t)) (rest ++ (others.map fun r => moreOf r (-((tl t (cr r)).fdiv (tl t (cr head)))) head).filter (mute t)) ∧
    wt t (head :: (others.map fun r => moreOf r (-((tl t (cr r)).fdiv (tl t (cr head)))) head).filter (says t)) < wt t heads := by
  have hb : tl t (cr head) ≠ 0 := h.hi.hd head (p.mem_iff.mpr List.mem_cons_self)
  have lh : ∀ x ∈ head :: others, x.length = n := fun x hx => h.len x (List.mem_append_left _ (p.mem_iff.mpr hx))
  have l1 := lh head List.mem_cons_self
  have l2 : ∀ r ∈ others, r.length = head.length := fun r hr => by rw [l1]; exact lh r (List.mem_cons_of_mem _ hr)
  have hc : ∀ r ∈ others, ∀ q, cr (moreOf r (-((tl t (cr r)).fdiv (tl t (cr head)))) head) q = cr r q + (-((tl t (cr r)).fdiv (tl t (cr head)))) * cr head q := fun r hr q => cr_more (l2 r hr) q
  have ht : ∀ r ∈ others, tl t (cr (moreOf r (-((tl t (cr r)).fdiv (tl t (cr head)))) head)) = (tl t (cr r)).fmod (tl t (cr head)) := fun r hr => by
    rw [tl_more (hc r hr), Int.fmod_def, Int.neg_mul, Int.mul_comm]
    omega
  have s1 := h.hi.step p ne hc le fun r hr => by rw [ht r hr]; exact (qr _ hb).rlt
  have two : others.length ≤ 2 := by
    have := p.length_eq
    rw [List.length_cons] at this
    have := (h.few h3).1
    omega
  refine ⟨⟨s1.1, fun x hx => ?_, h.bnd.step p ne two h.hi.hd le ht fun M e r hr => ?_, fun z => by cases z⟩, s1.2⟩
  · have fr : ∀ x ∈ others.map fun r => moreOf r (-((tl t (cr r)).fdiv (tl t (cr head)))) head, x.length = n := fun x hx => by
      obtain ⟨r, hr, rfl⟩ := List.mem_map.mp hx
      rw [len_more (l2 r hr)]
      exact lh r (List.mem_cons_of_mem _ hr)
    rcases List.mem_append.mp hx with hx | hx
    · rcases List.mem_cons.mp hx with rfl | hx
      · exact l1
      · exact fr x (List.mem_filter.mp hx).1
    · rcases List.mem_append.mp hx with hx | hx
      · exact h.len x (List.mem_append_right _ hx)
      · exact fr x (List.mem_filter.mp hx).1
  · have := ent_more (s := -((tl t (cr r)).fdiv (tl t (cr head)))) (e r (List.mem_cons_of_mem _ hr)) (e head List.mem_cons_self)
    rw [Int.natAbs_neg] at this
    exact this
end K2

namespace K2
open PySem L2 Y NdefX LamX
variable [I : NmC]
theorem nofns_ints : ∀ z : List Int, D.nofns (z.map .int) = true
  | [] => rfl
  | _ :: z => by simp [D.nofns, D.nofn, nofns_ints z]
theorem nofn_row (z : List Int) : (row z).nofn = true := by simp [row, D.nofn, nofns_ints]
theorem nofns_row (z : List Int) : D.nofns [row z] = true := by simp [D.nofns, nofn_row]
/-- the key: how great what a row is told is -/
def spKey (Lim n : Nat) (t : Nat → Int) (f : Addr) (F : NF) (e : Expr) (fr : List Str) (cds : List D) : FSp := fun A Post _ => ∃ x : List Int, A = [.dat (row x), .dat (.fn f F e fr cds)] ∧ x.length = n ∧ (∀ y ∈ x, y.natAbs ≤ Lim) ∧ Post (.dat (.int (if tl t (cr x) < 0 then -tl t (cr x) else tl t (cr x)))) A
section
variable {T : List Addr} {P : Program} {w : World} {K : PySem.W.Frag} {mg : Str → Option Value} {base : Heap} {f : Addr} {fd : FuncData}
theorem ok_sh {k : Nat} {c Pt : Addr} (F : Fun K "single_headed" "single_headed" sSingleHeaded f fd) (no : ∀ x ∈ bnames, mg x = none) (Mo : Fn T P w K mg base 1 "more_of" "more_of" sMoreOf pMoreOf spMore)
    (TB : TabB base mg c Pt) (hcd : fd.code = .ref c) (hPT : Pt ∈ T) (hnm : I.nm Pt = ("single_headed" : Str) ++ ".<locals>." ++ "<lambda>") (hk : 1 ≤ k) :
    GOk P w K mg base (k + 4) f fd pSingleHeaded (SpOf K T (spSH P w K mg base T k)) := by
  refine g_ofM F scSingleHeaded no (fun A Post Z h => by obtain ⟨_, _, _, _, _, _, _, _, _, _, _, _, rfl, _⟩ := h; rfl) (by decide) ?_
  rintro cdv A fr s H E hcode cok g B Post Z ⟨l, L, f1, F1, e1, fr1, cds, t, n, M, C, N, rfl, hn3, h3, hl, hM, hM1, hC, hMC, hN, hN8, G1, nf1, q⟩
  obtain rfl : cdv = .ref c := hcode.symm.trans hcd
  have g1 : Good k (cxOf (CX P w) P w K mg base nSingleHeaded "single_headed" (defScope sSingleHeaded) f (.ref c) A fr s H E).A := g.mono (by omega)
  have gm : Good 1 (cxOf (CX P w) P w K mg base nSingleHeaded "single_headed" (defScope sSingleHeaded) f (.ref c) A fr s H E).A := g.mono (by omega)
  refine ssx_cons (sx_set 2 (ex_seqT "list" (es_of (ex_of (ed_n 0 rfl ⟨l, L.map row, seq_sq, cq_list fun p2 => ?_⟩)))))
  have hent : ∀ x ∈ L, ∀ y ∈ x, y.natAbs ≤ 4 * C := hM.mono hMC
  refine ssx_cons (sx_setLc 3 [("row", 4)] (ei_o 2 rfl ?_))
  refine lc_filter L row (says t) row (by omega) (by exact rfl) ?_ ?_
  · intro z hz s H0 C cl fp
    refine gx_n 4 ?_
    intro s H0 C cl fp
    exact tx_cmp (ed_of (ex_callF 1 rfl G1 g1 (ea_cons (ed_n 4 rfl (ea_nil ⟨nofns_row z, nf1, z, rfl, hl z hz, hent z hz, _, rfl, ed_int (os_ne ⟨_, rfl, rfl, rfl, fun _ s H0 C cl fp => ed_n 4 rfl ⟨rfl, rfl⟩⟩)⟩)))))
  intro p3
  refine ssx_at (B := [.dat (sq l (L.map row)), .dat (.fn f1 F1 e1 fr1 cds), .own p2 (.lst (L.map row)), .own p3 (.lst ((L.filter (says t)).map row)), .any, .any, .any, .any, .any]) ?_ rfl
  refine ssx_cons (sx_setLc 5 [("row", 4)] (ei_o 2 rfl ?_))
  refine lc_filter L row (mute t) row (by omega) (by exact rfl) ?_ ?_
  · intro z hz s H0 C cl fp
    refine gx_n 4 ?_
    intro s H0 C cl fp
    exact tx_cmp (ed_of (ex_callF 1 rfl G1 g1 (ea_cons (ed_n 4 rfl (ea_nil ⟨nofns_row z, nf1, z, rfl, hl z hz, hent z hz, _, rfl, ed_int (os_eq ⟨_, rfl, rfl, rfl, fun _ s H0 C cl fp => ed_n 4 rfl ⟨rfl, rfl⟩⟩)⟩)))))
  intro p5
  refine ssx_at (B := [.dat (sq l (L.map row)), .dat (.fn f1 F1 e1 fr1 cds), .own p2 (.lst (L.map row)), .own p3 (.lst ((L.filter (says t)).map row)), .any, .own p5 (.lst ((L.filter (mute t)).map row)), .any, .any, .any]) ?_ rfl
  refine ssx_cons (sx_while (fun m A' => ∃ (heads rest : List (List Int)) (p3 p5 : Addr) (s4 s6 s7 s8 : SD), ShIn t n C L heads rest ∧ m = wt t heads ∧
    A' = [.dat (sq l (L.map row)), .dat (.fn f1 F1 e1 fr1 cds), .own p2 (.lst (L.map row)), .own p3 (.lst (heads.map row)), s4, .own p5 (.lst (rest.map row)), s6, s7, s8]) (wt t (L.filter (says t))) ⟨_, _, p3, p5, _, _, _, _, ShIn.start hl hM hC, rfl, rfl⟩ ?_)
  rintro m A' ⟨heads, rest, p3, p5, s4, s6, s7, s8, si, rfl, rfl⟩
  have few := si.few h3
  have ent := si.bnd.ent si.hi.hd
  have lenH : ∀ x ∈ heads, x.length = n := fun x hx => si.len x (List.mem_append_left _ hx)
  have entH : ∀ x ∈ heads, ∀ y ∈ x, y.natAbs ≤ 4 * C := fun x hx => ent x (List.mem_append_left _ hx)
  refine tx_cmp (ed_of (ex_seqB "len" (es_o 3 rfl (cq_len ⟨_, rfl, ed_int (os_gt ⟨_, rfl, fun h => ?_, fun h => ?_⟩)⟩))))
  rotate_left
  · -- the end
    have h1 : heads.length ≤ 1 := by simp at h; omega
    refine ssx_one (sx_ret (ex_tup (ea_cons (ed_nf 3 rfl rfl (ea_cons (ed_nf 5 rfl rfl (ea_nil ⟨by simp, ?_⟩)))))))
    refine ⟨_, .dat (.dat .nil), q heads rest (si.done h1)⟩
  have h2 : 1 < heads.length := by simp at h; omega
  -- the least one ahead
  refine ssx_cons (sx_asg (ed_of (ex_sortedLam heads row (fun x => if tl t (cr x) < 0 then -tl t (cr x) else tl t (cr x)) [1] ["tell"] TB rfl hPT hnm (k := k + 1) (S := spKey (4 * C) n t f1 F1 e1 fr1 cds) (g.mono (by omega)) ?_ (es_o 3 rfl ?_))))
  · intro f' c'
    refine lok_of (N := ["row", "tell"]) (ps := ["row"]) (fr := ["tell"]) (k := k) (nscope_by (by kernel_rfl)) no (fun pm ctv us hl => by match us, hl with | [_], _ => rfl) (fun A Post Z h => by obtain ⟨_, rfl, _⟩ := h; rfl) ?_
    rintro A outer s H E cok g2 B Post Z ⟨x, rfl, hx, he, q⟩
    refine ex_callB "abs" (ea_cons (ed_of (ex_callF 1 rfl G1 g2 (ea_cons (ed_n 0 rfl (ea_nil ⟨nofns_row x, nf1, x, rfl, hx, he, _, rfl, ea_nil (cs_abs ?_)⟩))))))
    exact ⟨_, .dat (.dat .nil), q⟩
  refine ⟨rfl, rfl, by omega, [.fn f1 F1 e1 fr1 cds], rfl, fun z hz => ⟨z, rfl, lenH z hz, entH z hz, rfl⟩, fun q9 => ?_⟩
  have pm : ((heads.mergeSort fun a b => decide ((if tl t (cr a) < 0 then -tl t (cr a) else tl t (cr a)) ≤ if tl t (cr b) < 0 then -tl t (cr b) else tl t (cr b)))).Perm heads := List.mergeSort_perm _ _
  have pw := List.pairwise_mergeSort (le := fun a b => decide ((if tl t (cr a) < 0 then -tl t (cr a) else tl t (cr a)) ≤ if tl t (cr b) < 0 then -tl t (cr b) else tl t (cr b))) (fun a b c h1 h2 => by simp only [decide_eq_true_eq] at *; omega) (fun a b => by simp only [Bool.or_eq_true, decide_eq_true_eq]; omega) heads
  generalize (heads.mergeSort fun a b => decide ((if tl t (cr a) < 0 then -tl t (cr a) else tl t (cr a)) ≤ if tl t (cr b) < 0 then -tl t (cr b) else tl t (cr b))) = S at pm pw
  cases S with
  | nil => have := pm.length_eq; simp at this; omega
  | cons head others =>
  have pm := pm.symm
  have lo : others.length + 1 = heads.length := by have := pm.length_eq; simpa using this.symm
  have no0 : others ≠ [] := fun z => by subst z; simp at lo; omega
  have le : ∀ r ∈ others, tn t head ≤ tn t r := fun r hr => by
    have := (List.pairwise_cons.mp pw).1 r hr
    simp only [decide_eq_true_eq] at this
    unfold tn
    split at this <;> split at this <;> omega
  have st := si.step h3 pm no0 le
  have hh : head ∈ heads := pm.mem_iff.mpr List.mem_cons_self
  have ho : ∀ r ∈ others, r ∈ heads := fun r hr => pm.mem_iff.mpr (List.mem_cons_of_mem _ hr)
  have g0 : ∀ r ∈ heads, (tl t (cr r)).natAbs < 2 ^ N := fun r hr => by
    have : tn t r ≤ 4 * C := si.tells h2 r hr
    unfold tn at this
    omega
  have hb : tl t (cr head) ≠ 0 := si.hi.hd head hh
  have hN0 : 0 < N := by
    rcases N with _ | N
    · have := hC; simp at hN; omega
    · omega
  refine ⟨_, rfl, gx_star2 (by rw [List.length_map]; omega) (gx_n 6 (gx_n 7 ?_))⟩
  refine ssx_cons (sx_setLc 8 [("row", 4)] (ei_l (ed_n 7 rfl ⟨_, .inl rfl, ?_⟩)))
  refine lc_map others row (fun r => row (moreOf r (-((tl t (cr r)).fdiv (tl t (cr head)))) head)) (by omega) (by exact trivial) ?_ ?_
  · intro z hz s H0 C cl fp
    refine gx_n 4 ?_
    intro s H0 C cl fp
    have hz := ho z hz
    refine ed_of (ex_call Mo gm bMoreOf (ea_cons (ed_n 4 rfl (ea_cons (ed_of (ex_un (ed_of (ex_bin ?_))))))))
    refine ed_of (ex_callF 1 rfl G1 g1 (ea_cons (ed_n 4 rfl (ea_nil ⟨nofns_row z, nf1, z, rfl, lenH z hz, entH z hz, _, rfl, ?_⟩))))
    refine ed_of (ex_callF 1 rfl G1 g1 (ea_cons (ed_n 6 rfl (ea_nil ⟨nofns_row head, nf1, head, rfl, lenH head hh, entH head hh, _, rfl, ?_⟩))))
    refine os_divZ (divZ_of hb (g0 head hh) hN0 (by omega)) ⟨_, rfl, us_neg ⟨_, rfl, ea_cons (ed_n 6 rfl (ea_nil ?_))⟩⟩
    refine ⟨false, z, head, _, rfl, by rw [lenH z hz]; omega, fun y hy => ?_, _, rfl, rfl, rfl⟩
    refine bits_mul (m := N) (n := N) ?_ ?_ (by omega)
    · rw [Int.natAbs_neg]
      exact Nat.lt_of_le_of_lt (Int.natAbs_fdiv_le_natAbs _ _) (g0 z hz)
    · exact Nat.lt_of_le_of_lt (entH head hh y hy) hN
  intro p8
  refine ssx_at (B := [.dat (sq l (L.map row)), .dat (.fn f1 F1 e1 fr1 cds), .own p2 (.lst (L.map row)), .own p3 (.lst (heads.map row)), strip (some s4), .own p5 (.lst (rest.map row)), .dat (row head), .dat (.lst (others.map row)), .own p8 (.lst (others.map fun r => row (moreOf r (-((tl t (cr r)).fdiv (tl t (cr head)))) head)))]) ?_ rfl
  have em : (others.map fun r => row (moreOf r (-((tl t (cr r)).fdiv (tl t (cr head)))) head)) = (others.map fun r => moreOf r (-((tl t (cr r)).fdiv (tl t (cr head)))) head).map row := by rw [List.map_map]; rfl
  rw [em]
  have lenF : ∀ x ∈ others.map fun r => moreOf r (-((tl t (cr r)).fdiv (tl t (cr head)))) head, x.length = n := fun x hx => st.1.len x (by
    have := (part_mem t (x := x)).mpr hx
    rcases List.mem_append.mp this with h | h
    · exact List.mem_append_left _ (List.mem_cons_of_mem _ h)
    · exact List.mem_append_right _ (List.mem_append_right _ h))
  have entF : ∀ x ∈ others.map fun r => moreOf r (-((tl t (cr r)).fdiv (tl t (cr head)))) head, ∀ y ∈ x, y.natAbs ≤ 4 * C := fun x hx => (st.1.bnd.ent st.1.hi.hd) x (by
    have := (part_mem t (x := x)).mpr hx
    rcases List.mem_append.mp this with h | h
    · exact List.mem_append_left _ (List.mem_cons_of_mem _ h)
    · exact List.mem_append_right _ (List.mem_append_right _ h))
  have lenO : (others.map fun r => moreOf r (-((tl t (cr r)).fdiv (tl t (cr head)))) head).length = others.length := List.length_map _
  generalize (others.map fun r => moreOf r (-((tl t (cr r)).fdiv (tl t (cr head)))) head) = W at st lenF entF lenO
  have lw1 := List.length_filter_le (says t) W
  have lw2 := List.length_filter_le (mute t) W
  refine ssx_cons (sx_set 3 (ex_bin (ed_of (ex_lst (ea_cons (ed_n 6 rfl (ea_nil ⟨by simp, fun p9 => ⟨_, rfl, ed_of (ex_lc [("row", 4)] (ei_o 8 rfl ?_))⟩⟩)))))))
  refine lc_filter W row (says t) row (by omega) (by exact rfl) ?_ ?_
  · intro z hz s H0 C cl fp
    refine gx_n 4 ?_
    intro s H0 C cl fp
    exact tx_cmp (ed_of (ex_callF 1 rfl G1 g1 (ea_cons (ed_n 4 rfl (ea_nil ⟨nofns_row z, nf1, z, rfl, lenF z hz, entF z hz, _, rfl, ed_int (os_ne ⟨_, rfl, rfl, rfl, fun _ s H0 C cl fp => ed_n 4 rfl ⟨rfl, rfl⟩⟩)⟩)))))
  intro p10
  refine ⟨_, rfl, os_catL (by rw [List.length_map]; simp; omega) fun p11 => ?_⟩
  refine ssx_at (B := [.dat (sq l (L.map row)), .dat (.fn f1 F1 e1 fr1 cds), .own p2 (.lst (L.map row)), .own p11 (.lst ((head :: W.filter (says t)).map row)), strip (some s4), .own p5 (.lst (rest.map row)), .dat (row head), .dat (.lst (others.map row)), .own p8 (.lst (W.map row))]) ?_ (by cases s4 <;> rfl)
  refine ssx_one (sx_ext 5 rfl (ed_of (ex_lc [("row", 4)] (ei_o 8 rfl ?_))))
  refine lc_filter W row (mute t) row (by omega) (by exact rfl) ?_ ?_
  · intro z hz s H0 C cl fp
    refine gx_n 4 ?_
    intro s H0 C cl fp
    exact tx_cmp (ed_of (ex_callF 1 rfl G1 g1 (ea_cons (ed_n 4 rfl (ea_nil ⟨nofns_row z, nf1, z, rfl, lenF z hz, entF z hz, _, rfl, ed_int (os_eq ⟨_, rfl, rfl, rfl, fun _ s H0 C cl fp => ed_n 4 rfl ⟨rfl, rfl⟩⟩)⟩)))))
  intro p12
  refine ⟨_, rfl, _, _, _, rfl, rfl, by rw [List.length_map, List.length_map]; omega, ?_⟩
  refine ⟨_, st.2, _, _, p11, p5, strip (some (strip (some s4))), .dat (row head), .dat (.lst (others.map row)), .own p8 (.lst (W.map row)), st.1, rfl, ?_⟩
  rw [List.map_append]
  cases s4 <;> rfl
end
end K2

namespace K2
open PySem L2 Y NdefX LamX
variable [I : NmC]
/-- bits of what stepped tells -/
def SB (R i : Nat) : Nat := i * (60 * R + 411) + 1
def spStepped : FSp := fun A Post _ => ∃ (l : Bool) (L : List (List Int)) (n R : Nat), A = [.dat (sq l (L.map row)), .dat (.int n)] ∧ n ≤ 3 ∧ L.length ≤ 3 ∧ (∀ x ∈ L, x.length = n) ∧ Ent (2 ^ EB R L.length) L ∧ R ≤ 100 ∧
  ∀ p G rest, StInv n L G rest → (∀ x ∈ G, x.length = n) → Ent (2 ^ SB R n) G → Post (.own p (.lst (G.map row))) A
/-- stepped's loop -/
structure SpIn (R n i : Nat) (L G rest : List (List Int)) : Prop where
  st : StInv i L G rest
  lg : ∀ x ∈ G, x.length = n
  lr : ∀ x ∈ rest, x.length = n
  er : Ent (2 ^ EB R rest.length) rest
  eg : Ent (2 ^ SB R i) G
theorem SpIn.few {R n i : Nat} {L G rest : List (List Int)} (s : SpIn R n i L G rest) (h : L.length ≤ 3) : G.length ≤ 3 ∧ rest.length ≤ 3 := by have := s.st.many; omega
theorem SpIn.none {R n i C : Nat} {L G rest rest2 : List (List Int)} (s : SpIn R n i L G rest) (hp : i < 3) (h : Shd (unit i) n C rest [] rest2) : SpIn R n (i + 1) L G rest2 := by
  obtain rfl := h.non rfl
  exact ⟨s.st.none hp h.hd, s.lg, s.lr, s.er, s.eg.mono (two_mono (by unfold SB; rw [Nat.add_mul]; omega))⟩
theorem SpIn.head {R n i C : Nat} {L G rest rest2 : List (List Int)} {x h : List Int} (s : SpIn R n i L G rest) (h3 : L.length ≤ 3) (hp : i < 3) (hs : Shd (unit i) n C rest [x] rest2) (hC : 2 ≤ rest.length → 4 * C ≤ 2 ^ EB R (rest.length - 1)) (hC2 : 4 * C ≤ 2 ^ (60 * R + 410))
    (lh : h.length = n) (eh : ∀ y ∈ h, y.natAbs ≤ 4 * C) (sg : (∀ q, cr h q = cr x q) ∨ ∀ q, cr h q = - cr x q) (pos : 0 < cr h i) :
    SpIn R n (i + 1) L (G.map (fun r => moreOf r (-((cr r i).fdiv (cr h i))) h) ++ [h]) rest2 := by
  have many := hs.hd.many
  simp at many
  have hb : ∀ r ∈ G, ∀ q, cr (moreOf r (-((cr r i).fdiv (cr h i))) h) q = cr r q + (-((cr r i).fdiv (cr h i))) * cr h q := fun r hr q => cr_more (by rw [s.lg r hr, lh]) q
  refine ⟨s.st.head hp hs.hd sg pos hb fun r hr => ?_, fun y hy => ?_, fun y hy => hs.len y (List.mem_append_right _ hy), fun y hy => ?_, fun y hy => ?_⟩
  · have e : cr (moreOf r (-((cr r i).fdiv (cr h i))) h) i = (cr r i).fmod (cr h i) := by
      rw [hb r hr i, Int.fmod_def, Int.neg_mul, Int.mul_comm]
      omega
    rw [e]
    exact ⟨Int.fmod_nonneg_of_pos _ pos, Int.fmod_lt_of_pos _ pos⟩
  · rcases List.mem_append.mp hy with hy | hy
    · obtain ⟨r, hr, rfl⟩ := List.mem_map.mp hy
      rw [len_more (by rw [s.lg r hr, lh])]
      exact s.lg r hr
    · have : y = h := by simpa using hy
      subst this; exact lh
  · have e2 : rest2.length = rest.length - 1 := by omega
    rw [e2]
    have two : 2 ≤ rest.length := by
      have := List.length_pos_of_mem hy
      omega
    exact (hs.ent.mono (hC two)) y (List.mem_append_right _ hy)
  · have b1 : 2 ^ (60 * R + 410) ≤ 2 ^ SB R (i + 1) := two_mono (by unfold SB; rw [Nat.add_mul]; omega)
    rcases List.mem_append.mp hy with hy | hy
    · obtain ⟨r, hr, rfl⟩ := List.mem_map.mp hy
      intro z hz
      obtain ⟨⟨a, b⟩, hp, rfl⟩ := List.mem_map.mp hz
      have c1 := s.eg r hr a (List.of_mem_zip hp).1
      have c2 := Nat.le_trans (eh b (List.of_mem_zip hp).2) hC2
      have c3 : ((cr r i).fdiv (cr h i)).natAbs ≤ 2 ^ SB R i := Nat.le_trans (Int.natAbs_fdiv_le_natAbs _ _) (cr_le (s.eg r hr) i)
      have c4 := Nat.mul_le_mul c3 c2
      have c5 : (a + -(cr r i).fdiv (cr h i) * b).natAbs ≤ a.natAbs + (-(cr r i).fdiv (cr h i) * b).natAbs := Int.natAbs_add_le _ _
      rw [Int.natAbs_mul, Int.natAbs_neg] at c5
      have c6 : 2 ^ SB R (i + 1) = 2 ^ SB R i * (2 ^ (60 * R + 410) * 2) := by
        rw [← Nat.pow_succ, ← Nat.pow_add]
        congr 1
        unfold SB; rw [Nat.add_mul]; omega
      have c7 : 1 ≤ 2 ^ (60 * R + 410) := Nat.one_le_two_pow
      have c8 : 2 ^ SB R i * 1 ≤ 2 ^ SB R i * 2 ^ (60 * R + 410) := Nat.mul_le_mul_left _ c7
      show (a + -(cr r i).fdiv (cr h i) * b).natAbs ≤ _
      rw [c6, ← Nat.mul_assoc]
      generalize 2 ^ SB R i * 2 ^ (60 * R + 410) = W at *
      omega
    · have : y = h := by simpa using hy
      subst this
      exact fun z hz => Nat.le_trans (eh z hz) (Nat.le_trans hC2 b1)
end K2

namespace K2
open PySem L2 Y NdefX LamX
variable [I : NmC]
theorem rng_get {α : Type} {m i : Nat} {F : Nat → α} {d : α} (h : ((List.range m).map F)[i]? = some d) : i < m ∧ d = F i := by
  have hi : i < m := by simpa using (List.getElem?_eq_some_iff.mp h).1
  rw [List.getElem?_map, List.getElem?_range hi] at h
  exact ⟨hi, (Option.some.inj h).symm⟩
theorem nofns_rows : ∀ L : List (List Int), D.nofns (L.map row) = true
  | [] => rfl
  | _ :: L => by simp [D.nofns, nofn_row, nofns_rows L]
theorem cr_neg (x : List Int) (q : Nat) : cr (x.map fun y => -y) q = - cr x q := by
  unfold cr
  rw [List.getD_eq_getElem?_getD, List.getD_eq_getElem?_getD, List.getElem?_map]
  cases x[q]? <;> simp
section
variable {T : List Addr} {P : Program} {w : World} {K : PySem.W.Frag} {mg : Str → Option Value} {base : Heap} {f : Addr} {fd : FuncData}
theorem ok_stepped {c Pt : Addr} (F : Fun K "stepped" "stepped" sStepped f fd) (no : ∀ x ∈ bnames, mg x = none) (Mo : Fn T P w K mg base 1 "more_of" "more_of" sMoreOf pMoreOf spMore) (Co : Fn T P w K mg base 1 "contrary" "contrary" sContrary pContrary spContrary)
    (Sh : Fn T P w K mg base 6 "single_headed" "single_headed" sSingleHeaded pSingleHeaded (spSH P w K mg base T 2))
    (TB : TabB base mg c Pt) (hcd : fd.code = .ref c) (hPT : Pt ∈ T) (hnm : I.nm Pt = ("stepped" : Str) ++ ".<locals>." ++ "<lambda>") :
    GOk P w K mg base 7 f fd pStepped (SpOf K T spStepped) := by
  refine g_ofM F scStepped no (fun A Post Z h => by obtain ⟨_, _, _, _, rfl, _⟩ := h; rfl) (by decide) ?_
  rintro cdv A fr s H E hcode cok g B Post Z ⟨l, L, n, R, rfl, hn3, h3, hl, hM, hR, q⟩
  obtain rfl : cdv = .ref c := hcode.symm.trans hcd
  have gm : Good 1 (cxOf (CX P w) P w K mg base nStepped "stepped" (defScope sStepped) f (.ref c) A fr s H E).A := g.mono (by omega)
  refine ssx_cons (sx_parO 2 3 (eao_cons (ex_lst (ea_nil ⟨by simp, fun p2 => eao_cons (ex_seqT "list" (es_of (ex_of (ed_n 0 rfl ⟨l, L.map row, seq_sq, cq_list fun p3 => eao_nil ⟨_, _, rfl, ?_⟩⟩))))⟩))))
  refine ssx_frz 3 rfl rfl ?_
  refine ssx_at (B := [.dat (sq l (L.map row)), .dat (.int n), .own p2 (.lst []), .dat (rows L), .any, .any, .any, .any]) ?_ rfl
  refine ssx_cons (sx_for (ei_r1 (ed_n 1 rfl ⟨n, rfl, by omega, ?_⟩)))
  refine ⟨fun i A' => ∃ (G rest : List (List Int)) (p : Addr) (s4 s5 s6 s7 : SD), SpIn R n i L G rest ∧ A' = [.dat (sq l (L.map row)), .dat (.int n), .own p (.lst (G.map row)), .dat (rows rest), s4, s5, s6, s7],
    ⟨[], L, p2, _, _, _, _, ⟨StInv.start L, fun x hx => (by cases hx), hl, hM, fun x hx => (by cases hx)⟩, rfl⟩, fun _ _ _ _ => trivial, ?_, ?_⟩
  · rintro i d A' hd ⟨G, rest, p, s4, s5, s6, s7, si, rfl⟩
    obtain ⟨hi, rfl⟩ := rng_get hd
    have hi : i < n := by simpa using hi
    have few := si.few h3
    obtain ⟨M, C, N, as, as2, as3⟩ := asked_place (p := i) hR (by omega) few.2 si.er
    refine gx_n 4 ?_
    refine ssx_cons (sx_asg (ed_of (ex_callLam [4] ["place"] Sh g bSingleHeaded TB rfl hPT hnm (fun _ => rfl) (ed_n 3 rfl ⟨[.int i], rfl, fun f' c' => ?_⟩))))
    refine ⟨true, rest, _, _, _, _, _, unit i, n, M, C, N, rfl, hn3, few.2, si.lr, as.ent, as.m1, as.c, as.mc, as.n, as.n8, ?_, rfl, fun heads rest2 hs => ⟨?_, _, rfl, ?_⟩⟩
    · refine lok_of (N := ["row", "place"]) (ps := ["row"]) (fr := ["place"]) (k := 1) (nscope_by (by kernel_rfl)) no (fun pm ctv us hl => by match us, hl with | [_], _ => rfl) (fun A Post Z h => by obtain ⟨_, rfl, _⟩ := h; rfl) ?_
      rintro A outer s H E cok g2 B Post Z ⟨x, rfl, hx, he, q⟩
      rw [tl_unit (by omega)] at q
      exact ex_ix (ed_n 0 rfl (ed_n 1 rfl (xs_t (atI_row (by omega)) ⟨_, .dat (.dat .nil), q⟩)))
    · simp [SD.nofn, D.nofn, D.nofns, rows, nofns_rows]
    refine gx_tup (gxs_cons (gx_n 5 (gxs_cons (gx_n 3 (gxs_nil ?_)))))
    refine ssx_at (B := [.dat (sq l (L.map row)), .dat (.int n), .own p (.lst (G.map row)), .dat (rows rest2), .dat (.int i), .dat (rows heads), s6, s7]) ?_ rfl
    match heads, hs with
    | [], hs =>
      refine ssx_one (sx_for (ei_l (ed_n 5 rfl ⟨_, .inl rfl, fun _ A' => A' = _, rfl, fun _ _ _ _ => trivial, fun j d A' hd => ?_, ?_⟩)))
      · simp at hd
      · rintro A' rfl
        exact ⟨G, rest2, p, _, _, _, _, si.none (by omega) hs, rfl⟩
    | [x], hs =>
      have lx : x.length = n := hs.len x (by simp)
      have ex : ∀ y ∈ x, y.natAbs ≤ 4 * C := hs.ent x (by simp)
      have hx0 : cr x i ≠ 0 := by
        have := hs.hd.hd x List.mem_cons_self
        rwa [tl_unit (by omega)] at this
      refine ssx_one (sx_for (ei_l (ed_n 5 rfl ⟨_, .inl rfl, fun j A' => (j = 0 ∧ A' = [.dat (sq l (L.map row)), .dat (.int n), .own p (.lst (G.map row)), .dat (rows rest2), .dat (.int i), .dat (rows [x]), s6, s7]) ∨
        (j = 1 ∧ ∃ (G rest : List (List Int)) (p : Addr) (s4 s5 s6 s7 : SD), SpIn R n (i + 1) L G rest ∧ A' = [.dat (sq l (L.map row)), .dat (.int n), .own p (.lst (G.map row)), .dat (rows rest), s4, s5, s6, s7]), .inl ⟨rfl, rfl⟩, fun _ _ _ _ => trivial, ?_, ?_⟩)))
      · rintro j d A' hd (⟨rfl, rfl⟩ | ⟨rfl, _⟩)
        rotate_left
        · simp at hd
        obtain rfl : row x = d := by simpa using hd
        refine gx_n 6 ?_
        refine ssx_mid (fun A1 => ∃ h : List Int, ((∀ q, cr h q = cr x q) ∨ ∀ q, cr h q = - cr x q) ∧ 0 < cr h i ∧ h.length = n ∧ (∀ y ∈ h, y.natAbs ≤ 4 * C) ∧ A1 = [.dat (sq l (L.map row)), .dat (.int n), .own p (.lst (G.map row)), .dat (rows rest2), .dat (.int i), .dat (rows [x]), .dat (row h), s7]) ?_ ?_
        · refine sx_set 6 (ex_if (tx_cmp (ed_of (ex_ix (ed_n 6 rfl (ed_n 4 rfl (xs_t (atI_row (by omega)) ⟨_, rfl, ed_int (os_gt ⟨_, rfl, fun k => ?_, fun k => ?_⟩)⟩)))))))
          · have k : 0 < cr x i := of_decide_eq_true k
            exact ex_of (ed_n 6 rfl ⟨x, .inl fun _ => rfl, k, lx, ex, rfl⟩)
          · have k : ¬ 0 < cr x i := of_decide_eq_false k
            refine ex_call Co gm bContrary (ea_cons (ed_n 6 rfl (ea_nil ⟨x, rfl, by omega, x.map fun y => -y, .inr fun q => cr_neg x q, ?_, by rw [List.length_map]; exact lx, fun y hy => ?_, rfl⟩)))
            · rw [cr_neg]; omega
            · obtain ⟨z, hz, rfl⟩ := List.mem_map.mp hy
              rw [Int.natAbs_neg]; exact ex z hz
        · rintro A1 ⟨h, sg, pos, lh, eh, rfl⟩
          refine ssx_one (sx_set 2 (ex_bin (ed_of (ex_lc [("row", 7)] (ei_o 2 rfl ?_)))))
          have eg := si.eg
          have b1 : 2 ^ SB R i < 2 ^ (SB R i + 1) := Nat.pow_lt_pow_right (by decide) (by omega)
          have b2 : 4 * C < 2 ^ N := as.n
          refine lc_map G row (fun r => row (moreOf r (-((cr r i).fdiv (cr h i))) h)) (by omega) (by exact rfl) ?_ ?_
          · intro z hz s H0 C0 cl fp
            refine gx_n 7 ?_
            intro s H0 C0 cl fp
            have lz := si.lg z hz
            refine ed_of (ex_call Mo gm bMoreOf (ea_cons (ed_n 7 rfl (ea_cons (ed_of (ex_un (ed_of (ex_bin ?_))))))))
            refine ed_of (ex_ix (ed_n 7 rfl (ed_n 4 rfl (xs_t (atI_row (by omega)) ⟨_, rfl, ?_⟩))))
            refine ed_of (ex_ix (ed_n 6 rfl (ed_n 4 rfl (xs_t (atI_row (by omega)) ⟨_, rfl, ?_⟩))))
            have hp0 : co i h ≠ 0 := by have : co i h = cr h i := rfl; omega
            refine os_divZ (divZ_of hp0 (Nat.lt_of_le_of_lt (cr_le eh i) b2) (by rcases N with _ | N; simp at b2; have := as.m1; have := as.mc; omega; omega) (by have := as.n8; omega)) ⟨_, rfl, us_neg ⟨_, rfl, ea_cons (ed_n 6 rfl (ea_nil ?_))⟩⟩
            refine ⟨false, z, h, _, rfl, by omega, fun y hy => ?_, _, rfl, rfl, rfl⟩
            refine bits_mul (m := SB R i + 1) (n := N) ?_ (Nat.lt_of_le_of_lt (eh y hy) b2) ?_
            · rw [Int.natAbs_neg]
              exact Nat.lt_of_le_of_lt (Nat.le_trans (Int.natAbs_fdiv_le_natAbs _ _) (cr_le (eg z hz) i)) b1
            · have := as.n8
              have : i ≤ 2 := by omega
              have : SB R i ≤ 2 * (60 * R + 411) + 1 := by unfold SB; have := Nat.mul_le_mul_right (60 * R + 411) this; omega
              omega
          intro p8
          refine ⟨_, rfl, ed_of (ex_lst (ea_cons (ed_n 6 rfl (ea_nil ⟨by simp, fun p9 => ⟨_, rfl, os_catL (by rw [List.length_map]; simp; omega) fun p10 => ?_⟩⟩))))⟩
          refine .inr ⟨rfl, _, rest2, p10, .dat (.int i), .dat (rows [x]), .dat (row h), strip (some s7), si.head h3 (by omega) hs as2 as3 lh eh sg pos, ?_⟩
          rw [List.map_append, List.map_map]
          cases s7 <;> rfl
      · rintro A' (⟨h0, _⟩ | ⟨_, h⟩)
        · simp at h0
        · exact h
    | _ :: _ :: _, hs => exact absurd hs.hd.one (by simp)
  · rintro A' ⟨G, rest, p, s4, s5, s6, s7, si, rfl⟩
    have si : SpIn R n n L G rest := by simpa using si
    exact ssx_one (sx_ret (ex_mv 2 rfl ⟨_, .dat (.dat .nil), q p G rest si.st si.lg si.eg⟩))
end
end K2

namespace K2
open PySem L2 Y NdefX LamX
variable [I : NmC]
def spLevels : FSp := fun A Post _ => ∃ (l : Bool) (L : List (List Int)) (n R : Nat), A = [.dat (sq l (L.map row)), .dat (.int n)] ∧ (n = 2 ∨ n = 3) ∧ L.length ≤ 1000 ∧ (∀ x ∈ L, x.length = n ∧ Bits R x) ∧ R ≤ 100 ∧
  ∀ p G, Levels n L G → (∀ x ∈ G, x.length = n) → Ent (2 ^ SB R n) G → Post (.own p (.lst (G.map row))) A
theorem rk_pos (P : List (List Int)) : 0 ≤ rk P := by
  unfold rk
  split <;> (try split) <;> (try split) <;> decide
structure LvIn (R n : Nat) (P F : List (List Int)) : Prop where
  lev : Lev n P F
  tg : Tight F
  len : ∀ x ∈ F, x.length = n
  ent : Ent (2 ^ EB R F.length) F
theorem LvIn.few {R n : Nat} {P F : List (List Int)} (h : LvIn R n P F) (hn : n = 2 ∨ n = 3) : F.length ≤ 3 := by
  have := h.lev.many
  have := rk_pos P
  omega
theorem LvIn.start {R n : Nat} (hn : n = 2 ∨ n = 3) : LvIn R n [] (idn n) := by
  refine ⟨(lev_start hn).1, (lev_start hn).2, fun x hx => ?_, fun x hx y hy => ?_⟩
  · obtain ⟨p, _, rfl⟩ := List.mem_map.mp hx
    simp
  · obtain ⟨p, _, rfl⟩ := List.mem_map.mp hx
    obtain ⟨a, _, rfl⟩ := List.mem_map.mp hy
    have : 1 ≤ 2 ^ EB R (idn n).length := Nat.one_le_two_pow
    split <;> simp <;> omega
theorem LvIn.step {R n C : Nat} {P F heads rest : List (List Int)} {r : List Int} (hn : n = 2 ∨ n = 3) (hP : ∀ x ∈ P ++ [r], x.length = n) (i : LvIn R n P F) (h : Shd (cr r) n C F heads rest) (hC : 2 ≤ F.length → 4 * C ≤ 2 ^ EB R (F.length - 1)) : LvIn R n (P ++ [r]) rest := by
  refine ⟨i.lev.step ?_ h.hd, h.hd.tight i.tg, fun x hx => h.len x (List.mem_append_right _ hx), fun x hx => ?_⟩
  · rcases hn with rfl | rfl
    · exact .inr ⟨rfl, fun x hx => by have := hP x hx; exact cr_past (by omega)⟩
    · exact .inl rfl
  · have many := h.hd.many
    have one := h.hd.one
    match heads, h, many, one with
    | [], h, _, _ => obtain rfl := h.non rfl; exact i.ent x hx
    | [y], h, many, _ =>
      simp at many
      have e2 : rest.length = F.length - 1 := by omega
      have two : 2 ≤ F.length := by have := List.length_pos_of_mem hx; omega
      rw [e2]
      exact (h.ent.mono (hC two)) x (List.mem_append_right _ hx)
    | _ :: _ :: _, _, _, one => simp at one
section
variable {T : List Addr} {P : Program} {w : World} {K : PySem.W.Frag} {mg : Str → Option Value} {base : Heap} {f : Addr} {fd : FuncData}
theorem ok_levels {c Pt : Addr} (F : Fun K "levels_of" "levels_of" sLevelsOf f fd) (no : ∀ x ∈ bnames, mg x = none) (Ti : Fn T P w K mg base 1 "times" "times" sTimes pTimes spTimes)
    (Sh : Fn T P w K mg base 6 "single_headed" "single_headed" sSingleHeaded pSingleHeaded (spSH P w K mg base T 2)) (St : Fn T P w K mg base 7 "stepped" "stepped" sStepped pStepped spStepped)
    (TB : TabB base mg c Pt) (hcd : fd.code = .ref c) (hPT : Pt ∈ T) (hnm : I.nm Pt = ("levels_of" : Str) ++ ".<locals>." ++ "<lambda>") :
    GOk P w K mg base 8 f fd pLevelsOf (SpOf K T spLevels) := by
  refine g_ofM F scLevelsOf no (fun A Post Z h => by obtain ⟨_, _, _, _, rfl, _⟩ := h; rfl) (by decide) ?_
  rintro cdv A fr s H E hcode cok g B Post Z ⟨l, L, n, R, rfl, hn, hm, hl, hR, q⟩
  obtain rfl : cdv = .ref c := hcode.symm.trans hcd
  have g6 : Good 6 (cxOf (CX P w) P w K mg base nLevelsOf "levels_of" (defScope sLevelsOf) f (.ref c) A fr s H E).A := g.mono (by omega)
  have hn3 : n ≤ 3 := by omega
  refine ssx_cons (sx_setLc 2 [("place", 4)] (ei_r1 (ed_n 1 rfl ⟨n, rfl, by omega, ?_⟩)))
  have en : ((n : Int)).toNat = n := rfl
  rw [en]
  refine lc_map (List.range n) _ (fun p => row ((List.range n).map fun a => if a = p then 1 else 0)) (by simp; omega) (by exact trivial) ?_ ?_
  · intro p hp s H0 C cl fp
    refine gx_n 4 ?_
    intro s H0 C cl fp
    refine ed_of (ex_seqT "tuple" (es_of (ex_lc [("at", 3)] (ei_r1 (ed_n 1 rfl ⟨n, rfl, by omega, ?_⟩)))))
    rw [en]
    refine lc_map (List.range n) _ (fun a => .int (if a = p then 1 else 0)) (by simp; omega) (by exact trivial) ?_ ?_
    · intro a ha s H0 C cl fp
      refine gx_n 3 ?_
      intro s H0 C cl fp
      refine ed_of (ex_callT "int" (ea_cons (ed_of (ex_cmp (ed_n 3 rfl (ed_n 4 rfl (os_eq ⟨_, rfl, ea_nil (cs_intB ⟨_, rfl, ?_, rfl⟩)⟩)))))))
      by_cases h : a = p
      · subst h; simp
      · have : ¬ (a : Int) = (p : Int) := by omega
        simp [h, this]
    intro p9
    refine ⟨_, _, rfl, cq_tup ⟨_, rfl, ?_, rfl⟩⟩
    unfold row
    rw [List.map_map]
    rfl
  intro p2
  refine ssx_at (B := [.dat (sq l (L.map row)), .dat (.int n), .own p2 (.lst ((idn n).map row)), .any, .any, .any, .any]) ?_ (by unfold idn; rw [List.map_map]; rfl)
  refine ssx_frz 2 rfl rfl ?_
  refine ssx_at (B := [.dat (sq l (L.map row)), .dat (.int n), .dat (rows (idn n)), .any, .any, .any, .any]) ?_ rfl
  refine ssx_cons (sx_for (ei_sq 0 rfl rfl ?_))
  refine ⟨fun i A' => ∃ (G : List (List Int)) (s5 s6 : SD), LvIn R n (L.take i) G ∧ A' = [.dat (sq l (L.map row)), .dat (.int n), .dat (rows G), .any, .any, s5, s6], ⟨idn n, _, _, LvIn.start hn, rfl⟩, fun _ _ _ _ => trivial, ?_, ?_⟩
  · rintro i d A' hd ⟨G, s5, s6, li, rfl⟩
    rw [List.getElem?_map] at hd
    cases hr : L[i]? with
    | none => rw [hr] at hd; cases hd
    | some r =>
    rw [hr] at hd
    obtain rfl : row r = d := Option.some.inj hd
    have hmem : r ∈ L := List.mem_of_getElem? hr
    obtain ⟨lr, br⟩ := hl r hmem
    have few := li.few hn
    have et : L.take (i + 1) = L.take i ++ [r] := by rw [List.take_succ, hr]; rfl
    obtain ⟨M, C, N, as, as2⟩ := asked_row hR (bits_ent br) few li.ent
    refine gx_n 5 ?_
    refine ssx_one (sx_asg (ed_of (ex_callLam [5] ["row"] Sh g6 bSingleHeaded TB rfl hPT hnm (fun _ => rfl) (ed_n 2 rfl ⟨[row r], rfl, fun f' c' => ?_⟩))))
    refine ⟨true, G, _, _, _, _, _, cr r, n, M, C, N, rfl, hn3, few, li.len, as.ent, as.m1, as.c, as.mc, as.n, as.n8, ?_, nofns_row r, fun heads rest hs => ⟨?_, _, rfl, ?_⟩⟩
    · refine lok_of (N := ["one", "row"]) (ps := ["one"]) (fr := ["row"]) (k := 1) (nscope_by (by kernel_rfl)) no (fun pm ctv us hl => by match us, hl with | [_], _ => rfl) (fun A Post Z h => by obtain ⟨_, rfl, _⟩ := h; rfl) ?_
      rintro A outer s H E cok g2 B Post Z ⟨x, rfl, hx, he, q⟩
      refine ex_call Ti g2 bTimes (ea_cons (ed_n 1 rfl (ea_cons (ed_n 0 rfl (ea_nil ⟨r, x, R, N, rfl, by omega, br, fun y hy => Nat.lt_of_le_of_lt (he y hy) as.n, by have := as.n8; omega, ?_⟩)))))
      rw [dot_tl (by rw [lr, hx]) (by omega)]
      exact ⟨_, .dat (.dat .nil), q⟩
    · simp [SD.nofn, D.nofn, D.nofns, rows, nofns_rows]
    refine gx_tup (gxs_cons (gx_n 6 (gxs_cons (gx_n 2 (gxs_nil ?_)))))
    refine ⟨rest, _, _, ?_, rfl⟩
    rw [et]
    exact li.step hn (fun x hx => (hl x (by
      rcases List.mem_append.mp hx with hx | hx
      · exact List.mem_of_mem_take hx
      · have : x = r := by simpa using hx
        rw [this]; exact hmem)).1) hs as2
  · rintro A' ⟨G, s5, s6, li, rfl⟩
    have li : LvIn R n L G := by simpa using li
    refine ssx_one (sx_ret (ex_call St g bStepped (ea_cons (ed_n 2 rfl (ea_cons (ed_n 1 rfl (ea_nil ⟨true, G, n, R, rfl, hn3, li.few hn, li.len, li.ent, hR, fun p W rest st lw ew => ?_⟩)))))))
    exact ⟨_, .dat (.dat .nil), q p W (levels_of_lev li.lev li.tg st) lw ew⟩
end
end K2

namespace K2
open PySem L2 Y NdefX LamX
variable [I : NmC]
/-- a row of numbers to nine either way -/
def Nine (x : List Int) : Prop := ∀ y ∈ x, -9 ≤ y ∧ y ≤ 9
theorem Nine.bits {x : List Int} (h : Nine x) : Bits 4 x := fun y hy => by have := h y hy; show y.natAbs < 16; omega
def NineR (n : Nat) (L : List (List Int)) : Prop := ∀ x ∈ L, x.length = n ∧ Nine x
def spSome : FSp := fun A Post _ => ∃ (p : Addr) (ds : List D) (m n : Nat), A = [.own p (.lst ds), .dat (.int n)] ∧ BoxOk m ds ∧ m ≤ 900000 ∧ (n = 2 ∨ n = 3) ∧ ∀ ds' (L : List (List Int)), BoxOk (m + 20) ds' → L.length ≤ 6 → NineR n L → Post (.dat (rows L)) [.own p (.lst ds'), .dat (.int n)]
/-- whether all of some rows tell 0 of a row -/
def mute' (L : List (List Int)) (x : List Int) : Bool := L.all fun r => decide (dot r x = 0)
def spNothing : FSp := fun A Post _ => ∃ (l : Bool) (L : List (List Int)) (x : List Int) (m n : Nat), A = [.dat (sq l (L.map row)), .dat (row x)] ∧ L.length ≤ 1000 ∧ (∀ r ∈ L, r.length ≤ 1000 ∧ Bits m r) ∧ Bits n x ∧ m + n ≤ 900000 ∧ Post (.dat (.bl (mute' L x))) A
def spHeads : FSp := fun A Post _ => ∃ (L : List (List Int)), A = [.dat (rows L)] ∧ L.length ≤ 1000 ∧ (∀ x ∈ L, x.length ≤ 3 ∧ Hd x (place x)) ∧ ∀ p, Post (.own p (.lst (L.map fun x => .int (place x)))) A
section
variable {T : List Addr} {P : Program} {w : World} {K : PySem.W.Frag} {mg : Str → Option Value} {base : Heap} {f : Addr} {fd : FuncData}
theorem ok_tell (F : Fun K "_law_tell" "_law_tell" sLawTell f fd) (no : ∀ x ∈ bnames, mg x = none) : GOk P w K mg base 1 f fd pLawTell (SpOf K T spTimes) := by
  refine g_of F scLawTell no (fun A Post Z h => by obtain ⟨_, _, _, _, rfl, _⟩ := h; rfl) (by decide) ?_
  rintro cdv A fr s H E cok g B Post Z ⟨xs, ys, m, n, rfl, hl, hx, hy, hm, q⟩
  refine ssx_one (sx_ret (ex_seqB "sum" (es_of (ex_lc [("first", 2), ("second", 3)] (ei_z (ea_cons (ed_n 0 rfl (ea_cons (ed_n 1 rfl (ea_nil ⟨_, _, .inr rfl, ?_⟩))))))))))
  rw [zip_rows]
  refine lc_map (xs.zip ys) _ (fun p => .int (p.1 * p.2)) ?_ (by exact trivial) ?_ ?_
  · rw [List.length_zip]; omega
  · intro p hp s H0 C cl fp
    refine gx_tup (gxs_cons (gx_n 2 (gxs_cons (gx_n 3 (gxs_nil ?_)))))
    intro s H0 C cl fp
    have hp := List.of_mem_zip hp
    refine ed_of (ex_bin (ed_n 2 rfl (ed_n 3 rfl (os_mul (bits_mul (hx _ hp.1) (hy _ hp.2) hm) ⟨_, rfl, rfl, rfl⟩))))
  · intro p
    refine ⟨_, _, rfl, cq_sum ?_⟩
    exact ⟨_, .dat (.dat .nil), q⟩
theorem ok_nothing (F : Fun K "_law_nothing" "_law_nothing" sLawNothing f fd) (no : ∀ x ∈ bnames, mg x = none) (Te : Fn T P w K mg base 1 "_law_tell" "_law_tell" sLawTell pLawTell spTimes) : GOk P w K mg base 2 f fd pLawNothing (SpOf K T spNothing) := by
  refine g_of F scLawNothing no (fun A Post Z h => by obtain ⟨_, _, _, _, _, rfl, _⟩ := h; rfl) (by decide) ?_
  rintro cdv A fr s H E cok g B Post Z ⟨l, L, x, m, n, rfl, hl, hL, hx, hm, q⟩
  refine ssx_one (sx_ret (ex_seqB "all" (es_of (ex_lc [("one", 2)] (ei_sq 0 rfl rfl ?_)))))
  refine lc_map L row (fun r => .bl (decide (dot r x = 0))) (by omega) (by exact trivial) ?_ ?_
  · intro r hr s H0 C cl fp
    refine gx_n 2 ?_
    intro s H0 C cl fp
    obtain ⟨h1, h2⟩ := hL r hr
    exact ed_of (ex_cmp (ed_of (ex_call Te g bLawTell (ea_cons (ed_n 2 rfl (ea_cons (ed_n 1 rfl (ea_nil ⟨r, x, m, n, rfl, h1, h2, hx, hm, _, rfl, ed_int (os_eq ⟨_, rfl, rfl, rfl⟩)⟩))))))))
  · intro p
    exact ⟨_, _, rfl, cq_all ⟨_, .dat (.dat .nil), q⟩⟩
theorem enum_row (x : List Int) : enumD (x.map .int) = (List.range x.length).map fun i => .tup [.int (i : Nat), .int (cr x i)] := by
  unfold enumD
  rw [List.length_map]
  apply List.map_congr_left
  intro i hi
  have hi := List.mem_range.mp hi
  congr 2
  rw [List.getD_eq_getElem?_getD, List.getElem?_map, List.getElem?_eq_getElem hi, cr_get hi]
  rfl
theorem ok_heads (F : Fun K "_law_heads" "_law_heads" sLawHeads f fd) (no : ∀ x ∈ bnames, mg x = none) : GOk P w K mg base 1 f fd pLawHeads (SpOf K T spHeads) := by
  refine g_of F scLawHeads no (fun A Post Z h => by obtain ⟨_, rfl, _⟩ := h; rfl) (by decide) ?_
  rintro cdv A fr s H E cok g B Post Z ⟨L, rfl, hl, hL, q⟩
  refine ssx_one (sx_ret (ex_lc [("row", 3)] (ei_l (ed_n 0 rfl ⟨_, .inl rfl, ?_⟩))))
  refine lc_map L row (fun x => .int (place x)) (by omega) (by exact trivial) ?_ ?_
  · intro x hx s H0 C cl fp
    refine gx_n 3 ?_
    intro s H0 C cl fp
    obtain ⟨h3, hd⟩ := hL x hx
    refine ed_of (ex_ix (ed_of (ex_lc [("at", 1), ("digit", 2)] (ei_eB (ed_n 3 rfl ⟨false, x.map .int, rfl, ?_⟩)))))
    rw [enum_row]
    refine lc_filter (List.range x.length) _ (fun i => !decide (cr x i = 0)) (fun i => .int (i : Nat)) (by simp; omega) (by exact trivial) ?_ ?_
    · intro i hi s H0 C cl fp
      refine gx_tup (gxs_cons (gx_n 1 (gxs_cons (gx_n 2 (gxs_nil ?_)))))
      intro s H0 C cl fp
      exact tx_cmp (ed_n 2 rfl (ed_int (os_ne ⟨_, rfl, rfl, rfl, fun _ s H0 C cl fp => ed_n 1 rfl ⟨rfl, rfl⟩⟩)))
    intro p9
    obtain ⟨t, et⟩ := first_nz hd
    rw [et]
    exact ⟨_, rfl, ed_int (xs_l (atI_nat (j := 0) rfl) ⟨_, rfl, rfl, rfl⟩)⟩
  · intro p
    exact ⟨_, .dat .nil, q p⟩
end
end K2

namespace K2
open PySem L2 Y NdefX LamX
variable [I : NmC]
theorem cut_take (ds : List D) (i : Nat) (h : i ≤ ds.length) : cutD ds none (some (i : Int)) = ds.take i := by
  unfold cutD
  have e1 : HT.sIx ds.length 0 none = 0 := rfl
  have e2 : HT.sIx ds.length ds.length (some (i : Int)) = i := by rw [HT.sIx_nat]; omega
  rw [e1, e2]
  rfl
theorem cut_one {d : D} {ds : List D} : cutD (d :: ds) none (some 1) = [d] := by
  rw [show (1 : Int) = ((1 : Nat) : Int) from rfl, cut_take _ _ (by simp)]
  rfl
theorem row_pl (x : List Int) : Pl 1 (row x) := Pl.tup fun d hd => by
  obtain ⟨y, _, rfl⟩ := List.mem_map.mp hd
  exact Pl.int y
theorem rows_pl (L : List (List Int)) : Pl 2 (rows L) := Pl.lst fun d hd => by
  obtain ⟨y, _, rfl⟩ := List.mem_map.mp hd
  exact row_pl y
theorem rep_row (n : Nat) : (List.replicate n [D.int 0]).flatten = (List.replicate n (0 : Int)).map .int := by
  induction n with
  | zero => rfl
  | succ n ih => rw [List.replicate_succ, List.flatten_cons, ih, List.replicate_succ]; rfl
section
variable {T : List Addr} {P : Program} {w : World} {K : PySem.W.Frag} {mg : Str → Option Value} {base : Heap} {f : Addr} {fd : FuncData}
theorem ok_some (F : Fun K "_law_some" "_law_some" sLawSome f fd) (no : ∀ x ∈ bnames, mg x = none) (Tk : Fn T P w K mg base 1 "_law_take" "_law_take" sLawTake pLawTake spTake) (Of : Fn T P w K mg base 2 "_law_of" "_law_of" sLawOf pLawOf spOf) : GOk P w K mg base 3 f fd pLawSome (SpOf K T spSome) := by
  refine g_of F scLawSome no (fun A Post Z h => by obtain ⟨_, _, _, _, rfl, _⟩ := h; rfl) (by decide) ?_
  rintro cdv A fr s H E cok g B Post Z ⟨p, ds, m, n, rfl, hB, hm, hn, q⟩
  have g1 : Good 1 (cxOf (CX P w) P w K mg base nLawSome "_law_some" (defScope sLawSome) f cdv A fr s H E).A := g.mono (by omega)
  refine ssx_cons (sx_set 2 (ex_callO 0 Of g bLawOf rfl (ea_cons (ed_of (ex_lst (ea_cons (ed_int (ea_cons (ed_int (ea_cons (ed_int (ea_nil ⟨by simp, fun p9 => ⟨_, rfl, ea_nil ?_⟩⟩))))))))))))
  refine ⟨_, rfl, p, ds, _, m, rfl, hB, by omega, by simp, by simp, fun d ds1 hd hb1 => ⟨_, _, rfl, ?_⟩⟩
  obtain ⟨t, rfl, ht⟩ : ∃ t : Int, d = .int t ∧ 1 ≤ t ∧ t ≤ 9 := by
    simp at hd
    rcases hd with rfl | rfl | rfl <;> exact ⟨_, rfl, by decide, by decide⟩
  refine ssx_cons (sx_setLc 3 [("turn", 5)] (ei_r1 (ed_of (ex_callO 0 Tk g1 bLawTake rfl (ea_cons (ed_int (ea_nil ?_)))))))
  refine ⟨_, rfl, p, ds1, _, _, rfl, hb1, by omega, by decide, by decide, fun r ds2 h0 h1 hb2 => ⟨_, _, rfl, _, rfl, r, rfl, by omega, ?_⟩⟩
  refine lc_run (by simp; omega) (fun i acc A' => ∃ (ds' : List D) (L : List (List Int)), BoxOk (m + 2 + 3 * i) ds' ∧ L.length = i ∧ acc = L.map row ∧ NineR n L ∧ A' = [.own p (.lst ds'), .dat (.int n), .dat (.int t), .any, .any, .any, .any]) ⟨ds2, [], hb2, rfl, rfl, fun x hx => (by cases hx), rfl⟩ (fun _ _ _ _ _ => trivial) ?_ ?_
  · rintro i d acc A' hd ⟨ds', L, hb, hl, rfl, hL, rfl⟩ s H0 C cl fp
    obtain ⟨hi, rfl⟩ := rng_get hd
    have hi : i < 4 := by omega
    refine gx_n 5 ?_
    intro s H0 C cl fp
    refine ed_of (ex_seqT "tuple" (es_of (ex_lc [("at", 4)] (ei_r1 (ed_n 1 rfl ⟨_, rfl, by omega, ?_⟩)))))
    refine lc_run (by simp; omega) (fun j acc' A2 => ∃ (dsj : List D) (xs : List Int), BoxOk (m + 2 + 3 * i + j) dsj ∧ xs.length = j ∧ acc' = xs.map .int ∧ Nine xs ∧
      A2 = [.own p (.lst dsj), .dat (.int n), .dat (.int t), .any, .any, .dat (.int (i : Nat)), .any]) ⟨ds', [], hb, rfl, rfl, (fun x hx => by cases hx), rfl⟩ (fun _ _ _ _ _ => trivial) ?_ ?_
    · rintro j d acc' A2 hd ⟨dsj, xs, hbj, hlj, rfl, hx, rfl⟩ s H0 C cl fp
      obtain ⟨hj, rfl⟩ := rng_get hd
      refine gx_n 4 ?_
      intro s H0 C cl fp
      refine ed_of (ex_bin (ed_of (ex_callO 0 Tk g1 bLawTake rfl (ea_cons (ed_of (ex_bin (ed_of (ex_bin (ed_int (ed_n 2 rfl (os_mulL (.inl (by decide)) ⟨_, rfl, ed_int (os_add ⟨_, rfl, ea_nil ?_⟩)⟩)))))))))))
      refine ⟨_, rfl, p, dsj, _, _, rfl, hbj, by omega, by omega, by omega, fun r ds3 h0 h1 hb3 => ⟨_, _, rfl, _, rfl, ed_n 2 rfl (os_sub ⟨_, rfl, ?_⟩)⟩⟩
      refine ⟨ds3, xs ++ [r - t], hb3, by simp [hlj], by simp, fun x hx' => ?_, rfl⟩
      rcases List.mem_append.mp hx' with h | h
      · exact hx x h
      · have : x = r - t := by simpa using h
        subst this
        omega
    · rintro acc' A2 ⟨dsj, xs, hbj, hlj, rfl, hx, rfl⟩ p5
      have hlj : xs.length = n := by rw [hlj]; simp
      refine ⟨_, _, rfl, cq_tup ⟨_, rfl, ?_⟩⟩
      refine ⟨dsj, L ++ [xs], hbj.mono (by simp; omega), by simp [hl], by rw [List.map_append]; rfl, fun r hr' => ?_, rfl⟩
      rcases List.mem_append.mp hr' with h | h
      · exact hL r h
      · have : r = xs := by simpa using h
        subst this
        exact ⟨hlj, hx⟩
  rintro acc A' ⟨ds3, L, hb3, hl3, rfl, hL, rfl⟩ p4
  have hl3 : L.length ≤ 3 := by rw [hl3]; simp; omega
  have hb3 : BoxOk (m + 15) ds3 := hb3.mono (by simp; omega)
  refine ssx_at (B := [.own p (.lst ds3), .dat (.int n), .dat (.int t), .own p4 (.lst (L.map row)), .any, .any, .any]) ?_ rfl
  refine ssx_cons (sx_if (tx_w (tw_and (tx_cmp (ed_nf 3 rfl rfl (ed_of (ex_lst (ea_nil ⟨by simp, fun p9 => ⟨_, rfl, os_neD (rows_pl L) (Pl.lst (n := 0) fun d hd => by cases hd) (by decide) (by decide) ⟨_, rfl, fun k => ?_, fun k => ⟨fun z => (by cases z), fun _ => ?_⟩⟩⟩⟩))))))))
  rotate_left
  · exact ssx_nil (ssx_one (sx_ret (ex_of (ed_n 3 rfl ⟨_, .own List.mem_cons_self (.dat .nil), q ds3 L (hb3.mono (by omega)) (by omega) hL⟩))))
  match L, hl3, hL, k with
  | [], _, _, k => exact absurd k (by decide)
  | x :: L', hl3, hL, k =>
    obtain ⟨lx, nx⟩ := hL x List.mem_cons_self
    refine tw_and1 (tx_cmp (ed_of (ex_callO 0 Tk g1 bLawTake rfl (ea_cons (ed_int (ea_nil ?_))))))
    refine ⟨_, rfl, p, ds3, _, _, rfl, hb3, by omega, by decide, by decide, fun r ds4 h4 h5 hb4 => ⟨_, _, rfl, _, rfl, ed_int (os_eq ⟨_, rfl, fun k2 => ?_, fun k2 => ?_⟩)⟩⟩
    rotate_left
    · exact ssx_nil (ssx_one (sx_ret (ex_of (ed_n 3 rfl ⟨_, .own List.mem_cons_self (.dat .nil), q ds4 (x :: L') (hb4.mono (by omega)) (by omega) hL⟩))))
    refine ssx_at (B := [.own p (.lst ds4), .dat (.int n), .dat (.int t), .dat (rows (x :: L')), .any, .any, .any]) ?_ rfl
    refine ssx_one (sx_set 3 (ex_bin (ed_of (ex_bin (ed_of (ex_slL (ed_n 3 rfl ⟨_, rfl, ed_int ⟨_, rfl, fun p10 => ⟨_, rfl, ?_⟩⟩⟩)))))))
    rw [show (x :: L').map row = row x :: L'.map row from rfl, cut_one]
    refine ed_of (ex_lst (ea_cons (ed_of (ex_seqT "tuple" (es_of (ex_lc [("digit", 6)] (ei_t (ed_of (ex_ix (ed_n 3 rfl (ed_int (xs_l (atI_nat (j := 0) rfl) ⟨_, rfl, _, rfl, ?_⟩))))))))))))
    refine lc_map x _ (fun y => .int (-y)) (by omega) (by exact trivial) ?_ ?_
    · intro y hy s H0 C cl fp
      refine gx_n 6 ?_
      intro s H0 C cl fp
      exact ed_of (ex_un (ed_n 6 rfl (us_neg ⟨_, rfl, rfl, rfl⟩)))
    intro p11
    refine ⟨_, _, rfl, cq_tup ⟨_, rfl, ?_⟩⟩
    rw [row_of]
    refine ea_cons (ed_of (ex_bin (ed_of (ex_tup (ea_cons (ed_int (ea_nil ⟨by simp, _, rfl, ed_n 1 rfl (os_repT (by simp) (by omega) (by omega) (by simp) ⟨_, rfl, ea_nil ⟨by simp, fun p12 => ⟨_, rfl, os_catL (by simp) fun p13 => ⟨_, rfl, ?_⟩⟩⟩⟩)⟩)))))))
    refine ed_of (ex_slL (ed_n 3 rfl ⟨_, rfl, ed_int ⟨_, rfl, fun p14 => ⟨_, rfl, os_catL ?_ fun p15 => ?_⟩⟩⟩))
    · rw [show (x :: L').map row = row x :: L'.map row from rfl, cut_one]; simp
    rw [show (x :: L').map row = row x :: L'.map row from rfl, cut_one, show ((n : Int)).toNat = n from rfl, rep_row]
    refine ssx_one (sx_ret (ex_of (ed_nf 3 rfl rfl ⟨_, .own List.mem_cons_self (.dat .nil), q ds4 [x, x.map fun y => -y, List.replicate n 0, x] (hb4.mono (by omega)) (by simp) fun y hy => ?_⟩)))
    simp at hy
    rcases hy with rfl | rfl | rfl | rfl
    · exact ⟨lx, nx⟩
    rotate_right
    · exact ⟨lx, nx⟩
    · refine ⟨by rw [List.length_map]; exact lx, fun z hz => ?_⟩
      obtain ⟨u, hu, rfl⟩ := List.mem_map.mp hz
      have := nx u hu
      omega
    · refine ⟨by simp, fun z hz => ?_⟩
      have := (List.mem_replicate.mp hz).2
      omega
end
end K2

namespace K2
open PySem L2 Y NdefX LamX
variable [I : NmC]
def spSteps : FSp := fun A Post _ => ∃ (L : List (List Int)) (n : Nat), A = [.dat (rows L)] ∧ n ≤ 3 ∧ L.length ≤ 1000 ∧ (∀ x ∈ L, x.length = n) ∧ Steps 0 L ∧ (L.Pairwise fun x y => 0 ≤ cr x (place y) ∧ cr x (place y) < cr y (place y)) ∧ Post (.dat (.bl true)) A
section
variable {T : List Addr} {P : Program} {w : World} {K : PySem.W.Frag} {mg : Str → Option Value} {base : Heap} {f : Addr} {fd : FuncData}
theorem hd_any {x : List Int} (h : Hd x (place x)) : (x.any fun z => z != 0) = true := by
  have hp := h.2
  have hl := cr_in (show cr x (place x) ≠ 0 by omega)
  rw [List.any_eq_true]
  refine ⟨x[place x], List.getElem_mem hl, ?_⟩
  rw [← cr_get hl]
  simp; omega
theorem ok_steps (F : Fun K "_law_steps_right" "_law_steps_right" sLawStepsRight f fd) (no : ∀ x ∈ bnames, mg x = none) (He : Fn T P w K mg base 1 "_law_heads" "_law_heads" sLawHeads pLawHeads spHeads) : GOk P w K mg base 2 f fd pLawStepsRight (SpOf K T spSteps) := by
  refine g_of F scLawStepsRight no (fun A Post Z h => by obtain ⟨_, _, rfl, _⟩ := h; rfl) (by decide) ?_
  rintro cdv A fr s H E cok g B Post Z ⟨L, n, rfl, hn, hl, h3, st, al, q⟩
  have hds := st.hd
  refine ssx_cons (sx_if (tx_not (tx_val (ex_seqB "all" (es_of (ex_lc [("row", 1)] (ei_l (ed_n 0 rfl ⟨_, .inl rfl, ?_⟩))))))))
  refine lc_map L row (fun x => .bl (x.any fun z => z != 0)) (by omega) (by exact trivial) ?_ ?_
  · intro x hx s H0 C cl fp
    refine gx_n 1 ?_
    intro s H0 C cl fp
    exact ed_of (ex_seqB "any" (es_of (ex_of (ed_n 1 rfl ⟨_, _, rfl, cq_anyI ⟨_, rfl, rfl, rfl⟩⟩))))
  intro p9
  refine ⟨_, _, rfl, cq_all ⟨_, rfl, fun k => ?_, fun _ => ?_⟩⟩
  · have : (L.all fun x => x.any fun z => z != 0) = true := List.all_eq_true.mpr fun x hx => hd_any (hds x hx).1
    rw [this] at k
    cases k
  refine ssx_nil (ssx_cons (sx_set 2 (ex_call He g bLawHeads (ea_cons (ed_n 0 rfl (ea_nil ⟨L, rfl, hl, fun x hx => ⟨by rw [h3 x hx]; exact hn, (hds x hx).1⟩, fun p2 => ?_⟩))))))
  refine ssx_frz 2 rfl rfl ?_
  refine ssx_at (B := [.dat (rows L), .any, .dat (.lst (L.map fun x => .int (place x))), .any, .any, .any]) ?_ rfl
  refine ssx_cons (sx_for (ei_ez (ea_cons (ed_n 0 rfl (ea_cons (ed_n 2 rfl (ea_nil ⟨_, _, rfl, ?_⟩)))))))
  refine ⟨fun _ A' => ∃ s1 s3 s4 s5 : SD, A' = [.dat (rows L), s1, .dat (.lst (L.map fun x => .int (place x))), s3, s4, s5], ⟨_, _, _, _, rfl⟩, fun _ _ _ _ => trivial, ?_, ?_⟩
  rotate_left
  · rintro A' ⟨s1, s3, s4, s5, rfl⟩
    exact ssx_one (sx_ret (ex_of (ed_bl ⟨_, .dat .nil, q⟩)))
  rintro i d A' hd ⟨s1, s3, s4, s5, rfl⟩
  obtain ⟨x', y', hx, hy, rfl⟩ := enumZ_get hd
  rw [List.getElem?_map] at hx hy
  cases hr : L[i]? with
  | none => rw [hr] at hx; cases hx
  | some x =>
  rw [hr] at hx hy
  obtain rfl : row x = x' := Option.some.inj hx
  obtain rfl : D.int (place x) = y' := Option.some.inj hy
  have hmem : x ∈ L := List.mem_of_getElem? hr
  have hi := (List.getElem?_eq_some_iff.mp hr).1
  have hxd := (hds x hmem).1
  have hpl := cr_in (show cr x (place x) ≠ 0 by have := hxd.2; omega)
  refine gx_tup (gxs_cons (gx_n 3 (gxs_cons (gx_tup (gxs_cons (gx_n 1 (gxs_cons (gx_n 4 (gxs_nil (gxs_nil ?_)))))))))) 
  refine ssx_at (B := [.dat (rows L), .dat (row x), .dat (.lst (L.map fun x => .int (place x))), .dat (.int i), .dat (.int (place x)), s5]) ?_ rfl
  refine ssx_mid (fun A1 => A1 = [.dat (rows L), .dat (row x), .dat (.lst (L.map fun x => .int (place x))), .dat (.int i), .dat (.int (place x)), s5]) (sx_if (tx_w (tw_or (tx_cmp (ed_of (ex_ix (ed_n 1 rfl (ed_n 4 rfl (xs_t (atI_row hpl) ⟨_, rfl, ed_int (os_lt ⟨_, rfl, fun _ => ?_, fun k => ?_⟩)⟩))))))))) ?_
  · refine tw_or1 (tx_w (tw_and (tx_cmp (ed_n 3 rfl (ed_int (os_gt ⟨_, rfl, fun k => ?_, fun k => ⟨fun k2 => (by cases k2), fun _ => ssx_nil rfl⟩⟩))))))
    have k : (0 : Int) < i := of_decide_eq_true k
    obtain ⟨j, rfl⟩ : ∃ j, i = j + 1 := ⟨i - 1, by omega⟩
    have hj : j < L.length := by omega
    refine tw_and1 (tx_cmp (ed_n 4 rfl (ed_of (ex_ix (ed_n 2 rfl (ed_of (ex_bin (ed_n 3 rfl (ed_int (os_sub ⟨_, rfl, ?_⟩))))))))))
    have e1 : ((j + 1 : Nat) : Int) - 1 = ((j : Nat) : Int) := by omega
    rw [e1]
    refine xs_l (d := .int (place L[j])) (by rw [get_nat (by rw [List.length_map]; exact hj), List.getElem_map]) ⟨_, rfl, os_le ⟨_, rfl, fun k2 => ?_, fun _ => ssx_nil rfl⟩⟩
    have k2 : (place x : Int) ≤ (place L[j] : Int) := of_decide_eq_true k2
    have up := List.pairwise_iff_getElem.mp st.up j (j + 1) hj hi (by omega)
    have ex : L[j + 1] = x := (List.getElem?_eq_some_iff.mp hr).2
    rw [ex] at up
    omega
  · have k : co (place x) x < 1 := of_decide_eq_true k
    have := hxd.2
    have : co (place x) x = cr x (place x) := rfl
    omega
  rintro A1 rfl
  refine ssx_one (sx_if (tx_not (tx_val (ex_seqB "all" (es_of (ex_lc [("one", 5)] (ei_l (ed_of (ex_slL (ed_n 0 rfl ⟨_, rfl, ed_n 3 rfl ⟨_, rfl, fun p10 => ⟨_, rfl, _, .inl rfl, ?_⟩⟩⟩))))))))))
  rw [cut_take _ _ (by rw [List.length_map]; omega), ← List.map_take]
  refine lc_map (L.take i) row (fun _ => .bl true) (by rw [List.length_take]; omega) (by exact trivial) ?_ ?_
  · intro y hy s H0 C cl fp
    refine gx_n 5 ?_
    intro s H0 C cl fp
    obtain ⟨j, hj, ey⟩ := List.getElem_of_mem hy
    rw [List.length_take] at hj
    rw [List.getElem_take] at ey
    have two := List.pairwise_iff_getElem.mp al j i (by omega) hi (by omega)
    have ex : L[i] = x := (List.getElem?_eq_some_iff.mp hr).2
    rw [ex, ey] at two
    have up := List.pairwise_iff_getElem.mp st.up j i (by omega) hi (by omega)
    have hyL : y ∈ L := List.mem_of_mem_take hy
    have hyl : place x < y.length := by rw [h3 y hyL, ← h3 x hmem]; exact hpl
    refine ed_of (ex_chain (ed_int (ed_of (ex_ix (ed_n 5 rfl (ed_n 4 rfl (xs_t (atI_row hyl) ⟨_, rfl, os_le ⟨_, rfl, fun _ => ?_, fun k => ?_⟩⟩)))))))
    · refine ed_of (ex_ix (ed_n 1 rfl (ed_n 4 rfl (xs_t (atI_row hpl) ⟨_, rfl, os_lt ⟨_, ?_, rfl, rfl⟩⟩))))
      show (SD.dat (.bl (decide (cr y (place x) < cr x (place x))))).frz = _
      rw [decide_eq_true two.2]
      rfl
    · have k : ¬ 0 ≤ co (place x) y := of_decide_eq_false k
      have := two.1
      exact absurd this k
  intro p11
  refine ⟨_, _, rfl, cq_all ⟨_, rfl, fun k => ?_, fun _ => ssx_nil ⟨_, _, _, _, rfl⟩⟩⟩
  simp at k
end
end K2

namespace K2
open PySem L2 Y NdefX LamX
variable [I : NmC]
def spGone : FSp := fun A Post _ => ∃ (L : List (List Int)) (x : List Int) (n S : Nat), A = [.dat (rows L), .dat (row x)] ∧ n ≤ 3 ∧ L.length ≤ 3 ∧ (∀ y ∈ L, y.length = n) ∧ x.length = n ∧ Stp 0 L ∧ Ent (2 ^ S) L ∧ S ≤ 5000 ∧ Bits 4 x ∧ Spn L (cr x) ∧ Post (.dat (.bl true)) A
/-- what is left, behind i rows -/
structure Gon (L : List (List Int)) (n S i : Nat) (l : List Int) : Prop where
  len : l.length = n
  bits : Bits (4 + i * (S + 1)) l
  st : ∃ p, Stp p (L.drop i)
  sp : Spn (L.drop i) (cr l)
theorem Gon.step {L : List (List Int)} {n S i : Nat} {l h : List Int} (g : Gon L n S i l) (hL : ∀ y ∈ L, y.length = n) (hE : Ent (2 ^ S) L) (hi : L[i]? = some h) :
    Hd h (place h) ∧ cr l (place h) % cr h (place h) = 0 ∧ Gon L n S (i + 1) (moreOf l (-(cr l (place h) / cr h (place h))) h) := by
  obtain ⟨lt, ei⟩ := List.getElem?_eq_some_iff.mp hi
  have ed : L.drop i = h :: L.drop (i + 1) := by rw [List.drop_eq_getElem_cons lt, ei]
  obtain ⟨p, st⟩ := g.st
  have sp := g.sp
  rw [ed] at st sp
  have s := steps_of st
  have hd := (s.hd h List.mem_cons_self).1
  have tl := stp_tail st
  obtain ⟨d1, d2⟩ := down_one s sp tl
  have hmem : h ∈ L := List.mem_of_getElem? hi
  have ll := g.len
  have hl := hL h hmem
  refine ⟨hd, d1, by rw [len_more (by omega)]; exact ll, fun z hz => ?_, ⟨_, tl⟩, ?_⟩
  · obtain ⟨⟨a, b⟩, hp, rfl⟩ := List.mem_map.mp hz
    have c1 := g.bits a (List.of_mem_zip hp).1
    have c2 := hE h hmem b (List.of_mem_zip hp).2
    have e4 : (cr l (place h)).natAbs < 2 ^ (4 + i * (S + 1)) := by
      have hp := cr_in (show cr h (place h) ≠ 0 by have := hd.2; omega)
      rw [cr_get (by omega)]
      exact g.bits _ (List.getElem_mem _)
    have c3 : (cr l (place h) / cr h (place h)).natAbs < 2 ^ (4 + i * (S + 1)) := Nat.lt_of_le_of_lt (Int.natAbs_ediv_le_natAbs _ _) e4
    have c4 : (cr l (place h) / cr h (place h)).natAbs * b.natAbs ≤ 2 ^ (4 + i * (S + 1)) * 2 ^ S := Nat.mul_le_mul (Nat.le_of_lt c3) c2
    have c5 : (a + -(cr l (place h) / cr h (place h)) * b).natAbs ≤ a.natAbs + (-(cr l (place h) / cr h (place h)) * b).natAbs := Int.natAbs_add_le _ _
    rw [Int.natAbs_mul, Int.natAbs_neg] at c5
    have e6 : 2 ^ (4 + (i + 1) * (S + 1)) = 2 ^ (4 + i * (S + 1)) * 2 ^ S + 2 ^ (4 + i * (S + 1)) * 2 ^ S := by
      rw [← Nat.pow_add, ← Nat.two_mul, Nat.mul_comm 2, ← Nat.pow_succ]
      congr 1
      rw [Nat.add_mul]; omega
    have e7 : 1 ≤ 2 ^ S := Nat.one_le_two_pow
    have e8 : 2 ^ (4 + i * (S + 1)) * 1 ≤ 2 ^ (4 + i * (S + 1)) * 2 ^ S := Nat.mul_le_mul_left _ e7
    show (a + -(cr l (place h) / cr h (place h)) * b).natAbs < _
    rw [e6]
    omega
  · have e : cr (moreOf l (-(cr l (place h) / cr h (place h))) h) = fun q => cr l q - cr l (place h) / cr h (place h) * cr h q := by
      funext q
      rw [cr_more (by omega) q, Int.neg_mul]
      omega
    rw [e]
    exact d2
section
variable {T : List Addr} {P : Program} {w : World} {K : PySem.W.Frag} {mg : Str → Option Value} {base : Heap} {f : Addr} {fd : FuncData}
theorem ok_gone (F : Fun K "_law_gone_down" "_law_gone_down" sLawGoneDown f fd) (no : ∀ x ∈ bnames, mg x = none) (He : Fn T P w K mg base 1 "_law_heads" "_law_heads" sLawHeads pLawHeads spHeads) : GOk P w K mg base 2 f fd pLawGoneDown (SpOf K T spGone) := by
  refine g_of F scLawGoneDown no (fun A Post Z h => by obtain ⟨_, _, _, _, rfl, _⟩ := h; rfl) (by decide) ?_
  rintro cdv A fr s H E cok g B Post Z ⟨L, x, n, S, rfl, hn, h3, hl, hx, st, hE, hS, hb, sp, q⟩
  have hds := (steps_of st).hd
  refine ssx_cons (sx_set 2 (ex_of (ed_n 1 rfl ?_)))
  refine ssx_cons (sx_for (ei_z (ea_cons (ed_n 0 rfl (ea_cons (ed_of (ex_call He g bLawHeads (ea_cons (ed_n 0 rfl (ea_nil ⟨L, rfl, by omega, fun y hy => ⟨by rw [hl y hy]; exact hn, (hds y hy).1⟩, fun p2 => ⟨_, rfl, ea_nil ⟨_, _, .inl rfl, ?_⟩⟩⟩)))))))))) 
  refine ⟨fun i A' => ∃ (l : List Int) (s3 s4 s5 s6 s7 : SD), Gon L n S i l ∧ A' = [.dat (rows L), .dat (row x), .dat (row l), s3, s4, s5, s6, s7], ⟨x, _, _, _, _, _, ⟨hx, by simpa using hb, ⟨0, st⟩, sp⟩, rfl⟩, fun _ _ _ _ => trivial, ?_, ?_⟩
  · rintro i d A' hd ⟨l, s3, s4, s5, s6, s7, gl, rfl⟩
    obtain ⟨x', y', hx', hy', rfl⟩ := zipD_get hd
    rw [List.getElem?_map] at hx' hy'
    cases hr : L[i]? with
    | none => rw [hr] at hx'; cases hx'
    | some h =>
    rw [hr] at hx' hy'
    obtain rfl : row h = x' := Option.some.inj hx'
    obtain rfl : D.int (place h) = y' := Option.some.inj hy'
    have hmem : h ∈ L := List.mem_of_getElem? hr
    have hi := (List.getElem?_eq_some_iff.mp hr).1
    obtain ⟨hd, dv, nx⟩ := gl.step hl hE hr
    have hpl := cr_in (show cr h (place h) ≠ 0 by have := hd.2; omega)
    have hlh := hl h hmem
    have hll := gl.len
    refine gx_tup (gxs_cons (gx_n 3 (gxs_cons (gx_n 4 (gxs_nil ?_)))))
    refine ssx_at (B := [.dat (rows L), .dat (row x), .dat (row l), .dat (row h), .dat (.int (place h)), s5, s6, s7]) ?_ rfl
    refine ssx_cons (sx_if (tx_cmp (ed_of (ex_bin (ed_of (ex_ix (ed_n 2 rfl (ed_n 4 rfl (xs_t (atI_row (by omega)) ⟨_, rfl, ed_of (ex_ix (ed_n 3 rfl (ed_n 4 rfl (xs_t (atI_row hpl) ⟨_, rfl, os_mod hd.2 ⟨_, rfl, ed_int (os_ne ⟨_, rfl, fun k => ?_, fun _ => ?_⟩)⟩⟩))))⟩)))))))))
    · have dv : co (place h) l % co (place h) h = 0 := dv
      rw [dv] at k
      cases k
    have bS : 2 ^ S < 2 ^ (S + 1) := Nat.pow_lt_pow_right (by decide) (by omega)
    have hp0 : co (place h) h ≠ 0 := by have := hd.2; have e : co (place h) h = cr h (place h) := rfl; omega
    refine ssx_nil (ssx_cons (sx_set 5 (ex_bin (ed_of (ex_ix (ed_n 2 rfl (ed_n 4 rfl (xs_t (atI_row (by omega)) ⟨_, rfl, ed_of (ex_ix (ed_n 3 rfl (ed_n 4 rfl (xs_t (atI_row hpl) ⟨_, rfl, os_divZ (divZ_of hp0 (Nat.lt_of_le_of_lt (cr_le (hE h hmem) _) bS) (by omega) (by omega)) ?_⟩))))⟩))))))))
    have efd : (co (place h) l).fdiv (co (place h) h) = cr l (place h) / cr h (place h) := Int.fdiv_eq_ediv_of_nonneg _ (Int.le_of_lt hd.2)
    rw [efd]
    refine ssx_at (B := [.dat (rows L), .dat (row x), .dat (row l), .dat (row h), .dat (.int (place h)), .dat (.int (cr l (place h) / cr h (place h))), s6, s7]) ?_ rfl
    refine ssx_one (sx_set 2 (ex_seqT "tuple" (es_of (ex_lc [("digit", 6), ("other", 7)] (ei_z (ea_cons (ed_n 2 rfl (ea_cons (ed_n 3 rfl (ea_nil ⟨_, _, .inr rfl, ?_⟩))))))))))
    rw [zip_rows]
    refine lc_map (l.zip h) _ (fun p => .int (p.1 - cr l (place h) / cr h (place h) * p.2)) (by rw [List.length_zip]; omega) (by exact trivial) ?_ ?_
    · intro p hp s H0 C cl fp
      refine gx_tup (gxs_cons (gx_n 6 (gxs_cons (gx_n 7 (gxs_nil ?_)))))
      intro s H0 C cl fp
      have hp := List.of_mem_zip hp
      refine ed_of (ex_bin (ed_n 6 rfl (ed_of (ex_bin (ed_n 5 rfl (ed_n 7 rfl (os_mul (bits_mul (m := 4 + i * (S + 1)) (n := S + 1) ?_ (Nat.lt_of_le_of_lt (hE h hmem _ hp.2) bS) ?_) ⟨_, rfl, os_sub ⟨_, rfl, rfl, rfl⟩⟩)))))))
      · refine Nat.lt_of_le_of_lt (Int.natAbs_ediv_le_natAbs _ _) ?_
        rw [cr_get (by omega)]
        exact gl.bits _ (List.getElem_mem _)
      · have : i ≤ 2 := by omega
        have := Nat.mul_le_mul_right (S + 1) this
        omega
    · intro p9
      refine ⟨_, _, rfl, cq_tup ?_⟩
      rw [row_of]
      refine ⟨_, .dat (row h), .dat (.int (place h)), .dat (.int (cr l (place h) / cr h (place h))), strip (some s6), strip (some s7), nx, ?_⟩
      have e : (l.zip h).map (fun p => p.1 - cr l (place h) / cr h (place h) * p.2) = moreOf l (-(cr l (place h) / cr h (place h))) h := by
        unfold moreOf
        refine List.map_congr_left fun p _ => ?_
        rw [Int.neg_mul]; omega
      rw [e]
      cases s6 <;> cases s7 <;> rfl
  · rintro A' ⟨l, s3, s4, s5, s6, s7, gl, rfl⟩
    have sp := gl.sp
    rw [List.drop_eq_nil_of_le (by rw [zipD_len, List.length_map, List.length_map]; omega)] at sp
    refine ssx_one (sx_ret (ex_not (ed_of (ex_seqB "any" (es_of (ex_of (ed_n 2 rfl ⟨_, _, rfl, cq_anyI ⟨_, rfl, _, rfl, ?_⟩⟩)))))))
    have e : (l.any fun z => z != 0) = false := by
      rw [List.any_eq_false]
      intro z hz
      obtain ⟨j, hj, rfl⟩ := List.getElem_of_mem hz
      rw [← cr_get hj, spn_nil sp j]
      decide
    rw [e]
    exact ⟨_, .dat (.dat .nil), q⟩
end
end K2

namespace K2
open PySem L2 Y NdefX LamX
variable [I : NmC]
def spBoxRows : FSp := fun A Post _ => ∃ (n t : Nat), A = [.dat (.int n), .dat (.int t)] ∧ n ≤ 3 ∧ t ≤ 5 ∧ ∀ (p : Addr) (L : List (List Int)), L.length ≤ 2000 → (∀ x ∈ L, x.length = n ∧ Nine x) → Post (.own p (.lst (L.map row))) A
structure Bx (t i m : Nat) (L : List (List Int)) : Prop where
  many : L.length = m
  each : ∀ x ∈ L, x.length = i ∧ Nine x
theorem row_snoc (x : List Int) (z : Int) : D.tup (x.map .int ++ [.int z]) = row (x ++ [z]) := by unfold row; rw [List.map_append]; rfl
theorem Bx.step {t i m : Nat} {L : List (List Int)} {x : List Int} (b : Bx t (i + 1) m L) (hx : x.length = i ∧ Nine x) (ht : t ≤ 5) : Bx t (i + 1) (m + (2 * t + 1)) (L ++ (List.range (2 * t + 1)).map fun (k : Nat) => x ++ [(0 - (t : Int)) + k]) := by
  refine ⟨by simp [b.many], fun y hy => ?_⟩
  rcases List.mem_append.mp hy with hy | hy
  · exact b.each y hy
  · obtain ⟨k, hk, rfl⟩ := List.mem_map.mp hy
    have hk := List.mem_range.mp hk
    refine ⟨by simp [hx.1], fun z hz => ?_⟩
    rcases List.mem_append.mp hz with hz | hz
    · exact hx.2 z hz
    · have : z = (0 - (t : Int)) + k := by simpa using hz
      subst this
      omega
section
variable {T : List Addr} {P : Program} {w : World} {K : PySem.W.Frag} {mg : Str → Option Value} {base : Heap} {f : Addr} {fd : FuncData}
theorem ok_boxrows (F : Fun K "_law_box_rows" "_law_box_rows" sLawBoxRows f fd) (no : ∀ x ∈ bnames, mg x = none) : GOk P w K mg base 1 f fd pLawBoxRows (SpOf K T spBoxRows) := by
  refine g_of F scLawBoxRows no (fun A Post Z h => by obtain ⟨_, _, rfl, _⟩ := h; rfl) (by decide) ?_
  rintro cdv A fr s H E cok g B Post Z ⟨n, t, rfl, hn, ht, q⟩
  refine ssx_cons (sx_set 2 (ex_lst (ea_cons (ed_of (ex_tup (ea_nil ⟨by simp, _, rfl, ea_nil ⟨by simp, fun p2 => ?_⟩⟩))))))
  refine ssx_cons (sx_for (ei_r1 (ed_n 0 rfl ⟨n, rfl, by omega, ?_⟩)))
  refine ⟨fun i A' => ∃ (L : List (List Int)) (p : Addr) (s3 s4 s5 s6 : SD), Bx t i ((2 * t + 1) ^ i) L ∧ A' = [.dat (.int n), .dat (.int t), .own p (.lst (L.map row)), s3, s4, s5, s6], ⟨[[]], p2, _, _, _, _, ⟨rfl, fun x hx => ?_⟩, rfl⟩, fun _ _ _ _ => trivial, ?_, ?_⟩
  · have : x = [] := by simpa using hx
    subst this
    exact ⟨rfl, fun y hy => by cases hy⟩
  · rintro i d A' hd ⟨L, p, s3, s4, s5, s6, bx, rfl⟩
    obtain ⟨hi, rfl⟩ := rng_get hd
    have hi : i < n := by simpa using hi
    have big : (2 * t + 1) ^ (i + 1) ≤ 1331 := by
      have h1 : (2 * t + 1) ^ (i + 1) ≤ 11 ^ (i + 1) := Nat.pow_le_pow_left (by omega) _
      have h2 : 11 ^ (i + 1) ≤ 11 ^ 3 := Nat.pow_le_pow_right (by decide) (by omega)
      exact Nat.le_trans h1 h2
    have many := bx.many
    have eb : (2 * t + 1) ^ (i + 1) = L.length * (2 * t + 1) := by rw [many, Nat.pow_succ]
    refine gx_n 3 ?_
    refine ssx_cons (sx_set 4 (ex_lst (ea_nil ⟨by simp, fun p4 => ?_⟩)))
    refine ssx_at (B := [.dat (.int n), .dat (.int t), .own p (.lst (L.map row)), .dat (.int i), .own p4 (.lst []), s5, s6]) ?_ rfl
    refine ssx_cons (sx_for (ei_o 2 rfl ?_))
    refine ⟨fun j A' => ∃ (M : List (List Int)) (s5 s6 : SD), Bx t (i + 1) (j * (2 * t + 1)) M ∧ A' = [.dat (.int n), .dat (.int t), .own p (.lst (L.map row)), .dat (.int i), .own p4 (.lst (M.map row)), s5, s6], ⟨[], _, _, ⟨by simp, fun x hx => by cases hx⟩, rfl⟩, fun _ _ _ h => by obtain ⟨M, s5, s6, _, rfl⟩ := h; rfl, ?_, ?_⟩
    · rintro j d A' hd ⟨M, s5, s6, bm, rfl⟩
      rw [List.getElem?_map] at hd
      cases hr : L[j]? with
      | none => rw [hr] at hd; cases hd
      | some x =>
      rw [hr] at hd
      obtain rfl : row x = d := Option.some.inj hd
      have hj := (List.getElem?_eq_some_iff.mp hr).1
      have hx := bx.each x (List.mem_of_getElem? hr)
      have le : (j + 1) * (2 * t + 1) ≤ L.length * (2 * t + 1) := Nat.mul_le_mul_right _ (by omega)
      have mm := bm.many
      rw [Nat.add_mul] at le
      refine gx_n 5 ?_
      refine ssx_one (sx_ext 4 rfl (ed_of (ex_lc [("digit", 6)] (ei_r2 (ea_cons (ed_of (ex_bin (ed_int (ed_n 1 rfl (os_sub ⟨_, rfl, ea_cons (ed_of (ex_bin (ed_n 1 rfl (ed_int (os_add ⟨_, rfl, ea_nil ⟨_, _, rfl, by omega, ?_⟩⟩)))))⟩))))))))))
      have e1 : ((t : Int) + 1 - (0 - (t : Int))).toNat = 2 * t + 1 := by omega
      rw [e1]
      refine lc_map (List.range (2 * t + 1)) _ (fun k => row (x ++ [(0 - (t : Int)) + (k : Nat)])) (by simp; omega) (by exact trivial) ?_ ?_
      · intro k hk s H0 C cl fp
        refine gx_n 6 ?_
        intro s H0 C cl fp
        refine ed_of (ex_bin (ed_n 5 rfl (ed_of (ex_tup (ea_cons (ed_n 6 rfl (ea_nil ⟨by simp, _, rfl, os_catT ?_ ⟨_, ?_, rfl, rfl⟩⟩)))))))
        · rw [List.length_map]; simp; omega
        · rw [row_snoc]; rfl
      intro p8
      refine ⟨_, rfl, p4, _, _, rfl, rfl, by rw [List.length_map, List.length_map]; simp; omega, ?_⟩
      refine ⟨M ++ (List.range (2 * t + 1)).map fun (k : Nat) => x ++ [(0 - (t : Int)) + k], .dat (row x), strip (some s6), ?_, ?_⟩
      · rw [Nat.add_mul, Nat.one_mul]
        exact bm.step hx ht
      · rw [List.map_append, List.map_map]
        cases s6 <;> rfl
    · rintro A' ⟨M, s5, s6, bm, rfl⟩
      rw [List.length_map] at bm
      refine ssx_one (sx_set 2 (ex_mv 4 rfl ?_))
      exact ⟨M, p4, _, _, _, _, by rw [eb]; exact bm, rfl⟩
  · rintro A' ⟨L, p, s3, s4, s5, s6, bx, rfl⟩
    have bx : Bx t n ((2 * t + 1) ^ n) L := by simpa using bx
    have h1 : (2 * t + 1) ^ n ≤ 11 ^ n := Nat.pow_le_pow_left (by omega) _
    have h2 : 11 ^ n ≤ 11 ^ 3 := Nat.pow_le_pow_right (by decide) (by omega)
    have many := bx.many
    exact ssx_one (sx_ret (ex_mv 2 rfl ⟨_, .dat (.dat .nil), q p L (by omega) bx.each⟩))
end
end K2

namespace K2
open PySem L2 Y NdefX LamX
variable [I : NmC]
/-- what levels_of told, R = 4 -/
structure Lvd (n : Nat) (L G : List (List Int)) : Prop where
  lev : Levels n L G
  len : ∀ x ∈ G, x.length = n
  ent : Ent (2 ^ SB 4 n) G
theorem Lvd.bits {n : Nat} {L G : List (List Int)} (g : Lvd n L G) (hn : n = 2 ∨ n = 3) : ∀ x ∈ G, Bits 2000 x := fun x hx y hy => by
  have h := g.ent x hx y hy
  have : SB 4 n < 2000 := by rcases hn with rfl | rfl <;> decide
  exact Nat.lt_of_le_of_lt h (Nat.pow_lt_pow_right (by decide) this)
theorem Lvd.ent2 {n : Nat} {L G : List (List Int)} (g : Lvd n L G) (hn : n = 2 ∨ n = 3) : Ent (2 ^ 2000) G := fun x hx y hy => Nat.le_of_lt (g.bits hn x hx y hy)
theorem Lvd.few {n : Nat} {L G : List (List Int)} (g : Lvd n L G) (hn : n = 2 ∨ n = 3) : G.length ≤ 3 := by
  have := g.lev.many
  have := rk_pos L
  omega
theorem tl_comm (u v : Nat → Int) : tl u v = tl v u := by unfold tl; grind
theorem Lvd.mutes {n : Nat} {L G : List (List Int)} (g : Lvd n L G) (hn : n = 2 ∨ n = 3) (hL : ∀ x ∈ L, x.length = n) {x : List Int} (hx : x ∈ L) : mute' G x = true := by
  unfold mute'
  rw [List.all_eq_true]
  intro r hr
  have h := ((g.lev.span (cr r)).mp (.mem hr)).2 x hx
  rw [decide_eq_true_iff, dot_tl (by rw [g.len r hr, hL x hx]) (by rw [g.len r hr]; omega), tl_comm]
  exact h
theorem Lvd.spans {n : Nat} {L G : List (List Int)} (g : Lvd n L G) (hn : n = 2 ∨ n = 3) (hL : ∀ x ∈ L, x.length = n) {x : List Int} (lx : x.length = n) (h : mute' L x = true) : Spn G (cr x) := by
  refine (g.lev.span _).mpr ⟨fun q hq => cr_past (by omega), fun p hp => ?_⟩
  have h := List.all_eq_true.mp h p hp
  rw [decide_eq_true_iff, dot_tl (by rw [hL p hp, lx]) (by rw [hL p hp]; omega)] at h
  exact h
theorem Lvd.same {n : Nat} {L M F G : List (List Int)} (f : Lvd n L F) (g : Lvd n M G) (e : ∀ v, (∀ p ∈ L, tl (cr p) v = 0) ↔ ∀ p ∈ M, tl (cr p) v = 0) : F = G := levels_unique f.lev g.lev e f.len g.len
/-- some rows three times, some as they are -/
def mild (x : List Int) : Bool := x.all fun y => decide (y.natAbs < 4)
def oth (L : List (List Int)) : List (List Int) := (L.reverse.filter mild).map (fun x => x.map fun y => 3 * y) ++ L
theorem cr_mul (c : Int) (x : List Int) (q : Nat) : cr (x.map fun y => c * y) q = c * cr x q := by
  unfold cr
  rw [List.getD_eq_getElem?_getD, List.getD_eq_getElem?_getD, List.getElem?_map]
  cases x[q]? <;> simp
theorem oth_mem {L : List (List Int)} {x : List Int} (h : x ∈ oth L) : x ∈ L ∨ ∃ y ∈ L, mild y = true ∧ x = y.map fun z => 3 * z := by
  rcases List.mem_append.mp h with h | h
  · obtain ⟨y, hy, rfl⟩ := List.mem_map.mp h
    obtain ⟨h1, h2⟩ := List.mem_filter.mp hy
    exact .inr ⟨y, List.mem_reverse.mp h1, h2, rfl⟩
  · exact .inl h
theorem oth_same (L : List (List Int)) (v : Nat → Int) : (∀ p ∈ oth L, tl (cr p) v = 0) ↔ ∀ p ∈ L, tl (cr p) v = 0 := by
  refine ⟨fun h p hp => h p (List.mem_append_right _ hp), fun h p hp => ?_⟩
  rcases oth_mem hp with hp | ⟨y, hy, _, rfl⟩
  · exact h p hp
  · have := h y hy
    unfold tl at this ⊢
    rw [cr_mul, cr_mul, cr_mul]
    grind
theorem oth_len {L : List (List Int)} : (oth L).length ≤ L.length + L.length := by
  unfold oth
  rw [List.length_append, List.length_map]
  have := List.length_filter_le mild L.reverse
  rw [List.length_reverse] at this
  omega
theorem oth_ok {n : Nat} {L : List (List Int)} (h : NineR n L) : ∀ x ∈ oth L, x.length = n ∧ Bits 4 x := fun x hx => by
  rcases oth_mem hx with hx | ⟨y, hy, hm, rfl⟩
  · exact ⟨(h x hx).1, (h x hx).2.bits⟩
  · refine ⟨by rw [List.length_map]; exact (h y hy).1, fun z hz => ?_⟩
    obtain ⟨u, hu, rfl⟩ := List.mem_map.mp hz
    have := of_decide_eq_true (List.all_eq_true.mp hm u hu)
    show (3 * u).natAbs < 16
    omega
theorem rep_one (k : Nat) (d : D) : (List.replicate k [d]).flatten = List.replicate k d := by
  induction k with
  | zero => rfl
  | succ k ih => rw [List.replicate_succ, List.flatten_cons, ih, List.replicate_succ]; rfl
theorem row_sm (n : Nat) (x : List Int) (h : x.length ≤ 1000) : Sm (n + 1) (row x) := .inr ⟨x.map .int, .inr rfl, by rw [List.length_map]; omega, fun d hd => by
  obtain ⟨y, _, rfl⟩ := List.mem_map.mp hd
  exact Sm.sc (.int y)⟩
theorem rows_sm (n : Nat) (L : List (List Int)) (h : L.length ≤ 1000) (h2 : ∀ x ∈ L, x.length ≤ 1000) : Sm (n + 2) (rows L) := .inr ⟨L.map row, .inl rfl, by rw [List.length_map]; omega, fun d hd => by
  obtain ⟨y, hy, rfl⟩ := List.mem_map.mp hd
  exact row_sm n y (h2 y hy)⟩
end K2

namespace K2
open PySem L2 Y NdefX LamX
variable [I : NmC]
def spRight : FSp := fun A Post _ => ∃ (p : Addr) (ds : List D) (m : Nat), A = [.own p (.lst ds)] ∧ BoxOk m ds ∧ m ≤ 800000 ∧ ∀ ds', BoxOk (m + 21) ds' → Post (.dat (.bl true)) [.own p (.lst ds')]
section
variable {T : List Addr} {P : Program} {w : World} {K : PySem.W.Frag} {mg : Str → Option Value} {base : Heap} {f : Addr} {fd : FuncData}
theorem askL {A : List SD} {Post : SD → List SD → Prop} {Z : ZT} {l : Bool} {L : List (List Int)} {n : Nat} (e : A = [.dat (sq l (L.map row)), .dat (.int n)]) (hn : n = 2 ∨ n = 3) (hl : L.length ≤ 1000) (hb : ∀ x ∈ L, x.length = n ∧ Bits 4 x) (q : ∀ p G, Lvd n L G → Post (.own p (.lst (G.map row))) A) : spLevels A Post Z :=
  ⟨l, L, n, 4, e, hn, hl, hb, by decide, fun p G h1 h2 h3 => q p G ⟨h1, h2, h3⟩⟩
theorem ok_right (F : Fun K "_law_right" "_law_right" sLawRight f fd) (no : ∀ x ∈ bnames, mg x = none) (Tk : Fn T P w K mg base 1 "_law_take" "_law_take" sLawTake pLawTake spTake) (So : Fn T P w K mg base 3 "_law_some" "_law_some" sLawSome pLawSome spSome)
    (Ld : FnD T P w K mg base 8 "levels_of" "levels_of" sLevelsOf pLevelsOf spLevels [("side", 3)]) (Rk : Fn T P w K mg base 2 "rank_of" "rank_of" sRankOf pRankOf spRank) (No : Fn T P w K mg base 2 "_law_nothing" "_law_nothing" sLawNothing pLawNothing spNothing)
    (St : Fn T P w K mg base 2 "_law_steps_right" "_law_steps_right" sLawStepsRight pLawStepsRight spSteps) (Gd : Fn T P w K mg base 2 "_law_gone_down" "_law_gone_down" sLawGoneDown pLawGoneDown spGone)
    (Br : Fn T P w K mg base 1 "_law_box_rows" "_law_box_rows" sLawBoxRows pLawBoxRows spBoxRows) (Sa : Fn T P w K mg base 4 "_law_same" "_law_same" sLawSame pLawSame (spSame 3)) : GOk P w K mg base 9 f fd pLawRight (SpOf K T spRight) := by
  refine g_of F scLawRight no (fun A Post Z h => by obtain ⟨_, _, _, rfl, _⟩ := h; rfl) (by decide) ?_
  rintro cdv A fr s H E cok g B Post Z ⟨p, ds, m, rfl, hB, hm, q⟩
  have Le := Ld.fn
  have g1 : Good 1 (cxOf (CX P w) P w K mg base nLawRight "_law_right" (defScope sLawRight) f cdv A fr s H E).A := g.mono (by omega)
  have g2 : Good 2 (cxOf (CX P w) P w K mg base nLawRight "_law_right" (defScope sLawRight) f cdv A fr s H E).A := g.mono (by omega)
  have g3 : Good 3 (cxOf (CX P w) P w K mg base nLawRight "_law_right" (defScope sLawRight) f cdv A fr s H E).A := g.mono (by omega)
  have g4 : Good 4 (cxOf (CX P w) P w K mg base nLawRight "_law_right" (defScope sLawRight) f cdv A fr s H E).A := g.mono (by omega)
  refine ssx_cons (sx_set 1 (ex_bin (ed_int (ed_of (ex_callO 0 Tk g1 bLawTake rfl (ea_cons (ed_int (ea_nil ?_))))))))
  refine ⟨_, rfl, p, ds, m, _, rfl, hB, by omega, by decide, by decide, fun r ds1 h0 h1 hb1 => ⟨_, _, rfl, _, rfl, os_add ?_⟩⟩
  obtain ⟨n, en, hn⟩ : ∃ n : Nat, 2 + r = (n : Int) ∧ (n = 2 ∨ n = 3) := ⟨(2 + r).toNat, by omega, by omega⟩
  rw [en]
  have hn3 : n ≤ 3 := by omega
  refine ssx_cons (sx_set 2 (ex_callO 0 So g3 bLawSome rfl (ea_cons (ed_n 1 rfl (ea_nil ⟨_, rfl, p, ds1, m + 1, n, rfl, hb1, by omega, hn, fun ds2 L hb2 hl hL => ⟨_, _, rfl, ?_⟩⟩)))))
  have hb2 : BoxOk (m + 21) ds2 := hb2
  have hL1 : ∀ x ∈ L, x.length = n := fun x hx => (hL x hx).1
  have hLb : ∀ x ∈ L, x.length = n ∧ Bits 4 x := fun x hx => ⟨(hL x hx).1, (hL x hx).2.bits⟩
  refine ssx_cons (sx_parC 3 4 (eao_cons (ex_seqT "list" (es_of (ex_of (ed_n 2 rfl ⟨true, L.map row, rfl, cq_list fun p3 => ?_⟩))))))
  refine eao_cons (ex_callK [0, 1] ["side"] Le g bkLevelsOf (ea_cons (ed_n 2 rfl (ea_nil (ek_cons (ed_n 1 rfl (ek_nil ⟨rfl, rfl, askL (l := true) rfl hn (by omega) hLb fun p4 G lv => eao_nil ⟨_, _, rfl, ?_⟩⟩)))))))
  have few := lv.few hn
  refine ssx_frz 3 rfl rfl ?_
  refine ssx_at (B := [.own p (.lst ds2), .dat (.int n), .dat (rows L), .dat (rows L), .own p4 (.lst (G.map row)), .any, .any, .any, .any, .any]) ?_ rfl
  refine ssx_mid (fun A1 => A1 = [.own p (.lst ds2), .dat (.int n), .dat (rows L), .dat (rows L), .own p4 (.lst (G.map row)), .any, .any, .any, .any, .any]) (sx_if (tx_w (tw_or (tx_cmp (ed_of (ex_seqB "len" (es_o 4 rfl (cq_len ⟨_, rfl, ed_of (ex_bin (ed_n 1 rfl (ed_of (ex_call Rk g2 bRankOf (ea_cons (ed_n 2 rfl (ea_nil ⟨true, L, n, rfl, hn3, by omega, fun x hx => ⟨hL1 x hx, fun y hy => ?_⟩, _, rfl, os_sub ⟨_, rfl, os_ne ⟨_, rfl, fun _ => ?_, fun k => ?_⟩⟩⟩)))))))⟩)))))))) ?_
  · exact Nat.lt_of_lt_of_le ((hL x hx).2.bits y hy) (Nat.pow_le_pow_right (by decide) (by decide))
  · refine tw_or (tx_not (tx_val (ex_seqB "all" (es_of (ex_lc [("row", 5)] (ei_o 4 rfl ?_))))))
    refine lc_map G row (fun _ => .bl true) (by omega) (by exact rfl) ?_ ?_
    · intro x hx s H0 C cl fp
      refine gx_n 5 ?_
      intro s H0 C cl fp
      exact ed_of (ex_callB "isinstance" (ea_cons (ed_n 5 rfl (ea_cons (ed_cls "tuple" (ea_nil (cs_isi (TyD.tup _) (by decide +kernel) ⟨_, rfl, rfl, rfl⟩)))))))
    intro p5
    refine ⟨_, _, rfl, cq_all ⟨_, rfl, fun _ => ?_, fun k => ?_⟩⟩
    · refine tw_or1 (tx_cmp (ed_n 2 rfl (ed_n 3 rfl (os_neD (rows_pl L) (rows_pl L) (by decide) (by decide) ⟨_, rfl, fun k => ?_, fun _ => ssx_nil rfl⟩))))
      rw [eqv_same (rows_pl L)] at k
      cases k
    · simp at k
  · have hm : (((G.map row).length : Nat) : Int) = n - rk L := by rw [List.length_map]; exact lv.lev.many
    rw [hm] at k
    simp at k
  rintro A1 rfl
  refine ssx_mid (fun A1 => A1 = [.own p (.lst ds2), .dat (.int n), .dat (rows L), .dat (rows L), .own p4 (.lst (G.map row)), .any, .any, .any, .any, .any]) (sx_if (tx_w (tw_or (tx_not (tx_lend [0, 4] rfl rfl (tx_val (ex_call St g2 bLawStepsRight (ea_cons (ed_n 4 rfl (ea_nil ⟨G, n, rfl, hn3, by omega, lv.len, steps_of lv.lev.st, all_of lv.lev.al, _, rfl, rfl, fun _ => ?_, fun k => by cases k⟩)))))))))) ?_
  · refine tw_or1 (tx_not (tx_lend [0, 4] rfl rfl (tx_val (ex_seqB "all" (es_of (ex_lc [("one", 6)] (ei_l (ed_n 2 rfl ⟨_, .inl rfl, ?_⟩))))))))
    refine lc_map L row (fun x => .bl (mute' G x)) (by omega) (by exact trivial) ?_ ?_
    · intro x hx s H0 C cl fp
      refine gx_n 6 ?_
      intro s H0 C cl fp
      exact ed_of (ex_call No g2 bLawNothing (ea_cons (ed_n 4 rfl (ea_cons (ed_n 6 rfl (ea_nil ⟨true, G, x, 2000, 4, rfl, by omega, fun r hr => ⟨by rw [lv.len r hr]; omega, lv.bits hn r hr⟩, (hL x hx).2.bits, by decide, _, rfl, rfl, rfl⟩))))))
    intro p5
    refine ⟨_, _, rfl, cq_all ⟨_, rfl, rfl, fun k => ?_, fun _ => ssx_nil rfl⟩⟩
    have : (L.all fun x => mute' G x) = true := List.all_eq_true.mpr fun x hx => lv.mutes hn hL1 hx
    rw [this] at k
    cases k
  rintro A1 rfl
  refine ssx_mid (fun A1 => ∃ s5 : SD, (s5 = .any ∨ ∃ d, s5 = .dat d) ∧ A1 = [.own p (.lst ds2), .dat (.int n), .dat (rows L), .dat (rows L), .own p4 (.lst (G.map row)), s5, .any, .any, .any, .any]) (sx_for (ei_l (ed_of (ex_call Br g1 bLawBoxRows (ea_cons (ed_n 1 rfl (ea_cons (ed_mono (Q := fun d A' => ∃ t : Nat, d = .int t ∧ t ≤ 5 ∧ A' = [.own p (.lst ds2), .dat (.int n), .dat (rows L), .dat (rows L), .own p4 (.lst (G.map row)), .any, .any, .any, .any, .any]) (ed_of (ex_if (tx_cmp (ed_n 1 rfl (ed_int (os_eq ⟨_, rfl, fun _ => ex_of (ed_int ⟨_, rfl, 2, rfl, by decide, rfl⟩), fun _ => ex_of (ed_int ⟨_, rfl, 5, rfl, by decide, rfl⟩)⟩)))))) ?_)))))))) ?_
  · rintro d A' ⟨t, rfl, ht, rfl⟩
    refine ea_nil ⟨n, t, rfl, hn3, ht, fun p5 R hR hR2 => ⟨_, rfl, _, .inl rfl, ?_⟩⟩
    refine ⟨fun _ A' => ∃ s5 : SD, (s5 = .any ∨ ∃ d, s5 = .dat d) ∧ A' = [.own p (.lst ds2), .dat (.int n), .dat (rows L), .dat (rows L), .own p4 (.lst (G.map row)), s5, .any, .any, .any, .any], ⟨_, .inl rfl, rfl⟩, fun _ _ _ _ => trivial, ?_, ?_⟩
    · rintro i d A' hd ⟨s5, _, rfl⟩
      rw [List.getElem?_map] at hd
      cases hr : R[i]? with
      | none => rw [hr] at hd; cases hd
      | some x =>
      rw [hr] at hd
      obtain rfl : row x = d := Option.some.inj hd
      obtain ⟨lx, nx⟩ := hR2 x (List.mem_of_getElem? hr)
      refine gx_n 5 ?_
      refine ssx_at (B := [.own p (.lst ds2), .dat (.int n), .dat (rows L), .dat (rows L), .own p4 (.lst (G.map row)), .dat (row x), .any, .any, .any, .any]) ?_ rfl
      refine ssx_one (sx_if (tx_w (tw_and (tx_val (ex_call No g2 bLawNothing (ea_cons (ed_n 2 rfl (ea_cons (ed_n 5 rfl (ea_nil ⟨true, L, x, 4, 4, rfl, by omega, fun r hr => ⟨by rw [hL1 r hr]; omega, (hLb r hr).2⟩, nx.bits, by decide, _, rfl, fun k => ?_, fun _ => ⟨fun k2 => (by cases k2), fun _ => ssx_nil ⟨_, .inr ⟨_, rfl⟩, rfl⟩⟩⟩))))))))))
      refine tw_and1 (tx_not (tx_lend [0, 4] rfl rfl (tx_val (ex_call Gd g2 bLawGoneDown (ea_cons (ed_n 4 rfl (ea_cons (ed_n 5 rfl (ea_nil ⟨G, x, n, 2000, rfl, hn3, few, lv.len, lx, lv.lev.st, lv.ent2 hn, by decide, nx.bits, lv.spans hn hL1 lx k, _, rfl, rfl, fun k2 => (by cases k2), fun _ => ssx_nil ⟨_, .inr ⟨_, rfl⟩, rfl⟩⟩)))))))))
    · rintro A' ⟨s5, h5, rfl⟩
      exact ⟨s5, h5, rfl⟩
  rintro A1 ⟨s5, h5, rfl⟩
  refine ssx_cons (sx_setLc 7 [("one", 6)] (ei_l (ed_of (ex_revL (es_of (ex_of (ed_n 2 rfl ⟨true, L.map row, rfl, rfl, fun p5 => ⟨_, rfl, _, .inl rfl, ?_⟩⟩)))))))
  rw [← List.map_reverse]
  refine lc_filter L.reverse row mild (fun x => row (x.map fun y => 3 * y)) (by rw [List.length_reverse]; omega) (by exact trivial) ?_ ?_
  · intro x hx s H0 C cl fp
    have hx := List.mem_reverse.mp hx
    have lx := hL1 x hx
    refine gx_n 6 ?_
    intro s H0 C cl fp
    refine tx_cmp (ed_of (ex_seqB "max" (es_of (ex_lc [("digit", 8)] (ei_t (ed_n 6 rfl ⟨_, rfl, ?_⟩))))))
    refine lc_map x _ (fun y => .int (if y < 0 then -y else y)) (by omega) (by exact trivial) ?_ ?_
    · intro y hy s H0 C cl fp
      refine gx_n 8 ?_
      intro s H0 C cl fp
      exact ed_of (ex_callB "abs" (ea_cons (ed_n 8 rfl (ea_nil (cs_abs ⟨_, rfl, rfl, rfl⟩)))))
    intro p6
    refine ⟨_, _, rfl, cq_maxL (by omega) fun mx m1 m2 => ⟨_, rfl, ed_int (os_lt ⟨_, rfl, ?_, ?_, fun _ s H0 C cl fp => ?_⟩)⟩⟩
    · obtain ⟨y, hy, ey⟩ := List.mem_map.mp m1
      unfold mild
      rw [Bool.eq_iff_iff, decide_eq_true_iff, List.all_eq_true]
      refine ⟨fun h z hz => ?_, fun h => ?_⟩
      · have := m2 z hz
        rw [decide_eq_true_iff]
        split at this <;> omega
      · have := of_decide_eq_true (h y hy)
        split at ey <;> omega
    · cases s5 <;> rfl
    · refine ed_of (ex_seqT "tuple" (es_of (ex_lc [("digit", 8)] (ei_t (ed_n 6 rfl ⟨_, rfl, ?_⟩)))))
      refine lc_map x _ (fun y => .int (3 * y)) (by omega) (by exact trivial) ?_ ?_
      · intro y hy s H0 C cl fp
        refine gx_n 8 ?_
        intro s H0 C cl fp
        refine ed_of (ex_bin (ed_int (ed_n 8 rfl (os_mulL (.inl (by decide)) ⟨_, rfl, rfl, rfl⟩))))
      intro p7
      refine ⟨_, _, rfl, cq_tup ⟨_, rfl, by rw [row_of], ?_⟩⟩
      cases s5 <;> rfl
  intro p7
  have fl := List.length_filter_le mild L.reverse
  rw [List.length_reverse] at fl
  refine ssx_at (B := [.own p (.lst ds2), .dat (.int n), .dat (rows L), .dat (rows L), .own p4 (.lst (G.map row)), s5, .any, .own p7 (.lst ((L.reverse.filter mild).map fun x => row (x.map fun y => 3 * y))), .any, .any]) ?_ (by cases s5 <;> rfl)
  refine ssx_cons (sx_set 7 (ex_bin (ed_nf 7 rfl rfl (ed_n 2 rfl (os_catL (by rw [List.length_map, List.length_map]; omega) fun p8 => ?_)))))
  refine ssx_frz 7 rfl rfl ?_
  refine ssx_at (B := [.own p (.lst ds2), .dat (.int n), .dat (rows L), .dat (rows L), .own p4 (.lst (G.map row)), s5, .any, .dat (rows (oth L)), .any, .any]) ?_ ?_
  rotate_left
  · unfold oth rows
    rw [List.map_append, List.map_map]
    rfl
  have ol := oth_len (L := L)
  refine ssx_cons (sx_set 9 (ex_lst (ea_cons (ed_of (ex_callK [0, 1] ["side"] Le g bkLevelsOf (ea_cons (ed_n 7 rfl (ea_nil (ek_cons (ed_n 1 rfl (ek_nil ⟨rfl, rfl, askL (l := true) rfl hn (by omega) (oth_ok hL) fun p9 G1 lv1 => ⟨_, rfl, ?_⟩⟩)))))))))))
  obtain rfl : G1 = G := lv1.same lv (oth_same L)
  refine ea_cons (ed_of (ex_callK0 [1, 0] ["side", "rows"] Le g bnLevelsOf (ek_cons (ed_n 1 rfl (ek_cons (ed_of (ex_seqT "tuple" (es_of (ex_of (ed_n 2 rfl ⟨true, _, rfl, cq_tup ⟨_, rfl, ek_nil ⟨rfl, askL (l := false) rfl hn (by omega) hLb fun p10 G2 lv2 => ⟨_, rfl, ?_⟩⟩⟩⟩))))))))))
  obtain rfl : G2 = G1 := lv2.same lv fun v => Iff.rfl
  refine ea_nil ⟨by simp, fun p11 => ?_⟩
  refine ssx_mid (fun A1 => ∃ k : Nat, (k = 2 ∨ k = 3) ∧ A1 = [.own p (.lst ds2), .dat (.int n), .dat (rows L), .dat (rows L), .own p4 (.lst (G2.map row)), s5, .any, .dat (rows (oth L)), .any, .own p11 (.lst (List.replicate k (rows G2)))]) (sx_if (tx_cmp (ed_n 1 rfl (ed_int (os_eq ⟨_, rfl, fun k => ?_, fun _ => ssx_nil ⟨2, .inl rfl, rfl⟩⟩))))) ?_
  · have k : (n : Int) = 3 := of_decide_eq_true k
    obtain rfl : n = 3 := by omega
    refine ssx_one (sx_app 9 rfl (ed_of (ex_callD Ld g bdLevelsOf (ea_cons (ed_n 2 rfl (ea_nil ⟨rfl, askL (l := true) rfl hn (by omega) hLb fun p12 G3 lv3 => ⟨_, rfl, ?_⟩⟩))))))
    obtain rfl : G3 = G2 := lv3.same lv fun v => Iff.rfl
    exact ⟨p11, _, rfl, by simp, 3, .inr rfl, rfl⟩
  rintro A1 ⟨k, hk, rfl⟩
  refine ssx_frz 9 rfl rfl ?_
  refine ssx_at (B := [.own p (.lst ds2), .dat (.int n), .dat (rows L), .dat (rows L), .own p4 (.lst (G2.map row)), s5, .any, .dat (rows (oth L)), .any, .dat (.lst (List.replicate k (rows G2)))]) ?_ rfl
  have sm2 : ∀ m, Sm (m + 2) (rows G2) := fun m => rows_sm m G2 (by omega) fun x hx => by rw [lv.len x hx]; omega
  refine ssx_cons (sx_if (tx_not (tx_lend [0, 4] rfl (by rcases h5 with rfl | ⟨_, rfl⟩ <;> rfl) (tx_val (ex_call Sa g4 bLawSame (ea_cons (ed_n 9 rfl (ea_cons (ed_of (ex_bin (ed_of (ex_lst (ea_cons (ed_n 4 rfl (ea_nil ⟨by simp, fun p12 => ⟨_, rfl, ed_of (ex_seqB "len" (es_of (ex_of (ed_n 9 rfl ⟨_, _, rfl, cq_len ⟨_, rfl, os_repL ?_ ?_ ?_ fun p13 => ⟨_, rfl, ea_nil ?_⟩⟩⟩))))⟩⟩)))))))))))))))
  · omega
  · rw [List.length_replicate]; omega
  · rw [List.length_replicate]; simp; omega
  · rw [List.length_replicate, show ((k : Nat) : Int).toNat = k from rfl, rep_one]
    refine ⟨.lst (List.replicate k (rows G2)), rfl, .inr ⟨_, .inl rfl, by rw [List.length_replicate]; omega, fun x hx => ?_⟩, _, rfl, rfl, fun k => (by cases k), fun _ => ?_⟩
    · rw [(List.mem_replicate.mp hx).2]
      exact sm2 0
    refine ssx_nil (ssx_cons (sx_app 4 rfl (ed_str ⟨p4, _, rfl, by rw [List.length_map]; omega, ?_⟩)))
    refine ssx_one (sx_ret (ex_call Sa g4 bLawSame (ea_cons (ed_of (ex_callK [0, 1] ["side"] Le g bkLevelsOf (ea_cons (ed_n 2 rfl (ea_nil (ek_cons (ed_n 1 rfl (ek_nil ⟨rfl, rfl, askL (l := true) rfl hn (by omega) hLb fun p14 G4 lv4 => ⟨_, rfl, ?_⟩⟩)))))))))))
    obtain rfl : G4 = G2 := lv4.same lv fun v => Iff.rfl
    have e0 : atI (List.replicate k (rows G4)) 0 = some (rows G4) := atI_nat (j := 0) (by rw [List.getElem?_replicate]; rw [if_pos (by omega)])
    refine ea_cons (ed_of (ex_ix (ed_n 9 rfl (ed_int (xs_l e0 ⟨_, rfl, ea_nil ⟨rows G4, rfl, sm2 1, ?_⟩⟩)))))
    exact ⟨_, .own List.mem_cons_self .nil, q ds2 hb2⟩
end
end K2

namespace K2
open PySem L2 Y NdefX LamX
variable [I : NmC]
/-! the levels written out in the law -/
theorem hd_of {x : List Int} {a : Nat} (h : ∀ q, q < a → cr x q = 0) (h0 : 0 < cr x a) : (∀ q, q < a → cr x q = 0) ∧ 0 < cr x a := ⟨h, h0⟩
theorem lit1 : Levels 3 [] [[1, 0, 0], [0, 1, 0], [0, 0, 1]] := by
  refine ⟨.cons (a := 0) (by decide) (by decide) (by decide) (.cons (a := 1) (by decide) (by decide) (by decide) (.cons (a := 2) (by decide) (by decide) (by decide) .nil)), ?_, fun v => ⟨fun s => ⟨past_span (by decide) s, fun p hp => by cases hp⟩, fun ⟨z, _⟩ => ?_⟩, by rw [rk_none]; decide⟩
  · exact .cons ⟨⟨1, by decide⟩, ⟨2, by decide⟩, trivial⟩ (.cons ⟨⟨2, by decide⟩, trivial⟩ (.cons trivial .nil))
  · have s : Spn [[1, 0, 0], [0, 1, 0], [0, 0, 1]] fun q => v 0 * cr [1, 0, 0] q + (fun q => v 1 * cr [0, 1, 0] q + (fun q => v 2 * cr [0, 0, 1] q + (fun _ => (0 : Int)) q) q) q := .step _ (by simp) (.step _ (by simp) (.step _ (by simp) .zero))
    have e : (fun q => v 0 * cr [1, 0, 0] q + (fun q => v 1 * cr [0, 1, 0] q + (fun q => v 2 * cr [0, 0, 1] q + (fun _ => (0 : Int)) q) q) q) = v := by
      funext q
      match q with
      | 0 => simp [cr]
      | 1 => simp [cr]
      | 2 => simp [cr]
      | q + 3 => rw [z (q + 3) (by omega)]; simp [cr]
    rw [e] at s
    exact s
theorem rk_lit {x : List Int} (h : nz x) : rk [x] = 1 := by
  refine rk1 ?_ ⟨x, by simp, h⟩
  rintro ⟨a, ha, b, hb, d⟩
  obtain rfl : a = x := by simpa using ha
  obtain rfl : b = a := by simpa using hb
  exact cz_self _ d
theorem lit2 : Levels 2 [[2, 4]] [[2, -1]] := by
  refine ⟨.cons (a := 0) (by decide) (by decide) (by decide) .nil, .cons trivial .nil, fun v => ⟨fun s => ⟨past_span (by decide) s, fun p hp => tl_zero s ?_⟩, fun ⟨z, e⟩ => ?_⟩, by rw [rk_lit (by unfold nz; decide)]; decide⟩
  · obtain rfl : p = [2, 4] := by simpa using hp
    unfold tl; decide
  · have e := e [2, 4] (by simp)
    simp [tl, cr] at e
    have s : Spn [[2, -1]] fun q => (-(v 1)) * cr [2, -1] q + (fun _ => (0 : Int)) q := .step _ (by simp) .zero
    have e2 : (fun q => (-(v 1)) * cr [2, -1] q + (fun _ => (0 : Int)) q) = v := by
      funext q
      match q with
      | 0 => simp [cr]; omega
      | 1 => simp [cr]
      | q + 2 => rw [z (q + 2) (by omega)]; simp [cr]
    rw [e2] at s
    exact s
theorem lit3 : Levels 3 [[1, 1, 1]] [[1, 0, -1], [0, 1, -1]] := by
  refine ⟨.cons (a := 0) (by decide) (by decide) (by decide) (.cons (a := 1) (by decide) (by decide) (by decide) .nil), .cons ⟨⟨1, by decide⟩, trivial⟩ (.cons trivial .nil), fun v => ⟨fun s => ⟨past_span (by decide) s, fun p hp => tl_zero s ?_⟩, fun ⟨z, e⟩ => ?_⟩, by rw [rk_lit (by unfold nz; decide)]; decide⟩
  · obtain rfl : p = [1, 1, 1] := by simpa using hp
    unfold tl; decide
  · have e := e [1, 1, 1] (by simp)
    simp [tl, cr] at e
    have s : Spn [[1, 0, -1], [0, 1, -1]] fun q => v 0 * cr [1, 0, -1] q + (fun q => v 1 * cr [0, 1, -1] q + (fun _ => (0 : Int)) q) q := .step _ (by simp) (.step _ (by simp) .zero)
    have e2 : (fun q => v 0 * cr [1, 0, -1] q + (fun q => v 1 * cr [0, 1, -1] q + (fun _ => (0 : Int)) q) q) = v := by
      funext q
      match q with
      | 0 => simp [cr]
      | 1 => simp [cr]
      | 2 => simp [cr]; omega
      | q + 3 => rw [z (q + 3) (by omega)]; simp [cr]
    rw [e2] at s
    exact s
theorem lit4 : Levels 3 [[2, 3, 0]] [[3, -2, 0], [0, 0, 1]] := by
  refine ⟨.cons (a := 0) (by decide) (by decide) (by decide) (.cons (a := 2) (by decide) (by decide) (by decide) .nil), .cons ⟨⟨2, by decide⟩, trivial⟩ (.cons trivial .nil), fun v => ⟨fun s => ⟨past_span (by decide) s, fun p hp => tl_zero s ?_⟩, fun ⟨z, e⟩ => ?_⟩, by rw [rk_lit (by unfold nz; decide)]; decide⟩
  · obtain rfl : p = [2, 3, 0] := by simpa using hp
    unfold tl; decide
  · have e := e [2, 3, 0] (by simp)
    simp [tl, cr] at e
    have s : Spn [[3, -2, 0], [0, 0, 1]] fun q => (v 0 + v 1) * cr [3, -2, 0] q + (fun q => v 2 * cr [0, 0, 1] q + (fun _ => (0 : Int)) q) q := .step _ (by simp) (.step _ (by simp) .zero)
    have e2 : (fun q => (v 0 + v 1) * cr [3, -2, 0] q + (fun q => v 2 * cr [0, 0, 1] q + (fun _ => (0 : Int)) q) q) = v := by
      funext q
      match q with
      | 0 => simp [cr]; omega
      | 1 => simp [cr]; omega
      | 2 => simp [cr]
      | q + 3 => rw [z (q + 3) (by omega)]; simp [cr]
    rw [e2] at s
    exact s
theorem bits_lit {n : Nat} {L : List (List Int)} (h : (L.all fun x => decide (x.length = n) && x.all fun y => decide (y.natAbs < 16)) = true) : ∀ x ∈ L, x.length = n ∧ Bits 4 x := fun x hx => by
  have h := List.all_eq_true.mp h x hx
  rw [Bool.and_eq_true, decide_eq_true_iff] at h
  exact ⟨h.1, fun y hy => of_decide_eq_true (List.all_eq_true.mp h.2 y hy)⟩
def spLaw : FSp := fun A Post _ => ∃ ns : List Int, A = [.dat (.rls (ns.map .int))] ∧ ns.length ≤ 63 ∧ Post (.dat (.bl true)) A
section
variable {T : List Addr} {P : Program} {w : World} {K : PySem.W.Frag} {mg : Str → Option Value} {base : Heap} {f : Addr} {fd : FuncData}
theorem lit_same {n : Nat} {L F G : List (List Int)} (f : Lvd n L F) (g : Levels n L G) (lg : ∀ x ∈ G, x.length = n) : F = G := levels_unique f.lev g (fun v => Iff.rfl) f.len lg
theorem ok_law (F : Fun K "law" "law" sLaw f fd) (no : ∀ x ∈ bnames, mg x = none) (Bx : Fn T P w K mg base 2 "_law_box" "_law_box" sLawBox pLawBox spBox) (Ri : Fn T P w K mg base 9 "_law_right" "_law_right" sLawRight pLawRight spRight)
    (Ld : FnD T P w K mg base 8 "levels_of" "levels_of" sLevelsOf pLevelsOf spLevels [("side", 3)]) (Sa : Fn T P w K mg base 4 "_law_same" "_law_same" sLawSame pLawSame (spSame 3)) : GOk P w K mg base 10 f fd pLaw (SpOf K T spLaw) := by
  refine g_of F scLaw no (fun A Post Z h => by obtain ⟨_, rfl, _⟩ := h; rfl) (by decide) ?_
  rintro cdv A fr s H E cok g B Post Z ⟨ns, rfl, hns, q⟩
  have Le := Ld.fn
  have g2 : Good 2 (cxOf (CX P w) P w K mg base nLaw "law" (defScope sLaw) f cdv A fr s H E).A := g.mono (by omega)
  have g4 : Good 4 (cxOf (CX P w) P w K mg base nLaw "law" (defScope sLaw) f cdv A fr s H E).A := g.mono (by omega)
  have g8 : Good 8 (cxOf (CX P w) P w K mg base nLaw "law" (defScope sLaw) f cdv A fr s H E).A := g.mono (by omega)
  refine ssx_cons (sx_for (ei_r1 (ed_of (ex_bin (ed_int (ed_of (ex_callB "min" (ea_cons (ed_int (ea_cons (ed_of (ex_seqB "len" (es_of (ex_of (ed_n 0 rfl ⟨_, _, rfl, cq_len ⟨_, rfl, ea_nil (cs_min ⟨_, rfl, os_add ⟨_, rfl, _, rfl, ?_, ?_⟩⟩)⟩⟩)))))))))))))))
  · split <;> omega
  generalize hk : (1 + if (((ns.map D.int).length : Nat) : Int) < 7 then (((ns.map D.int).length : Nat) : Int) else 7) = kk
  have hkk : kk.toNat ≤ 8 := by split at hk <;> omega
  refine ⟨fun i A' => ∃ s1 s2 : SD, A' = [.dat (.rls (ns.map .int)), s1, s2, .any, .any, .any], ⟨_, _, rfl⟩, fun _ _ _ _ => trivial, ?_, ?_⟩
  · rintro i d A' hd ⟨s1, s2, rfl⟩
    obtain ⟨hi, rfl⟩ := rng_get hd
    refine gx_n 1 ?_
    refine ssx_cons (sx_set 2 (ex_call Bx g2 bLawBox (ea_cons (ed_n 0 rfl (ea_cons (ed_n 1 rfl (ea_nil ⟨ns, i, rfl, by omega, fun p ds hB => ?_⟩)))))))
    refine ssx_one (sx_if (tx_not (tx_val (ex_seqB "all" (es_of (ex_lc [("turn", 3)] (ei_r1 (ed_int ⟨_, rfl, by decide, ?_⟩))))))))
    refine lc_run (by decide) (fun j acc A' => ∃ ds' : List D, BoxOk (21 * j) ds' ∧ acc = (List.replicate j true).map .bl ∧ A' = [.dat (.rls (ns.map .int)), .dat (.int (i : Nat)), .own p (.lst ds'), .any, .any, .any]) ⟨ds, hB, rfl, rfl⟩ (fun _ _ _ _ _ => trivial) ?_ ?_
    · rintro j d acc A' hd ⟨ds', hb, rfl, rfl⟩ s H0 C cl fp
      obtain ⟨hj, rfl⟩ := rng_get hd
      have hj : j < 3 := hj
      refine gx_n 3 ?_
      intro s H0 C cl fp
      refine ed_of (ex_callO 2 Ri g bLawRight rfl (ea_nil ?_))
      refine ⟨_, rfl, p, ds', _, rfl, hb, by omega, fun ds2 hb2 => ⟨_, _, rfl, _, rfl, ds2, hb2.mono (by omega), ?_, rfl⟩⟩
      rw [List.replicate_succ', List.map_append]; rfl
    · rintro acc A' ⟨ds', hb, rfl, rfl⟩ p5
      refine ⟨_, _, rfl, cq_all (zs := List.replicate 3 true) (f := id) ⟨_, rfl, fun k => (by cases k), fun _ => ssx_nil ⟨_, _, rfl⟩⟩⟩
  · rintro A' ⟨s1, s2, rfl⟩
    refine ssx_cons (sx_set 4 (ex_lst (ea_cons (ed_of (ex_callD Ld g8 bdLevelsOf (ea_cons (ed_of (ex_lst (ea_nil ⟨by simp, fun r1 => ⟨_, rfl, ea_nil ⟨rfl, askL (l := true) (L := []) (n := 3) rfl (.inr rfl) (by decide) (bits_lit (by decide)) fun p1 G1 v1 => ⟨_, rfl, ?_⟩⟩⟩⟩)))))))))
    obtain rfl := lit_same v1 lit1 (by decide)
    refine ea_cons (ed_of (ex_callK [0, 1] ["side"] Le g8 bkLevelsOf (ea_cons (ed_of (ex_lst (ea_cons (ed_of (ex_tup (ea_cons (ed_int (ea_cons (ed_int (ea_nil ⟨by simp, _, rfl, (ea_nil ⟨by simp, fun r2 => ⟨_, rfl, ea_nil (ek_cons (ed_int (ek_nil ⟨rfl, rfl, askL (l := true) (L := [[2, 4]]) (n := 2) rfl (.inl rfl) (by decide) (bits_lit (by decide)) fun p2 G2 v2 => ⟨_, rfl, ?_⟩⟩)))⟩⟩)⟩)))))))))))))
    obtain rfl := lit_same v2 lit2 (by decide)
    refine ea_cons (ed_of (ex_callD Ld g8 bdLevelsOf (ea_cons (ed_of (ex_lst (ea_cons (ed_of (ex_tup (ea_cons (ed_int (ea_cons (ed_int (ea_cons (ed_int (ea_nil ⟨by simp, _, rfl, (ea_nil ⟨by simp, fun r3 => ⟨_, rfl, ea_nil ⟨rfl, askL (l := true) (L := [[1, 1, 1]]) (n := 3) rfl (.inr rfl) (by decide) (bits_lit (by decide)) fun p3 G3 v3 => ⟨_, rfl, ?_⟩⟩⟩⟩)⟩)))))))))))))))
    obtain rfl := lit_same v3 lit3 (by decide)
    refine ea_cons (ed_of (ex_callD Ld g8 bdLevelsOf (ea_cons (ed_of (ex_lst (ea_cons (ed_of (ex_tup (ea_cons (ed_int (ea_cons (ed_int (ea_cons (ed_int (ea_nil ⟨by simp, _, rfl, (ea_nil ⟨by simp, fun r4 => ⟨_, rfl, ea_nil ⟨rfl, askL (l := true) (L := [[2, 3, 0]]) (n := 3) rfl (.inr rfl) (by decide) (bits_lit (by decide)) fun p4 G4 v4 => ⟨_, rfl, ?_⟩⟩⟩⟩)⟩)))))))))))))))
    obtain rfl := lit_same v4 lit4 (by decide)
    refine ea_nil ⟨by simp, fun p5 => ?_⟩
    refine ssx_frz 4 rfl rfl ?_
    refine ssx_at (B := [.dat (.rls (ns.map .int)), s1, s2, .any, .dat (.lst [rows [[1, 0, 0], [0, 1, 0], [0, 0, 1]], rows [[2, -1]], rows [[1, 0, -1], [0, 1, -1]], rows [[3, -2, 0], [0, 0, 1]]]), .any]) ?_ rfl
    refine ssx_cons (sx_set 5 (ex_lst (ea_cons (ed_of (ex_lst (ea_cons (ed_of (ex_tup (ea_cons (ed_int (ea_cons (ed_int (ea_cons (ed_int (ea_nil ⟨by simp, _, rfl, (ea_cons (ed_of (ex_tup (ea_cons (ed_int (ea_cons (ed_int (ea_cons (ed_int (ea_nil ⟨by simp, _, rfl, (ea_cons (ed_of (ex_tup (ea_cons (ed_int (ea_cons (ed_int (ea_cons (ed_int (ea_nil ⟨by simp, _, rfl, (ea_nil ⟨by simp, fun d0 => ⟨_, rfl, ea_cons (ed_of (ex_lst (ea_cons (ed_of (ex_tup (ea_cons (ed_int (ea_cons (ed_of (ex_un (ed_int (us_neg ⟨_, rfl, (ea_nil ⟨by simp, _, rfl, (ea_nil ⟨by simp, fun d1 => ⟨_, rfl, ea_cons (ed_of (ex_lst (ea_cons (ed_of (ex_tup (ea_cons (ed_int (ea_cons (ed_int (ea_cons (ed_of (ex_un (ed_int (us_neg ⟨_, rfl, (ea_nil ⟨by simp, _, rfl, (ea_cons (ed_of (ex_tup (ea_cons (ed_int (ea_cons (ed_int (ea_cons (ed_of (ex_un (ed_int (us_neg ⟨_, rfl, (ea_nil ⟨by simp, _, rfl, (ea_nil ⟨by simp, fun d2 => ⟨_, rfl, ea_cons (ed_of (ex_lst (ea_cons (ed_of (ex_tup (ea_cons (ed_int (ea_cons (ed_of (ex_un (ed_int (us_neg ⟨_, rfl, (ea_cons (ed_int (ea_nil ⟨by simp, _, rfl, (ea_cons (ed_of (ex_tup (ea_cons (ed_int (ea_cons (ed_int (ea_cons (ed_int (ea_nil ⟨by simp, _, rfl, (ea_nil ⟨by simp, fun d3 => ⟨_, rfl, ea_nil ⟨by simp, fun p6 => ?_⟩⟩⟩)⟩))))))))))⟩)))⟩))))))))))))⟩⟩)⟩)⟩))))))))))))⟩)⟩))))))))))))))⟩⟩)⟩)⟩))))))))))))⟩⟩)⟩))))))))))⟩))))))))))⟩)))))))))))))))
    refine ssx_frz 5 rfl rfl ?_
    refine ssx_at (B := [.dat (.rls (ns.map .int)), s1, s2, .any, .dat (.lst [rows [[1, 0, 0], [0, 1, 0], [0, 0, 1]], rows [[2, -1]], rows [[1, 0, -1], [0, 1, -1]], rows [[3, -2, 0], [0, 0, 1]]]), .dat (.lst [rows [[1, 0, 0], [0, 1, 0], [0, 0, 1]], rows [[2, -1]], rows [[1, 0, -1], [0, 1, -1]], rows [[3, -2, 0], [0, 0, 1]]])]) ?_ rfl
    refine ssx_one (sx_ret (ex_call Sa g4 bLawSame (ea_cons (ed_n 4 rfl (ea_cons (ed_n 5 rfl (ea_nil ⟨_, rfl, .inr ⟨_, .inl rfl, by decide, fun x hx => ?_⟩, _, .dat .nil, q⟩)))))))
    simp at hx
    rcases hx with rfl | rfl | rfl | rfl <;> exact rows_sm 0 _ (by decide) (by decide)
end
end K2

namespace K2
open PySem L2 Y NdefX LamX PySem.Spec
open PyProof.Rows hiding St
theorem bn_all {p : Str → Prop} (z1 : p "sum") (z2 : p "zip") (z3 : p "len") (z4 : p "abs") (z5 : p "int") (z6 : p "range") (z7 : p "isinstance") (z8 : p "all") (z9 : p "any") (z10 : p "max") (z11 : p "min") (z12 : p "tuple") (z13 : p "list") (z14 : p "enumerate") (z15 : p "repr") (z16 : p "sorted") (z17 : p "str") (z18 : p "bool") (z19 : p "set") (z20 : p "dict") (z21 : p "reversed") : ∀ x ∈ bnames, p x := by
  intro x hx
  simp only [bnames, List.mem_cons, List.not_mem_nil, or_false] at hx
  rcases hx with rfl | rfl | rfl | rfl | rfl | rfl | rfl | rfl | rfl | rfl | rfl | rfl | rfl | rfl | rfl | rfl | rfl | rfl | rfl | rfl | rfl <;> assumption
theorem all_mk {l : PySem.W.OpenLaw} {w : World} {K : PySem.W.Frag} {h : Heap} {mg : Str → Option Value} {fa f1 f2 f3 f4 f5 f6 f7 f8 f9 f10 f11 f12 f13 f14 f15 f16 f17 f18 f19 f20 f21 : Addr}
    {od1 an1 od2 an2 od3 an3 od4 an4 od5 an5 od6 an6 od7 an7 od8 an8 od9 an9 od10 an10 od11 an11 od12 an12 od13 an13 od14 an14 od15 an15 od16 an16 od17 an17 od18 an18 od19 an19 od20 an20 od21 an21 : Option Addr} {sl1 sl2 sl3 sl4 sl5 sl6 sl7 sl8 sl9 sl10 sl11 sl12 sl13 sl14 sl15 sl16 sl17 sl18 sl19 sl20 sl21 : Array (Option Value)} {oc1 dc1 pm1 ct1 cd1 kV1 oc2 dc2 pm2 ct2 cd2 kV2 oc3 dc3 pm3 ct3 cd3 kV3 oc4 dc4 pm4 ct4 cd4 kV4 oc5 dc5 pm5 ct5 kV5 oc6 dc6 pm6 ct6 kV6 oc7 dc7 pm7 ct7 oc8 dc8 pm8 ct8 cd8 kV8 oc9 dc9 pm9 ct9 cd9 kV9 oc10 dc10 pm10 ct10 cd10 kV10 oc11 dc11 pm11 ct11 cd11 kV11 oc12 dc12 pm12 ct12 cd12 kV12 oc13 dc13 pm13 ct13 cd13 kV13 oc14 dc14 pm14 ct14 cd14 kV14 oc15 dc15 pm15 ct15 cd15 kV15 oc16 dc16 pm16 ct16 cd16 kV16 oc17 dc17 pm17 ct17 cd17 kV17 oc18 dc18 pm18 ct18 cd18 kV18 oc19 dc19 pm19 ct19 cd19 kV19 oc20 dc20 pm20 ct20 cd20 kV20 oc21 dc21 pm21 ct21 cd21 kV21 : Value}
    {kD7 : Addr} {kT7 : Tok}
    {tc1 tp1 tc2 tp2 tc3 tp3 : Addr} {ts : List Addr}
    (X : K.In h) (G : h.Ns mainGlobals mg) (hfa : mg "law" = some (.ref fa))
    (a1 : PySem.W.nsIn K mainGlobals "times" = some (some (.ref f1)))
    (l1 : K.lookup f1 = some ⟨oc1, od1, .func (PySem.W.fnOf "times" "times" (defArgs sTimes) (defBody sTimes) (defScope sTimes) .none kV1 dc1 pm1 an1 cd1 ct1), sl1⟩)
    (c1 : PySem.W.codeIn K cd1 "times" = true) (k1 : PySem.W.keepIn K (.ref f1) = true)
    (a2 : PySem.W.nsIn K mainGlobals "contrary" = some (some (.ref f2)))
    (l2 : K.lookup f2 = some ⟨oc2, od2, .func (PySem.W.fnOf "contrary" "contrary" (defArgs sContrary) (defBody sContrary) (defScope sContrary) .none kV2 dc2 pm2 an2 cd2 ct2), sl2⟩)
    (c2 : PySem.W.codeIn K cd2 "contrary" = true) (k2 : PySem.W.keepIn K (.ref f2) = true)
    (a3 : PySem.W.nsIn K mainGlobals "more_of" = some (some (.ref f3)))
    (l3 : K.lookup f3 = some ⟨oc3, od3, .func (PySem.W.fnOf "more_of" "more_of" (defArgs sMoreOf) (defBody sMoreOf) (defScope sMoreOf) .none kV3 dc3 pm3 an3 cd3 ct3), sl3⟩)
    (c3 : PySem.W.codeIn K cd3 "more_of" = true) (k3 : PySem.W.keepIn K (.ref f3) = true)
    (a4 : PySem.W.nsIn K mainGlobals "rank_of" = some (some (.ref f4)))
    (l4 : K.lookup f4 = some ⟨oc4, od4, .func (PySem.W.fnOf "rank_of" "rank_of" (defArgs sRankOf) (defBody sRankOf) (defScope sRankOf) .none kV4 dc4 pm4 an4 cd4 ct4), sl4⟩)
    (c4 : PySem.W.codeIn K cd4 "rank_of" = true) (k4 : PySem.W.keepIn K (.ref f4) = true)
    (a5 : PySem.W.nsIn K mainGlobals "single_headed" = some (some (.ref f5)))
    (l5 : K.lookup f5 = some ⟨oc5, od5, .func (PySem.W.fnOf "single_headed" "single_headed" (defArgs sSingleHeaded) (defBody sSingleHeaded) (defScope sSingleHeaded) .none kV5 dc5 pm5 an5 (.ref tc1) ct5), sl5⟩)
    (c5 : PySem.W.codeIn K (.ref tc1) "single_headed" = true) (k5 : PySem.W.keepIn K (.ref f5) = true)
    (a6 : PySem.W.nsIn K mainGlobals "stepped" = some (some (.ref f6)))
    (l6 : K.lookup f6 = some ⟨oc6, od6, .func (PySem.W.fnOf "stepped" "stepped" (defArgs sStepped) (defBody sStepped) (defScope sStepped) .none kV6 dc6 pm6 an6 (.ref tc2) ct6), sl6⟩)
    (c6 : PySem.W.codeIn K (.ref tc2) "stepped" = true) (k6 : PySem.W.keepIn K (.ref f6) = true)
    (a7 : PySem.W.nsIn K mainGlobals "levels_of" = some (some (.ref f7)))
    (l7 : K.lookup f7 = some ⟨oc7, od7, .func (PySem.W.fnOf "levels_of" "levels_of" (defArgs sLevelsOf) (defBody sLevelsOf) (defScope sLevelsOf) .none (.ref kD7) dc7 pm7 an7 (.ref tc3) ct7), sl7⟩)
    (c7 : PySem.W.codeIn K (.ref tc3) "levels_of" = true) (k7 : PySem.W.keepIn K (.ref f7) = true)
    (a8 : PySem.W.nsIn K mainGlobals "_law_cell_at" = some (some (.ref f8)))
    (l8 : K.lookup f8 = some ⟨oc8, od8, .func (PySem.W.fnOf "_law_cell_at" "_law_cell_at" (defArgs sLawCellAt) (defBody sLawCellAt) (defScope sLawCellAt) .none kV8 dc8 pm8 an8 cd8 ct8), sl8⟩)
    (c8 : PySem.W.codeIn K cd8 "_law_cell_at" = true) (k8 : PySem.W.keepIn K (.ref f8) = true)
    (a9 : PySem.W.nsIn K mainGlobals "_law_box" = some (some (.ref f9)))
    (l9 : K.lookup f9 = some ⟨oc9, od9, .func (PySem.W.fnOf "_law_box" "_law_box" (defArgs sLawBox) (defBody sLawBox) (defScope sLawBox) .none kV9 dc9 pm9 an9 cd9 ct9), sl9⟩)
    (c9 : PySem.W.codeIn K cd9 "_law_box" = true) (k9 : PySem.W.keepIn K (.ref f9) = true)
    (a10 : PySem.W.nsIn K mainGlobals "_law_take" = some (some (.ref f10)))
    (l10 : K.lookup f10 = some ⟨oc10, od10, .func (PySem.W.fnOf "_law_take" "_law_take" (defArgs sLawTake) (defBody sLawTake) (defScope sLawTake) .none kV10 dc10 pm10 an10 cd10 ct10), sl10⟩)
    (c10 : PySem.W.codeIn K cd10 "_law_take" = true) (k10 : PySem.W.keepIn K (.ref f10) = true)
    (a11 : PySem.W.nsIn K mainGlobals "_law_same" = some (some (.ref f11)))
    (l11 : K.lookup f11 = some ⟨oc11, od11, .func (PySem.W.fnOf "_law_same" "_law_same" (defArgs sLawSame) (defBody sLawSame) (defScope sLawSame) .none kV11 dc11 pm11 an11 cd11 ct11), sl11⟩)
    (c11 : PySem.W.codeIn K cd11 "_law_same" = true) (k11 : PySem.W.keepIn K (.ref f11) = true)
    (a12 : PySem.W.nsIn K mainGlobals "_law_of" = some (some (.ref f12)))
    (l12 : K.lookup f12 = some ⟨oc12, od12, .func (PySem.W.fnOf "_law_of" "_law_of" (defArgs sLawOf) (defBody sLawOf) (defScope sLawOf) .none kV12 dc12 pm12 an12 cd12 ct12), sl12⟩)
    (c12 : PySem.W.codeIn K cd12 "_law_of" = true) (k12 : PySem.W.keepIn K (.ref f12) = true)
    (a13 : PySem.W.nsIn K mainGlobals "_law_tell" = some (some (.ref f13)))
    (l13 : K.lookup f13 = some ⟨oc13, od13, .func (PySem.W.fnOf "_law_tell" "_law_tell" (defArgs sLawTell) (defBody sLawTell) (defScope sLawTell) .none kV13 dc13 pm13 an13 cd13 ct13), sl13⟩)
    (c13 : PySem.W.codeIn K cd13 "_law_tell" = true) (k13 : PySem.W.keepIn K (.ref f13) = true)
    (a14 : PySem.W.nsIn K mainGlobals "_law_some" = some (some (.ref f14)))
    (l14 : K.lookup f14 = some ⟨oc14, od14, .func (PySem.W.fnOf "_law_some" "_law_some" (defArgs sLawSome) (defBody sLawSome) (defScope sLawSome) .none kV14 dc14 pm14 an14 cd14 ct14), sl14⟩)
    (c14 : PySem.W.codeIn K cd14 "_law_some" = true) (k14 : PySem.W.keepIn K (.ref f14) = true)
    (a15 : PySem.W.nsIn K mainGlobals "_law_nothing" = some (some (.ref f15)))
    (l15 : K.lookup f15 = some ⟨oc15, od15, .func (PySem.W.fnOf "_law_nothing" "_law_nothing" (defArgs sLawNothing) (defBody sLawNothing) (defScope sLawNothing) .none kV15 dc15 pm15 an15 cd15 ct15), sl15⟩)
    (c15 : PySem.W.codeIn K cd15 "_law_nothing" = true) (k15 : PySem.W.keepIn K (.ref f15) = true)
    (a16 : PySem.W.nsIn K mainGlobals "_law_heads" = some (some (.ref f16)))
    (l16 : K.lookup f16 = some ⟨oc16, od16, .func (PySem.W.fnOf "_law_heads" "_law_heads" (defArgs sLawHeads) (defBody sLawHeads) (defScope sLawHeads) .none kV16 dc16 pm16 an16 cd16 ct16), sl16⟩)
    (c16 : PySem.W.codeIn K cd16 "_law_heads" = true) (k16 : PySem.W.keepIn K (.ref f16) = true)
    (a17 : PySem.W.nsIn K mainGlobals "_law_steps_right" = some (some (.ref f17)))
    (l17 : K.lookup f17 = some ⟨oc17, od17, .func (PySem.W.fnOf "_law_steps_right" "_law_steps_right" (defArgs sLawStepsRight) (defBody sLawStepsRight) (defScope sLawStepsRight) .none kV17 dc17 pm17 an17 cd17 ct17), sl17⟩)
    (c17 : PySem.W.codeIn K cd17 "_law_steps_right" = true) (k17 : PySem.W.keepIn K (.ref f17) = true)
    (a18 : PySem.W.nsIn K mainGlobals "_law_gone_down" = some (some (.ref f18)))
    (l18 : K.lookup f18 = some ⟨oc18, od18, .func (PySem.W.fnOf "_law_gone_down" "_law_gone_down" (defArgs sLawGoneDown) (defBody sLawGoneDown) (defScope sLawGoneDown) .none kV18 dc18 pm18 an18 cd18 ct18), sl18⟩)
    (c18 : PySem.W.codeIn K cd18 "_law_gone_down" = true) (k18 : PySem.W.keepIn K (.ref f18) = true)
    (a19 : PySem.W.nsIn K mainGlobals "_law_box_rows" = some (some (.ref f19)))
    (l19 : K.lookup f19 = some ⟨oc19, od19, .func (PySem.W.fnOf "_law_box_rows" "_law_box_rows" (defArgs sLawBoxRows) (defBody sLawBoxRows) (defScope sLawBoxRows) .none kV19 dc19 pm19 an19 cd19 ct19), sl19⟩)
    (c19 : PySem.W.codeIn K cd19 "_law_box_rows" = true) (k19 : PySem.W.keepIn K (.ref f19) = true)
    (a20 : PySem.W.nsIn K mainGlobals "_law_right" = some (some (.ref f20)))
    (l20 : K.lookup f20 = some ⟨oc20, od20, .func (PySem.W.fnOf "_law_right" "_law_right" (defArgs sLawRight) (defBody sLawRight) (defScope sLawRight) .none kV20 dc20 pm20 an20 cd20 ct20), sl20⟩)
    (c20 : PySem.W.codeIn K cd20 "_law_right" = true) (k20 : PySem.W.keepIn K (.ref f20) = true)
    (a21 : PySem.W.nsIn K mainGlobals "law" = some (some (.ref f21)))
    (l21 : K.lookup f21 = some ⟨oc21, od21, .func (PySem.W.fnOf "law" "law" (defArgs sLaw) (defBody sLaw) (defScope sLaw) .none kV21 dc21 pm21 an21 cd21 ct21), sl21⟩)
    (c21 : PySem.W.codeIn K cd21 "law" = true) (k21 : PySem.W.keepIn K (.ref f21) = true)
    (d7 : PySem.W.nsIn K kD7 "side" = some (some (.int 3 kT7)))
    (t1 : PySem.W.codeHdIn K tc1 tp1 = true) (e1 : K.lookup tp1 = none) (r1 : tp1 ∈ ts)
    (t2 : PySem.W.codeHdIn K tc2 tp2 = true) (e2 : K.lookup tp2 = none) (r2 : tp2 ∈ ts)
    (t3 : PySem.W.codeHdIn K tc3 tp3 = true) (e3 : K.lookup tp3 = none) (r3 : tp3 ∈ ts)
    (n12 : tp2 ≠ tp1)
    (n13 : tp3 ≠ tp1)
    (n23 : tp3 ≠ tp2)
    (z1 : PySem.W.nsIn K mainGlobals "sum" = some none)
    (z2 : PySem.W.nsIn K mainGlobals "zip" = some none)
    (z3 : PySem.W.nsIn K mainGlobals "len" = some none)
    (z4 : PySem.W.nsIn K mainGlobals "abs" = some none)
    (z5 : PySem.W.nsIn K mainGlobals "int" = some none)
    (z6 : PySem.W.nsIn K mainGlobals "range" = some none)
    (z7 : PySem.W.nsIn K mainGlobals "isinstance" = some none)
    (z8 : PySem.W.nsIn K mainGlobals "all" = some none)
    (z9 : PySem.W.nsIn K mainGlobals "any" = some none)
    (z10 : PySem.W.nsIn K mainGlobals "max" = some none)
    (z11 : PySem.W.nsIn K mainGlobals "min" = some none)
    (z12 : PySem.W.nsIn K mainGlobals "tuple" = some none)
    (z13 : PySem.W.nsIn K mainGlobals "list" = some none)
    (z14 : PySem.W.nsIn K mainGlobals "enumerate" = some none)
    (z15 : PySem.W.nsIn K mainGlobals "repr" = some none)
    (z16 : PySem.W.nsIn K mainGlobals "sorted" = some none)
    (z17 : PySem.W.nsIn K mainGlobals "str" = some none)
    (z18 : PySem.W.nsIn K mainGlobals "bool" = some none)
    (z19 : PySem.W.nsIn K mainGlobals "set" = some none)
    (z20 : PySem.W.nsIn K mainGlobals "dict" = some none)
    (z21 : PySem.W.nsIn K mainGlobals "reversed" = some none)
    : ∃ (nm : Addr → Str) (fd : FuncData) (T : List Addr) (cs : List (Addr × Addr)), (∀ (s : Shared) (v : Value), BindsTo s fd ⟨[v], []⟩ [("script", v)]) ∧
      (∀ p ∈ cs, PySem.W.codeHdIn K p.1 p.2 = true ∧ p.2 ∈ ts ∧ K.lookup p.2 = none) ∧ (∀ p ∈ T, ∃ c, (c, p) ∈ cs) ∧
      ∀ base : Heap, K.In base → base.Ns mainGlobals mg → (∀ p ∈ cs, TabB base mg p.1 p.2) → GOk l.prog w K mg base 10 fa fd ["script"] (@SpOf ⟨nm⟩ K T spLaw) := by
  cases hfa.symm.trans (PySem.W.mg_of X G a21)
  have no : ∀ x ∈ bnames, mg x = none := fun x hx => PySem.W.mg_none_of X G (bn_all (p := fun x => PySem.W.nsIn K mainGlobals x = some none) z1 z2 z3 z4 z5 z6 z7 z8 z9 z10 z11 z12 z13 z14 z15 z16 z17 z18 z19 z20 z21 x hx)
  have FTimes := fun_mk (st := sTimes) l1 c1 k1
  have mTimes := PySem.W.mg_of X G a1
  have FContrary := fun_mk (st := sContrary) l2 c2 k2
  have mContrary := PySem.W.mg_of X G a2
  have FMoreOf := fun_mk (st := sMoreOf) l3 c3 k3
  have mMoreOf := PySem.W.mg_of X G a3
  have FRankOf := fun_mk (st := sRankOf) l4 c4 k4
  have mRankOf := PySem.W.mg_of X G a4
  have FSingleHeaded := fun_mk (st := sSingleHeaded) l5 c5 k5
  have mSingleHeaded := PySem.W.mg_of X G a5
  have FStepped := fun_mk (st := sStepped) l6 c6 k6
  have mStepped := PySem.W.mg_of X G a6
  have FLevelsOf := fun_mk (st := sLevelsOf) l7 c7 k7
  have mLevelsOf := PySem.W.mg_of X G a7
  have FLawCellAt := fun_mk (st := sLawCellAt) l8 c8 k8
  have mLawCellAt := PySem.W.mg_of X G a8
  have FLawBox := fun_mk (st := sLawBox) l9 c9 k9
  have mLawBox := PySem.W.mg_of X G a9
  have FLawTake := fun_mk (st := sLawTake) l10 c10 k10
  have mLawTake := PySem.W.mg_of X G a10
  have FLawSame := fun_mk (st := sLawSame) l11 c11 k11
  have mLawSame := PySem.W.mg_of X G a11
  have FLawOf := fun_mk (st := sLawOf) l12 c12 k12
  have mLawOf := PySem.W.mg_of X G a12
  have FLawTell := fun_mk (st := sLawTell) l13 c13 k13
  have mLawTell := PySem.W.mg_of X G a13
  have FLawSome := fun_mk (st := sLawSome) l14 c14 k14
  have mLawSome := PySem.W.mg_of X G a14
  have FLawNothing := fun_mk (st := sLawNothing) l15 c15 k15
  have mLawNothing := PySem.W.mg_of X G a15
  have FLawHeads := fun_mk (st := sLawHeads) l16 c16 k16
  have mLawHeads := PySem.W.mg_of X G a16
  have FLawStepsRight := fun_mk (st := sLawStepsRight) l17 c17 k17
  have mLawStepsRight := PySem.W.mg_of X G a17
  have FLawGoneDown := fun_mk (st := sLawGoneDown) l18 c18 k18
  have mLawGoneDown := PySem.W.mg_of X G a18
  have FLawBoxRows := fun_mk (st := sLawBoxRows) l19 c19 k19
  have mLawBoxRows := PySem.W.mg_of X G a19
  have FLawRight := fun_mk (st := sLawRight) l20 c20 k20
  have mLawRight := PySem.W.mg_of X G a20
  have FLaw := fun_mk (st := sLaw) l21 c21 k21
  have mLaw := PySem.W.mg_of X G a21
  refine ⟨fun a => if a = tp1 then ("single_headed" : Str) ++ ".<locals>." ++ "<lambda>" else if a = tp2 then ("stepped" : Str) ++ ".<locals>." ++ "<lambda>" else if a = tp3 then ("levels_of" : Str) ++ ".<locals>." ++ "<lambda>" else "", PySem.W.fnOf "law" "law" (defArgs sLaw) (defBody sLaw) (defScope sLaw) .none kV21 dc21 pm21 an21 cd21 ct21, [tp1, tp2, tp3], [(tc1, tp1), (tc2, tp2), (tc3, tp3)], fun s v => .of_eq rfl, ?_, ?_, fun base inB nsB tabs => ?_⟩
  · intro p hp
    simp only [List.mem_cons, List.not_mem_nil, or_false] at hp
    rcases hp with rfl | rfl | rfl
    · exact ⟨t1, r1, e1⟩
    · exact ⟨t2, r2, e2⟩
    · exact ⟨t3, r3, e3⟩
  · intro p hp
    simp only [List.mem_cons, List.not_mem_nil, or_false] at hp
    rcases hp with rfl | rfl | rfl
    · exact ⟨tc1, by simp⟩
    · exact ⟨tc2, by simp⟩
    · exact ⟨tc3, by simp⟩
  letI I : NmC := ⟨fun a => if a = tp1 then ("single_headed" : Str) ++ ".<locals>." ++ "<lambda>" else if a = tp2 then ("stepped" : Str) ++ ".<locals>." ++ "<lambda>" else if a = tp3 then ("levels_of" : Str) ++ ".<locals>." ++ "<lambda>" else ""⟩
  have TBSingleHeaded : TabB base mg tc1 tp1 := tabs (tc1, tp1) (by simp)
  have hPSingleHeaded : tp1 ∈ [tp1, tp2, tp3] := by simp
  have hnSingleHeaded : I.nm tp1 = ("single_headed" : Str) ++ ".<locals>." ++ "<lambda>" := by
    show (if tp1 = tp1 then ("single_headed" : Str) ++ ".<locals>." ++ "<lambda>" else if tp1 = tp2 then ("stepped" : Str) ++ ".<locals>." ++ "<lambda>" else if tp1 = tp3 then ("levels_of" : Str) ++ ".<locals>." ++ "<lambda>" else "") = _
    rw [if_pos rfl]
  have TBStepped : TabB base mg tc2 tp2 := tabs (tc2, tp2) (by simp)
  have hPStepped : tp2 ∈ [tp1, tp2, tp3] := by simp
  have hnStepped : I.nm tp2 = ("stepped" : Str) ++ ".<locals>." ++ "<lambda>" := by
    show (if tp2 = tp1 then ("single_headed" : Str) ++ ".<locals>." ++ "<lambda>" else if tp2 = tp2 then ("stepped" : Str) ++ ".<locals>." ++ "<lambda>" else if tp2 = tp3 then ("levels_of" : Str) ++ ".<locals>." ++ "<lambda>" else "") = _
    rw [if_neg n12]; rw [if_pos rfl]
  have TBLevelsOf : TabB base mg tc3 tp3 := tabs (tc3, tp3) (by simp)
  have hPLevelsOf : tp3 ∈ [tp1, tp2, tp3] := by simp
  have hnLevelsOf : I.nm tp3 = ("levels_of" : Str) ++ ".<locals>." ++ "<lambda>" := by
    show (if tp3 = tp1 then ("single_headed" : Str) ++ ".<locals>." ++ "<lambda>" else if tp3 = tp2 then ("stepped" : Str) ++ ".<locals>." ++ "<lambda>" else if tp3 = tp3 then ("levels_of" : Str) ++ ".<locals>." ++ "<lambda>" else "") = _
    rw [if_neg n13]; rw [if_neg n23]; rw [if_pos rfl]
  have kdLevelsOf : ∀ q ∈ [(("side" : Str), (3 : Int))], ∃ u, PySem.W.nsIn K kD7 q.1 = some (some u) ∧ RelV (.int q.2) u := fun q hq => by
    obtain rfl : q = (("side" : Str), (3 : Int)) := by simpa using hq
    exact ⟨_, d7, _, rfl⟩
  have CTake : Fn [tp1, tp2, tp3] l.prog w K mg base 1 "_law_take" "_law_take" sLawTake pLawTake spTake := ⟨_, _, mLawTake, FLawTake, ok_take FLawTake no ⟩
  have CCell : Fn [tp1, tp2, tp3] l.prog w K mg base 1 "_law_cell_at" "_law_cell_at" sLawCellAt pLawCellAt spCell := ⟨_, _, mLawCellAt, FLawCellAt, ok_cell FLawCellAt no ⟩
  have CBox : Fn [tp1, tp2, tp3] l.prog w K mg base 2 "_law_box" "_law_box" sLawBox pLawBox spBox := ⟨_, _, mLawBox, FLawBox, ok_box FLawBox no CCell⟩
  have COf : Fn [tp1, tp2, tp3] l.prog w K mg base 2 "_law_of" "_law_of" sLawOf pLawOf spOf := ⟨_, _, mLawOf, FLawOf, ok_of FLawOf no CTake⟩
  have CSame : Fn [tp1, tp2, tp3] l.prog w K mg base 4 "_law_same" "_law_same" sLawSame pLawSame (spSame 3) := ⟨_, _, mLawSame, FLawSame, ok_same FLawSame no mLawSame 3⟩
  have CMore : Fn [tp1, tp2, tp3] l.prog w K mg base 1 "more_of" "more_of" sMoreOf pMoreOf spMore := ⟨_, _, mMoreOf, FMoreOf, ok_more FMoreOf no ⟩
  have CRank : Fn [tp1, tp2, tp3] l.prog w K mg base 2 "rank_of" "rank_of" sRankOf pRankOf spRank := ⟨_, _, mRankOf, FRankOf, ok_rank FRankOf no CMore⟩
  have CTimes : Fn [tp1, tp2, tp3] l.prog w K mg base 1 "times" "times" sTimes pTimes spTimes := ⟨_, _, mTimes, FTimes, ok_times FTimes no ⟩
  have CContrary : Fn [tp1, tp2, tp3] l.prog w K mg base 1 "contrary" "contrary" sContrary pContrary spContrary := ⟨_, _, mContrary, FContrary, ok_contrary FContrary no ⟩
  have CSh : Fn [tp1, tp2, tp3] l.prog w K mg base 6 "single_headed" "single_headed" sSingleHeaded pSingleHeaded (spSH l.prog w K mg base [tp1, tp2, tp3] 2) := ⟨_, _, mSingleHeaded, FSingleHeaded, ok_sh FSingleHeaded no CMore TBSingleHeaded rfl hPSingleHeaded hnSingleHeaded (by decide)⟩
  have CSt : Fn [tp1, tp2, tp3] l.prog w K mg base 7 "stepped" "stepped" sStepped pStepped spStepped := ⟨_, _, mStepped, FStepped, ok_stepped FStepped no CMore CContrary CSh TBStepped rfl hPStepped hnStepped⟩
  have CLeD : FnD [tp1, tp2, tp3] l.prog w K mg base 8 "levels_of" "levels_of" sLevelsOf pLevelsOf spLevels [("side", 3)] := ⟨_, _, mLevelsOf, FLevelsOf, ok_levels FLevelsOf no CTimes CSh CSt TBLevelsOf rfl hPLevelsOf hnLevelsOf, _, rfl, kdLevelsOf⟩
  have CLe := CLeD.fn
  have CTell : Fn [tp1, tp2, tp3] l.prog w K mg base 1 "_law_tell" "_law_tell" sLawTell pLawTell spTimes := ⟨_, _, mLawTell, FLawTell, ok_tell FLawTell no ⟩
  have CSome : Fn [tp1, tp2, tp3] l.prog w K mg base 3 "_law_some" "_law_some" sLawSome pLawSome spSome := ⟨_, _, mLawSome, FLawSome, ok_some FLawSome no CTake COf⟩
  have CNothing : Fn [tp1, tp2, tp3] l.prog w K mg base 2 "_law_nothing" "_law_nothing" sLawNothing pLawNothing spNothing := ⟨_, _, mLawNothing, FLawNothing, ok_nothing FLawNothing no CTell⟩
  have CHeads : Fn [tp1, tp2, tp3] l.prog w K mg base 1 "_law_heads" "_law_heads" sLawHeads pLawHeads spHeads := ⟨_, _, mLawHeads, FLawHeads, ok_heads FLawHeads no ⟩
  have CSteps : Fn [tp1, tp2, tp3] l.prog w K mg base 2 "_law_steps_right" "_law_steps_right" sLawStepsRight pLawStepsRight spSteps := ⟨_, _, mLawStepsRight, FLawStepsRight, ok_steps FLawStepsRight no CHeads⟩
  have CGone : Fn [tp1, tp2, tp3] l.prog w K mg base 2 "_law_gone_down" "_law_gone_down" sLawGoneDown pLawGoneDown spGone := ⟨_, _, mLawGoneDown, FLawGoneDown, ok_gone FLawGoneDown no CHeads⟩
  have CRows : Fn [tp1, tp2, tp3] l.prog w K mg base 1 "_law_box_rows" "_law_box_rows" sLawBoxRows pLawBoxRows spBoxRows := ⟨_, _, mLawBoxRows, FLawBoxRows, ok_boxrows FLawBoxRows no ⟩
  have CRight : Fn [tp1, tp2, tp3] l.prog w K mg base 9 "_law_right" "_law_right" sLawRight pLawRight spRight := ⟨_, _, mLawRight, FLawRight, ok_right FLawRight no CTake CSome CLeD CRank CNothing CSteps CGone CRows CSame⟩
  exact ok_law FLaw no CBox CRight CLeD CSame
end K2
open PySem PySem.W PyProof.Rows
set_option maxRecDepth 100000 in
set_option maxHeartbeats 0 in
theorem PySem.Challenge.cw_wedgelight_k04_levels_holds : PySem.Challenge.rw_wedgelight_k04_levels.Holds := by
  w_on
  o_law
  k_head
  (case hw => w_witness2)
  k_fill
  refine Y.walk_gt (l := PySem.Challenge.rw_wedgelight_k04_levels) (n := 63) (k := 10) (x := "script") (S := K2.spLaw) rfl (by decide) rfl ⟨rfl, by decide, by decide⟩ (fun w h Q => PySem.W.km_in_of Q) (fun w h Q => PySem.W.km_tabs_of Q) ?F fun ns hl => ⟨ns, rfl, hl, rfl⟩
  case F =>
    intro w mg fa h KX G hmg
    refine' K2.all_mk (tp1 := 36) (tp2 := 41) (tp3 := 47) KX G hmg ?a1 ?l1 ?c1 ?k1 ?a2 ?l2 ?c2 ?k2 ?a3 ?l3 ?c3 ?k3 ?a4 ?l4 ?c4 ?k4 ?a5 ?l5 ?c5 ?k5 ?a6 ?l6 ?c6 ?k6 ?a7 ?l7 ?c7 ?k7 ?a8 ?l8 ?c8 ?k8 ?a9 ?l9 ?c9 ?k9 ?a10 ?l10 ?c10 ?k10 ?a11 ?l11 ?c11 ?k11 ?a12 ?l12 ?c12 ?k12 ?a13 ?l13 ?c13 ?k13 ?a14 ?l14 ?c14 ?k14 ?a15 ?l15 ?c15 ?k15 ?a16 ?l16 ?c16 ?k16 ?a17 ?l17 ?c17 ?k17 ?a18 ?l18 ?c18 ?k18 ?a19 ?l19 ?c19 ?k19 ?a20 ?l20 ?c20 ?k20 ?a21 ?l21 ?c21 ?k21 ?d7 ?t1 ?e1 ?r1 ?t2 ?e2 ?r2 ?t3 ?e3 ?r3 ?n12 ?n13 ?n23 ?z1 ?z2 ?z3 ?z4 ?z5 ?z6 ?z7 ?z8 ?z9 ?z10 ?z11 ?z12 ?z13 ?z14 ?z15 ?z16 ?z17 ?z18 ?z19 ?z20 ?z21
    (case a1 => k_is)
    (case l1 => k_is)
    (case c1 => k_is)
    (case k1 => k_is)
    (case a2 => k_is)
    (case l2 => k_is)
    (case c2 => k_is)
    (case k2 => k_is)
    (case a3 => k_is)
    (case l3 => k_is)
    (case c3 => k_is)
    (case k3 => k_is)
    (case a4 => k_is)
    (case l4 => k_is)
    (case c4 => k_is)
    (case k4 => k_is)
    (case a5 => k_is)
    (case l5 => k_is)
    (case c5 => k_is)
    (case k5 => k_is)
    (case a6 => k_is)
    (case l6 => k_is)
    (case c6 => k_is)
    (case k6 => k_is)
    (case a7 => k_is)
    (case l7 => k_is)
    (case c7 => k_is)
    (case k7 => k_is)
    (case a8 => k_is)
    (case l8 => k_is)
    (case c8 => k_is)
    (case k8 => k_is)
    (case a9 => k_is)
    (case l9 => k_is)
    (case c9 => k_is)
    (case k9 => k_is)
    (case a10 => k_is)
    (case l10 => k_is)
    (case c10 => k_is)
    (case k10 => k_is)
    (case a11 => k_is)
    (case l11 => k_is)
    (case c11 => k_is)
    (case k11 => k_is)
    (case a12 => k_is)
    (case l12 => k_is)
    (case c12 => k_is)
    (case k12 => k_is)
    (case a13 => k_is)
    (case l13 => k_is)
    (case c13 => k_is)
    (case k13 => k_is)
    (case a14 => k_is)
    (case l14 => k_is)
    (case c14 => k_is)
    (case k14 => k_is)
    (case a15 => k_is)
    (case l15 => k_is)
    (case c15 => k_is)
    (case k15 => k_is)
    (case a16 => k_is)
    (case l16 => k_is)
    (case c16 => k_is)
    (case k16 => k_is)
    (case a17 => k_is)
    (case l17 => k_is)
    (case c17 => k_is)
    (case k17 => k_is)
    (case a18 => k_is)
    (case l18 => k_is)
    (case c18 => k_is)
    (case k18 => k_is)
    (case a19 => k_is)
    (case l19 => k_is)
    (case c19 => k_is)
    (case k19 => k_is)
    (case a20 => k_is)
    (case l20 => k_is)
    (case c20 => k_is)
    (case k20 => k_is)
    (case a21 => k_is)
    (case l21 => k_is)
    (case c21 => k_is)
    (case k21 => k_is)
    (case d7 => k_is)
    (case t1 => kernel_rfl)
    (case e1 => kernel_rfl)
    (case r1 => decide)
    (case t2 => kernel_rfl)
    (case e2 => kernel_rfl)
    (case r2 => decide)
    (case t3 => kernel_rfl)
    (case e3 => kernel_rfl)
    (case r3 => decide)
    (case n12 => decide)
    (case n13 => decide)
    (case n23 => decide)
    (case z1 => k_is)
    (case z2 => k_is)
    (case z3 => k_is)
    (case z4 => k_is)
    (case z5 => k_is)
    (case z6 => k_is)
    (case z7 => k_is)
    (case z8 => k_is)
    (case z9 => k_is)
    (case z10 => k_is)
    (case z11 => k_is)
    (case z12 => k_is)
    (case z13 => k_is)
    (case z14 => k_is)
    (case z15 => k_is)
    (case z16 => k_is)
    (case z17 => k_is)
    (case z18 => k_is)
    (case z19 => k_is)
    (case z20 => k_is)
    (case z21 => k_is)
#print axioms PySem.Challenge.cw_wedgelight_k04_levels_holds

