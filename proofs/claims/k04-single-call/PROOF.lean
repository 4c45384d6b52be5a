import PyProof.Rows.All
import Wide.All
import OpenK.AllK
import Wide.FinOn
import HandS.Base
import HandS.Call
import HandS.ForMost
import HandS.ForExc
import HandS.CallSlots
import HandS.SortInts
import HandS.Style
import HandS.Deep
import HandS.More
import HandS.Comp
import HandS.ClsMeth
import HandS.SlotsOwn
import HandS.Property
import HandS.IsInst
import HandS.DictComp
import HandS.SetKeys
import HandS.Flow
import HandS.WordsDict
import HandS.CallRecv
import HandS.Walk
import HandS.Small
import HandS.HeadHook1
import HandS.HeadHook2
import HandS.HeadEnd
import KE.KStateDown
import HandS.Head0
import HandS.Head1
import HandS.Head2
import PySem.Challenge.RW_bulkcalls_k04_single_call
set_option Elab.async false
set_option linter.all false
set_option maxRecDepth 100000
set_option maxHeartbeats 4000000
/-! Values as data with dynamic ownership: D (shared data), T (trees with owned nodes), OwnS (what is owned where). -/
namespace BC
open PySem PySem.Spec PyProof.Rows L2
abbrev St := L2.St
inductive Kd where
  | lst | tup | scr | ktp | dk (ks : List Key) | dt (ks : List (List Key)) | ins (c : Nat)
inductive D where
  | non | bl (b : Bool) | int (i : Int) | str (s : Str) | fn (j : Nat) | cl (c : Nat) | nd (k : Kd) (ds : List D)
instance : Inhabited D := ⟨.non⟩
inductive T where
  | sh (d : D) | ow (k : Kd) (ts : List T) | un | ce (o : HO) | pf (o : HO)
mutual
def T.rd : T → Option D
  | .sh d => some d
  | .ow k ts => match T.rds ts with
    | some ds => some (.nd k ds)
    | none => none
  | .un => none
  | .ce _ => none
  | .pf _ => none
def T.rds : List T → Option (List D)
  | [] => some []
  | t :: ts => match T.rd t, T.rds ts with
    | some d, some ds => some (d :: ds)
    | _, _ => none
end
/-- the law's classes, their fields; the defs that are values -/
structure Gm where
  cad : Nat → Addr
  fl : Nat → List Str
  fad : Nat → Addr
/-- the object o is a node of kind k with the children vs -/
def OwO (Γ : Gm) (o : HO) : Kd → List V → Prop
  | .lst, vs => o = .lst vs
  | .tup, vs => o = .tup vs
  | .scr, _ => False
  | .ktp, _ => False
  | .dk ks, vs => ks.length = vs.length ∧ o = .dK (ks.zip vs)
  | .dt ks, vs => ks.length = vs.length ∧ o = .dT (ks.zip vs)
  | .ins c, vs => vs.length ≤ (Γ.fl c).length ∧ ∃ dx, o = .ins (Γ.cad c) dx ((Γ.fl c).zip vs)
def Sh (Γ : Gm) (K : PySem.W.Frag) (H : Hp) (a : Addr) : Kd → List V → Prop
  | .lst, vs => H a = some (.lst vs)
  | .scr, vs => SqL K H a vs
  | .tup, vs => H a = some (.tup vs)
  | .ktp, vs => SqT K H a vs
  | .dk ks, vs => ks.length = vs.length ∧ Rd H a (.dK (ks.zip vs))
  | .dt ks, vs => ks.length = vs.length ∧ Rd H a (.dT (ks.zip vs))
  | .ins c, vs => vs.length ≤ (Γ.fl c).length ∧ ∃ dx, H a = some (.ins (Γ.cad c) dx ((Γ.fl c).zip vs))
/-- what may be locked while it is shared -/
def Lk : HO → Prop
  | .dK _ => True
  | .dT _ => True
  | _ => False
abbrev Le (H H' : Hp) : Prop := ∀ a o, H a = some o → H' a = some o ∨ (Lk o ∧ ∃ od, H' a = some (.frz od o))
theorem Le.rfl' {H : Hp} : Le H H := fun _ _ h => .inl h
theorem Le.at' {H H' : Hp} (h : Le H H') {a : Addr} {o : HO} (e : H a = some o) (n : ¬ Lk o) : H' a = some o := by
  rcases h a o e with h | ⟨l, _⟩
  · exact h
  · exact absurd l n
theorem Le.tr {H H1 H2 : Hp} (h : Le H H1) (h' : Le H1 H2) : Le H H2 := fun a o e => by
  rcases h a o e with h | ⟨l, od, h⟩
  · exact h' a o h
  · exact .inr ⟨l, od, h'.at' h fun z => z⟩
theorem Le.none_of {H H' : Hp} (h : Le H H') {a : Addr} (e : H' a = none) : H a = none := by
  cases q : H a with
  | none => rfl
  | some u =>
    rcases h a u q with h | ⟨_, _, h⟩
    · rw [e] at h; cases h
    · rw [e] at h; cases h
theorem Rd.le {H H' : Hp} {a : Addr} {u : HO} (l : Le H H') (r : Rd H a u) : Rd H' a u := by
  rcases r with r | ⟨o, r⟩
  · rcases l _ _ r with h | ⟨_, od, h⟩
    · exact .inl h
    · exact .inr ⟨od, h⟩
  · exact .inr ⟨o, l.at' r fun z => z⟩
theorem sqL_le {K : PySem.W.Frag} {H H' : Hp} {a : Addr} {xs : List V} (l : Le H H') (h : SqL K H a xs) : SqL K H' a xs := by
  rcases h with h | h
  · exact .inl (Rd.le l h)
  · exact .inr h
theorem sqT_le {K : PySem.W.Frag} {H H' : Hp} {a : Addr} {xs : List V} (l : Le H H') (h : SqT K H a xs) : SqT K H' a xs := by
  rcases h with h | h
  · exact .inl (Rd.le l h)
  · exact .inr h
section
variable {Γ : Gm} {K : PySem.W.Frag}
theorem Sh.le {H H' : Hp} {a : Addr} {k : Kd} {vs : List V} (l : Le H H') (h : Sh Γ K H a k vs) : Sh Γ K H' a k vs := by
  cases k with
  | lst => exact l.at' h fun z => z
  | scr => exact sqL_le l h
  | tup => exact l.at' h fun z => z
  | ktp => exact sqT_le l h
  | dk ks => exact ⟨h.1, Rd.le l h.2⟩
  | dt ks => exact ⟨h.1, Rd.le l h.2⟩
  | ins c => obtain ⟨h1, dx, h2⟩ := h; exact ⟨h1, dx, l.at' h2 fun z => z⟩
theorem OwO.sh {H : Hp} {a : Addr} {o : HO} {k : Kd} {vs : List V} (e : H a = some o) (h : OwO Γ o k vs) : Sh Γ K H a k vs := by
  cases k with
  | lst => cases h; exact e
  | scr => exact (show False from h).elim
  | tup => cases h; exact e
  | ktp => exact (show False from h).elim
  | dk ks => obtain ⟨h1, h2⟩ := h; subst h2; exact ⟨h1, .inl e⟩
  | dt ks => obtain ⟨h1, h2⟩ := h; subst h2; exact ⟨h1, .inl e⟩
  | ins c => obtain ⟨h1, dx, h2⟩ := h; subst h2; exact ⟨h1, dx, e⟩
end
section
variable (Γ : Gm) (K : PySem.W.Frag)
mutual
/-- v is the data d, in a heap -/
inductive Rep (H : Hp) : V → D → Prop
  | non : Rep H .non .non
  | bl (b : Bool) : Rep H (.bl b) (.bl b)
  | int (i : Int) : Rep H (.int i) (.int i)
  | str (s : Str) : Rep H (.str s) (.str s)
  | fn (j : Nat) : Rep H (.ref (Γ.fad j)) (.fn j)
  | cl (c : Nat) : Rep H (.ref (Γ.cad c)) (.cl c)
  | nd {a : Addr} {k : Kd} {vs : List V} {ds : List D} : Sh Γ K H a k vs → Reps H vs ds → Rep H (.ref a) (.nd k ds)
inductive Reps (H : Hp) : List V → List D → Prop
  | nil : Reps H [] []
  | cons {v : V} {vs : List V} {d : D} {ds : List D} : Rep H v d → Reps H vs ds → Reps H (v :: vs) (d :: ds)
end
mutual
/-- v is the tree t: its owned nodes stand at fp -/
inductive RepT (H Hs : Hp) : V → T → List Addr → Prop
  | sh {v : V} {d : D} : Rep Γ K Hs v d → RepT H Hs v (.sh d) []
  | ow {a : Addr} {o : HO} {k : Kd} {vs : List V} {ts : List T} {fp : List Addr} : H a = some o → OwO Γ o k vs → RepTs H Hs vs ts fp → RepT H Hs (.ref a) (.ow k ts) (a :: fp)
  | un {v : V} : RepT H Hs v .un []
  | ce {a : Addr} {o : HO} : H a = some o → RepT H Hs (.ref a) (.ce o) [a]
  | pf {a : Addr} {o : HO} : Hs a = some o → ¬ Lk o → RepT H Hs (.ref a) (.pf o) []
inductive RepTs (H Hs : Hp) : List V → List T → List Addr → Prop
  | nil : RepTs H Hs [] [] []
  | cons {v : V} {vs : List V} {t : T} {ts : List T} {f1 f2 : List Addr} : RepT H Hs v t f1 → RepTs H Hs vs ts f2 → RepTs H Hs (v :: vs) (t :: ts) (f1 ++ f2)
end
end
abbrev VT := V × T
def RepL (Γ : Gm) (K : PySem.W.Frag) (H Hs : Hp) (L : List VT) (fp : List Addr) : Prop := RepTs Γ K H Hs (L.map (·.1)) (L.map (·.2)) fp
section
variable {Γ : Gm} {K : PySem.W.Frag} {H H' Hs Hs' : Hp}
theorem Reps.length {vs : List V} {ds : List D} (h : Reps Γ K H vs ds) : vs.length = ds.length := by
  induction ds generalizing vs with
  | nil => cases h; rfl
  | cons d ds ih => cases h with | cons _ t => simp [ih t]
theorem RepTs.length {vs : List V} {ts : List T} {fp : List Addr} (h : RepTs Γ K H Hs vs ts fp) : vs.length = ts.length := by
  induction ts generalizing vs fp with
  | nil => cases h; rfl
  | cons d ds ih => cases h with | cons _ t => simp [ih t]
mutual
theorem Rep.le (l : Le H H') : ∀ (d : D) (v : V), Rep Γ K H v d → Rep Γ K H' v d
  | .non, _, h => by cases h; exact .non
  | .bl b, _, h => by cases h; exact .bl b
  | .int i, _, h => by cases h; exact .int i
  | .str s, _, h => by cases h; exact .str s
  | .fn j, _, h => by cases h; exact .fn j
  | .cl c, _, h => by cases h; exact .cl c
  | .nd k ds, _, h => by cases h with | nd h1 h2 => exact .nd (h1.le l) (Reps.le l ds _ h2)
theorem Reps.le (l : Le H H') : ∀ (ds : List D) (vs : List V), Reps Γ K H vs ds → Reps Γ K H' vs ds
  | [], _, h => by cases h; exact .nil
  | d :: ds, _, h => by cases h with | cons h1 h2 => exact .cons (Rep.le l d _ h1) (Reps.le l ds _ h2)
end
mutual
theorem RepT.step (l : Le Hs Hs') : ∀ (t : T) (v : V) (fp : List Addr), (∀ b ∈ fp, H' b = H b) → RepT Γ K H Hs v t fp → RepT Γ K H' Hs' v t fp
  | .sh d, _, _, _, h => by cases h with | sh h => exact .sh (Rep.le l d _ h)
  | .un, _, _, _, h => by cases h; exact .un
  | .ce o, _, _, k, h => by cases h with | ce h => exact .ce ((k _ (by simp)).trans h)
  | .pf o, _, _, _, h => by cases h with | pf h n => exact .pf (l.at' h n) n
  | .ow _ ts, _, _, k, h => by
    cases h with
    | ow h1 h2 h3 => exact .ow ((k _ (by simp)).trans h1) h2 (RepTs.step l ts _ _ (fun b hb => k b (by simp [hb])) h3)
theorem RepTs.step (l : Le Hs Hs') : ∀ (ts : List T) (vs : List V) (fp : List Addr), (∀ b ∈ fp, H' b = H b) → RepTs Γ K H Hs vs ts fp → RepTs Γ K H' Hs' vs ts fp
  | [], _, _, _, h => by cases h; exact .nil
  | t :: ts, _, _, k, h => by
    cases h with
    | cons h1 h2 => exact .cons (RepT.step l t _ _ (fun b hb => k b (by simp [hb])) h1) (RepTs.step l ts _ _ (fun b hb => k b (by simp [hb])) h2)
end
mutual
/-- an owned tree is data in any heap that holds what is shared and its nodes -/
theorem RepT.rep (l : Le Hs H') : ∀ (t : T) (v : V) (fp : List Addr) (d : D), (∀ b ∈ fp, H' b = H b) → RepT Γ K H Hs v t fp → t.rd = some d → Rep Γ K H' v d
  | .sh d, _, _, _, _, h, e => by
    cases h with
    | sh h =>
      have e : some d = some _ := e
      cases e
      exact Rep.le l _ _ h
  | .un, _, _, _, _, _, e => by cases e
  | .ce _, _, _, _, _, _, e => by cases e
  | .pf _, _, _, _, _, _, e => by cases e
  | .ow k ts, _, _, d, kp, h, e => by
    cases h with
    | ow h1 h2 h3 =>
      unfold T.rd at e
      cases q : T.rds ts with
      | none => rw [q] at e; cases e
      | some ds =>
        rw [q] at e
        cases e
        exact .nd (h2.sh ((kp _ (by simp)).trans h1)) (RepTs.rep l ts _ _ _ (fun b hb => kp b (by simp [hb])) h3 q)
theorem RepTs.rep (l : Le Hs H') : ∀ (ts : List T) (vs : List V) (fp : List Addr) (ds : List D), (∀ b ∈ fp, H' b = H b) → RepTs Γ K H Hs vs ts fp → T.rds ts = some ds → Reps Γ K H' vs ds
  | [], _, _, _, _, h, e => by cases h; cases e; exact .nil
  | t :: ts, _, _, ds, kp, h, e => by
    cases h with
    | cons h1 h2 =>
      unfold T.rds at e
      cases q : T.rd t with
      | none => rw [q] at e; cases e
      | some d =>
        cases q2 : T.rds ts with
        | none => rw [q, q2] at e; cases e
        | some ds' =>
          rw [q, q2] at e
          cases e
          exact .cons (RepT.rep l t _ _ _ (fun b hb => kp b (by simp [hb])) h1 q) (RepTs.rep l ts _ _ _ (fun b hb => kp b (by simp [hb])) h2 q2)
end
mutual
/-- each owned node stands -/
theorem RepT.there : ∀ (t : T) (v : V) (fp : List Addr), RepT Γ K H Hs v t fp → ∀ b ∈ fp, H b ≠ none
  | .sh d, _, _, h, b, hb => by cases h; simp at hb
  | .un, _, _, h, b, hb => by cases h; simp at hb
  | .pf _, _, _, h, b, hb => by cases h; simp at hb
  | .ce o, _, _, h, b, hb => by
    cases h with
    | ce h =>
      simp at hb
      subst hb
      rw [h]; exact fun z => by cases z
  | .ow _ ts, _, _, h, b, hb => by
    cases h with
    | ow h1 h2 h3 =>
      rcases List.mem_cons.mp hb with rfl | hb
      · rw [h1]; exact fun z => by cases z
      · exact RepTs.there ts _ _ h3 b hb
theorem RepTs.there : ∀ (ts : List T) (vs : List V) (fp : List Addr), RepTs Γ K H Hs vs ts fp → ∀ b ∈ fp, H b ≠ none
  | [], _, _, h, b, hb => by cases h; simp at hb
  | t :: ts, _, _, h, b, hb => by
    cases h with
    | cons h1 h2 =>
      rcases List.mem_append.mp hb with hb | hb
      · exact RepT.there t _ _ h1 b hb
      · exact RepTs.there ts _ _ h2 b hb
end
/-! ### lists of values with their trees -/
theorem RepL.nil : RepL Γ K H Hs [] [] := RepTs.nil
theorem RepL.cons {v : V} {t : T} {L : List VT} {f1 f2 : List Addr} (h : RepT Γ K H Hs v t f1) (h2 : RepL Γ K H Hs L f2) : RepL Γ K H Hs ((v, t) :: L) (f1 ++ f2) := RepTs.cons h h2
theorem RepL.cons_inv {v : V} {t : T} {L : List VT} {fp : List Addr} (h : RepL Γ K H Hs ((v, t) :: L) fp) : ∃ f1 f2, fp = f1 ++ f2 ∧ RepT Γ K H Hs v t f1 ∧ RepL Γ K H Hs L f2 := by
  have h : RepTs Γ K H Hs (v :: L.map (·.1)) (t :: L.map (·.2)) fp := h
  cases h with
  | cons h1 h2 => exact ⟨_, _, rfl, h1, h2⟩
theorem RepL.append {L M : List VT} {f1 f2 : List Addr} (h : RepL Γ K H Hs L f1) (h2 : RepL Γ K H Hs M f2) : RepL Γ K H Hs (L ++ M) (f1 ++ f2) := by
  induction L generalizing f1 with
  | nil => cases h; exact h2
  | cons x L ih =>
    obtain ⟨v, t⟩ := x
    obtain ⟨g1, g2, rfl, a, b⟩ := h.cons_inv
    rw [List.append_assoc]
    exact .cons a (ih b)
theorem RepL.append_inv {L M : List VT} {fp : List Addr} (h : RepL Γ K H Hs (L ++ M) fp) : ∃ f1 f2, fp = f1 ++ f2 ∧ RepL Γ K H Hs L f1 ∧ RepL Γ K H Hs M f2 := by
  induction L generalizing fp with
  | nil => exact ⟨[], fp, rfl, .nil, h⟩
  | cons x L ih =>
    obtain ⟨v, t⟩ := x
    obtain ⟨g1, g2, rfl, a, b⟩ := RepL.cons_inv h
    obtain ⟨f1, f2, rfl, c, d⟩ := ih b
    exact ⟨g1 ++ f1, f2, (List.append_assoc _ _ _).symm, .cons a c, d⟩
theorem RepL.perm {L M : List VT} (p : L.Perm M) : ∀ {fp : List Addr}, RepL Γ K H Hs L fp → ∃ fq, fp.Perm fq ∧ RepL Γ K H Hs M fq := by
  induction p with
  | nil => exact fun {fp} h => ⟨fp, .refl _, h⟩
  | cons x _ ih =>
    intro fp h
    obtain ⟨v, t⟩ := x
    obtain ⟨g1, g2, rfl, a, b⟩ := h.cons_inv
    obtain ⟨fq, q, c⟩ := ih b
    exact ⟨_, q.append_left g1, .cons a c⟩
  | swap x y l =>
    intro fp h
    obtain ⟨v, t⟩ := x
    obtain ⟨w, u⟩ := y
    obtain ⟨g1, g2, rfl, a, b⟩ := h.cons_inv
    obtain ⟨g3, g4, rfl, c, d⟩ := b.cons_inv
    refine ⟨_, ?_, .cons c (.cons a d)⟩
    rw [← List.append_assoc, ← List.append_assoc]
    exact (List.perm_append_comm).append_right _
  | trans _ _ ih1 ih2 =>
    intro fp h
    obtain ⟨f1, q1, h1⟩ := ih1 h
    obtain ⟨f2, q2, h2⟩ := ih2 h1
    exact ⟨f2, q1.trans q2, h2⟩
theorem RepL.zip {vs : List V} {ts : List T} {fp : List Addr} (h : RepTs Γ K H Hs vs ts fp) : RepL Γ K H Hs (vs.zip ts) fp := by
  unfold RepL
  rw [List.map_fst_zip (Nat.le_of_eq h.length), List.map_snd_zip (Nat.le_of_eq h.length.symm)]
  exact h
theorem RepL.unzip {vs : List V} {ts : List T} {fp : List Addr} (e : vs.length = ts.length) (h : RepL Γ K H Hs (vs.zip ts) fp) : RepTs Γ K H Hs vs ts fp := by
  unfold RepL at h
  rw [List.map_fst_zip (Nat.le_of_eq e), List.map_snd_zip (Nat.le_of_eq e.symm)] at h
  exact h
end
/-! ### what is owned: the slots of a frame, and what else is held -/
def ents (σ : St) (env : List T) : List VT := List.zipWith (fun o t => (o.getD .non, t)) σ env
abbrev AsgOk (σ : St) (env : List T) : Prop := ∀ (i : Nat) (t : T), env[i]? = some t → t = T.un ∨ ∃ v : V, σ[i]? = some (some v)
structure OwnS (Γ : Gm) (K : PySem.W.Frag) (σ : St) (env : List T) (G : List VT) (H Hs : Hp) : Prop where
  le : Le Hs H
  len : env.length = σ.length
  asg : AsgOk σ env
  own : ∃ fp, RepL Γ K H Hs (ents σ env ++ G) fp ∧ fp.Nodup ∧ ∀ a ∈ fp, Hs a = none
section
variable {Γ : Gm} {K : PySem.W.Frag} {H Hs : Hp} {σ : St} {env : List T} {G G' : List VT} {v : V} {t : T} {d : D}
theorem OwnS.perm' {σ' : St} {env' : List T} (o : OwnS Γ K σ env G H Hs) (l : env'.length = σ'.length) (ha : AsgOk σ' env') (p : (ents σ env ++ G).Perm (ents σ' env' ++ G')) : OwnS Γ K σ' env' G' H Hs := by
  obtain ⟨fp, h, nd, dj⟩ := o.own
  obtain ⟨fq, q, h'⟩ := h.perm p
  exact ⟨o.le, l, ha, fq, h', q.nodup_iff.mp nd, fun a ha => dj a (q.mem_iff.mpr ha)⟩
theorem OwnS.perm (o : OwnS Γ K σ env G H Hs) (p : G.Perm G') : OwnS Γ K σ env G' H Hs := o.perm' o.len o.asg (p.append_left _)
theorem OwnS.swap {x y : VT} (o : OwnS Γ K σ env (x :: y :: G) H Hs) : OwnS Γ K σ env (y :: x :: G) H Hs := o.perm (.swap _ _ _)
/-- the head comes behind a list -/
theorem OwnS.mid {x : VT} {L : List VT} (o : OwnS Γ K σ env (x :: L ++ G) H Hs) : OwnS Γ K σ env (L ++ x :: G) H Hs := o.perm (List.perm_middle.symm)
theorem OwnS.unmid {x : VT} {L : List VT} (o : OwnS Γ K σ env (L ++ x :: G) H Hs) : OwnS Γ K σ env (x :: L ++ G) H Hs := o.perm (List.perm_middle)
/-- forms of the list of what is held -/
theorem OwnS.split {x : VT} (o : OwnS Γ K σ env (x :: G) H Hs) : ∃ f1 f2, RepT Γ K H Hs x.1 x.2 f1 ∧ RepL Γ K H Hs (ents σ env ++ G) f2 ∧ (f1 ++ f2).Nodup ∧ ∀ a ∈ f1 ++ f2, Hs a = none := by
  obtain ⟨fp, h, nd, dj⟩ := o.own
  obtain ⟨fq, q, h'⟩ := h.perm (List.perm_middle (a := x) (l₁ := ents σ env) (l₂ := G))
  obtain ⟨f1, f2, rfl, a, b⟩ := RepL.cons_inv (v := x.1) (t := x.2) h'
  exact ⟨f1, f2, a, b, q.nodup_iff.mp nd, fun a ha => dj a (q.mem_iff.mpr ha)⟩
theorem OwnS.join {x : VT} {f1 f2 : List Addr} (le : Le Hs H) (len : env.length = σ.length) (asg : AsgOk σ env)
    (h1 : RepT Γ K H Hs x.1 x.2 f1) (h2 : RepL Γ K H Hs (ents σ env ++ G) f2) (nd : (f1 ++ f2).Nodup) (dj : ∀ a ∈ f1 ++ f2, Hs a = none) : OwnS Γ K σ env (x :: G) H Hs := by
  have h : RepL Γ K H Hs (x :: (ents σ env ++ G)) (f1 ++ f2) := RepL.cons (v := x.1) (t := x.2) h1 h2
  obtain ⟨fq, q, h'⟩ := h.perm (List.perm_middle (a := x) (l₁ := ents σ env) (l₂ := G)).symm
  exact ⟨le, len, asg, fq, h', q.nodup_iff.mp nd, fun a ha => dj a (q.mem_iff.mpr ha)⟩
theorem OwnS.drop {x : VT} (o : OwnS Γ K σ env (x :: G) H Hs) : OwnS Γ K σ env G H Hs := by
  obtain ⟨f1, f2, _, b, nd, dj⟩ := o.split
  exact ⟨o.le, o.len, o.asg, f2, b, (List.nodup_append.mp nd).2.1, fun a ha => dj a (List.mem_append_right _ ha)⟩
theorem OwnS.dropL (L : List VT) (o : OwnS Γ K σ env (L ++ G) H Hs) : OwnS Γ K σ env G H Hs := by
  induction L with
  | nil => exact o
  | cons x L ih => exact ih (OwnS.drop o)
theorem OwnS.addUn (v : V) (o : OwnS Γ K σ env G H Hs) : OwnS Γ K σ env ((v, .un) :: G) H Hs := by
  obtain ⟨fp, h, nd, dj⟩ := o.own
  exact .join (f1 := []) (f2 := fp) o.le o.len o.asg .un h nd dj
theorem OwnS.addSh (r : Rep Γ K Hs v d) (o : OwnS Γ K σ env G H Hs) : OwnS Γ K σ env ((v, .sh d) :: G) H Hs := by
  obtain ⟨fp, h, nd, dj⟩ := o.own
  exact .join (f1 := []) (f2 := fp) o.le o.len o.asg (.sh r) h nd dj
theorem OwnS.rep (o : OwnS Γ K σ env ((v, .sh d) :: G) H Hs) : Rep Γ K Hs v d := by
  obtain ⟨f1, f2, a, _, _, _⟩ := o.split
  cases a with
  | sh h => exact h
theorem OwnS.dup (o : OwnS Γ K σ env ((v, .sh d) :: G) H Hs) : OwnS Γ K σ env ((v, .sh d) :: (v, .sh d) :: G) H Hs := o.addSh o.rep
/-- what is owned may be read where it stands -/
theorem OwnS.read (o : OwnS Γ K σ env ((v, t) :: G) H Hs) (e : t.rd = some d) : Rep Γ K H v d := by
  obtain ⟨f1, f2, a, _, _, _⟩ := o.split
  exact RepT.rep o.le t v f1 d (fun _ _ => rfl) a e
/-- from now on it is shared -/
theorem OwnS.freeze (o : OwnS Γ K σ env ((v, t) :: G) H Hs) (e : t.rd = some d) : ∃ Hs', Le Hs Hs' ∧ OwnS Γ K σ env ((v, .sh d) :: G) H Hs' := by
  obtain ⟨f1, f2, a, b, nd, dj⟩ := o.split
  obtain ⟨n1, n2, n12⟩ := List.nodup_append.mp nd
  have l1 : Le Hs (fun c => if c ∈ f1 then H c else Hs c) := fun c u h => by
    refine .inl ?_
    show (if c ∈ f1 then H c else Hs c) = some u
    split
    · rename_i hc
      rw [dj c (List.mem_append_left _ hc)] at h; cases h
    · exact h
  refine ⟨fun c => if c ∈ f1 then H c else Hs c, l1, .join (f1 := []) (f2 := f2) ?_ o.len o.asg (.sh ?_) (RepTs.step l1 _ _ _ (fun _ _ => rfl) b) n2 fun c hc => ?_⟩
  · intro c u h
    have h : (if c ∈ f1 then H c else Hs c) = some u := h
    split at h
    · exact .inl h
    · exact o.le c u h
  · refine RepT.rep l1 t v f1 d (fun c hc => ?_) a e
    show (if c ∈ f1 then H c else Hs c) = H c
    rw [if_pos hc]
  · have hc : c ∈ f2 := by simpa using hc
    have nc : c ∉ f1 := fun z => n12 c z c hc rfl
    show (if c ∈ f1 then H c else Hs c) = none
    rw [if_neg nc]
    exact dj c (List.mem_append_right _ hc)
/-- a new object -/
theorem OwnS.alloc {p : Addr} {ob : HO} (hp : H p = none) (o : OwnS Γ K σ env G H Hs) : OwnS Γ K σ env ((.ref p, .ce ob) :: G) (upd H p ob) Hs := by
  obtain ⟨fp, h, nd, dj⟩ := o.own
  have nin : p ∉ fp := fun z => RepTs.there _ _ _ h p z hp
  have np : Hs p = none := o.le.none_of hp
  have nx : ∀ b, b ∈ fp → upd H p ob b = H b := fun b hb => upd_ne fun z => nin (z ▸ hb)
  refine .join (f1 := [p]) (f2 := fp) (fun c u e => ?_) o.len o.asg (.ce upd_same) (RepTs.step Le.rfl' _ _ _ nx h) (List.nodup_cons.mpr ⟨nin, nd⟩) fun a ha => ?_
  · have hc : c ≠ p := fun z => by subst z; rw [np] at e; cases e
    rw [upd_ne hc]
    exact o.le c u e
  · rcases List.mem_cons.mp ha with rfl | ha
    · exact np
    · exact dj a ha
/-- an owned object is written -/
theorem OwnS.write {a : Addr} {ob : HO} (ob' : HO) (o : OwnS Γ K σ env ((.ref a, .ce ob) :: G) H Hs) : OwnS Γ K σ env ((.ref a, .ce ob') :: G) (upd H a ob') Hs := by
  obtain ⟨f1, f2, h1, h2, nd, dj⟩ := o.split
  cases h1 with
  | ce e =>
    have nin : a ∉ f2 := fun z => (List.nodup_cons.mp nd).1 z
    have np : Hs a = none := dj a (by simp)
    refine .join (f1 := [a]) (f2 := f2) (fun c u e1 => ?_) o.len o.asg (.ce upd_same) (RepTs.step Le.rfl' _ _ _ (fun b hb => upd_ne fun z => nin (z ▸ hb)) h2) nd dj
    have hc : c ≠ a := fun z => by subst z; rw [np] at e1; cases e1
    rw [upd_ne hc]
    exact o.le c u e1
theorem OwnS.cell {a : Addr} {ob : HO} (o : OwnS Γ K σ env ((.ref a, .ce ob) :: G) H Hs) : H a = some ob := by
  obtain ⟨f1, f2, h1, _⟩ := o.split
  cases h1 with
  | ce e => exact e
theorem OwnS.open_ {k : Kd} {ts : List T} (o : OwnS Γ K σ env ((v, .ow k ts) :: G) H Hs) :
    ∃ a vs ob, v = .ref a ∧ H a = some ob ∧ OwO Γ ob k vs ∧ vs.length = ts.length ∧ OwnS Γ K σ env ((.ref a, .ce ob) :: (vs.zip ts ++ G)) H Hs := by
  obtain ⟨f1, f2, h1, h2, nd, dj⟩ := o.split
  cases h1 with
  | @ow a ob _ vs _ fp e w r =>
    refine ⟨a, vs, ob, rfl, e, w, r.length, ?_⟩
    obtain ⟨fa, fb, rfl, ha, hb⟩ := h2.append_inv
    have hh : RepL Γ K H Hs (ents σ env ++ (vs.zip ts ++ G)) (fa ++ (fp ++ fb)) := ha.append ((RepL.zip r).append hb)
    have pp : ([a] ++ (fa ++ (fp ++ fb))).Perm (a :: fp ++ (fa ++ fb)) := by
      refine List.Perm.cons a ?_
      show (fa ++ (fp ++ fb)).Perm (fp ++ (fa ++ fb))
      rw [← List.append_assoc, ← List.append_assoc]
      exact (List.perm_append_comm).append_right _
    exact .join (f1 := [a]) (f2 := fa ++ (fp ++ fb)) o.le o.len o.asg (.ce e) hh (pp.nodup_iff.mpr nd) fun c hc => dj c (pp.mem_iff.mp hc)
theorem OwnS.close {a : Addr} {ob : HO} {k : Kd} {vs : List V} {ts : List T} (w : OwO Γ ob k vs) (l : vs.length = ts.length) (o : OwnS Γ K σ env ((.ref a, .ce ob) :: (vs.zip ts ++ G)) H Hs) : OwnS Γ K σ env ((.ref a, .ow k ts) :: G) H Hs := by
  obtain ⟨f1, f2, h1, h2, nd, dj⟩ := o.split
  cases h1 with
  | ce e =>
    obtain ⟨fa, fb, rfl, ha, hb⟩ := h2.append_inv
    obtain ⟨fp, fc, rfl, hp, hc⟩ := hb.append_inv
    have pp : ([a] ++ (fa ++ (fp ++ fc))).Perm (a :: fp ++ (fa ++ fc)) := by
      refine List.Perm.cons a ?_
      show (fa ++ (fp ++ fc)).Perm (fp ++ (fa ++ fc))
      rw [← List.append_assoc, ← List.append_assoc]
      exact (List.perm_append_comm).append_right _
    exact .join (f1 := a :: fp) (f2 := fa ++ fc) o.le o.len o.asg (.ow e w (RepL.unzip l hp)) (ha.append hc) (pp.nodup_iff.mp nd) fun c hc => dj c (pp.mem_iff.mpr hc)
/-! ### slots -/
theorem ents_length (σ : St) (env : List T) (h : env.length = σ.length) : (ents σ env).length = env.length := by
  unfold ents; rw [List.length_zipWith]; omega
theorem ents_split {i : Nat} {o : Option V} (σ : St) (env : List T) (h : env.length = σ.length) (e : env[i]? = some t) (s : σ[i]? = some o) :
    ∃ L M, ents σ env = L ++ (o.getD .non, t) :: M ∧ ∀ t', ents σ (env.set i t') = L ++ (o.getD .non, t') :: M := by
  induction σ generalizing env i with
  | nil => simp at s
  | cons x σ ih =>
    cases env with
    | nil => simp at e
    | cons y env =>
      cases i with
      | zero =>
        simp at e s
        subst e s
        exact ⟨[], ents σ env, rfl, fun _ => rfl⟩
      | succ i =>
        obtain ⟨L, M, h1, h2⟩ := ih (i := i) env (by simpa using h) (by simpa using e) (by simpa using s)
        refine ⟨(x.getD .non, y) :: L, M, ?_, fun t' => ?_⟩
        · show (x.getD .non, y) :: ents σ env = _
          rw [h1] <;> rfl
        · show (x.getD .non, y) :: ents σ (env.set i t') = _
          rw [h2] <;> rfl
theorem get_set_un {i j : Nat} {u t' : T} (e : (env.set i t')[j]? = some u) : (j = i ∧ u = t') ∨ env[j]? = some u := by
  rw [List.getElem?_set] at e
  split at e
  · rename_i hij
    split at e
    · cases e; exact .inl ⟨hij.symm, rfl⟩
    · cases e
  · exact .inr e
/-- a slot's tree is taken out -/
theorem OwnS.take {i : Nat} (o : OwnS Γ K σ env G H Hs) (e : env[i]? = some t) (s : σ[i]? = some (some v)) : OwnS Γ K σ (env.set i .un) ((v, t) :: G) H Hs := by
  obtain ⟨L, M, h1, h2⟩ := ents_split (o := some v) σ env o.len e s
  have o2 : OwnS Γ K σ env ((v, .un) :: G) H Hs := o.addUn v
  refine o2.perm' (by rw [List.length_set]; exact o.len) (fun j u hj => ?_) ?_
  · rcases get_set_un hj with ⟨_, rfl⟩ | hj
    · exact .inl rfl
    · exact o.asg j u hj
  · rw [h1, h2]
    show (L ++ (v, t) :: M ++ (v, .un) :: G).Perm (L ++ (v, .un) :: M ++ (v, t) :: G)
    rw [List.append_assoc, List.append_assoc]
    refine List.Perm.append_left L ?_
    show ((v, t) :: (M ++ (v, .un) :: G)).Perm ((v, .un) :: (M ++ (v, t) :: G))
    exact ((List.perm_middle.cons _).trans (.swap _ _ _)).trans (List.perm_middle.symm.cons _)
/-- .. and put back; what the slot held is dropped -/
theorem OwnS.put {i : Nat} (o : OwnS Γ K σ env ((v, t) :: G) H Hs) (s : σ[i]? = some (some v)) : OwnS Γ K σ (env.set i t) G H Hs := by
  have hi : i < env.length := by rw [o.len]; exact (List.getElem?_eq_some_iff.mp s).1
  obtain ⟨u, e⟩ : ∃ u, env[i]? = some u := ⟨_, List.getElem?_eq_getElem hi⟩
  obtain ⟨L, M, h1, h2⟩ := ents_split (o := some v) σ env o.len e s
  have o2 : OwnS Γ K σ (env.set i t) ((v, u) :: G) H Hs := by
    refine o.perm' (by rw [List.length_set]; exact o.len) (fun j u hj => ?_) ?_
    · rcases get_set_un hj with ⟨rfl, _⟩ | hj
      · exact .inr ⟨v, s⟩
      · exact o.asg j u hj
    · rw [h1, h2]
      show (L ++ (v, u) :: M ++ (v, t) :: G).Perm (L ++ (v, t) :: M ++ (v, u) :: G)
      rw [List.append_assoc, List.append_assoc]
      refine List.Perm.append_left L ?_
      show ((v, u) :: (M ++ (v, t) :: G)).Perm ((v, t) :: (M ++ (v, u) :: G))
      exact ((List.perm_middle.cons _).trans (.swap _ _ _)).trans (List.perm_middle.symm.cons _)
  exact o2.drop
/-- a slot is assigned -/
theorem OwnS.assign {i : Nat} (o : OwnS Γ K σ env ((v, t) :: G) H Hs) (hi : i < σ.length) : OwnS Γ K (σ.set i (some v)) (env.set i t) G H Hs := by
  obtain ⟨x, s⟩ : ∃ x, σ[i]? = some x := ⟨_, List.getElem?_eq_getElem hi⟩
  have hi2 : i < env.length := by rw [o.len]; exact hi
  obtain ⟨u, e⟩ : ∃ u, env[i]? = some u := ⟨_, List.getElem?_eq_getElem hi2⟩
  obtain ⟨L, M, h1, h2⟩ := ents_split (o := x) σ env o.len e s
  have h3 : ents (σ.set i (some v)) (env.set i t) = L ++ (v, t) :: M := by
    have len : (env.set i t).length = σ.length := by rw [List.length_set]; exact o.len
    have q : ents (σ.set i (some v)) (env.set i t) = (ents σ (env.set i t)).set i (v, t) := by
      clear h1 h2 o e hi2 s u
      induction σ generalizing env i with
      | nil => simp at hi
      | cons y σ ih =>
        cases env with
        | nil => simp at len
        | cons z env =>
          cases i with
          | zero => rfl
          | succ i =>
            show (y.getD .non, z) :: ents (σ.set i (some v)) (env.set i t) = (y.getD .non, z) :: (ents σ (env.set i t)).set i (v, t)
            rw [ih (by simpa using hi) (by simpa using len)]
    have hL : L.length = i := by
      have q1 := h2 t
      have q2 := h2 .un
      have len2 : ∀ t', (env.set i t').length = σ.length := fun t' => by rw [List.length_set]; exact o.len
      clear q h1 o
      have key : ∀ (σ : St) (env : List T) (i : Nat) (L M : List VT) (x : Option V), σ[i]? = some x → env.length = σ.length → (∀ t', ents σ (env.set i t') = L ++ (x.getD .non, t') :: M) → L.length = i := by
        intro σ
        induction σ with
        | nil => intro env i L M x s; simp at s
        | cons y σ ih =>
          intro env i L M x s l h
          cases env with
          | nil => simp at l
          | cons z env =>
            cases i with
            | zero =>
              have q1 := h .un
              have q2 := h (.sh .non)
              cases L with
              | nil => rfl
              | cons w L =>
                have e1 : (y.getD V.non, T.un) :: ents σ env = w :: (L ++ _) := q1
                have e2 : (y.getD V.non, T.sh .non) :: ents σ env = w :: (L ++ _) := q2
                have z1 := (List.cons.inj e1).1
                have z2 := (List.cons.inj e2).1
                rw [← z2] at z1
                cases z1
            | succ i =>
              cases L with
              | nil =>
                have q1 := h .un
                have q2 := h (.sh .non)
                have e1 : (y.getD V.non, z) :: ents σ (env.set i .un) = (x.getD .non, .un) :: M := q1
                have e2 : (y.getD V.non, z) :: ents σ (env.set i (.sh .non)) = (x.getD .non, .sh .non) :: M := q2
                have z1 := (List.cons.inj e1).1
                have z2 := (List.cons.inj e2).1
                rw [z1] at z2
                cases z2
              | cons w L =>
                refine congrArg (· + 1) (ih env i L M x (by simpa using s) (by simpa using l) fun t' => ?_)
                have e1 : (y.getD V.non, z) :: ents σ (env.set i t') = w :: (L ++ (x.getD .non, t') :: M) := h t'
                exact (List.cons.inj e1).2
      exact key σ env i L M x s (by have := len2 t; rwa [List.length_set] at this) h2
    rw [q, h2 t, List.set_append]
    simp [hL]
  have o2 : OwnS Γ K (σ.set i (some v)) (env.set i t) ((x.getD .non, u) :: G) H Hs := by
    refine o.perm' (by rw [List.length_set, List.length_set]; exact o.len) (fun j w hj => ?_) ?_
    · by_cases hij : j = i
      · subst hij; exact .inr ⟨v, by rw [List.getElem?_set_self hi]⟩
      · rcases get_set_un hj with ⟨z, _⟩ | hj
        · exact absurd z hij
        · rw [List.getElem?_set_ne (Ne.symm hij)]; exact o.asg j w hj
    · rw [h1, h3]
      rw [List.append_assoc, List.append_assoc]
      refine List.Perm.append_left L ?_
      show ((x.getD .non, u) :: (M ++ (v, t) :: G)).Perm ((v, t) :: (M ++ (x.getD .non, u) :: G))
      exact ((List.perm_middle.cons _).trans (.swap _ _ _)).trans (List.perm_middle.symm.cons _)
  exact o2.drop
/-- the heaps are turned over beneath what is owned -/
theorem OwnS.shift {H' Hs' : Hp} (o : OwnS Γ K σ env G H Hs) (l : Le Hs Hs') (l' : Le Hs' H') (k : ∀ b, Hs b = none → H' b = H b ∧ Hs' b = none) : OwnS Γ K σ env G H' Hs' := by
  obtain ⟨fp, h, nd, dj⟩ := o.own
  exact ⟨l', o.len, o.asg, fp, RepTs.step l _ _ _ (fun b hb => (k b (dj b hb)).1) h, nd, fun a ha => (k a (dj a ha)).2⟩
/-- a shared dict is locked -/
theorem OwnS.lock {d : Addr} {u : HO} {od : Obj} (o : OwnS Γ K σ env G H Hs) (h : Hs d = some u) (hk : Lk u) (hH : H d = some u ∨ H d = some (.frz od u)) : OwnS Γ K σ env G (upd H d (.frz od u)) (upd Hs d (.frz od u)) := by
  refine o.shift (fun a x e => ?_) (fun a x e => ?_) fun b hb => ?_
  · by_cases hd : a = d
    · subst hd
      rw [h] at e
      cases e
      exact .inr ⟨hk, od, upd_same⟩
    · rw [upd_ne hd]; exact .inl e
  · by_cases hd : a = d
    · subst hd
      rw [upd_same] at e
      cases e
      rw [upd_same]; exact .inl rfl
    · rw [upd_ne hd] at e ⊢
      exact o.le a x e
  · have hd : b ≠ d := fun z => by subst z; rw [h] at hb; cases hb
    rw [upd_ne hd, upd_ne hd]
    exact ⟨rfl, hb⟩
theorem OwnS.pfAdd {a : Addr} {u : HO} (o : OwnS Γ K σ env G H Hs) (h : Hs a = some u) (n : ¬ Lk u) : OwnS Γ K σ env ((.ref a, .pf u) :: G) H Hs := by
  obtain ⟨fp, r, nd, dj⟩ := o.own
  exact .join (f1 := []) (f2 := fp) o.le o.len o.asg (.pf h n) r nd dj
theorem OwnS.pfGet {a : Addr} {u : HO} (o : OwnS Γ K σ env ((.ref a, .pf u) :: G) H Hs) : Hs a = some u ∧ H a = some u := by
  obtain ⟨f1, f2, h, _⟩ := o.split
  cases h with
  | pf h n => exact ⟨h, o.le.at' h n⟩
theorem RepT.un_inv {v : V} {fp : List Addr} (h : RepT Γ K H Hs v .un fp) : fp = [] := by
  cases h; rfl
/-- slots without a tree may hold anything -/
theorem reslot_ents {σ σ' : St} {env : List T} {fp : List Addr} (l : σ'.length = σ.length) (l2 : env.length = σ.length) (h : ∀ i : Nat, env[i]? = some T.un ∨ σ'[i]? = σ[i]?) (r : RepL Γ K H Hs (ents σ env ++ G) fp) : RepL Γ K H Hs (ents σ' env ++ G) fp := by
  induction env generalizing σ σ' fp with
  | nil =>
    cases σ with
    | nil => cases σ' with
      | nil => exact r
      | cons _ _ => simp at l
    | cons _ _ => simp at l2
  | cons t env ih =>
    cases σ with
    | nil => simp at l2
    | cons x σ =>
      cases σ' with
      | nil => simp at l
      | cons y σ' =>
        obtain ⟨f1, f2, rfl, a, b⟩ := RepL.cons_inv (v := x.getD .non) (t := t) (L := ents σ env ++ G) r
        refine RepL.cons (v := y.getD .non) (t := t) ?_ (ih (by simpa using l) (by simpa using l2) (fun i => by simpa using h (i + 1)) b)
        rcases h 0 with e | e
        · simp at e
          subst e
          cases RepT.un_inv a
          exact .un
        · simp at e
          subst e
          exact a
theorem OwnS.reslot {σ' : St} (o : OwnS Γ K σ env G H Hs) (l : σ'.length = σ.length) (h : ∀ i : Nat, env[i]? = some T.un ∨ σ'[i]? = σ[i]?) : OwnS Γ K σ' env G H Hs := by
  obtain ⟨fp, r, nd, dj⟩ := o.own
  refine ⟨o.le, by rw [l]; exact o.len, fun i t e => ?_, fp, reslot_ents l o.len h r, nd, dj⟩
  rcases h i with h | h
  · rw [h] at e; cases e; exact .inl rfl
  · rw [h]; exact o.asg i t e
/-- a slot's tree is dropped -/
theorem ents_un {i : Nat} {fp : List Addr} (r : RepL Γ K H Hs (ents σ env ++ G) fp) : ∃ fq, RepL Γ K H Hs (ents σ (env.set i .un) ++ G) fq ∧ fq.Sublist fp := by
  induction env generalizing σ fp i with
  | nil => exact ⟨fp, by simpa using r, List.Sublist.refl _⟩
  | cons t env ih =>
    cases σ with
    | nil => exact ⟨fp, by cases i <;> exact r, List.Sublist.refl _⟩
    | cons x σ =>
      obtain ⟨f1, f2, rfl, a, b⟩ := RepL.cons_inv (v := x.getD .non) (t := t) (L := ents σ env ++ G) r
      cases i with
      | zero => exact ⟨[] ++ f2, RepL.cons (v := x.getD .non) (t := .un) .un b, by simp⟩
      | succ i =>
        obtain ⟨fq, h1, h2⟩ := ih (i := i) b
        exact ⟨f1 ++ fq, RepL.cons (v := x.getD .non) (t := t) a h1, h2.append_left f1⟩
theorem OwnS.un1 {i : Nat} (o : OwnS Γ K σ env G H Hs) : OwnS Γ K σ (env.set i .un) G H Hs := by
  obtain ⟨fp, r, nd, dj⟩ := o.own
  obtain ⟨fq, h1, h2⟩ := ents_un (i := i) r
  refine ⟨o.le, by rw [List.length_set]; exact o.len, fun j t e => ?_, fq, h1, h2.nodup nd, fun a ha => dj a (h2.subset ha)⟩
  rcases get_set_un e with ⟨_, rfl⟩ | e
  · exact .inl rfl
  · exact o.asg j t e
end
end BC
set_option Elab.async false
set_option linter.all false
set_option maxRecDepth 100000
set_option maxHeartbeats 4000000
/-! Core: the program's defs as terms, and what they compute (value semantics; none: not covered). -/
namespace BC
open PySem PySem.Spec PyProof.Rows L2
abbrev En := List T
inductive Ex (α : Type) where
  | ok (a : α) | exc (c : Nat) (ds : List D)
abbrev M (α : Type) := En → Option (Ex α × En)
def ret {α : Type} (a : α) : M α := fun e => some (.ok a, e)
def bd {α β : Type} (m : M α) (f : α → M β) : M β := fun e => match m e with
  | some (.ok a, e') => f a e'
  | some (.exc c ds, e') => some (.exc c ds, e')
  | none => none
/-- what does not change the slots -/
def lift {α : Type} (f : En → Option α) : M α := fun e => match f e with
  | some a => some (.ok a, e)
  | none => none
inductive Out where
  | ret (t : T) | exc (c : Nat) (ds : List D)
abbrev FnS := List T → Option (Out × List T)
/-! ### data of the primitives -/
mutual
def D.pyN : Nat → D → Option PyData
  | _, .non => some .none
  | _, .bl b => some (.bool b)
  | _, .int i => some (.int i)
  | _, .str s => if PyData.strOk s = true then some (.str s) else none
  | _, .fn _ => none
  | _, .cl _ => none
  | 0, .nd _ _ => none
  | n + 1, .nd k ds => match k with
    | .lst => match D.pysN n ds with
      | some xs => some (.list xs)
      | none => none
    | .tup => match D.pysN n ds with
      | some xs => some (.tuple xs)
      | none => none
    | .ktp => match D.pysN n ds with
      | some xs => some (.tuple xs)
      | none => none
    | _ => none
def D.pysN : Nat → List D → Option (List PyData)
  | _, [] => some []
  | n, d :: ds => match D.pyN n d, D.pysN n ds with
    | some x, some xs => some (x :: xs)
    | _, _ => none
end
def D.py (d : D) : Option PyData := D.pyN 40 d
def eqD (a b : D) : Option Bool := match a.py, b.py with
  | some x, some y => some (PyData.eqv x y)
  | _, _ => none
def inD (x l : D) : Option Bool := match x.py, l.py with
  | some a, some (.list bs) => some (bs.any fun z => PyData.eqv z a)
  | some (.str a), some (.tuple bs) => if bs.all (fun z => match z with | .str _ => true | _ => false) = true then some (bs.any fun z => PyData.eqv z (.str a)) else none
  | _, _ => none
/-- the key that a value is -/
def D.key : D → Option Key
  | .int i => some (.inl i)
  | .str s => some (.inr s)
  | _ => none
def D.keys : List D → Option (List Key)
  | [] => some []
  | d :: ds => match d.key, D.keys ds with
    | some k, some ks => some (k :: ks)
    | _, _ => none
def D.keyT : D → Option (List Key)
  | .nd .tup ds => D.keys ds
  | _ => none
/-- a node's children that are shared -/
def unsh : List T → Option (List D)
  | [] => some []
  | .sh d :: ts => match unsh ts with
    | some ds => some (d :: ds)
    | none => none
  | _ :: _ => none
/-- data whose children are shared -/
def T.sd : T → Option D
  | .sh d => some d
  | .ow k ts => match unsh ts with
    | some ds => some (.nd k ds)
    | none => none
  | _ => none
def own (k : Kd) (ds : List D) : T := .ow k (ds.map .sh)
inductive Op2 where
  | add | sub | mul | fdv | mod | pow
inductive Cm where
  | eq | ne | lt | le | gt | ge | is_ | isn | in_ | nin
def pAdd : D → D → Option T
  | .int i, .int j => some (.sh (.int (i + j)))
  | .str a, .str b => if a.length + b.length ≤ sizeLine then some (.sh (.str (a ++ b))) else none
  | .nd .lst xs, .nd .lst ys => if xs.length + ys.length ≤ sizeLine then some (own .lst (xs ++ ys)) else none
  | _, _ => none
def pSub : D → D → Option T
  | .int i, .int j => some (.sh (.int (i - j)))
  | _, _ => none
def pMul : D → D → Option T
  | .int i, .int j => if (-(2 ^ 64) < i ∧ i < 2 ^ 64) ∨ (-(2 ^ 64) < j ∧ j < 2 ^ 64) then some (.sh (.int (i * j))) else none
  | .nd .lst xs, .int k => if -(2 ^ 63) ≤ k ∧ k < 2 ^ 63 ∧ xs.length * k.toNat ≤ sizeLine then some (own .lst (List.replicate k.toNat xs).flatten) else none
  | _, _ => none
def pFdv : D → D → Option T
  | .int i, .int j => if 0 < j ∧ j < 1073741824 then some (.sh (.int (i / j))) else none
  | _, _ => none
def pMod : D → D → Option T
  | .int i, .int j => if 0 < j then some (.sh (.int (i % j))) else none
  | _, _ => none
def pPow : D → D → Option T
  | .int i, .int j => if 0 ≤ j ∧ j ≤ 1000000 ∧ i.natAbs < 2 ^ 64 then some (.sh (.int (i ^ j.toNat))) else none
  | _, _ => none
def pBin : Op2 → D → D → Option T
  | .add => pAdd
  | .sub => pSub
  | .mul => pMul
  | .fdv => pFdv
  | .mod => pMod
  | .pow => pPow
def pI (f : Int → Int → Bool) : D → D → Option Bool
  | .int i, .int j => some (f i j)
  | _, _ => none
def isNon : D → Bool
  | .non => true
  | _ => false
def pIs : D → D → Option Bool
  | a, .non => some (isNon a)
  | .bl a, .bl b => some (decide (a = b))
  | _, _ => none
def getL {α κ : Type} [DecidableEq κ] : List κ → List α → κ → Option α
  | j :: ks, y :: ys, k => if j = k then some y else getL ks ys k
  | _, _, _ => none
def D.ints : List D → Option (List Int)
  | [] => some []
  | .int i :: ds => match D.ints ds with
    | some is => some (i :: is)
    | none => none
  | _ :: _ => none
def dHit (ls : List Key) (js : List Int) : List Key → List Int → Bool
  | k :: ks, i :: is => match getL ls js k with
    | none => false
    | some j => decide (i = j) && dHit ls js ks is
  | _, _ => true
/-- dicts of ints -/
def dkEq : D → D → Option Bool
  | .nd (.dk ks) ds, .nd (.dk ls) es => match D.ints ds, D.ints es with
    | some is, some js => some (decide (ks.length = ls.length) && dHit ls js ks is)
    | _, _ => none
  | _, _ => none
def pEq (a b : D) : Option Bool := match dkEq a b with
  | some r => some r
  | none => eqD a b
def pCmp : Cm → D → D → Option Bool
  | .eq => pEq
  | .ne => fun a b => (pEq a b).map (!·)
  | .lt => pI fun i j => decide (i < j)
  | .le => pI fun i j => decide (i ≤ j)
  | .gt => pI fun i j => decide (j < i)
  | .ge => pI fun i j => decide (j ≤ i)
  | .is_ => pIs
  | .isn => fun a b => (pIs a b).map (!·)
  | .in_ => inD
  | .nin => fun a b => (inD a b).map (!·)
def pTru : D → Option Bool
  | .non => some false
  | .bl b => some b
  | .int i => some (i != 0)
  | .nd .lst ds => some (!ds.isEmpty)
  | .nd .tup ds => some (!ds.isEmpty)
  | .nd .ktp ds => some (!ds.isEmpty)
  | _ => none
inductive B1 where
  | len | abs | int | list | dict | tuple | sorted | neg
inductive B2 where
  | max | min
def insI (i : Int) : List Int → List Int
  | [] => [i]
  | j :: js => if i ≤ j then i :: j :: js else j :: insI i js
def srtI : List Int → List Int
  | [] => []
  | i :: is => insI i (srtI is)
/-- what reads its argument alone -/
def pRd : B1 → D → Option D
  | .len, .nd .lst ds => some (.int ds.length)
  | .len, .nd .tup ds => some (.int ds.length)
  | .len, .nd .ktp ds => some (.int ds.length)
  | .abs, .int i => some (.int (if i < 0 then -i else i))
  | .int, .int i => some (.int i)
  | .int, .bl b => some (.int (if b then 1 else 0))
  | .neg, .int i => some (.int (-i))
  | _, _ => none
/-- what makes an object anew -/
def pMk : B1 → D → Option T
  | .list, .nd .lst ds => some (own .lst ds)
  | .list, .nd .tup ds => some (own .lst ds)
  | .dict, .nd (.dk ks) ds => some (own (.dk ks) ds)
  | .tuple, .nd .lst ds => some (own .tup ds)
  | .sorted, .nd .lst ds => match D.ints ds with
    | some is => some (own .lst ((srtI is).map D.int))
    | none => none
  | _, _ => none
def pB2 : B2 → D → D → Option D
  | .max, .int i, .int j => some (.int (if j > i then j else i))
  | .min, .int i, .int j => some (.int (if j < i then j else i))
  | _, _, _ => none
def putL {α κ : Type} [DecidableEq κ] (ks : List κ) (xs : List α) (k : κ) (x : α) : List κ × List α := match ks, xs with
  | [], _ => ([k], [x])
  | j :: ks, y :: ys => if j = k then (j :: ks, x :: ys) else (j :: (putL ks ys k x).1, y :: (putL ks ys k x).2)
  | j :: ks, [] => (j :: ks, [])
def ixL {κ : Type} [DecidableEq κ] : List κ → κ → Option Nat
  | [], _ => none
  | j :: ks, k => if j = k then some 0 else (ixL ks k).map (· + 1)
/-! ### terms -/
inductive PSt where
  | ix (n : Nat) | last | fd (c j : Nat)
inductive TyC where
  | int | bool | str | list | tuple | dict | cls (c : Nat)
mutual
inductive CG where
  | nm (i : Nat) | tp (gs : CGs)
inductive CGs where
  | nil | cons (g : CG) (r : CGs)
end
mutual
inductive CE where
  | lit (d : D) | glb (j : Nat) | var (i : Nat) | mv (i : Nat) | fz (c : CE)
  | tup (cs : CEs) | lst (cs : CEs) | dnl (t : Bool) | dct (ps : CPs)
  | op2 (o : Op2) (a b : CO) | b1 (f : B1) (a : CO) | mk (f : B1) (a : CO) | b2 (f : B2) (a b : CO) | isi (a : CO) (ts : TyC)
  | cmp (o : Cm) (a b : CO) | chn (o o' : Cm) (a b c : CO) | andE (a b : CE) | orE (a b : CE) | notE (a : CO) | ite (t : CT) (a b : CE)
  | idx (a b : CO) | didx (a b : CO) | slc (a : CO) (lo hi : CP) | rev (a : CO) | fld (c j : Nat) (a : CO)
  | dget (a k d : CO) | pget (i : Nat) (p : List PSt) (k d : CO) | pop (i : Nat) (p : List PSt) | din (neg : Bool) (k d : CO)
  | ocmp (cj : List (Nat × Nat)) (a b : CO) | ogi (cj : List (Nat × Nat)) (a k : CO) | clsm (c j : Nat) (as : COs) | insm (cj : List (Nat × Nat)) (a : CO) (as : COs) | mkv (i c j : Nat) (as : COs)
  | call (j : Nat) (as : COs) | meth (cj : List (Nat × Nat)) (a : CO) (as : COs) | make (c j : Nat) (as : COs) | prop (cj : List (Nat × Nat)) (a : CO)
  | lrng (a : CE)
  | lc (own : List Nat) (g : CG) (it : CI) (t : CTs) (c : CE) | dc (ty : Bool) (own : List Nat) (g : CG) (it : CI) (t : CTs) (k v : CE)
inductive CEs where
  | nil | cons (c : CE) (r : CEs)
inductive CPs where
  | nil | cons (k v : CE) (r : CPs)
inductive CP where
  | no | so (c : CE)
inductive CO where
  | e (c : CE) | v (i : Nat)
inductive COs where
  | nil | cons (a : CO) (r : COs)
inductive CT where
  | val (c : CO) | cmp (o : Cm) (a b : CO) | chn (o o' : Cm) (a b c : CO) | din (neg : Bool) (k d : CO) | andT (a b : CT) | orT (a b : CT) | notT (a : CT)
inductive CTs where
  | nil | cons (t : CT) (r : CTs)
inductive CI where
  | lst (c : CE) | tup (c : CE) | scr (i : Nat) | rng1 (a : CE) | rng2 (a b : CE) | rng3 (a b c : CE) | enm (c : CE) | keys (c : CE)
end
mutual
inductive CS where
  | asg (g : CG) (c : CE) | exp (c : CE) | ifS (t : CT) (a b : CB) | forS (g : CG) (it : CI) (b : CB) | whl (n : Nat) (t : CT) (b : CB)
  | retS (c : CE) | retN | brk | pas | nev
  | app (i : Nat) (c : CE) | ext (i : Nat) (c : CO) | seti (i : Nat) (k c : CE) | setd (i : Nat) (k c : CE) | setf (i c j : Nat) (e : CE) | rvs (i : Nat) | ins (i : Nat) (k c : CE)
  | papp (i : Nat) (p : List PSt) (c : CE) | pset (i : Nat) (p : List PSt) (k c : CE) | psetd (i : Nat) (p : List PSt) (k c : CE) | sdapp (i : Nat) (k c : CE)
  | aug (i : Nat) (o : Op2) (c : CE)
inductive CB where
  | nil | cons (s : CS) (r : CB) | al (r i : Nat) (a b k c : CE) (rest : CB)
end
/-! ### what they compute -/
/-- an operand: a value, or a slot as it stands when it is used -/
inductive OV where
  | t (x : T) | s (i : Nat)
def OV.get (o : OV) (e : En) : Option T := match o with
  | .t x => some x
  | .s i => e[i]?
def OV.rd (o : OV) (e : En) : Option D := (o.get e).bind T.rd
def OV.sd (o : OV) (e : En) : Option D := (o.get e).bind T.sd
def frz (t : T) : M T := lift fun _ => t.rd.map T.sh
/-- a slot's value, shared from now on -/
def rdVar (i : Nat) : M T := fun e => match (e[i]?).bind T.rd with
  | some d => some (.ok (.sh d), e.set i (.sh d))
  | none => none
def mvVar (i : Nat) : M T := fun e => match e[i]? with
  | some (.sh d) => some (.ok (.sh d), e)
  | some (.ow k ts) => some (.ok (.ow k ts), e.set i .un)
  | _ => none
/-- a child of an operand: shared from now on, where it stands -/
def kid (o : OV) (sel : Kd → Nat → Option Nat) : M T := fun e => match o.get e with
  | some (.sh (.nd k ds)) => match sel k ds.length with
    | some n => match ds[n]? with
      | some d => some (.ok (.sh d), e)
      | none => none
    | none => none
  | some (.ow k ts) => match sel k ts.length with
    | some n => match (ts[n]?).bind T.rd with
      | some d => match o with
        | OV.t _ => some (.ok (.sh d), e)
        | OV.s i => some (.ok (.sh d), e.set i (.ow k (ts.set n (.sh d))))
      | none => none
    | none => none
  | _ => none
def ixSel (i : Int) : Kd → Nat → Option Nat := fun k n => match k with
  | .lst => ixN n i
  | .tup => ixN n i
  | .ktp => ixN n i
  | _ => none
def fdSel (c j : Nat) : Kd → Nat → Option Nat := fun k n => match k with
  | .ins c' => if c' = c ∧ j < n then some j else none
  | _ => none
def dkSel (d : D) : Kd → Nat → Option Nat := fun k n => match k with
  | .dk ks => match d.key with
    | some x => ixL ks x
    | none => none
  | .dt ks => match d.keyT with
    | some x => ixL ks x
    | none => none
  | _ => none
def isDk : Option T → Option Unit
  | some (.sh (.nd (.dk _) _)) => some ()
  | some (.sh (.nd (.dt _) _)) => some ()
  | some (.ow (.dk _) _) => some ()
  | some (.ow (.dt _) _) => some ()
  | _ => none
def getK (d kd : D) : Option (Option D) := match d with
  | .nd (.dk ks) ds => kd.key.map fun key => getL ks ds key
  | .nd (.dt ks) ds => kd.keyT.map fun key => getL ks ds key
  | _ => none
/-- operands lent to a call -/
def lend : List OV → En → Option (List T × En)
  | [], e => some ([], e)
  | .t x :: r, e => match lend r e with
    | some (ts, e') => some (x :: ts, e')
    | none => none
  | .s i :: r, e => match e[i]? with
    | some .un => none
    | some t => match lend r (e.set i .un) with
      | some (ts, e') => some (t :: ts, e')
      | none => none
    | none => none
def back : List OV → List T → En → En
  | OV.s i :: r, t :: ts, e => back r ts (e.set i t)
  | OV.t _ :: r, _ :: ts, e => back r ts e
  | _, _, e => e
def callF (f : FnS) (os : List OV) : M T := fun e => match lend os e with
  | some (ts, e1) => match f ts with
    | some (.ret t, ts') => some (.ok t, back os ts' e1)
    | some (.exc c ds, ts') => some (.exc c ds, back os ts' e1)
    | none => none
  | none => none
/-- a new instance and its __init__ -/
def makeF (c : Nat) (f : FnS) (os : List OV) : M T := fun e => match lend os e with
  | some (ts, e1) => match f (.ow (.ins c) [] :: ts) with
    | some (.ret (.sh .non), t :: ts') => some (.ok t, back os ts' e1)
    | some (.exc c' ds, _ :: ts') => some (.exc c' ds, back os ts' e1)
    | _ => none
  | none => none
def clsOf (t : T) : Option Nat := match t with
  | .sh (.nd (.ins c) _) => some c
  | .ow (.ins c) _ => some c
  | _ => none
def pick (cj : List (Nat × Nat)) (o : OV) (e : En) : Option Nat := match o.get e with
  | some t => match clsOf t with
    | some c => cj.lookup c
    | none => none
  | none => none
def clsO (o : OV) (e : En) : Option Nat := (o.get e).bind clsOf
/-- an instance with attributes -/
def isIns (o : OV) (e : En) : Bool := match o.get e with
  | some (.sh (.nd (.ins _) (_ :: _))) => true
  | some (.ow (.ins _) (_ :: _)) => true
  | _ => false
def noExc (m : M T) : M T := fun e => match m e with
  | some (.ok t, e') => some (.ok t, e')
  | _ => none
/-- the subtree at a path -/
def T.at_ : T → List PSt → Option T
  | t, [] => some t
  | .ow .lst ts, .ix n :: p => match ts[n]? with
    | some t => t.at_ p
    | none => none
  | .ow .lst ts, .last :: p => match ts[ts.length - 1]? with
    | some t => t.at_ p
    | none => none
  | .ow (.ins c') ts, .fd c j :: p => if c' = c then match ts[j]? with
    | some t => t.at_ p
    | none => none
    else none
  | _, _ => none
def T.set_ : T → List PSt → T → T
  | _, [], u => u
  | .ow .lst ts, .ix n :: p, u => match ts[n]? with
    | some t => .ow .lst (ts.set n (t.set_ p u))
    | none => .ow .lst ts
  | .ow .lst ts, .last :: p, u => match ts[ts.length - 1]? with
    | some t => .ow .lst (ts.set (ts.length - 1) (t.set_ p u))
    | none => .ow .lst ts
  | .ow (.ins c) ts, .fd _ j :: p, u => match ts[j]? with
    | some t => .ow (.ins c) (ts.set j (t.set_ p u))
    | none => .ow (.ins c) ts
  | t, _, _ => t
def setF (i c j : Nat) (t : T) (e : En) : Option En := match e[i]? with
    | some (.ow (.ins c') ts) => if c' = c ∧ j < ts.length then some (e.set i (.ow (.ins c) (ts.set j t))) else if c' = c ∧ j = ts.length then some (e.set i (.ow (.ins c) (ts ++ [t]))) else none
    | _ => none
mutual
def gset : CG → T → En → Option En
  | .tp gs, t, e => match t with
    | .sh (.nd .tup ds) => gsets gs (ds.map .sh) e
    | .sh (.nd .ktp ds) => gsets gs (ds.map .sh) e
    | .ow .tup ts => gsets gs ts e
    | _ => none
  | .nm i, t, e => if i < e.length then some (e.set i t) else none
def gsets : CGs → List T → En → Option En
  | .nil, [], e => some e
  | .cons g r, t :: ts, e => match gset g t e with
    | some e' => gsets r ts e'
    | none => none
  | _, _, _ => none
end
/-- the types of data -/
inductive TyD where
  | non | bool | int | str | list | tuple | dict | cls (c : Nat)
def dTy : D → Option TyD
  | .non => some .non
  | .bl _ => some .bool
  | .int _ => some .int
  | .str _ => some .str
  | .nd .lst _ => some .list
  | .nd .tup _ => some .tuple
  | .nd (.dk _) _ => some .dict
  | .nd (.ins c) ds => if ds.isEmpty = true then none else some (.cls c)
  | _ => none
def tyLe : TyD → TyC → Bool
  | .bool, .int => true
  | .bool, .bool => true
  | .int, .int => true
  | .str, .str => true
  | .list, .list => true
  | .tuple, .tuple => true
  | .dict, .dict => true
  | .cls c, .cls c' => c == c'
  | _, _ => false
def isTy (d : D) (t : TyC) : Option Bool := (dTy d).map fun y => tyLe y t
/-- the turns of a comprehension: own slots are wiped before each -/
def wipeE : List Nat → En → En
  | [], e => e
  | i :: r, e => (wipeE r e).set i .un
def lcLoop (own : List Nat) (g : CG) (t : M Bool) (c : M T) : List D → List T → En → Option (List T × En)
  | [], acc, e => some (acc, e)
  | d :: ds, acc, e => match gset g (.sh d) e with
    | some e1 => match t e1 with
      | some (.ok true, e2) => match c e2 with
        | some (.ok x, e3) => if acc.length < sizeLine then lcLoop own g t c ds (acc ++ [x]) (wipeE own e3) else none
        | _ => none
      | some (.ok false, e2) => lcLoop own g t c ds acc (wipeE own e2)
      | _ => none
    | none => none
def dcLoop (own : List Nat) (g : CG) (t : M Bool) (k v : M T) : List D → List Key → List T → En → Option (List Key × List T × En)
  | [], ks, acc, e => some (ks, acc, e)
  | d :: ds, ks, acc, e => match gset g (.sh d) e with
    | some e1 => match t e1 with
      | some (.ok true, e2) => match k e2 with
        | some (.ok (.sh kd), e3) => match v e3 with
          | some (.ok x, e4) => match kd.key with
            | some key => if ks.length < sizeLine then dcLoop own g t k v ds (putL ks acc key x).1 (putL ks acc key x).2 (wipeE own e4) else none
            | none => none
          | _ => none
        | _ => none
      | some (.ok false, e2) => dcLoop own g t k v ds ks acc (wipeE own e2)
      | _ => none
    | none => none
def kD : Key → D := fun k => match k with
  | .inl i => .int i
  | .inr s => .str s
def rngD (lo : Int) (n : Nat) : List D := (List.range n).map fun (i : Nat) => .int (lo + (i : Int))
def rngC (lo c : Int) (n : Nat) : List D := (List.range n).map fun (i : Nat) => .int (lo + (i : Int) * c)
def enmD (ds : List D) : List D := ds.zipIdx.map fun (d, i) => .nd .tup [.int (i : Int), d]
def okRng (a : Int) : Bool := decide (-(2 ^ 62) ≤ a ∧ a < 2 ^ 62)
/-- arguments of a def's context: the callees, the constants -/
structure Ctx where
  fs : List FnS
  gs : List D
mutual
def evE (X : Ctx) : CE → M T
  | .lit d => ret (.sh d)
  | .glb j => lift fun _ => (X.gs[j]?).map T.sh
  | .var i => rdVar i
  | .mv i => mvVar i
  | .fz c => bd (evE X c) frz
  | .tup cs => bd (evEs X cs) fun ts => lift fun _ => if ts.length ≤ sizeLine then some (.ow .tup ts) else none
  | .lst cs => bd (evEs X cs) fun ts => lift fun _ => if ts.length ≤ sizeLine then some (.ow .lst ts) else none
  | .dnl t => ret (.ow (if t then .dt [] else .dk []) [])
  | .dct ps => bd (evPs X ps) fun p => lift fun _ => if p.1.length ≤ 15 ∧ p.1 ≠ [] ∧ p.1.Nodup then some (.ow (.dk p.1) p.2) else none
  | .op2 o a b => bd (evO X a) fun x => bd (evO X b) fun y => lift fun e => (x.sd e).bind fun d => (y.sd e).bind fun d' => pBin o d d'
  | .b1 f a => bd (evO X a) fun x => lift fun e => ((x.rd e).bind fun d => pRd f d).map T.sh
  | .mk f a => bd (evO X a) fun x => lift fun e => (x.sd e).bind fun d => pMk f d
  | .b2 f a b => bd (evO X a) fun x => bd (evO X b) fun y => lift fun e => ((x.rd e).bind fun d => (y.rd e).bind fun d' => pB2 f d d').map T.sh
  | .isi a ts => bd (evO X a) fun x => lift fun e => ((x.rd e).bind fun d => isTy d ts).map fun b => .sh (.bl b)
  | .cmp o a b => bd (evO X a) fun x => bd (evO X b) fun y => lift fun e => ((x.rd e).bind fun d => (y.rd e).bind fun d' => pCmp o d d').map fun b => .sh (.bl b)
  | .chn o o' a b c => bd (evO X a) fun x => bd (evO X b) fun y => bd (lift fun e => (x.rd e).bind fun d => (y.rd e).bind fun d' => pCmp o d d') fun r =>
      if r = true then bd (evO X c) fun z => lift fun e => ((y.rd e).bind fun d => (z.rd e).bind fun d' => pCmp o' d d').map fun b => .sh (.bl b) else ret (.sh (.bl false))
  | .andE a b => bd (evE X a) fun x => match x with
    | .sh (.bl true) => evE X b
    | .sh (.bl false) => ret (.sh (.bl false))
    | _ => fun _ => none
  | .orE a b => bd (evE X a) fun x => match x with
    | .sh (.bl true) => ret (.sh (.bl true))
    | .sh (.bl false) => evE X b
    | _ => fun _ => none
  | .notE a => bd (evO X a) fun x => lift fun e => ((x.rd e).bind pTru).map fun b => .sh (.bl (!b))
  | .ite t a b => bd (evT X t) fun r => if r = true then evE X a else evE X b
  | .idx a b => bd (evO X a) fun x => bd (evO X b) fun y => fun e => match y.rd e with
    | some (.int i) => kid x (ixSel i) e
    | _ => none
  | .didx a b => bd (evO X a) fun x => bd (evO X b) fun y => fun e => match y.rd e with
    | some d => kid x (dkSel d) e
    | none => none
  | .slc a lo hi => bd (evO X a) fun x => bd (evP X lo) fun l => bd (evP X hi) fun h => lift fun e => match x.sd e with
    | some (.nd .lst ds) => some (own .lst ((ds.drop (HT.sIx ds.length 0 l)).take (HT.sIx ds.length ds.length h - HT.sIx ds.length 0 l)))
    | _ => none
  | .rev a => bd (evO X a) fun x => lift fun e => match x.sd e with
    | some (.nd .lst ds) => some (own .lst ds.reverse)
    | _ => none
  | .fld c j a => bd (evO X a) fun x => kid x (fdSel c j)
  | .dget a k d => bd (evO X a) fun x => bd (lift fun e => isDk (x.get e)) fun _ => bd (evO X k) fun y => bd (evO X d) fun z => lift fun e => match z with
    | .t (.sh dd) => (x.sd e).bind fun d => (y.rd e).bind fun kd => (getK d kd).map fun r => .sh (r.getD dd)
    | _ => none
  | .pget i p k d => fun e => match (e[i]?) with
    | some t => match t.at_ p with
      | some (.ow (.dk ks) ts) => bd (evO X k) (fun y => bd (evO X d) fun z e' => match z, y.rd e' with
        | .t (.sh dd), some kd => match kd.key with
          | some key => match getL ks ts key with
            | some (.sh d) => some (.ok (.sh d), e'.set i t)
            | some _ => none
            | none => some (.ok (.sh dd), e'.set i t)
          | none => none
        | _, _ => none) (e.set i .un)
      | _ => none
    | none => none
  | .pop i p => fun e => match e[i]? with
    | some t => match t.at_ p with
      | some (.ow .lst ts) => match ts[ts.length - 1]? with
        | some x => some (.ok x, e.set i (t.set_ p (.ow .lst ts.dropLast)))
        | none => none
      | _ => none
    | none => none
  | .din neg k d => bd (evO X k) fun y => bd (evO X d) fun x => lift fun e => (y.rd e).bind fun kd => (x.rd e).bind fun d => (getK d kd).map fun r => .sh (.bl (if neg then !r.isSome else r.isSome))
  | .ocmp cj a b => bd (evO X a) fun x => bd (evO X b) fun y => fun e => match pick cj x e, isIns x e && isIns y e with
    | some j, true => match X.fs[j]? with
      | some f => noExc (callF f [x, y]) e
      | none => none
    | _, _ => none
  | .ogi cj a k => bd (evO X a) fun x => bd (evO X k) fun y => fun e => match pick cj x e with
    | some j => match X.fs[j]? with
      | some f => noExc (callF f [x, y]) e
      | none => none
    | none => none
  | .clsm c j as => bd (evOs X as) fun os => match X.fs[j]? with
    | some f => callF f (.t (.sh (.cl c)) :: os)
    | none => fun _ => none
  | .insm cj a as => bd (evO X a) fun x => fun e => match pick cj x e with
    | some j => bd (evOs X as) (fun os e => if pick cj x e = some j then match X.fs[j]?, clsO x e with
      | some f, some c => callF f (.t (.sh (.cl c)) :: os) e
      | _, _ => none else none) e
    | none => none
  | .mkv i c j as => fun e => match e[i]? with
    | some (.sh (.cl c')) => if c' = c then bd (evOs X as) (fun os => match X.fs[j]? with
      | some f => makeF c f os
      | none => fun _ => none) e else none
    | _ => none
  | .call j as => bd (evOs X as) fun os => match X.fs[j]? with
    | some f => callF f os
    | none => fun _ => none
  | .meth cj a as => bd (evO X a) fun x => fun e => match pick cj x e with
    | some j => bd (evOs X as) (fun os e => if pick cj x e = some j then match X.fs[j]? with
      | some f => callF f (x :: os) e
      | none => none else none) e
    | none => none
  | .make c j as => bd (evOs X as) fun os => match X.fs[j]? with
    | some f => makeF c f os
    | none => fun _ => none
  | .prop cj a => bd (evO X a) fun x => fun e => match pick cj x e with
    | some j => match X.fs[j]? with
      | some f => match callF f [x] e with
        | some (.ok t, e') => some (.ok t, e')
        | _ => none
      | none => none
    | none => none
  | .lrng a => bd (evE X a) fun x => lift fun _ => match x with
    | .sh (.int n) => if okRng n = true ∧ n.toNat ≤ sizeLine then some (own .lst (rngD 0 n.toNat)) else none
    | _ => none
  | .lc own g it t c => bd (evI X it) fun ds e => match lcLoop own g (evTs X t) (evE X c) ds [] (wipeE own e) with
    | some (ts, e') => some (.ok (.ow .lst ts), e')
    | none => none
  | .dc _ own g it t k v => bd (evI X it) fun ds e => match dcLoop own g (evTs X t) (evE X k) (evE X v) ds [] [] (wipeE own e) with
    | some (ks, ts, e') => some (.ok (.ow (.dk ks) ts), e')
    | none => none
def evEs (X : Ctx) : CEs → M (List T)
  | .nil => ret []
  | .cons c r => bd (evE X c) fun t => bd (evEs X r) fun ts => ret (t :: ts)
def evPs (X : Ctx) : CPs → M (List Key × List T)
  | .nil => ret ([], [])
  | .cons k v r => bd (evE X k) fun kt => bd (evE X v) fun t => bd (evPs X r) fun p => lift fun _ => match kt with
    | .sh d => match d.key with
      | some key => some (key :: p.1, t :: p.2)
      | none => none
    | _ => none
def evP (X : Ctx) : CP → M (Option Int)
  | .no => ret none
  | .so c => bd (evE X c) fun t => lift fun _ => match t with
    | .sh (.int i) => some (some i)
    | _ => none
def evO (X : Ctx) : CO → M OV
  | .e c => bd (evE X c) fun t => ret (.t t)
  | .v i => lift fun e => match e[i]? with
    | some .un => none
    | some _ => some (.s i)
    | none => none
def evOs (X : Ctx) : COs → M (List OV)
  | .nil => ret []
  | .cons a r => bd (evO X a) fun o => bd (evOs X r) fun os => ret (o :: os)
def evT (X : Ctx) : CT → M Bool
  | .val c => bd (evO X c) fun x => lift fun e => (x.rd e).bind pTru
  | .cmp o a b => bd (evO X a) fun x => bd (evO X b) fun y => lift fun e => (x.rd e).bind fun d => (y.rd e).bind fun d' => pCmp o d d'
  | .chn o o' a b c => bd (evO X a) fun x => bd (evO X b) fun y => bd (lift fun e => (x.rd e).bind fun d => (y.rd e).bind fun d' => pCmp o d d') fun r =>
      if r = true then bd (evO X c) fun z => lift fun e => (y.rd e).bind fun d => (z.rd e).bind fun d' => pCmp o' d d' else ret false
  | .din neg k d => bd (evO X k) fun y => bd (evO X d) fun x => lift fun e => (y.rd e).bind fun kd => (x.rd e).bind fun d => (getK d kd).map fun r => if neg then !r.isSome else r.isSome
  | .andT a b => bd (evT X a) fun r => if r = true then evT X b else ret false
  | .orT a b => bd (evT X a) fun r => if r = true then ret true else evT X b
  | .notT a => bd (evT X a) fun r => ret (!r)
def evTs (X : Ctx) : CTs → M Bool
  | .nil => ret true
  | .cons t r => bd (evT X t) fun b => if b = true then evTs X r else ret false
def evI (X : Ctx) : CI → M (List D)
  | .lst c => bd (evE X c) fun t => lift fun _ => match t.rd with
    | some (.nd .lst ds) => some ds
    | _ => none
  | .tup c => bd (evE X c) fun t => lift fun _ => match t.rd with
    | some (.nd .tup ds) => some ds
    | some (.nd .ktp ds) => some ds
    | _ => none
  | .scr i => lift fun e => match e[i]? with
    | some (.sh (.nd .scr ds)) => some ds
    | _ => none
  | .rng1 a => bd (evE X a) fun t => lift fun _ => match t with
    | .sh (.int n) => if okRng n = true then some (rngD 0 n.toNat) else none
    | _ => none
  | .rng2 a b => bd (evE X a) fun t => bd (evE X b) fun u => lift fun _ => match t, u with
    | .sh (.int lo), .sh (.int hi) => if okRng lo = true ∧ okRng hi = true then some (rngD lo (hi - lo).toNat) else none
    | _, _ => none
  | .rng3 a b c => bd (evE X a) fun t => bd (evE X b) fun u => bd (evE X c) fun w => lift fun _ => match t, u, w with
    | .sh (.int lo), .sh (.int hi), .sh (.int st) => if 0 < st ∧ st < 1073741824 ∧ Builtin.Range.small lo hi st = true ∧ 0 ≤ Builtin.Range.rangeSize lo hi st then some (rngC lo st (Builtin.Range.rangeSize lo hi st).toNat) else none
    | _, _, _ => none
  | .enm c => bd (evE X c) fun t => lift fun _ => match t.rd with
    | some (.nd .lst ds) => some (enmD ds)
    | _ => none
  | .keys c => bd (evE X c) fun t => lift fun _ => match t.rd with
    | some (.nd (.dk ks) ds) => some (ks.map kD)
    | _ => none
end
inductive Fl where
  | nx | bk | ct | ret (t : T) | exc (c : Nat) (ds : List D)
abbrev MS := En → Option (Fl × En)
def bdS {α : Type} (m : M α) (f : α → MS) : MS := fun e => match m e with
  | some (.ok a, e') => f a e'
  | some (.exc c ds, e') => some (.exc c ds, e')
  | none => none
def sq (m n : MS) : MS := fun e => match m e with
  | some (.nx, e') => n e'
  | r => r
def forL (g : CG) (b : MS) : List D → MS
  | [], e => some (.nx, e)
  | d :: ds, e => match gset g (.sh d) e with
    | some e1 => match b e1 with
      | some (.nx, e2) => forL g b ds e2
      | some (.ct, e2) => forL g b ds e2
      | some (.bk, e2) => some (.nx, e2)
      | r => r
    | none => none
def whlL (t : M Bool) (b : MS) : Nat → MS
  | 0, _ => none
  | n + 1, e => match t e with
    | some (.ok true, e1) => match b e1 with
      | some (.nx, e2) => whlL t b n e2
      | some (.ct, e2) => whlL t b n e2
      | some (.bk, e2) => some (.nx, e2)
      | r => r
    | some (.ok false, e1) => some (.nx, e1)
    | some (.exc c ds, e1) => some (.exc c ds, e1)
    | none => none
def upS (f : En → Option En) : MS := fun e => match f e with
  | some e' => some (.nx, e')
  | none => none
/-- a slot holds a list that is owned -/
def gdS (i : Nat) (m : MS) : MS := fun e => match e[i]? with
  | some (.ow .lst _) => m e
  | _ => none
/-- a slot holds something that is owned -/
def gdT (i : Nat) (m : MS) : MS := fun e => match e[i]? with
  | some (.ow _ _) => m e
  | _ => none
/-- r = i[a][b]; r[k] = c: a row of a table that is owned -/
def alM (r i : Nat) (a b k c : M T) : MS := gdS i <| bdS a fun x e => match e[i]?, x with
  | some (.ow .lst ts), .sh (.int xi) => match ixN ts.length xi with
    | some n => match ts[n]? with
      | some (.ow .lst us) => bdS b (fun y e2 => match y with
        | .sh (.int yi) => match ixN us.length yi with
          | some m => match us[m]? with
            | some (.ow .lst ws) => if r ≠ i ∧ r < e2.length then bdS c (fun z => bdS k fun w => upS fun e3 => match w with
              | .sh (.int j) => match ixN ws.length j with
                | some q => some (e3.set i (.ow .lst (ts.set n (.ow .lst (us.set m (.ow .lst (ws.set q z)))))))
                | none => none
              | _ => none) (e2.set r .un) else none
            | _ => none
          | none => none
        | _ => none) (e.set i .un)
      | _ => none
    | none => none
  | _, _ => none
mutual
def evS (X : Ctx) : CS → MS
  | .asg g c => bdS (evE X c) fun t => upS (gset g t)
  | .exp c => bdS (evE X c) fun _ => upS some
  | .ifS t a b => bdS (evT X t) fun r => if r = true then evB X a else evB X b
  | .forS g it b => bdS (evI X it) fun ds => forL g (evB X b) ds
  | .whl n t b => whlL (evT X t) (evB X b) n
  | .retS c => bdS (evE X c) fun t e => some (.ret t, e)
  | .retN => fun e => some (.ret (.sh .non), e)
  | .brk => fun e => some (.bk, e)
  | .pas => fun e => some (.nx, e)
  | .nev => fun _ => none
  | .app i c => gdS i <| bdS (evE X c) fun x => upS fun e => match e[i]? with
    | some (.ow .lst ts) => if ts.length < sizeLine then some (e.set i (.ow .lst (ts ++ [x]))) else none
    | _ => none
  | .ext i c => gdS i <| bdS (evO X c) fun x => upS fun e => match e[i]?, x.sd e with
    | some (.ow .lst ts), some (.nd .lst ds) => if ts.length + ds.length ≤ sizeLine then some (e.set i (.ow .lst (ts ++ ds.map .sh))) else none
    | _, _ => none
  | .seti i k c => bdS (evE X c) fun x => gdT i <| bdS (evE X k) fun y => upS fun e => match e[i]?, y with
    | some (.ow .lst ts), .sh (.int j) => match ixN ts.length j with
      | some n => some (e.set i (.ow .lst (ts.set n x)))
      | none => none
    | _, _ => none
  | .setd i k c => bdS (evE X c) fun x => gdT i <| bdS (evE X k) fun y => upS fun e => match e[i]?, y with
    | some (.ow (.dk ks) ts), .sh d => match d.key with
      | some key => if ks.length < sizeLine ∧ ks.Nodup then some (e.set i (.ow (.dk (putL ks ts key x).1) (putL ks ts key x).2)) else none
      | none => none
    | some (.ow (.dt ks) ts), .sh d => match d.keyT with
      | some key => if ks.length < sizeLine ∧ ks.Nodup then some (e.set i (.ow (.dt (putL ks ts key x).1) (putL ks ts key x).2)) else none
      | none => none
    | _, _ => none
  | .setf i c j x => bdS (evE X x) fun t => upS (setF i c j t)
  | .rvs i => upS fun e => match e[i]? with
    | some (.ow .lst ts) => some (e.set i (.ow .lst ts.reverse))
    | _ => none
  | .ins i k c => gdS i <| bdS (evE X k) fun y => bdS (evE X c) fun x => upS fun e => match e[i]?, y with
    | some (.ow .lst ts), .sh (.int j) => if ts.length < sizeLine ∧ 0 ≤ j ∧ j < 2 ^ 63 then some (e.set i (.ow .lst (ts.take j.toNat ++ [x] ++ ts.drop j.toNat))) else none
    | _, _ => none
  | .papp i p c => fun e => match e[i]? with
    | some t => match t.at_ p with
      | some (.ow .lst ts) => bdS (evE X c) (fun x => upS fun e2 => if ts.length < sizeLine then some (e2.set i (t.set_ p (.ow .lst (ts ++ [x])))) else none) (e.set i .un)
      | _ => none
    | none => none
  | .pset i p k c => bdS (evE X c) fun x e => match e[i]? with
    | some t => match t.at_ p with
      | some (.ow .lst ts) => bdS (evE X k) (fun y => upS fun e2 => match y with
        | .sh (.int j) => match ixN ts.length j with
          | some n => some (e2.set i (t.set_ p (.ow .lst (ts.set n x))))
          | none => none
        | _ => none) (e.set i .un)
      | _ => none
    | none => none
  | .psetd i p k c => bdS (evE X c) fun x e => match e[i]? with
    | some t => match t.at_ p with
      | some (.ow (.dk ks) ts) => bdS (evE X k) (fun y => upS fun e2 => match y with
        | .sh d => match d.key with
          | some key => if ks.length < sizeLine ∧ ks.Nodup then some (e2.set i (t.set_ p (.ow (.dk (putL ks ts key x).1) (putL ks ts key x).2))) else none
          | none => none
        | _ => none) (e.set i .un)
      | _ => none
    | none => none
  | .sdapp i k c => bdS (evE X k) fun y => fun e => match e[i]?, y with
    | some (.ow (.dk ks) ts), .sh d => match d.key with
      | some key => bdS (evE X c) (fun x => upS fun e2 => match getL ks ts key with
        | some (.ow .lst xs) => if xs.length < sizeLine ∧ ks.length < sizeLine then some (e2.set i (.ow (.dk ks) (putL ks ts key (.ow .lst (xs ++ [x]))).2)) else none
        | some _ => none
        | none => if ks.length < sizeLine then some (e2.set i (.ow (.dk (putL ks ts key (.ow .lst [x])).1) (putL ks ts key (.ow .lst [x])).2)) else none) (e.set i .un)
      | none => none
    | _, _ => none
  | .aug i o c => bdS (evE X c) fun x => upS fun e => match e[i]?, x with
    | some (.sh d), .sh d' => match pBin o d d' with
      | some (.sh r) => some (e.set i (.sh r))
      | _ => none
    | _, _ => none
def evB (X : Ctx) : CB → MS
  | .nil => fun e => some (.nx, e)
  | .cons s r => sq (evS X s) (evB X r)
  | .al r i a b k c rest => sq (alM r i (evE X a) (evE X b) (evE X k) (evE X c)) (evB X rest)
end
/-- a def: n slots, np parameters, the slots that are assigned, the body -/
structure CDef where
  n : Nat
  np : Nat
  asn : List Nat
  body : CB
def shOr : T → T
  | .sh d => .sh d
  | _ => .un
/-- what comes back of the parameters -/
def backP (asn : List Nat) : Nat → List T → En → List T
  | _, [], _ => []
  | i, t :: ts, e => (if asn.contains i = true then shOr t else (e[i]?).getD .un) :: backP asn (i + 1) ts e
def evD (X : Ctx) (c : CDef) : FnS := fun ts => if ts.length = c.np then match evB X c.body (ts ++ List.replicate (c.n - c.np) .un) with
    | some (.nx, e) => some (.ret (.sh .non), backP c.asn 0 ts e)
    | some (.ret t, e) => some (.ret t, backP c.asn 0 ts e)
    | some (.exc k ds, e) => some (.exc k ds, backP c.asn 0 ts e)
    | _ => none
  else none
end BC
set_option Elab.async false
set_option linter.all false
set_option maxRecDepth 100000
set_option maxHeartbeats 4000000
/-! Readings of Core terms, and how they compose. -/
namespace BC
open PySem PySem.Spec PyProof.Rows L2
/-- an exception of class c with the fields ds, in the air: its own dict is ours -/
def XOwn (Γ : Gm) (K : PySem.W.Frag) (σ : St) (env : En) (G : List VT) (c : Nat) (ds : List D) (d : Option Addr) (H Hs : Hp) : Prop :=
  (Γ.fl c = [] ∧ ds = [] ∧ d = none ∧ OwnS Γ K σ env G H Hs) ∨
    ∃ a ws, d = some a ∧ ws.length = (Γ.fl c).length ∧ Γ.fl c ≠ [] ∧ Reps Γ K Hs ws ds ∧ OwnS Γ K σ env ((.ref a, .ce (.xd ((Γ.fl c).zip ws))) :: G) H Hs
section
variable (Γ : Gm) (K : PySem.W.Frag) (W : WX)
/-- what is wanted behind a computation -/
def End {α β : Type} (ent : β → α → List VT) (side : St → β → α → Prop) (σ : St) (env : En) (G : List VT) (Q : β → Hp → Prop) : Ex α → Prop
  | .ok a => ∀ H Hs v, side σ v a → OwnS Γ K σ env (ent v a ++ G) H Hs → Q v H
  | .exc c ds => ∀ H Hs d, XOwn Γ K σ env G c ds d H Hs → W (.ref (Γ.cad c)) d σ H
/-- the reading of a computation, tmp held meanwhile -/
def rdt {α β : Type} (ent : β → α → List VT) (side : St → β → α → Prop) (tmp : List VT) (m : M α) (σ : St) (H : Hp) (Q : β → Hp → Prop) : Prop :=
  ∃ Hs env G r env', OwnS Γ K σ env (tmp ++ G) H Hs ∧ m env = some (r, env') ∧ End Γ K W ent side σ env' G Q r
def entT : V → T → List VT := fun v t => [(v, t)]
def noSide {α β : Type} : St → β → α → Prop := fun _ _ _ => True
def entO : V → OV → List VT := fun v o => match o with
  | .t t => [(v, t)]
  | .s _ => []
def sideO : St → V → OV → Prop := fun σ v o => match o with
  | .t _ => True
  | .s i => σ[i]? = some (some v)
def entTs : List V → List T → List VT := fun vs ts => vs.zip ts
def sideTs : St → List V → List T → Prop := fun _ vs ts => vs.length = ts.length
def entOs : List V → List OV → List VT
  | v :: vs, o :: os => entO v o ++ entOs vs os
  | _, _ => []
def sideOs : St → List V → List OV → Prop
  | σ, v :: vs, o :: os => sideO σ v o ∧ sideOs σ vs os
  | _, [], [] => True
  | _, _, _ => False
def entN {α β : Type} : β → α → List VT := fun _ _ => []
def sideB : St → Bool → Bool → Prop := fun _ b b' => b = b'
abbrev tE (m : M T) : TE := fun σ H Q => rdt Γ K W entT noSide [] m σ H Q
abbrev tO (m : M OV) : TE := fun σ H Q => rdt Γ K W entO sideO [] m σ H Q
abbrev tEs (m : M (List T)) : TA := fun σ H Q => rdt Γ K W entTs sideTs [] m σ H Q
abbrev tOs (m : M (List OV)) : TA := fun σ H Q => rdt Γ K W entOs sideOs [] m σ H Q
abbrev tT (m : M Bool) : TT := fun σ H Q => rdt Γ K W entN sideB [] m σ H Q
end
section
variable {Γ : Gm} {K : PySem.W.Frag} {W : WX} {α β γ δ : Type} {ent : β → α → List VT} {side : St → β → α → Prop} {ent2 : δ → γ → List VT} {side2 : St → δ → γ → Prop} {σ : St} {H : Hp}
theorem OwnS.dropR {env : En} {G L : List VT} {Hs : Hp} (o : OwnS Γ K σ env (L ++ G) H Hs) : OwnS Γ K σ env G H Hs := OwnS.dropL L o
theorem XOwn.weak {env : En} {G L : List VT} {Hs : Hp} {c : Nat} {ds : List D} {d : Option Addr} (x : XOwn Γ K σ env (L ++ G) c ds d H Hs) : XOwn Γ K σ env G c ds d H Hs := by
  rcases x with ⟨h1, h2, h3, o⟩ | ⟨a, ws, h1, h2, h3, h4, o⟩
  · exact .inl ⟨h1, h2, h3, o.dropR⟩
  · refine .inr ⟨a, ws, h1, h2, h3, h4, ?_⟩
    have o2 : OwnS Γ K σ env (L ++ (.ref a, .ce (.xd ((Γ.fl c).zip ws))) :: G) H Hs := o.mid
    exact o2.dropR
theorem rdt.mono {tmp : List VT} {m : M α} {Q Q' : β → Hp → Prop} (h : rdt Γ K W ent side tmp m σ H Q) (k : ∀ v H', Q v H' → Q' v H') : rdt Γ K W ent side tmp m σ H Q' := by
  obtain ⟨Hs, env, G, r, env', o, e, f⟩ := h
  refine ⟨Hs, env, G, r, env', o, e, ?_⟩
  cases r with
  | ok a => exact fun H Hs v s o => k _ _ (f H Hs v s o)
  | exc c ds => exact f
/-- one after another -/
theorem rdt.bind {tmp : List VT} {m : M α} {f : α → M γ} {Q : δ → Hp → Prop} (h : rdt Γ K W ent2 side2 tmp (bd m f) σ H Q) :
    rdt Γ K W ent side [] m σ H fun v H1 => ∃ a, side σ v a ∧ rdt Γ K W ent2 side2 (ent v a ++ tmp) (f a) σ H1 Q := by
  obtain ⟨Hs, env, G, r, env', o, e, k⟩ := h
  unfold bd at e
  cases q : m env with
  | none => rw [q] at e; cases e
  | some p =>
    obtain ⟨r1, e1⟩ := p
    rw [q] at e
    cases r1 with
    | ok a =>
      refine ⟨Hs, env, tmp ++ G, _, e1, o, q, fun H1 Hs1 v s o1 => ⟨a, s, Hs1, e1, G, r, env', ?_, e, k⟩⟩
      rw [List.append_assoc]; exact o1
    | exc c ds =>
      cases e
      exact ⟨Hs, env, tmp ++ G, _, _, o, q, fun H1 Hs1 d x => k H1 Hs1 d (XOwn.weak x)⟩
/-- what does not change the slots -/
theorem rdt.lift {tmp : List VT} {f : En → Option α} {Q : β → Hp → Prop} (h : rdt Γ K W ent side tmp (lift f) σ H Q) :
    ∃ Hs env G a, OwnS Γ K σ env (tmp ++ G) H Hs ∧ f env = some a ∧ ∀ H' Hs' v, side σ v a → OwnS Γ K σ env (ent v a ++ G) H' Hs' → Q v H' := by
  obtain ⟨Hs, env, G, r, env', o, e, k⟩ := h
  unfold BC.lift at e
  cases q : f env with
  | none => rw [q] at e; cases e
  | some a => rw [q] at e; cases e; exact ⟨Hs, env, G, a, o, q, k⟩
theorem rdt.bindLift {tmp : List VT} {f : En → Option α} {g : α → M γ} {Q : δ → Hp → Prop} (h : rdt Γ K W ent2 side2 tmp (bd (BC.lift f) g) σ H Q) :
    ∃ Hs env G a, OwnS Γ K σ env (tmp ++ G) H Hs ∧ f env = some a ∧ rdt Γ K W ent2 side2 tmp (g a) σ H Q := by
  obtain ⟨Hs, env, G, r, env', o, e, k⟩ := h
  unfold bd BC.lift at e
  cases q : f env with
  | none => rw [q] at e; cases e
  | some a => rw [q] at e; exact ⟨Hs, env, G, a, o, q, Hs, env, G, r, env', o, e, k⟩
theorem rdt.ret_ {tmp : List VT} {a : α} {Q : β → Hp → Prop} (h : rdt Γ K W ent side tmp (ret a) σ H Q) :
    ∃ Hs env G, OwnS Γ K σ env (tmp ++ G) H Hs ∧ ∀ H' Hs' v, side σ v a → OwnS Γ K σ env (ent v a ++ G) H' Hs' → Q v H' := by
  obtain ⟨Hs, env, G, r, env', o, e, k⟩ := h
  cases e
  exact ⟨Hs, env, G, o, k⟩
/-- the value itself is what is wanted -/
theorem rdt.id_ {m : M α} {Q : β → Hp → Prop} (h : rdt Γ K W ent side [] m σ H Q) : rdt Γ K W ent side [] m σ H fun v H' => ∃ a, side σ v a ∧ rdt Γ K W ent side (ent v a) (ret a) σ H' Q := by
  obtain ⟨Hs, env, G, r, env', o, e, k⟩ := h
  refine ⟨Hs, env, G, r, env', o, e, ?_⟩
  cases r with
  | ok a => exact fun H' Hs' v s o' => ⟨a, s, Hs', env', G, .ok a, env', o', rfl, k⟩
  | exc c ds => exact k
end
/-! ### operands -/
section
variable {Γ : Gm} {K : PySem.W.Frag} {σ : St} {env : En} {G L : List VT} {H Hs : Hp} {v : V} {t : T} {d : D} {o : OV}
theorem mem_perm {x : VT} (h : x ∈ L) : ∃ M, L.Perm (x :: M) := by
  obtain ⟨s, t, rfl⟩ := List.append_of_mem h
  exact ⟨s ++ t, List.perm_middle⟩
/-- what an operand is, taken out -/
theorem OwnS.opd (w : OwnS Γ K σ env L H Hs) (s : sideO σ v o) (m : ∀ p ∈ entO v o, p ∈ L) (e : o.get env = some t) : ∃ env' M, OwnS Γ K σ env' ((v, t) :: M) H Hs := by
  cases o with
  | t x =>
    have e : some x = some t := e
    cases e
    obtain ⟨M, p⟩ := mem_perm (m (v, t) (by simp [entO]))
    exact ⟨env, M, w.perm p⟩
  | s i => exact ⟨_, L, w.take e s⟩
theorem OV.rd_get (e : o.rd env = some d) : ∃ t, o.get env = some t ∧ t.rd = some d := by
  unfold OV.rd at e
  cases q : o.get env with
  | none => rw [q] at e; cases e
  | some t => rw [q] at e; exact ⟨t, rfl, e⟩
theorem OV.sd_get (e : o.sd env = some d) : ∃ t, o.get env = some t ∧ t.sd = some d := by
  unfold OV.sd at e
  cases q : o.get env with
  | none => rw [q] at e; cases e
  | some t => rw [q] at e; exact ⟨t, rfl, e⟩
theorem OwnS.ovRd (w : OwnS Γ K σ env L H Hs) (s : sideO σ v o) (m : ∀ p ∈ entO v o, p ∈ L) (e : o.rd env = some d) : Rep Γ K H v d := by
  obtain ⟨t, e1, e2⟩ := OV.rd_get e
  obtain ⟨env', M, w'⟩ := w.opd s m e1
  exact w'.read e2
/-- data whose children are shared -/
def RepS (Γ : Gm) (K : PySem.W.Frag) (H Hs : Hp) (v : V) : D → Prop
  | .nd k ds => ∃ a vs, v = .ref a ∧ Sh Γ K H a k vs ∧ Reps Γ K Hs vs ds
  | d => Rep Γ K Hs v d
theorem unsh_reps {ts : List T} {ds : List D} {vs : List V} {fp : List Addr} (h : RepTs Γ K H Hs vs ts fp) (e : unsh ts = some ds) : Reps Γ K Hs vs ds := by
  induction ts generalizing ds vs fp with
  | nil => cases h; cases e; exact .nil
  | cons t ts ih =>
    cases h with
    | cons h1 h2 =>
      cases t with
      | sh d =>
        unfold unsh at e
        cases q : unsh ts with
        | none => rw [q] at e; cases e
        | some r =>
          rw [q] at e
          cases e
          cases h1 with
          | sh h1 => exact .cons h1 (ih h2 q)
      | _ => cases e
theorem OwnS.sdRep (w : OwnS Γ K σ env ((v, t) :: L) H Hs) (e : t.sd = some d) : RepS Γ K H Hs v d := by
  cases t with
  | sh d' =>
    have e : some d' = some d := e
    cases e
    have r := w.rep
    cases d with
    | nd k ds =>
      cases r with
      | nd h1 h2 => exact ⟨_, _, rfl, h1.le w.le, h2⟩
    | _ => exact r
  | ow k ts =>
    have e : (match unsh ts with
      | some ds => some (D.nd k ds)
      | none => none) = some d := e
    cases q : unsh ts with
    | none => rw [q] at e; cases e
    | some ds =>
      rw [q] at e
      cases e
      obtain ⟨f1, f2, h1, _⟩ := w.split
      cases h1 with
      | ow h1 h2 h3 => exact ⟨_, _, rfl, h2.sh h1, unsh_reps h3 q⟩
  | un => cases e
  | ce _ => cases e
  | pf _ => cases e
theorem OwnS.ovSd (w : OwnS Γ K σ env L H Hs) (s : sideO σ v o) (m : ∀ p ∈ entO v o, p ∈ L) (e : o.sd env = some d) : RepS Γ K H Hs v d := by
  obtain ⟨t, e1, e2⟩ := OV.sd_get e
  obtain ⟨env', M, w'⟩ := w.opd s m e1
  exact w'.sdRep e2
theorem RepS.rep (le : Le Hs H) (h : RepS Γ K H Hs v d) : Rep Γ K H v d := by
  cases d with
  | nd k ds =>
    obtain ⟨a, vs, rfl, h1, h2⟩ := h
    exact .nd h1 (Reps.le le _ _ h2)
  | _ => exact Rep.le le _ _ h
/-! ### new objects -/
theorem OwnS.addShs {vs : List V} {ds : List D} (r : Reps Γ K Hs vs ds) (w : OwnS Γ K σ env G H Hs) : OwnS Γ K σ env (vs.zip (ds.map T.sh) ++ G) H Hs := by
  induction ds generalizing vs with
  | nil => cases r; exact w
  | cons d ds ih => cases r with | cons r1 r2 => exact (ih r2).addSh r1
/-- a new object of values that are held -/
theorem OwnS.newT {p : Addr} {ob : HO} {k : Kd} {vs : List V} {ts : List T} (hp : H p = none) (w : OwO Γ ob k vs) (l : vs.length = ts.length) (o : OwnS Γ K σ env (vs.zip ts ++ G) H Hs) : OwnS Γ K σ env ((.ref p, .ow k ts) :: G) (upd H p ob) Hs :=
  (o.alloc hp (ob := ob)).close w l
/-- a new object of shared values -/
theorem OwnS.newSh {p : Addr} {ob : HO} {k : Kd} {vs : List V} {ds : List D} (hp : H p = none) (w : OwO Γ ob k vs) (r : Reps Γ K Hs vs ds) (o : OwnS Γ K σ env G H Hs) : OwnS Γ K σ env ((.ref p, BC.own k ds) :: G) (upd H p ob) Hs :=
  (o.addShs r).newT hp w (by rw [List.length_map]; exact r.length)
theorem OwnS.noneHs {p : Addr} (o : OwnS Γ K σ env G H Hs) (hp : H p = none) : Hs p = none := o.le.none_of hp
end
end BC
set_option Elab.async false
set_option linter.all false
set_option maxRecDepth 100000
set_option maxHeartbeats 4000000
/-! The primitives of Core against the hand layer's rules. -/
namespace BC
open PySem PySem.Spec PyProof.Rows L2
def opA : Op2 → Operator
  | .add => .Add
  | .sub => .Sub
  | .mul => .Mult
  | .fdv => .FloorDiv
  | .mod => .Mod
  | .pow => .Pow
def cmA : Cm → CmpOp
  | .eq => .Eq
  | .ne => .NotEq
  | .lt => .Lt
  | .le => .LtE
  | .gt => .Gt
  | .ge => .GtE
  | .is_ => .Is
  | .isn => .IsNot
  | .in_ => .In
  | .nin => .NotIn
section
variable {Γ : Gm} {K : PySem.W.Frag} {H Hs : Hp}
theorem repS_int {v : V} {i : Int} (h : RepS Γ K H Hs v (.int i)) : v = .int i := by
  have h : Rep Γ K Hs v (.int i) := h
  cases h; rfl
theorem repS_str {v : V} {i : Str} (h : RepS Γ K H Hs v (.str i)) : v = .str i := by
  have h : Rep Γ K Hs v (.str i) := h
  cases h; rfl
theorem repS_lst {v : V} {ds : List D} (h : RepS Γ K H Hs v (.nd .lst ds)) : ∃ a vs, v = .ref a ∧ H a = some (.lst vs) ∧ Reps Γ K Hs vs ds := h
theorem Reps.append {vs ws : List V} {ds es : List D} (h : Reps Γ K H vs ds) (h2 : Reps Γ K H ws es) : Reps Γ K H (vs ++ ws) (ds ++ es) := by
  induction ds generalizing vs with
  | nil => cases h; exact h2
  | cons d ds ih => cases h with | cons a b => exact .cons a (ih b)
theorem Reps.reverse {vs : List V} {ds : List D} (h : Reps Γ K H vs ds) : Reps Γ K H vs.reverse ds.reverse := by
  induction ds generalizing vs with
  | nil => cases h; exact .nil
  | cons d ds ih =>
    cases h with
    | cons a b =>
      rw [List.reverse_cons, List.reverse_cons]
      exact (ih b).append (.cons a .nil)
theorem Reps.take {vs : List V} {ds : List D} (n : Nat) (h : Reps Γ K H vs ds) : Reps Γ K H (vs.take n) (ds.take n) := by
  induction ds generalizing vs n with
  | nil => cases h; rw [List.take_nil, List.take_nil]; exact .nil
  | cons d ds ih =>
    cases h with
    | cons a b =>
      cases n with
      | zero => exact .nil
      | succ n => exact .cons a (ih n b)
theorem Reps.drop {vs : List V} {ds : List D} (n : Nat) (h : Reps Γ K H vs ds) : Reps Γ K H (vs.drop n) (ds.drop n) := by
  induction ds generalizing vs n with
  | nil => cases h; rw [List.drop_nil, List.drop_nil]; exact .nil
  | cons d ds ih =>
    cases h with
    | cons a b =>
      cases n with
      | zero => exact .cons a b
      | succ n => exact ih n b
theorem Reps.get {vs : List V} {ds : List D} {n : Nat} {d : D} (h : Reps Γ K H vs ds) (e : ds[n]? = some d) : ∃ v, vs[n]? = some v ∧ Rep Γ K H v d := by
  induction ds generalizing vs n with
  | nil => simp at e
  | cons x ds ih =>
    cases h with
    | cons a b =>
      cases n with
      | zero => simp at e; subst e; exact ⟨_, by simp, a⟩
      | succ n =>
        obtain ⟨v, h1, h2⟩ := ih b (by simpa using e)
        exact ⟨v, by simpa using h1, h2⟩
theorem Reps.rep {vs : List V} {ds : List D} (n : Nat) (h : Reps Γ K H vs ds) : Reps Γ K H (List.replicate n vs).flatten (List.replicate n ds).flatten := by
  induction n with
  | zero => exact .nil
  | succ n ih =>
    rw [List.replicate_succ, List.replicate_succ, List.flatten_cons, List.flatten_cons]
    exact h.append ih
/-! ### data for == -/
mutual
theorem py_dp : ∀ (d : D) (n : Nat) (v : V) (p : PyData), Rep Γ K H v d → d.pyN n = some p → Dp K H v p ∧ p.canLay0 = true ∧ p.depth ≤ n
  | .non, n, _, _, h, e => by cases h; simp only [D.pyN] at e; cases e; exact ⟨.non, rfl, by simp [PyData.depth]⟩
  | .bl b, n, _, _, h, e => by cases h; simp only [D.pyN] at e; cases e; exact ⟨.bl b, rfl, by simp [PyData.depth]⟩
  | .int i, n, _, _, h, e => by cases h; simp only [D.pyN] at e; cases e; exact ⟨.int i, rfl, by simp [PyData.depth]⟩
  | .str s, n, _, _, h, e => by
    cases h
    simp only [D.pyN] at e
    split at e
    · cases e
      rename_i hs
      exact ⟨.str s, by simpa [PyData.canLay0] using hs, by simp [PyData.depth]⟩
    · cases e
  | .fn j, n, _, _, h, e => by simp only [D.pyN] at e; cases e
  | .nd k ds, 0, _, _, h, e => by simp only [D.pyN] at e; cases e
  | .nd k ds, n + 1, _, _, h, e => by
    cases h with
    | nd h1 h2 =>
      simp only [D.pyN] at e
      split at e
      · split at e
        · rename_i q
          cases e
          obtain ⟨a, b, c⟩ := pys_dp ds n _ _ h2 q
          exact ⟨.lst (SqL.of h1) a, by simpa [PyData.canLay0] using b, by simp only [PyData.depth]; omega⟩
        · cases e
      · split at e
        · rename_i q
          cases e
          obtain ⟨a, b, c⟩ := pys_dp ds n _ _ h2 q
          exact ⟨.tup (SqT.of h1) a, by simpa [PyData.canLay0] using b, by simp only [PyData.depth]; omega⟩
        · cases e
      · split at e
        · rename_i q
          cases e
          obtain ⟨a, b, c⟩ := pys_dp ds n _ _ h2 q
          exact ⟨.tup h1 a, by simpa [PyData.canLay0] using b, by simp only [PyData.depth]; omega⟩
        · cases e
      · cases e
theorem pys_dp : ∀ (ds : List D) (n : Nat) (vs : List V) (ps : List PyData), Reps Γ K H vs ds → D.pysN n ds = some ps → DpAll K H vs ps ∧ PyData.canLayAll0 ps = true ∧ PyData.depthAll ps ≤ n
  | [], n, _, _, h, e => by cases h; simp only [D.pysN] at e; cases e; exact ⟨.nil, rfl, by simp [PyData.depthAll]⟩
  | d :: ds, n, _, _, h, e => by
    cases h with
    | cons h1 h2 =>
      simp only [D.pysN] at e
      split at e
      · rename_i q1 q2
        cases e
        obtain ⟨a, b, c⟩ := py_dp d n _ _ h1 q1
        obtain ⟨a', b', c'⟩ := pys_dp ds n _ _ h2 q2
        exact ⟨.cons a a', by simp [PyData.canLayAll0, b, b'], by simp only [PyData.depthAll]; omega⟩
      · cases e
end
theorem py_of {d : D} {v : V} {p : PyData} (h : Rep Γ K H v d) (e : d.py = some p) : Dp K H v p ∧ SeqAt.shaped p = true := by
  obtain ⟨a, b, c⟩ := py_dp d 40 v p h e
  exact ⟨a, by unfold SeqAt.shaped; rw [b, decide_eq_true (by omega)] <;> rfl⟩
theorem eqD_of {d d' : D} {b : Bool} (e : eqD d d' = some b) : ∃ p q, d.py = some p ∧ d'.py = some q ∧ b = PyData.eqv p q := by
  unfold eqD at e
  split at e
  · rename_i p q h1 h2
    cases e
    exact ⟨p, q, h1, h2, rfl⟩
  · cases e
end
/-! ### binary operators -/
section
variable (Γ : Gm) (X : Cx)
/-- what an operation on values asks: of data under which it gives t, what t is wanted for -/
def Bin (r : R2) (f : D → D → Option T) : Prop := ∀ (σ : St) (env : En) (G : List VT) (H Hs : Hp) (x y : V) (d d' : D) (t : T) (Q : VK), OwnS Γ X.K σ env G H Hs → RepS Γ X.K H Hs x d → RepS Γ X.K H Hs y d' → f d d' = some t →
  (∀ H' Hs' v, OwnS Γ X.K σ env ((v, t) :: G) H' Hs' → Q v H') → r x y H Q
variable {Γ X}
theorem own_int {σ : St} {env : En} {G : List VT} {H Hs : Hp} {i : Int} (o : OwnS Γ X.K σ env G H Hs) : OwnS Γ X.K σ env ((.int i, .sh (.int i)) :: G) H Hs := o.addSh (.int i)
theorem own_bl {σ : St} {env : En} {G : List VT} {H Hs : Hp} {b : Bool} (o : OwnS Γ X.K σ env G H Hs) : OwnS Γ X.K σ env ((.bl b, .sh (.bl b)) :: G) H Hs := o.addSh (.bl b)
theorem sBin (o : Op2) : ∃ r : R2, OpR X (binaryOp (opA o)) r ∧ Bin Γ X r (pBin o) := by
  cases o with
  | add =>
    refine ⟨_, op_add.or (op_add_str.or op_cat), ?_⟩
    intro σ env G H Hs x y d d' t Q w hx hy e k
    have e : pAdd d d' = some t := e
    unfold pAdd at e
    split at e
    · cases e
      cases repS_int hx; cases repS_int hy
      exact .inl ⟨_, _, rfl, rfl, k _ _ _ (own_int w)⟩
    · split at e
      · cases e
        rename_i hz
        cases repS_str hx; cases repS_str hy
        exact .inr (.inl ⟨_, _, rfl, rfl, hz, k _ _ _ (w.addSh (.str _))⟩)
      · cases e
    · split at e
      · cases e
        rename_i hz
        obtain ⟨a, vs, rfl, ha, ra⟩ := repS_lst hx
        obtain ⟨b, ws, rfl, hb, rb⟩ := repS_lst hy
        refine .inr (.inr ⟨a, b, vs, ws, rfl, rfl, ha, hb, by rw [ra.length, rb.length]; exact hz, fun p hp => k _ _ _ (w.newSh hp (by exact rfl) (ra.append rb))⟩)
      · cases e
    · cases e
  | sub =>
    refine ⟨_, op_sub, ?_⟩
    intro σ env G H Hs x y d d' t Q w hx hy e k
    have e : pSub d d' = some t := e
    unfold pSub at e
    split at e
    · cases e
      cases repS_int hx; cases repS_int hy
      exact ⟨_, _, rfl, rfl, k _ _ _ (own_int w)⟩
    · cases e
  | mul =>
    refine ⟨_, op_mul.or op_rep, ?_⟩
    intro σ env G H Hs x y d d' t Q w hx hy e k
    have e : pMul d d' = some t := e
    unfold pMul at e
    split at e
    · split at e
      · cases e
        rename_i hz
        cases repS_int hx; cases repS_int hy
        exact .inl ⟨_, _, rfl, rfl, hz, k _ _ _ (own_int w)⟩
      · cases e
    · split at e
      · cases e
        rename_i hz
        obtain ⟨a, vs, rfl, ha, ra⟩ := repS_lst hx
        cases repS_int hy
        refine .inr ⟨a, _, vs, rfl, rfl, ha, hz.1, hz.2.1, by rw [ra.length]; exact hz.2.2, fun p hp => k _ _ _ (w.newSh hp (by exact rfl) (ra.rep _))⟩
      · cases e
    · cases e
  | fdv =>
    refine ⟨_, op_fdiv, ?_⟩
    intro σ env G H Hs x y d d' t Q w hx hy e k
    have e : pFdv d d' = some t := e
    unfold pFdv at e
    split at e
    · split at e
      · cases e
        rename_i hz
        cases repS_int hx; cases repS_int hy
        exact ⟨_, _, rfl, rfl, hz, k _ _ _ (own_int w)⟩
      · cases e
    · cases e
  | mod =>
    refine ⟨_, op_mod, ?_⟩
    intro σ env G H Hs x y d d' t Q w hx hy e k
    have e : pMod d d' = some t := e
    unfold pMod at e
    split at e
    · split at e
      · cases e
        rename_i hz
        cases repS_int hx; cases repS_int hy
        exact ⟨_, _, rfl, rfl, hz, k _ _ _ (own_int w)⟩
      · cases e
    · cases e
  | pow =>
    refine ⟨_, op_pow, ?_⟩
    intro σ env G H Hs x y d d' t Q w hx hy e k
    have e : pPow d d' = some t := e
    unfold pPow at e
    split at e
    · split at e
      · cases e
        rename_i hz
        cases repS_int hx; cases repS_int hy
        exact ⟨_, _, rfl, rfl, hz, k _ _ _ (own_int w)⟩
      · cases e
    · cases e
end
/-! ### comparisons -/
section
variable (Γ : Gm) (X : Cx)
def CmpB (r : R2) (f : D → D → Option Bool) : Prop := ∀ (H : Hp) (x y : V) (d d' : D) (b : Bool) (Q : VK), Rep Γ X.K H x d → Rep Γ X.K H y d' → f d d' = some b → Q (.bl b) H → r x y H Q
variable {Γ X}
theorem isNon_dec {H : Hp} {v : V} {d : D} (h : Rep Γ X.K H v d) : decide (v = V.non) = isNon d := by
  cases h <;> simp [isNon]
theorem pI_of {f : Int → Int → Bool} {d d' : D} {b : Bool} (e : pI f d d' = some b) : ∃ i j, d = .int i ∧ d' = .int j ∧ b = f i j := by
  unfold pI at e
  split at e
  · cases e; exact ⟨_, _, rfl, rfl, rfl⟩
  · cases e
theorem mapNot {o : Option Bool} {b : Bool} (e : o.map (!·) = some b) : ∃ c, o = some c ∧ b = !c := by
  cases o with
  | none => cases e
  | some c => cases e; exact ⟨c, rfl, rfl⟩
theorem strs_of : ∀ {ps : List PyData} {vs : List V} {K : PySem.W.Frag} {H : Hp}, DpAll K H vs ps → (ps.all fun z => match z with | .str _ => true | _ => false) = true → ∃ xs : List Str, vs = xs.map V.str ∧ ps = xs.map PyData.str
  | [], _, _, _, h, _ => by cases h; exact ⟨[], rfl, rfl⟩
  | p :: ps, _, _, _, h, e => by
    cases h with
    | cons h1 h2 =>
      simp only [List.all_cons, Bool.and_eq_true] at e
      obtain ⟨xs, rfl, rfl⟩ := strs_of h2 e.2
      cases p with
      | str x => cases h1; exact ⟨x :: xs, rfl, rfl⟩
      | _ => cases e.1
theorem eqV_str (a x : Str) : L2.eqV (.str x) (.str a) = (x == a) := rfl
theorem inV_strs (a : Str) (xs : List Str) : L2.inV (.str a) (xs.map V.str) = ((xs.map PyData.str).any fun z => PyData.eqv z (.str a)) := by
  unfold L2.inV
  rw [List.any_map, List.any_map]
  congr 1
theorem getL_ints {κ : Type} [DecidableEq κ] {k : κ} : ∀ {ls : List κ} {js : List Int}, valV (ls.zip (js.map V.int)) k = (getL ls js k).map V.int
  | [], js => by cases js <;> rfl
  | _ :: _, [] => rfl
  | l :: ls, j :: js => by
    rw [List.map_cons, List.zip_cons_cons]
    by_cases h : l = k
    · rw [valV_pos h]; simp [getL, h]
    · rw [valV_neg h, getL_ints]; simp [getL, h]
theorem hits_ints {Ar : Around} {s : Shared} {ls : List Key} {js : List Int} {vb : List (Key × Value)} (rb : KV (ls.zip (js.map V.int)) vb) : ∀ {ks : List Key} {is : List Int} {va : List (Key × Value)}, KV (ks.zip (is.map V.int)) va → PySem.W.KeqHits Ar s vb va (dHit ls js ks is)
  | [], is, va, ra => by
    have ra : KV ([] : List (Key × V)) va := ra
    cases ra
    cases is <;> exact .nil
  | _ :: _, [], va, ra => by
    have ra : KV ([] : List (Key × V)) va := ra
    cases ra
    exact .nil
  | k :: ks, i :: is, va, ra => by
    have ra : KV ((k, V.int i) :: ks.zip (is.map V.int)) va := ra
    unfold KV at ra
    cases ra with
    | @cons p q ps qs h t =>
      obtain ⟨h1, h2⟩ := h
      obtain ⟨k2, v⟩ := q
      have h1 : k = k2 := h1
      subst h1
      have rr := rb.val k
      rw [getL_ints] at rr
      unfold dHit
      cases g : getL ls js k with
      | none =>
        rw [g] at rr
        exact .miss (RelO.none_of rr)
      | some j =>
        rw [g] at rr
        obtain ⟨y, hy, ry⟩ := rr.some_of
        have e : SeqAt.EqAt Ar s v y (eqV (.int i) (.int j)) := eqAt_V h2 ry rfl rfl
        have e2 : eqV (.int i) (.int j) = decide (i = j) := by
          show (i == j) = decide (i = j)
          rfl
        rw [e2] at e
        exact .hit hy e (hits_ints rb t)
def rDk (f : Bool → Bool) : R2 := fun x y H Q => ∃ a b ks is ls js, x = V.ref a ∧ y = V.ref b ∧ ks.length = is.length ∧ ls.length = js.length ∧ Rd H a (.dK (ks.zip (is.map V.int))) ∧ Rd H b (.dK (ls.zip (js.map V.int))) ∧ Q (.bl (f (decide (ks.length = ls.length) && dHit ls js ks is))) H
theorem op_eqDk (hu : X.A.units < cLine) : OpR X (compareOp .Eq) (rDk id) := by
  intro pins s σ H x y v u Q I rx ry h
  obtain ⟨a, b, ks, is, ls, js, rfl, rfl, l1, l2, ea, eb, q⟩ := h
  obtain rfl : v = Value.ref a := rx
  obtain rfl : u = Value.ref b := ry
  obtain ⟨_, ya, va, ra, da⟩ := dk_rd I.hok ea
  obtain ⟨_, yb, vb, rb, db⟩ := dk_rd I.hok eb
  have e1 : va.length = ks.length := by rw [← ra.length, List.length_zip, List.length_map]; omega
  have e2 : vb.length = ls.length := by rw [← rb.length, List.length_zip, List.length_map]; omega
  refine PySem.W.keq_eq (knd := mixKind X.prog X.w) (r := dHit ls js ks is) ya yb da db hu (fun _ => hits_ints rb ra) (fin_bl I q ?_)
  rw [e1, e2]
  show (decide (ks.length = ls.length) && _) = ((ks.length == ls.length) && _)
  rfl
theorem op_neDk (hu : X.A.units < cLine) : OpR X (compareOp .NotEq) (rDk (!·)) := by
  intro pins s σ H x y v u Q I rx ry h
  obtain ⟨a, b, ks, is, ls, js, rfl, rfl, l1, l2, ea, eb, q⟩ := h
  obtain rfl : v = Value.ref a := rx
  obtain rfl : u = Value.ref b := ry
  obtain ⟨_, ya, va, ra, da⟩ := dk_rd I.hok ea
  obtain ⟨_, yb, vb, rb, db⟩ := dk_rd I.hok eb
  have e1 : va.length = ks.length := by rw [← ra.length, List.length_zip, List.length_map]; omega
  have e2 : vb.length = ls.length := by rw [← rb.length, List.length_zip, List.length_map]; omega
  refine PySem.W.keq_ne (knd := mixKind X.prog X.w) (r := dHit ls js ks is) ya yb da db hu (fun _ => hits_ints rb ra) (fin_bl I q ?_)
  rw [e1, e2]
  rfl
theorem ints_vals {H : Hp} {vs : List V} {ds : List D} {is : List Int} (r : Reps Γ X.K H vs ds) (e : D.ints ds = some is) : vs = is.map V.int := by
  induction ds generalizing vs is with
  | nil => cases r; cases e; rfl
  | cons d ds ih =>
    cases r with
    | cons r1 r2 =>
      cases d with
      | int i =>
        simp only [D.ints] at e
        split at e
        · rename_i is' q
          cases e
          cases r1
          rw [ih r2 q]
          rfl
        · cases e
      | _ => cases e
theorem pEq_of {x y : V} {d d' : D} {b : Bool} {f : Bool → Bool} {H : Hp} {Q : VK} (hx : Rep Γ X.K H x d) (hy : Rep Γ X.K H y d') (e : pEq d d' = some b) (k : Q (.bl (f b)) H) : rDk f x y H Q ∨ eqD d d' = some b := by
  unfold pEq at e
  split at e
  · rename_i r q
    cases e
    unfold dkEq at q
    split at q
    · split at q
      · rename_i ks ds ls es _ _ is js hi hj
        cases q
        cases hx with
        | nd h1 h2 =>
          cases hy with
          | nd g1 g2 =>
            have e1 := ints_vals h2 hi
            have e2 := ints_vals g2 hj
            subst e1 e2
            exact .inl ⟨_, _, ks, is, ls, js, rfl, rfl, by rw [h1.1, List.length_map], by rw [g1.1, List.length_map], h1.2, g1.2, k⟩
      · cases q
    · cases q
  · exact .inr e
theorem sCmp (hu : X.A.units + 65 < cLine) (o : Cm) : ∃ r : R2, OpR X (compareOp (cmA o)) r ∧ CmpB Γ X r (pCmp o) := by
  have hu' : X.A.units + 64 < cLine := by omega
  cases o with
  | eq =>
    refine ⟨_, (op_eqDk (by omega)).or (op_eqD hu'), ?_⟩
    intro H x y d d' b Q hx hy e k
    rcases pEq_of (f := id) hx hy e k with e | e
    · exact .inl e
    · obtain ⟨p, q, h1, h2, rfl⟩ := eqD_of e
      obtain ⟨a1, a2⟩ := py_of hx h1
      obtain ⟨b1, b2⟩ := py_of hy h2
      exact .inr ⟨p, q, a1, b1, a2, b2, k⟩
  | ne =>
    refine ⟨_, (op_neDk (by omega)).or (op_neD hu'), ?_⟩
    intro H x y d d' b Q hx hy e k
    obtain ⟨c, e1, rfl⟩ := mapNot e
    clear e
    have e := e1
    clear e1
    rcases pEq_of (f := (!·)) hx hy e k with e | e
    · exact .inl e
    · obtain ⟨p, q, h1, h2, rfl⟩ := eqD_of e
      obtain ⟨a1, a2⟩ := py_of hx h1
      obtain ⟨b1, b2⟩ := py_of hy h2
      exact .inr ⟨p, q, a1, b1, a2, b2, k⟩
  | lt =>
    refine ⟨_, op_lt, ?_⟩
    intro H x y d d' b Q hx hy e k
    obtain ⟨i, j, rfl, rfl, rfl⟩ := pI_of e
    cases hx; cases hy
    exact ⟨_, _, rfl, rfl, k⟩
  | le =>
    refine ⟨_, op_le, ?_⟩
    intro H x y d d' b Q hx hy e k
    obtain ⟨i, j, rfl, rfl, rfl⟩ := pI_of e
    cases hx; cases hy
    exact ⟨_, _, rfl, rfl, k⟩
  | gt =>
    refine ⟨_, op_gt, ?_⟩
    intro H x y d d' b Q hx hy e k
    obtain ⟨i, j, rfl, rfl, rfl⟩ := pI_of e
    cases hx; cases hy
    exact ⟨_, _, rfl, rfl, k⟩
  | ge =>
    refine ⟨_, op_ge, ?_⟩
    intro H x y d d' b Q hx hy e k
    obtain ⟨i, j, rfl, rfl, rfl⟩ := pI_of e
    cases hx; cases hy
    exact ⟨_, _, rfl, rfl, k⟩
  | is_ =>
    refine ⟨_, op_isN.or op_isBl, ?_⟩
    intro H x y d d' b Q hx hy e k
    have e : pIs d d' = some b := e
    unfold pIs at e
    split at e
    · cases e
      cases hy
      exact .inl ⟨rfl, by rw [isNon_dec hx]; exact k⟩
    · cases e
      cases hx; cases hy
      exact .inr ⟨_, _, rfl, rfl, k⟩
    · cases e
  | isn =>
    refine ⟨_, op_notN.or op_notBl, ?_⟩
    intro H x y d d' b Q hx hy e k
    obtain ⟨c, e1, rfl⟩ := mapNot e
    clear e
    have e := e1
    clear e1
    have e : pIs d d' = some c := e
    unfold pIs at e
    split at e
    · cases e
      cases hy
      exact .inl ⟨rfl, by rw [isNon_dec hx]; exact k⟩
    · cases e
      cases hx; cases hy
      exact .inr ⟨_, _, rfl, rfl, k⟩
    · cases e
  | in_ =>
    refine ⟨_, (op_inD hu).or op_in_seq, ?_⟩
    intro H x y d d' b Q hx hy e k
    have e : inD d d' = some b := e
    unfold inD at e
    split at e
    · rename_i p q h1 h2
      cases e
      obtain ⟨a1, a2⟩ := py_of hx h1
      obtain ⟨b1, b2⟩ := py_of hy h2
      exact .inl ⟨p, q, a1, b1, a2, b2, k⟩
    · rename_i p q h1 h2
      split at e
      · rename_i hall
        cases e
        obtain ⟨a1, a2⟩ := py_of hx h1
        obtain ⟨b1, b2⟩ := py_of hy h2
        cases a1
        cases b1 with
        | tup s1 s2 =>
          obtain ⟨xs, rfl, rfl⟩ := strs_of s2 hall
          refine .inr ⟨_, _, rfl, .inr s1, rfl, by simp [List.all_eq_true, flatV], ?_⟩
          show Q (.bl (if false = true then !L2.inV _ _ else L2.inV _ _)) H
          rw [if_neg Bool.false_ne_true, inV_strs]
          exact k
      · cases e
    · cases e
  | nin =>
    refine ⟨_, (op_notInD hu).or op_notIn_seq, ?_⟩
    intro H x y d d' b Q hx hy e k
    obtain ⟨c, e1, rfl⟩ := mapNot e
    clear e
    have e := e1
    clear e1
    have e : inD d d' = some c := e
    unfold inD at e
    split at e
    · rename_i p q h1 h2
      cases e
      obtain ⟨a1, a2⟩ := py_of hx h1
      obtain ⟨b1, b2⟩ := py_of hy h2
      exact .inl ⟨p, q, a1, b1, a2, b2, k⟩
    · rename_i p q h1 h2
      split at e
      · rename_i hall
        cases e
        obtain ⟨a1, a2⟩ := py_of hx h1
        obtain ⟨b1, b2⟩ := py_of hy h2
        cases a1
        cases b1 with
        | tup s1 s2 =>
          obtain ⟨xs, rfl, rfl⟩ := strs_of s2 hall
          refine .inr ⟨_, _, rfl, .inr s1, rfl, by simp [List.all_eq_true, flatV], ?_⟩
          show Q (.bl (if true = true then !L2.inV _ _ else L2.inV _ _)) H
          rw [if_pos rfl, inV_strs]
          exact k
      · cases e
    · cases e
theorem sTru {H : Hp} {x : V} {d : D} {b : Bool} (h : Rep Γ X.K H x d) (e : pTru d = some b) : TruV X.K x H b := by
  unfold pTru at e
  split at e
  · cases e; cases h; exact rfl
  · cases e; cases h; exact rfl
  · cases e; cases h; exact rfl
  · cases e
    cases h with
    | nd h1 h2 =>
      refine .inl ⟨_, SqL.of h1, ?_⟩
      have := h2.length
      rename_i ds _ vs
      cases vs <;> cases ds <;> simp at this <;> rfl
  · cases e
    cases h with
    | nd h1 h2 =>
      refine .inr (.inl ⟨_, SqT.of h1, ?_⟩)
      have := h2.length
      rename_i ds _ vs
      cases vs <;> cases ds <;> simp at this <;> rfl
  · cases e
    cases h with
    | nd h1 h2 =>
      refine .inr (.inl ⟨_, h1, ?_⟩)
      have := h2.length
      rename_i ds _ vs
      cases vs <;> cases ds <;> simp at this <;> rfl
  · cases e
end
end BC
set_option Elab.async false
set_option linter.all false
set_option maxRecDepth 100000
set_option maxHeartbeats 4000000
/-! When a text agrees with a Core term. -/
namespace BC
open PySem PySem.Spec PyProof.Rows L2
inductive CalN where
  | fn (x : Str) | me (c : Nat) (m : Str) | mk (c : Nat) (x : Str) | pr (c : Nat) (p : Str) | op (c : Nat) (m : Str) | cm (c : Nat) (m : Str) | mv (c : Nat)
  deriving DecidableEq
/-- the names of a def's context -/
structure AgC where
  N : List Str
  cn : List CalN
  gn : List Str
  cln : Nat → Str
  isc : List Nat
  fnc : Bool
  asn : List Nat
  fl : Nat → List Str
def visB (sc : Scope) (x : Str) : Bool := match sc.names.lookup x with
  | some .local => true
  | some .cell => true
  | some .free => true
  | _ => false
def glB (sc : Scope) (x : Str) : Bool := match sc.names.lookup x with
  | some .globalImplicit => true
  | _ => false
def locB (c : Bool) (sc : Scope) (x : Str) : Bool := match sc.names.lookup x with
  | some .local => true
  | some .cell => c
  | _ => false
/-- a name that is no special one -/
def plainN (x : Str) : Bool := !(x == ("__debug__" : Str)) && !(x == ("__classdict__" : Str))
def noStar : Expr → Bool
  | .Starred .. => false
  | _ => true
def noSup : Expr → Bool
  | .Call (.Name _ _) [] [] _ => false
  | _ => true
def noSli : Expr → Bool
  | .Slice .. => false
  | _ => true
/-- as a test it is its value's truth -/
def plainT : Expr → Bool
  | .UnaryOp .Not _ _ => false
  | .BoolOp .. => false
  | .IfExp .. => false
  | .Compare .. => false
  | _ => true
def noComp : Expr → Bool
  | .ListComp .. => false
  | .SetComp .. => false
  | .DictComp .. => false
  | _ => true
def opB : Op2 → Operator → Bool
  | .add, .Add => true
  | .sub, .Sub => true
  | .mul, .Mult => true
  | .fdv, .FloorDiv => true
  | .mod, .Mod => true
  | .pow, .Pow => true
  | _, _ => false
def cmB : Cm → CmpOp → Bool
  | .eq, .Eq => true
  | .ne, .NotEq => true
  | .lt, .Lt => true
  | .le, .LtE => true
  | .gt, .Gt => true
  | .ge, .GtE => true
  | .is_, .Is => true
  | .isn, .IsNot => true
  | .in_, .In => true
  | .nin, .NotIn => true
  | _, _ => false
def b1N : B1 → Str
  | .len => "len"
  | .abs => "abs"
  | .int => "int"
  | .list => "list"
  | .dict => "dict"
  | .tuple => "tuple"
  | .sorted => "sorted"
  | .neg => ""
def b2N : B2 → Str
  | .max => "max"
  | .min => "min"
def litB : D → Const → Bool
  | .non, .none => true
  | .bl b, .bool c => b == c
  | .int i, .int j => decide (i = j)
  | .str s, .str z => decide (s = z)
  | _, _ => false
def tyB (A : AgC) (sc : Scope) : TyC → Expr → Bool
  | .int, .Name x _ => decide (x = "int") && glB sc x
  | .bool, .Name x _ => decide (x = "bool") && glB sc x
  | .str, .Name x _ => decide (x = "str") && glB sc x
  | .list, .Name x _ => decide (x = "list") && glB sc x
  | .tuple, .Name x _ => decide (x = "tuple") && glB sc x
  | .dict, .Name x _ => decide (x = "dict") && glB sc x
  | .cls c, .Name x _ => decide (x = A.cln c) && glB sc x && plainN x && A.isc.contains c
  | _, _ => false
def varB (A : AgC) (sc : Scope) (i : Nat) : Expr → Bool
  | .Name x _ => decide (A.N[i]? = some x) && visB sc x && plainN x
  | _ => false
/-- a path that begins at a slot, its last step first -/
def agPR (A : AgC) (sc : Scope) (i : Nat) : List PSt → Expr → Bool
  | [], e => varB A sc i e
  | .ix n :: r, e => match e with
    | .Subscript x (.Constant (.int k) _ _) _ => decide (k = (n : Int)) && agPR A sc i r x
    | _ => false
  | .last :: r, e => match e with
    | .Subscript x (.UnaryOp .USub (.Constant (.int k) _ _) _) _ => decide (k = 1) && agPR A sc i r x
    | _ => false
  | .fd c j :: r, e => match e with
    | .Attribute x f _ => decide ((A.fl c)[j]? = some f) && noSup x && agPR A sc i r x
    | _ => false
mutual
def agG (A : AgC) (sc : Scope) (as : List Nat) : CG → Expr → Bool
  | .nm i, e => match e with
    | .Name x _ => decide (A.N[i]? = some x) && locB A.fnc sc x && as.contains i
    | _ => false
  | .tp gs, e => match e with
    | .Tuple es _ _ => agGs A sc as gs es
    | _ => false
def agGs (A : AgC) (sc : Scope) (as : List Nat) : CGs → List Expr → Bool
  | .nil, [] => true
  | .cons g r, e :: es => agG A sc as g e && noStar e && agGs A sc as r es
  | _, _ => false
end
def lineOk (ap cp : Pos) : Bool := ap.endLine == cp.line
def noSet : Expr → Bool
  | .Set .. => false
  | _ => true
def AgC.blk (A : AgC) : AgC := { A with fnc := false }
def ownN (A : AgC) (own : List Nat) : List (Str × Nat) := own.map fun i => ((A.N[i]?).getD Str.empty, i)
def isTup : Expr → Bool
  | .Tuple .. => true
  | _ => false
mutual
def agE (A : AgC) (sc : Scope) : CE → Expr → Bool
  | .lit d, e => match e with
    | .Constant k _ _ => litB d k
    | _ => false
  | .glb j, e => match e with
    | .Name x _ => decide (A.gn[j]? = some x) && glB sc x && plainN x
    | _ => false
  | .var i, e => varB A sc i e
  | .mv i, e => varB A sc i e
  | .fz c, e => agE A sc c e
  | .tup cs, e => match e with
    | .Tuple es _ _ => agEs A sc cs es
    | _ => false
  | .lst cs, e => match e with
    | .List es _ => agEs A sc cs es
    | _ => false
  | .dnl _, e => match e with
    | .Dict [] [] _ => true
    | _ => false
  | .dct ps, e => match e with
    | .Dict ks vs _ => agPs A sc ps ks vs && decide (0 < ks.length ∧ ks.length ≤ 15)
    | _ => false
  | .op2 o a b, e => match e with
    | .BinOp x op y _ => opB o op && agO A sc a x && agO A sc b y
    | _ => false
  | .b1 f a, e => match e with
    | .Call (.Name x _) [y] [] _ => decide (x = b1N f) && glB sc x && noStar y && agO A sc a y && (match f with | .len => true | .abs => true | .int => true | _ => false)
    | .UnaryOp .USub y _ => (match f with | .neg => true | _ => false) && agO A sc a y
    | _ => false
  | .mk f a, e => match e with
    | .Call (.Name x _) [y] [] _ => decide (x = b1N f) && glB sc x && noStar y && agO A sc a y && (match f with | .list => true | .dict => true | .tuple => true | .sorted => true | _ => false)
    | _ => false
  | .b2 f a b, e => match e with
    | .Call (.Name x _) [y, z] [] _ => decide (x = b2N f) && glB sc x && noStar y && noStar z && agO A sc a y && agO A sc b z
    | _ => false
  | .isi a ts, e => match e with
    | .Call (.Name x _) [y, z] [] _ => decide (x = "isinstance") && glB sc x && noStar y && agO A sc a y && tyB A sc ts z
    | _ => false
  | .cmp o a b, e => match e with
    | .Compare x [op] [y] _ => cmB o op && agO A sc a x && agO A sc b y && !behindInMarks op y
    | _ => false
  | .chn o o' a b c, e => match e with
    | .Compare x [op, op'] [y, z] _ => cmB o op && cmB o' op' && agO A sc a x && agO A sc b y && agO A sc c z && !lastMarks [op, op'] [y, z]
    | _ => false
  | .andE a b, e => match e with
    | .BoolOp .And [x, y] _ => agE A sc a x && agE A sc b y
    | .BoolOp .And (x :: y :: z :: r) p => agE A sc a x && agE A sc b (.BoolOp .And (y :: z :: r) p)
    | _ => false
  | .orE a b, e => match e with
    | .BoolOp .Or [x, y] _ => agE A sc a x && agE A sc b y
    | .BoolOp .Or (x :: y :: z :: r) p => agE A sc a x && agE A sc b (.BoolOp .Or (y :: z :: r) p)
    | _ => false
  | .notE a, e => match e with
    | .UnaryOp .Not x _ => agO A sc a x
    | _ => false
  | .ite t a b, e => match e with
    | .IfExp c x y _ => agT A sc t c && agE A sc a x && agE A sc b y
    | _ => false
  | .idx a b, e => match e with
    | .Subscript x y _ => agO A sc a x && agO A sc b y && noSli y
    | _ => false
  | .didx a b, e => match e with
    | .Subscript x y _ => agO A sc a x && agO A sc b y && noSli y
    | _ => false
  | .slc a lo hi, e => match e with
    | .Subscript x (.Slice l h none _) _ => agO A sc a x && agP A sc lo l && agP A sc hi h
    | _ => false
  | .rev a, e => match e with
    | .Subscript x (.Slice none none (some (.UnaryOp .USub (.Constant (.int i) _ _) _)) _) _ => decide (i = 1) && agO A sc a x
    | _ => false
  | .fld c j a, e => match e with
    | .Attribute x f _ => agO A sc a x && noSup x && decide ((A.fl c)[j]? = some f)
    | _ => false
  | .dget a k d, e => match e with
    | .Call (.Attribute x m ap) [y, z] [] cp => decide (m = "get") && agO A sc a x && agO A sc k y && agO A sc d z && noSup x && noStar y && noStar z && lineOk ap cp
    | _ => false
  | .pget i p k d, e => match e with
    | .Call (.Attribute x m ap) [y, z] [] cp => decide (m = "get") && agPR A sc i p.reverse x && agO A sc k y && agO A sc d z && noSup x && noStar y && noStar z && lineOk ap cp
    | _ => false
  | .pop i p, e => match e with
    | .Call (.Attribute x m ap) [] [] cp => decide (m = "pop") && varB A sc i x && noSup x && p.isEmpty && lineOk ap cp
    | _ => false
  | .din neg k d, e => match e with
    | .Compare x [op] [y] _ => (match op with | .In => !neg | .NotIn => neg | _ => false) && agO A sc k x && agO A sc d y && !behindInMarks op y
    | _ => false
  | .ocmp cj a b, e => match e with
    | .Compare x [.Eq] [y] _ => agO A sc a x && agO A sc b y && cj.all (fun q => decide (A.cn[q.2]? = some (.op q.1 "__eq__")))
    | _ => false
  | .ogi cj a k, e => match e with
    | .Subscript x y _ => agO A sc a x && agO A sc k y && noSli y && cj.all (fun q => decide (A.cn[q.2]? = some (.op q.1 "__getitem__")))
    | _ => false
  | .clsm c j as, e => match e with
    | .Call (.Attribute (.Name n np) m ap) ys [] cp => decide (n = A.cln c) && A.isc.contains c && glB sc n && plainN n && agOs A sc as ys && decide (A.cn[j]? = some (.cm c m)) && lineOk ap cp && decide (ys.length < 30)
    | _ => false
  | .insm cj a as, e => match e with
    | .Call (.Attribute x m ap) ys [] cp => agO A sc a x && noSup x && agOs A sc as ys && cj.all (fun q => decide (A.cn[q.2]? = some (.cm q.1 m))) && lineOk ap cp && decide (ys.length < 30)
    | _ => false
  | .mkv i c j as, e => match e with
    | .Call (.Name x np) ys [] _ => varB A sc i (.Name x np) && agOs A sc as ys && decide (A.cn[j]? = some (.mv c))
    | _ => false
  | .call j as, e => match e with
    | .Call (.Name x _) ys [] _ => decide (A.cn[j]? = some (.fn x)) && glB sc x && plainN x && agOs A sc as ys
    | _ => false
  | .meth cj a as, e => match e with
    | .Call (.Attribute x m ap) ys [] cp => agO A sc a x && noSup x && agOs A sc as ys && cj.all (fun q => decide (A.cn[q.2]? = some (.me q.1 m))) && lineOk ap cp && decide (ys.length < 30)
    | _ => false
  | .make c j as, e => match e with
    | .Call (.Name x _) ys [] _ => decide (A.cn[j]? = some (.mk c x)) && glB sc x && plainN x && agOs A sc as ys
    | _ => false
  | .prop cj a, e => match e with
    | .Attribute x m _ => agO A sc a x && noSup x && cj.all (fun q => decide (A.cn[q.2]? = some (.pr q.1 m)))
    | _ => false
  | .lrng _, _ => false
  | .lc own g it t c, e => match e with
    | .ListComp elt [⟨tg, iter, ifs, 0⟩] scope _ => agI A sc it tg iter && noSet iter && blkC A.N sc scope (ownN A own) && agG A.blk (relS scope sc) own g tg && agTs A.blk (relS scope sc) t ifs && agE A.blk (relS scope sc) c elt
    | _ => false
  | .dc ty own g it t k c, e => match e with
    | .DictComp kx elt [⟨tg, iter, ifs, 0⟩] scope _ => agI A sc it tg iter && noSet iter && blkC A.N sc scope (ownN A own) && agG A.blk (relS scope sc) own g tg && agTs A.blk (relS scope sc) t ifs && agE A.blk (relS scope sc) k kx && agE A.blk (relS scope sc) c elt && !ty
    | _ => false
def agI (A : AgC) (sc : Scope) : CI → Expr → Expr → Bool
  | .lst c, _, e => agE A sc c e
  | .tup c, _, e => agE A sc c e
  | .scr i, _, e => varB A sc i e
  | .rng1 a, _, e => match e with
    | .Call (.Name n _) [x] [] _ => decide (n = "range") && glB sc n && noStar x && agE A sc a x
    | _ => false
  | .rng2 a b, _, e => match e with
    | .Call (.Name n _) [x, y] [] _ => decide (n = "range") && glB sc n && noStar x && noStar y && agE A sc a x && agE A sc b y
    | _ => false
  | .rng3 a b c, _, e => match e with
    | .Call (.Name n _) [x, y, z] [] _ => decide (n = "range") && glB sc n && noStar x && noStar y && noStar z && agE A sc a x && agE A sc b y && agE A sc c z
    | _ => false
  | .enm c, tg, e => match e with
    | .Call (.Name n _) [x] [] _ => decide (n = "enumerate") && glB sc n && noStar x && agE A sc c x && isTup tg
    | _ => false
  | .keys c, _, e => agE A sc c e
def agEs (A : AgC) (sc : Scope) : CEs → List Expr → Bool
  | .nil, es => match es with
    | [] => true
    | _ => false
  | .cons c r, es => match es with
    | e :: es => agE A sc c e && noStar e && agEs A sc r es
    | _ => false
def agPs (A : AgC) (sc : Scope) : CPs → List (Option Expr) → List Expr → Bool
  | .nil, ks, vs => match ks, vs with
    | [], [] => true
    | _, _ => false
  | .cons k v r, ks, vs => match ks, vs with
    | some x :: ks, y :: vs => agE A sc k x && agE A sc v y && agPs A sc r ks vs
    | _, _ => false
def agP (A : AgC) (sc : Scope) : CP → Option Expr → Bool
  | .no, e => match e with
    | none => true
    | _ => false
  | .so c, e => match e with
    | some x => agE A sc c x
    | none => false
def agO (A : AgC) (sc : Scope) : CO → Expr → Bool
  | .e c, e => agE A sc c e
  | .v i, e => varB A sc i e
def agOs (A : AgC) (sc : Scope) : COs → List Expr → Bool
  | .nil, es => match es with
    | [] => true
    | _ => false
  | .cons c r, es => match es with
    | e :: es => agO A sc c e && noStar e && agOs A sc r es
    | _ => false
def agT (A : AgC) (sc : Scope) : CT → Expr → Bool
  | .val c, e => agO A sc c e && plainT e
  | .cmp o a b, e => match e with
    | .Compare x [op] [y] _ => cmB o op && agO A sc a x && agO A sc b y && !behindInMarks op y
    | _ => false
  | .chn o o' a b c, e => match e with
    | .Compare x [op, op'] [y, z] _ => cmB o op && cmB o' op' && agO A sc a x && agO A sc b y && agO A sc c z && !lastMarks [op, op'] [y, z]
    | _ => false
  | .din neg k d, e => match e with
    | .Compare x [op] [y] _ => (match op with | .In => !neg | .NotIn => neg | _ => false) && agO A sc k x && agO A sc d y && !behindInMarks op y
    | _ => false
  | .andT a b, e => match e with
    | .BoolOp .And [x, y] _ => agT A sc a x && agT A sc b y
    | .BoolOp .And (x :: y :: z :: r) p => agT A sc a x && agT A sc b (.BoolOp .And (y :: z :: r) p)
    | _ => false
  | .orT a b, e => match e with
    | .BoolOp .Or [x, y] _ => agT A sc a x && agT A sc b y
    | .BoolOp .Or (x :: y :: z :: r) p => agT A sc a x && agT A sc b (.BoolOp .Or (y :: z :: r) p)
    | _ => false
  | .notT a, e => match e with
    | .UnaryOp .Not x _ => agT A sc a x
    | _ => false
def agTs (A : AgC) (sc : Scope) : CTs → List Expr → Bool
  | .nil, es => match es with
    | [] => true
    | _ => false
  | .cons t r, es => match r, es with
    | .nil, [e] => agT A sc t e
    | _, _ => false
end
def isNameE : Expr → Bool
  | .Name .. => true
  | _ => false
def noTupE : Expr → Bool
  | .Tuple .. => false
  | _ => true
/-- name = [..]: where the store is swapped with the block's leaving -/
def swB (sc : Scope) (y : Str) (py pos : Pos) (bs : Scope) : Bool := (match sc.names.lookup y with | some .local => true | _ => false) && (py.line == pos.line) && !(bs.names.any fun (n, k) => n == y && (k == .local || k == .cell))
def isLC : CE → Bool
  | .lc .. => true
  | .dc .. => true
  | _ => false
mutual
def agS (A : AgC) (sc : Scope) : CS → Stmt → Bool
  | .asg g c, s => match s with
    | .Assign [tg] e _ => agG A sc A.asn g tg && agE A sc c e && (if isNameE tg = true then (match tg, e with
      | .Name y py, .ListComp _ [⟨_, _, _, 0⟩] bs pos => isLC c && swB sc y py pos bs
      | .Name y py, .DictComp _ _ [⟨_, _, _, 0⟩] bs pos => isLC c && swB sc y py pos bs
      | _, _ => noComp e) else noTupE e && noComp e)
    | _ => false
  | .exp c, s => match s with
    | .Expr e _ => agE A sc c e && noComp e
    | _ => false
  | .ifS t a b, s => match s with
    | .If c p q _ => agT A sc t c && agB A sc a p && agB A sc b q
    | _ => false
  | .forS g it b, s => match s with
    | .For tg e p [] _ => agI A sc it tg e && noSet e && agG A sc A.asn g tg && agB A sc b p
    | _ => false
  | .whl _ t b, s => match s with
    | .While c p [] _ => agT A sc t c && agB A sc b p
    | _ => false
  | .retS c, s => match s with
    | .Return (some e) _ => agE A sc c e
    | _ => false
  | .retN, s => match s with
    | .Return none _ => true
    | _ => false
  | .brk, s => match s with
    | .Break _ => true
    | _ => false
  | .pas, s => match s with
    | .Pass _ => true
    | .Expr (.Constant (.str _) _ _) _ => true
    | _ => false
  | .nev, _ => true
  | .app i c, s => match s with
    | .Expr (.Call (.Attribute o m ap) [x] [] cp) _ => decide (m = "append") && varB A sc i o && noSup o && noStar x && lineOk ap cp && agE A sc c x
    | _ => false
  | .ext i c, s => match s with
    | .Expr (.Call (.Attribute o m ap) [x] [] cp) _ => decide (m = "extend") && varB A sc i o && noSup o && noStar x && lineOk ap cp && agO A sc c x
    | _ => false
  | .seti i k c, s => match s with
    | .Assign [.Subscript o x _] e _ => varB A sc i o && agE A sc k x && agE A sc c e
    | _ => false
  | .setd i k c, s => match s with
    | .Assign [.Subscript o x _] e _ => varB A sc i o && agE A sc k x && agE A sc c e
    | _ => false
  | .setf i c j x, s => match s with
    | .Assign [.Attribute o f _] e _ => varB A sc i o && decide ((A.fl c)[j]? = some f) && agE A sc x e
    | _ => false
  | .rvs i, s => match s with
    | .Expr (.Call (.Attribute o m ap) [] [] cp) _ => decide (m = "reverse") && varB A sc i o && noSup o && lineOk ap cp
    | _ => false
  | .ins i k c, s => match s with
    | .Expr (.Call (.Attribute o m ap) [x, y] [] cp) _ => decide (m = "insert") && varB A sc i o && noSup o && noStar x && noStar y && lineOk ap cp && agE A sc k x && agE A sc c y
    | _ => false
  | .papp i p c, s => match s with
    | .Expr (.Call (.Attribute o m ap) [x] [] cp) _ => decide (m = "append") && agPR A sc i p.reverse o && noSup o && noStar x && lineOk ap cp && agE A sc c x
    | _ => false
  | .pset i p k c, s => match s with
    | .Assign [.Subscript o x _] e _ => agPR A sc i p.reverse o && agE A sc k x && agE A sc c e
    | _ => false
  | .psetd i p k c, s => match s with
    | .Assign [.Subscript o x _] e _ => agPR A sc i p.reverse o && agE A sc k x && agE A sc c e
    | _ => false
  | .sdapp _ _ _, _ => false
  | .aug _ _ _, _ => false
def agB (A : AgC) (sc : Scope) : CB → List Stmt → Bool
  | .nil, ss => match ss with
    | [] => true
    | _ => false
  | .cons s r, ss => match ss with
    | t :: ss => agS A sc s t && agB A sc r ss
    | _ => false
  | .al r i a b k c rest, ss => match ss with
    | .Assign [.Name n _] (.Subscript (.Subscript o x _) y _) _ :: .Assign [.Subscript o2 w _] e _ :: ss => varB A sc i o && agE A sc a x && noSli x && agE A sc b y && noSli y && decide (A.N[r]? = some n) && locB A.fnc sc n && A.asn.contains r && varB A sc r o2 && agE A sc c e && agE A sc k w && agB A sc rest ss
    | _ => false
end
/-! ### a def's promise -/
def spD (Γ : Gm) (K : PySem.W.Frag) (n : Nat) (f : FnS) : Sp := fun vs H Q E => ∃ Hs G ts o ts', vs.length = ts.length ∧ ts.length = n ∧ ts'.length = ts.length ∧ OwnS Γ K [] [] (vs.zip ts ++ G) H Hs ∧ f ts = some (o, ts') ∧
  match o with
  | .ret t => ∀ H' Hs' v, OwnS Γ K [] [] ((v, t) :: (vs.zip ts' ++ G)) H' Hs' → Q v H'
  | .exc c ds => ∀ H' Hs' d, XOwn Γ K [] [] (vs.zip ts' ++ G) c ds d H' Hs' → E (.ref (Γ.cad c)) d H'
/-- as many come back as are lent -/
def FnL (f : FnS) (n : Nat) : Prop := ∀ ts o ts', f ts = some (o, ts') → ts.length = n ∧ ts'.length = ts.length
/-- a callee of a body -/
def CalOk (X : Cx) (Γ : Gm) (CXt : CXT) : CalN → FnS → Prop
  | .fn x, f => ∃ a fd ps k, FnOk X.prog X.w X.K X.mg X.base CXt k a fd ps (spD Γ X.K ps.length f) ∧ Room k X.A ∧ X.mg x = some (.ref a) ∧ PySem.W.keepIn X.K (.ref a) = true ∧ Binds X.K fd ps [] ∧ FnL f ps.length
  | .me c m, f => ∃ a fd ps k, FnOk X.prog X.w X.K X.mg X.base CXt k a fd ps (spD Γ X.K ps.length f) ∧ Room k X.A ∧ Meth X.K (Γ.cad c) m a ∧ Binds X.K fd ps [] ∧ Cls X.K (Γ.cad c) ∧ m ∉ Γ.fl c ∧ FnL f ps.length
  | .mk c x, f => ∃ a fd ps k, FnOk X.prog X.w X.K X.mg X.base CXt k a fd ps (spD Γ X.K ps.length f) ∧ Room (k + 1) X.A ∧ Mk X.K (Γ.cad c) a ∧ X.mg x = some (.ref (Γ.cad c)) ∧ Binds X.K fd ps [] ∧ FnL f ps.length
  | .pr c p, f => ∃ a g fd ps k, FnOk X.prog X.w X.K X.mg X.base CXt k g fd ps (spD Γ X.K ps.length f) ∧ Room (k + 1) X.A ∧ PropOf X.K (Γ.cad c) p a g ∧ Binds X.K fd ps [] ∧ Cls X.K (Γ.cad c) ∧ FnL f ps.length
  | .op c m, f => ∃ a fd ps k, FnOk X.prog X.w X.K X.mg X.base CXt k a fd ps (spD Γ X.K ps.length f) ∧ Room (k + 1) X.A ∧ PySem.W.findIn X.K (.ref (Γ.cad c)) m = some (some (.ref a)) ∧ PySem.W.isFn X.K (.ref a) = true ∧ PySem.W.fnIn X.K a = true ∧ Binds X.K fd ps [] ∧ FnL f ps.length
  | .cm c m, f => ∃ mc p g fd ps k, FnOk X.prog X.w X.K X.mg X.base CXt k g fd ps (spD Γ X.K ps.length f) ∧ Room k X.A ∧ ClX.CRead X.K (Γ.cad c) mc ∧ ClX.CMet X.K (Γ.cad c) mc m p g ∧ ClX.CInst X.K (Γ.cad c) m p g ∧ Binds X.K fd ps [] ∧ FnL f ps.length ∧ m ∉ Γ.fl c
  | .mv c, f => ∃ a fd ps k, FnOk X.prog X.w X.K X.mg X.base CXt k a fd ps (spD Γ X.K ps.length f) ∧ Room (k + 1) X.A ∧ Mk X.K (Γ.cad c) a ∧ Binds X.K fd ps [] ∧ FnL f ps.length
def bltN : List Str := ["len", "abs", "int", "list", "dict", "tuple", "sorted", "max", "min", "isinstance", "range", "enumerate", "bool", "str", "iter"]
structure ClsOk (K : PySem.W.Frag) (Γ : Gm) (c : Nat) : Prop where
  cl : Cls K (Γ.cad c)
  no : ∀ f ∈ Γ.fl c, NoAttr K (Γ.cad c) f
  nd : (Γ.fl c).Nodup
  few : (Γ.fl c).length < 1000
  ha : PySem.W.findIn K (.ref (Γ.cad c)) "__class__" = some (some (.builtin "object.__class__"))
  hn : PySem.W.specialIn K (.builtin "object.__class__") "__get__" = some (some (.builtin "getset_descriptor.__get__"))
  htk : PySem.W.takesIn K (.builtin "object.__class__") = some true
  hm : PySem.W.mroIn K (Γ.cad c) (.type "object") = some true
def tyDV (Γ : Gm) : TyD → Value
  | .non => .type "NoneType"
  | .bool => .type "bool"
  | .int => .type "int"
  | .str => .type "str"
  | .list => .type "list"
  | .tuple => .type "tuple"
  | .dict => .type "dict"
  | .cls c => .ref (Γ.cad c)
def tyCV (Γ : Gm) : TyC → Value
  | .int => .type "int"
  | .bool => .type "bool"
  | .str => .type "str"
  | .list => .type "list"
  | .tuple => .type "tuple"
  | .dict => .type "dict"
  | .cls c => .ref (Γ.cad c)
def tyDok (Γ : Gm) : TyD → Prop
  | .cls c => Γ.fl c ≠ []
  | _ => True
def tyCok (A : AgC) : TyC → Prop
  | .cls c => c ∈ A.isc
  | _ => True
structure SX (X : Cx) (Γ : Gm) (A : AgC) (C : Ctx) (W : WX) (CXt : CXT) : Prop where
  hN : X.N = A.N
  nd : X.N.Nodup
  calm : X.calm = true
  hu : X.A.units + 65 < cLine
  hfl : Γ.fl = A.fl
  blt : ∀ x ∈ bltN, X.mg x = none
  gl : ∀ (j : Nat) (x : Str) (d : D), A.gn[j]? = some x → C.gs[j]? = some d → ∃ u v, X.mg x = some u ∧ RelV v u ∧ ∀ H, Rep Γ X.K H v d
  fn : ∀ (j : Nat) (n : CalN) (f : FnS), A.cn[j]? = some n → C.fs[j]? = some f → CalOk X Γ CXt n f
  fnl : ∀ (j : Nat) (n : CalN), A.cn[j]? = some n → ∃ f, C.fs[j]? = some f
  cls : ∀ c, Γ.fl c ≠ [] → ClsOk X.K Γ c
  nf : ∀ c c', Γ.fl c ≠ [] → Γ.fl c' ≠ [] → PySem.W.notFirst X.K (Γ.cad c) (.ref (Γ.cad c')) = true
  clm : ∀ c ∈ A.isc, X.mg (A.cln c) = some (.ref (Γ.cad c))
  isi : ∀ a t, tyDok Γ a → tyCok A t → PySem.W.kitOne X.K (tyDV Γ a) (tyCV Γ t) = some (tyLe a t)
  fnv : A.fnc = true → ∀ x, X.fn x = true
  tk : ∀ σ, PassesAt CXt X σ (WE W σ)
  nx : ∀ outer H s e s', CXt outer H s (fun _ _ _ => False) e s' → False
end BC
set_option Elab.async false
set_option linter.all false
set_option maxRecDepth 100000
set_option maxHeartbeats 4000000
/-! Core terms are sound: expressions. -/
namespace BC
open PySem PySem.Spec PyProof.Rows L2
/-! ### the syntax's side conditions -/
theorem star_of {e : Expr} {es : List Expr} {env : PySem.Env} (h : noStar e = true) : starEach (e :: es) env = (false, eval e env) :: starEach es env := by
  cases e <;> first | rfl | cases h
theorem sup_of {e : Expr} {f : Str} {env : PySem.Env} (h : noSup e = true) : attributeBase e f env (eval e env) = eval e env := by
  cases e with
  | Call fe as ks p => cases fe <;> first | rfl | (cases as <;> first | rfl | (cases ks <;> first | rfl | cases h))
  | _ => rfl
theorem sli_of {b : Expr} (h : noSli b = true) : PlainIx b := by
  intro o i
  cases b <;> first | rfl | cases h
theorem tst_of {a : Expr} {env : PySem.Env} (h : plainT a = true) (whole : Sem Value) : isTrue a env whole = (do let v ← whole; standAt a.pos; holding [v] (truthy v)) := by
  cases a with
  | UnaryOp o x p => cases o <;> first | rfl | cases h
  | BoolOp o x p => cases h
  | IfExp a b c p => cases h
  | Compare a b c p => cases h
  | _ => rfl
theorem cm_of {o : Cm} {op : CmpOp} (h : cmB o op = true) : op = cmA o := by
  cases o <;> cases op <;> first | rfl | cases h
theorem op_of {o : Op2} {op : Operator} (h : opB o op = true) : op = opA o := by
  cases o <;> cases op <;> first | rfl | cases h
theorem an {a b : Bool} (h : (a && b) = true) : a = true ∧ b = true := Bool.and_eq_true_iff.mp h
section
variable {X : Cx} {Γ : Gm} {A : AgC} {C : Ctx} {W : WX} {CXt : CXT}
theorem vis_of {sc : Scope} {x : Str} (h : visB sc x = true) : Vis sc x := by
  unfold visB at h
  split at h
  · rename_i e; exact .inl e
  · rename_i e; exact .inr (.inl e)
  · rename_i e; exact .inr (.inr e)
  · cases h
theorem gl_of {x : Str} (h : glB X.env.scope x = true) : Gl X x := by
  unfold glB at h
  split at h
  · rename_i e; exact e
  · cases h
theorem plain_of {x : Str} (h : plainN x = true) : (x == ("__debug__" : Str)) = false ∧ (x == ("__classdict__" : Str)) = false := by
  unfold plainN at h
  obtain ⟨h1, h2⟩ := an h
  exact ⟨by simpa using h1, by simpa using h2⟩
theorem pe_mono {e : Expr} {t t' : TE} (h : PE X e t) (k : ∀ σ H Q, t' σ H Q → t σ H Q) : PE X e t' := ⟨fun pins s σ H Q I q => h.run pins s σ H Q I (k σ H Q q)⟩
theorem pt_mono {e : Expr} {t t' : TT} (h : PT X e t) (k : ∀ σ H Q, t' σ H Q → t σ H Q) : PT X e t' := ⟨fun pins s σ H Q I q => h.run pins s σ H Q I (k σ H Q q)⟩
theorem pw_mono {e : Expr} {t t' : TT} (h : PW X e t) (k : ∀ σ H Q, t' σ H Q → t σ H Q) : PW X e t' := ⟨fun wh pins s σ H Q I q => h.run wh pins s σ H Q I (k σ H Q q)⟩
theorem pa_mono {es : List Expr} {t t' : TA} (h : PA X es t) (k : ∀ σ H Q, t' σ H Q → t σ H Q) : PA X es t' := ⟨fun pos pins s σ H Q I q => h.run pos pins s σ H Q I (k σ H Q q)⟩
/-- a name in a slot -/
theorem pe_slot (S : SX X Γ A C W CXt) {i : Nat} {e : Expr} (h : varB A X.env.scope i e = true) : PE X e (tVar i) := by
  unfold varB at h
  split at h
  · obtain ⟨h, h3⟩ := an h
    obtain ⟨h1, h2⟩ := an h
    have e1 : A.N[i]? = some _ := of_decide_eq_true h1
    exact pe_var (by rw [S.hN]; exact e1) (vis_of h2) (plain_of h3).1 (plain_of h3).2
  · cases h
theorem tE_var {K : PySem.W.Frag} {i : Nat} {m : M T} {σ : St} {H : Hp} {Q : VK} (hm : ∀ env r env', m env = some (r, env') → ∃ t t', env[i]? = some t ∧ t ≠ .un ∧ r = .ok t' ∧
    ∀ Hs G v, σ[i]? = some (some v) → OwnS Γ K σ env G H Hs → ∃ Hs', OwnS Γ K σ env' ((v, t') :: G) H Hs') (h : tE Γ K W m σ H Q) : tVar i σ H Q := by
  obtain ⟨Hs, env, G, r, env', o, e, k⟩ := h
  obtain ⟨t, t', e1, e2, rfl, f⟩ := hm env r env' e
  rcases o.asg i t e1 with z | ⟨v, s⟩
  · exact absurd z e2
  · obtain ⟨Hs', o'⟩ := f Hs G v s o
    exact ⟨v, s, k H Hs' v trivial o'⟩
theorem set_self {α : Type} {l : List α} {i : Nat} {a : α} (h : l[i]? = some a) : l.set i a = l := by
  apply List.ext_getElem?
  intro j
  by_cases hj : i = j
  · subst hj
    rw [List.getElem?_set_self (List.getElem?_eq_some_iff.mp h).1, h]
  · rw [List.getElem?_set_ne hj]
/-- a slot's tree is shared from now on, and read -/
theorem OwnS.rdVar {K : PySem.W.Frag} {σ : St} {env : En} {G : List VT} {H Hs : Hp} {i : Nat} {t : T} {d : D} {v : V} (o : OwnS Γ K σ env G H Hs) (e : env[i]? = some t) (q : t.rd = some d) (s : σ[i]? = some (some v)) :
    ∃ Hs', OwnS Γ K σ (env.set i (.sh d)) ((v, .sh d) :: G) H Hs' := by
  obtain ⟨Hs', _, o1⟩ := (o.take e s).freeze q
  have o2 := o1.dup.put s
  rw [List.set_set] at o2
  exact ⟨Hs', o2⟩
theorem s_var {i : Nat} {K : PySem.W.Frag} {σ : St} {H : Hp} {Q : VK} (h : tE Γ K W (rdVar i) σ H Q) : tVar i σ H Q := by
  refine tE_var (fun env r env' e => ?_) h
  unfold rdVar at e
  cases q : env[i]? with
  | none => rw [q] at e; cases e
  | some t =>
    rw [q] at e
    cases q2 : t.rd with
    | none =>
      have e : (match t.rd with
        | some d => some (Ex.ok (T.sh d), env.set i (.sh d))
        | none => none) = some (r, env') := e
      rw [q2] at e; cases e
    | some d =>
      have e : (match t.rd with
        | some d => some (Ex.ok (T.sh d), env.set i (.sh d))
        | none => none) = some (r, env') := e
      rw [q2] at e
      cases e
      exact ⟨t, _, rfl, (fun z => by subst z; cases q2), rfl, fun Hs G v s o => o.rdVar q q2 s⟩
theorem s_mv {i : Nat} {K : PySem.W.Frag} {σ : St} {H : Hp} {Q : VK} (h : tE Γ K W (mvVar i) σ H Q) : tVar i σ H Q := by
  refine tE_var (fun env r env' e => ?_) h
  unfold mvVar at e
  split at e
  · rename_i d q
    cases e
    exact ⟨_, _, q, (fun z => by cases z), rfl, fun Hs G v s o => ⟨Hs, by
      have o2 := (o.take q s).dup.put s
      rw [List.set_set, set_self q] at o2
      exact o2⟩⟩
  · rename_i k ts q
    cases e
    exact ⟨_, _, q, (fun z => by cases z), rfl, fun Hs G v s o => ⟨Hs, o.take q s⟩⟩
  · cases e
/-- an operand that is a slot -/
theorem s_ov {i : Nat} {K : PySem.W.Frag} {σ : St} {H : Hp} {Q : VK} (h : tO Γ K W (evO C (.v i)) σ H Q) : tVar i σ H Q := by
  obtain ⟨Hs, env, G, r, env', o, e, k⟩ := h
  simp only [evO, lift] at e
  cases q : env[i]? with
  | none => rw [q] at e; cases e
  | some t =>
    rw [q] at e
    rcases o.asg i t q with z | ⟨v, s⟩
    · subst z; cases e
    · cases t with
      | un => cases e
      | _ =>
        cases e
        exact ⟨v, s, k H Hs v s o⟩
/-- an operand that is a value -/
theorem s_oe {c : CE} {K : PySem.W.Frag} {σ : St} {H : Hp} {Q : VK} (h : tO Γ K W (evO C (.e c)) σ H Q) : tE Γ K W (evE C c) σ H Q := by
  simp only [evO] at h
  refine (rdt.bind (ent := entT) (side := noSide) h).mono fun v H' ⟨a, _, q⟩ => ?_
  obtain ⟨Hs, env, G, o, k⟩ := q.ret_
  exact k H' Hs v trivial o
/-! ### calls -/
theorem OwnS.enter {K : PySem.W.Frag} {σ : St} {env : En} {L : List VT} {H Hs : Hp} (o : OwnS Γ K σ env L H Hs) : OwnS Γ K [] [] (ents σ env ++ L) H Hs :=
  o.perm' rfl (fun i t h => by simp at h) (.refl _)
theorem OwnS.leave {K : PySem.W.Frag} {σ : St} {env : En} {L G : List VT} {H Hs : Hp} (l : env.length = σ.length) (a : AsgOk σ env) (o : OwnS Γ K [] [] (L ++ (ents σ env ++ G)) H Hs) : OwnS Γ K σ env (L ++ G) H Hs := by
  refine o.perm' l a ?_
  show (L ++ (ents σ env ++ G)).Perm (ents σ env ++ (L ++ G))
  rw [← List.append_assoc, ← List.append_assoc]
  exact List.perm_append_comm.append_right _
theorem OwnS.lend {K : PySem.W.Frag} {σ : St} {H Hs : Hp} : ∀ (os : List OV) (vs : List V) (env env' : En) (ts : List T) (G : List VT), OwnS Γ K σ env (entOs vs os ++ G) H Hs → sideOs σ vs os → lend os env = some (ts, env') →
    OwnS Γ K σ env' (vs.zip ts ++ G) H Hs ∧ vs.length = ts.length
  | [], vs, env, env', ts, G, o, s, e => by
    cases vs with
    | nil => cases e; exact ⟨o, rfl⟩
    | cons v vs => exact s.elim
  | .t x :: os, vs, env, env', ts, G, o, s, e => by
    cases vs with
    | nil => exact s.elim
    | cons v vs =>
      simp only [BC.lend] at e
      cases q : BC.lend os env with
      | none => rw [q] at e; cases e
      | some p =>
        obtain ⟨ts1, e1⟩ := p
        rw [q] at e
        cases e
        have o1 : OwnS Γ K σ env ((v, x) :: (entOs vs os ++ G)) H Hs := o
        obtain ⟨h1, h2⟩ := OwnS.lend os vs env _ ts1 ((v, x) :: G) o1.mid s.2 q
        exact ⟨h1.unmid, by simp [h2]⟩
  | .s i :: os, vs, env, env', ts, G, o, s, e => by
    cases vs with
    | nil => exact s.elim
    | cons v vs =>
      simp only [BC.lend] at e
      split at e
      · cases e
      · rename_i t hu q
        cases q2 : BC.lend os (env.set i .un) with
        | none => rw [q2] at e; cases e
        | some p =>
          obtain ⟨ts1, e1⟩ := p
          rw [q2] at e
          cases e
          have o0 : OwnS Γ K σ env (entOs vs os ++ G) H Hs := o
          have o1 := o0.take q s.1
          obtain ⟨h1, h2⟩ := OwnS.lend os vs _ _ ts1 ((v, t) :: G) o1.mid s.2 q2
          exact ⟨h1.unmid, by simp [h2]⟩
      · cases e
theorem OwnS.back {K : PySem.W.Frag} {σ : St} {H Hs : Hp} : ∀ (os : List OV) (vs : List V) (env : En) (ts : List T) (G : List VT), OwnS Γ K σ env (vs.zip ts ++ G) H Hs → sideOs σ vs os → vs.length = ts.length →
    OwnS Γ K σ (back os ts env) G H Hs
  | [], vs, env, ts, G, o, s, l => by
    cases vs with
    | nil => cases ts with
      | nil => exact o
      | cons _ _ => simp at l
    | cons v vs => exact s.elim
  | .t x :: os, vs, env, ts, G, o, s, l => by
    cases vs with
    | nil => exact s.elim
    | cons v vs =>
      cases ts with
      | nil => simp at l
      | cons t ts =>
        have o1 : OwnS Γ K σ env ((v, t) :: (vs.zip ts ++ G)) H Hs := o
        exact OwnS.back os vs env ts G o1.drop s.2 (by simpa using l)
  | .s i :: os, vs, env, ts, G, o, s, l => by
    cases vs with
    | nil => exact s.elim
    | cons v vs =>
      cases ts with
      | nil => simp at l
      | cons t ts =>
        have o1 : OwnS Γ K σ env ((v, t) :: (vs.zip ts ++ G)) H Hs := o
        exact OwnS.back os vs _ ts G (o1.put s.1) s.2 (by simpa using l)
theorem XOwn.leave {K : PySem.W.Frag} {σ : St} {env : En} {L G : List VT} {H Hs : Hp} {c : Nat} {ds : List D} {d : Option Addr} (l : env.length = σ.length) (a : AsgOk σ env) (x : XOwn Γ K [] [] (L ++ (ents σ env ++ G)) c ds d H Hs) : XOwn Γ K σ env (L ++ G) c ds d H Hs := by
  rcases x with ⟨h1, h2, h3, o⟩ | ⟨b, ws, h1, h2, h3, h4, o⟩
  · exact .inl ⟨h1, h2, h3, o.leave l a⟩
  · exact .inr ⟨b, ws, h1, h2, h3, h4, OwnS.leave (L := _ :: L) l a o⟩
theorem XOwn.map {K : PySem.W.Frag} {σ : St} {env env' : En} {G G' : List VT} {H Hs : Hp} {c : Nat} {ds : List D} {d : Option Addr} (x : XOwn Γ K σ env G c ds d H Hs) (f : ∀ E, OwnS Γ K σ env (G ++ E) H Hs → OwnS Γ K σ env' (G' ++ E) H Hs) : XOwn Γ K σ env' G' c ds d H Hs := by
  rcases x with ⟨h1, h2, h3, o⟩ | ⟨b, ws, h1, h2, h3, h4, o⟩
  · refine .inl ⟨h1, h2, h3, ?_⟩
    have := f [] (by rw [List.append_nil]; exact o)
    rwa [List.append_nil] at this
  · refine .inr ⟨b, ws, h1, h2, h3, h4, ?_⟩
    have o1 : OwnS Γ K σ env (G ++ [(.ref b, .ce (.xd ((Γ.fl c).zip ws)))]) H Hs := o.perm (List.perm_append_comm (l₁ := [_]))
    exact (f _ o1).perm List.perm_append_comm
/-- a call keeps the callee's promise -/
theorem s_call {K : PySem.W.Frag} {σ : St} {H : Hp} {Q : VK} {tmp : List VT} {f : FnS} {os : List OV} {vs : List V} {n : Nat} (hn : ∀ ts o ts', f ts = some (o, ts') → ts.length = n ∧ ts'.length = ts.length) (s : sideOs σ vs os)
    (ht : tmp = entOs vs os) (h : rdt Γ K W entT noSide tmp (callF f os) σ H Q) : spD Γ K n f vs H Q (WE W σ) := by
  subst ht
  obtain ⟨Hs, env, G, r, env', o, e, k⟩ := h
  unfold callF at e
  cases q : BC.lend os env with
  | none => rw [q] at e; cases e
  | some p =>
    obtain ⟨ts, e1⟩ := p
    rw [q] at e
    obtain ⟨o1, l1⟩ := OwnS.lend os vs env e1 ts G o s q
    have e : (match f ts with
      | some (.ret t, ts') => some (Ex.ok t, back os ts' e1)
      | some (.exc c ds, ts') => some (.exc c ds, back os ts' e1)
      | none => none) = some (r, env') := e
    cases q2 : f ts with
    | none => rw [q2] at e; cases e
    | some p2 =>
      obtain ⟨out, ts'⟩ := p2
      rw [q2] at e
      obtain ⟨n1, n2⟩ := hn ts out ts' q2
      have w0 : OwnS Γ K [] [] (vs.zip ts ++ (ents σ e1 ++ G)) H Hs := by
        refine o1.enter.perm ?_
        rw [← List.append_assoc, ← List.append_assoc]
        exact List.perm_append_comm.append_right _
      refine ⟨Hs, ents σ e1 ++ G, ts, out, ts', l1, n1, n2, w0, q2, ?_⟩
      have l2 : vs.length = ts'.length := by rw [n2]; exact l1
      cases out with
      | ret t =>
        cases e
        intro H' Hs' v w
        have w1 : OwnS Γ K σ e1 (((v, t) :: vs.zip ts') ++ G) H' Hs' := OwnS.leave o1.len o1.asg w
        have w2 : OwnS Γ K σ e1 (vs.zip ts' ++ (v, t) :: G) H' Hs' := w1.mid
        exact k H' Hs' v trivial (OwnS.back os vs e1 ts' _ w2 s l2)
      | exc c ds =>
        cases e
        intro H' Hs' d x
        refine k H' Hs' d ((XOwn.leave o1.len o1.asg x).map fun E w => ?_)
        rw [List.append_assoc] at w
        exact OwnS.back os vs e1 ts' _ w s l2
end
end BC
set_option Elab.async false
set_option linter.all false
set_option maxRecDepth 100000
set_option maxHeartbeats 4000000
/-! Each expression of Core against its rule. -/
namespace BC
open PySem PySem.Spec PyProof.Rows L2
section
variable {Γ : Gm} {K : PySem.W.Frag} {σ : St} {env env' : En} {G : List VT} {H Hs : Hp}
theorem zip_split {α β : Type} {vs : List α} {ts : List β} {n : Nat} {t : β} (l : vs.length = ts.length) (e : ts[n]? = some t) : ∃ v L M, vs[n]? = some v ∧ vs.zip ts = L ++ (v, t) :: M ∧ ∀ t', vs.zip (ts.set n t') = L ++ (v, t') :: M := by
  induction ts generalizing vs n with
  | nil => simp at e
  | cons y ts ih =>
    cases vs with
    | nil => simp at l
    | cons x vs =>
      cases n with
      | zero => simp at e; subst e; exact ⟨x, [], vs.zip ts, by simp, rfl, fun _ => rfl⟩
      | succ n =>
        obtain ⟨v, L, M, h1, h2, h3⟩ := ih (vs := vs) (n := n) (by simpa using l) (by simpa using e)
        refine ⟨v, (x, y) :: L, M, by simpa using h1, ?_, fun t' => ?_⟩
        · show (x, y) :: vs.zip ts = _
          rw [h2] <;> rfl
        · show (x, y) :: vs.zip (ts.set n t') = _
          rw [h3] <;> rfl
/-- a child of an owned node is shared from now on -/
theorem OwnS.kidFreeze {v : V} {k : Kd} {ts : List T} {n : Nat} {t : T} {d : D} (o : OwnS Γ K σ env ((v, .ow k ts) :: G) H Hs) (e : ts[n]? = some t) (r : t.rd = some d) :
    ∃ a vs w Hs', v = .ref a ∧ Sh Γ K H a k vs ∧ vs.length = ts.length ∧ vs[n]? = some w ∧ OwnS Γ K σ env ((w, .sh d) :: (v, .ow k (ts.set n (.sh d))) :: G) H Hs' := by
  obtain ⟨a, vs, ob, rfl, ha, w0, l, o1⟩ := o.open_
  obtain ⟨w, L, M, h1, h2, h3⟩ := zip_split l e
  rw [h2] at o1
  have o2 : OwnS Γ K σ env ((w, t) :: (.ref a, .ce ob) :: (L ++ M ++ G)) H Hs := by
    refine o1.perm ?_
    rw [List.append_assoc]
    exact ((List.perm_middle.cons _).trans (.swap _ _ _)).trans (by simp)
  obtain ⟨Hs', le, o3⟩ := o2.freeze r
  refine ⟨a, vs, w, Hs', rfl, w0.sh ha, l, h1, ?_⟩
  have o4 := o3.dup
  have o5 : OwnS Γ K σ env ((.ref a, .ce ob) :: (vs.zip (ts.set n (.sh d)) ++ (w, .sh d) :: G)) H Hs' := by
    rw [h3]
    refine o4.perm ?_
    have p1 : ((w, T.sh d) :: (w, T.sh d) :: (V.ref a, T.ce ob) :: (L ++ M ++ G)).Perm ((V.ref a, T.ce ob) :: (w, T.sh d) :: (w, T.sh d) :: (L ++ M ++ G)) :=
      ((List.Perm.swap _ _ _).cons _).trans (.swap _ _ _)
    refine p1.trans (.cons _ ?_)
    have p2 : (L ++ (w, T.sh d) :: M ++ (w, T.sh d) :: G).Perm ((w, T.sh d) :: (w, T.sh d) :: (L ++ M ++ G)) := by
      have e1 : L ++ (w, T.sh d) :: M ++ (w, T.sh d) :: G = L ++ (w, T.sh d) :: (M ++ (w, T.sh d) :: G) := by simp
      have e2 : L ++ (M ++ (w, T.sh d) :: G) = (L ++ M) ++ (w, T.sh d) :: G := by simp
      rw [e1]
      refine List.perm_middle.trans (.cons _ ?_)
      rw [e2]
      exact List.perm_middle
    exact p2.symm
  exact (o5.close w0 (by rw [List.length_set]; exact l)).swap
theorem OwnS.kid {v : V} {ov : OV} {sel : Kd → Nat → Option Nat} {r : Ex T} (o : OwnS Γ K σ env (entO v ov ++ G) H Hs) (s : sideO σ v ov) (e : kid ov sel env = some (r, env')) :
    ∃ k a vs n w d, v = .ref a ∧ Sh Γ K H a k vs ∧ sel k vs.length = some n ∧ vs[n]? = some w ∧ r = .ok (.sh d) ∧ ∃ Hs', OwnS Γ K σ env' ((w, .sh d) :: G) H Hs' := by
  unfold BC.kid at e
  split at e
  · rename_i k ds q
    split at e
    · rename_i n hn
      split at e
      · rename_i d hd
        cases e
        obtain ⟨env1, M, o1⟩ := o.opd s (fun p hp => List.mem_append_left _ hp) q
        have rr := o1.rep
        cases rr with
        | nd h1 h2 =>
          obtain ⟨w, g1, g2⟩ := h2.get hd
          refine ⟨k, _, _, n, w, d, rfl, h1.le o.le, by rw [h2.length]; exact hn, g1, rfl, Hs, ?_⟩
          exact (OwnS.dropR o).addSh g2
      · cases e
    · cases e
  · rename_i k ts q
    split at e
    · rename_i n hn
      split at e
      · rename_i d hd
        cases qt : ts[n]? with
        | none => rw [qt] at hd; cases hd
        | some t =>
          rw [qt] at hd
          have hd : t.rd = some d := hd
          cases ov with
          | t x =>
            have q : some x = some (T.ow k ts) := q
            cases q
            cases e
            have o1 : OwnS Γ K σ env ((v, .ow k ts) :: G) H Hs := o
            obtain ⟨a, vs, w, Hs', rfl, h1, l, h2, o2⟩ := o1.kidFreeze qt hd
            exact ⟨k, a, vs, n, w, d, rfl, h1, by rw [l]; exact hn, h2, rfl, Hs', o2.swap.drop⟩
          | s i =>
            cases e
            have o1 : OwnS Γ K σ env G H Hs := o
            obtain ⟨a, vs, w, Hs', rfl, h1, l, h2, o2⟩ := (o1.take q s).kidFreeze qt hd
            have o3 := o2.swap.put s
            rw [List.set_set] at o3
            exact ⟨k, a, vs, n, w, d, rfl, h1, by rw [l]; exact hn, h2, rfl, Hs', o3⟩
      · cases e
    · cases e
  · cases e
theorem ixL_val {κ : Type} [DecidableEq κ] {ks : List κ} {vs : List V} {k : κ} {n : Nat} {w : V} (e : ixL ks k = some n) (q : vs[n]? = some w) : valV (ks.zip vs) k = some w := by
  induction ks generalizing vs n with
  | nil => cases e
  | cons j ks ih =>
    cases vs with
    | nil => simp at q
    | cons x vs =>
      simp only [ixL] at e
      split at e
      · rename_i h
        cases e
        simp at q
        subst q
        rw [show (j :: ks).zip (x :: vs) = (j, x) :: ks.zip vs from rfl, valV_pos h]
      · rename_i h
        cases qx : ixL ks k with
        | none => rw [qx] at e; cases e
        | some m =>
          rw [qx] at e
          cases e
          rw [show (j :: ks).zip (x :: vs) = (j, x) :: ks.zip vs from rfl, valV_neg h]
          exact ih qx (by simpa using q)
theorem getL_val {κ : Type} [DecidableEq κ] {α : Type} {ks : List κ} {vs : List V} {xs : List α} {k : κ} (l : ks.length = vs.length) (l2 : ks.length = xs.length) :
    (getL ks xs k = none ∧ valV (ks.zip vs) k = none) ∨ ∃ (n : Nat) (x : α) (w : V), getL ks xs k = some x ∧ xs[n]? = some x ∧ vs[n]? = some w ∧ valV (ks.zip vs) k = some w := by
  induction ks generalizing vs xs with
  | nil => exact .inl ⟨by cases xs <;> rfl, rfl⟩
  | cons j ks ih =>
    cases vs with
    | nil => simp at l
    | cons y vs =>
      cases xs with
      | nil => simp at l2
      | cons x xs =>
        rw [show (j :: ks).zip (y :: vs) = (j, y) :: ks.zip vs from rfl]
        by_cases h : j = k
        · exact .inr ⟨0, x, y, by simp [getL, h], by simp, by simp, valV_pos h⟩
        · rcases ih (vs := vs) (xs := xs) (by simpa using l) (by simpa using l2) with ⟨h1, h2⟩ | ⟨n, x', w, h1, h2, h3, h4⟩
          · exact .inl ⟨by simp [getL, h, h1], by rw [valV_neg h, h2]⟩
          · exact .inr ⟨n + 1, x', w, by simp [getL, h, h1], by simpa using h2, by simpa using h3, by rw [valV_neg h, h4]⟩
theorem key_rep {v : V} {d : D} {k : Key} (r : Rep Γ K H v d) (e : d.key = some k) : v = kV k := by
  cases r <;> first | (cases e; rfl) | cases e
theorem keys_rep {vs : List V} {ds : List D} {ks : List Key} (r : Reps Γ K H vs ds) (e : D.keys ds = some ks) : vs = ks.map kV := by
  induction ds generalizing vs ks with
  | nil => cases r; cases e; rfl
  | cons d ds ih =>
    cases r with
    | cons r1 r2 =>
      simp only [D.keys] at e
      split at e
      · rename_i h1 h2
        cases e
        rw [List.map_cons, key_rep r1 h1, ih r2 h2]
      · cases e
theorem keyT_rep {v : V} {d : D} {ks : List Key} (r : Rep Γ K H v d) (e : d.keyT = some ks) : ∃ b, v = .ref b ∧ H b = some (.tup (ks.map kV)) := by
  cases r with
  | nd h1 h2 =>
    rename_i a k vs ds
    cases k with
    | tup =>
      have e : D.keys ds = some ks := e
      have := keys_rep h2 e
      subst this
      exact ⟨a, rfl, h1⟩
    | _ => cases e
  | _ => cases e
end
section
variable {X : Cx} {Γ : Gm} {A : AgC} {C : Ctx} {W : WX} {CXt : CXT}
variable {x y z e : Expr} {pos : Pos} {a b c : CO}
/-- two operands, then what takes them -/
theorem rdt.two {K : PySem.W.Frag} {α δ : Type} {ent : δ → α → List VT} {side : St → δ → α → Prop} {f : OV → OV → M α} {σ : St} {H : Hp} {Q : δ → Hp → Prop} {R : V → V → Hp → Prop}
    (h : rdt Γ K W ent side [] (bd (evO C a) fun x => bd (evO C b) fun y => f x y) σ H Q)
    (k : ∀ v w H2 o p, sideO σ v o → sideO σ w p → rdt Γ K W ent side (entO w p ++ (entO v o ++ [])) (f o p) σ H2 Q → R v w H2) :
    tO Γ K W (evO C a) σ H fun v H1 => tO Γ K W (evO C b) σ H1 fun w H2 => R v w H2 :=
  (rdt.bind (ent := entO) (side := sideO) h).mono fun v H1 ⟨o, s, q⟩ => (rdt.bind (ent := entO) (side := sideO) q).mono fun w H2 ⟨p, s2, q2⟩ => k v w H2 o p s s2 q2
theorem x_op2 {o : Op2} (ha : PE X x (tO Γ X.K W (evO C a))) (hb : PE X y (tO Γ X.K W (evO C b))) : PE X (.BinOp x (opA o) y pos) (tE Γ X.K W (evE C (.op2 o a b))) := by
  obtain ⟨r, h1, h2⟩ := sBin (Γ := Γ) (X := X) o
  refine pe_mono (pe_op h1 ha hb) fun σ H Q h => ?_
  simp only [evE] at h
  refine rdt.two h fun v w H2 o1 o2 s1 s2 q => ?_
  obtain ⟨Hs, env, G, t, w0, e, k⟩ := q.lift
  cases q1 : o1.sd env with
  | none => rw [q1] at e; cases e
  | some d =>
    cases q2 : o2.sd env with
    | none => rw [q1, q2] at e; cases e
    | some d' =>
      rw [q1, q2] at e
      have e : pBin o d d' = some t := e
      exact h2 σ env G H2 Hs v w d d' t Q (OwnS.dropR w0) (w0.ovSd s1 (fun p hp => by simp [hp]) q1) (w0.ovSd s2 (fun p hp => by simp [hp]) q2) e fun H' Hs' v' w' => k H' Hs' v' trivial w'
theorem x_cmp (S : SX X Γ A C W CXt) {o : Cm} (ha : PE X x (tO Γ X.K W (evO C a))) (hb : PE X y (tO Γ X.K W (evO C b))) (hm : behindInMarks (cmA o) y = false) : PE X (.Compare x [cmA o] [y] pos) (tE Γ X.K W (evE C (.cmp o a b))) := by
  obtain ⟨r, h1, h2⟩ := sCmp (Γ := Γ) (X := X) S.hu o
  refine pe_mono (pe_cmpR h1 ha hb hm) fun σ H Q h => ?_
  simp only [evE] at h
  refine rdt.two h fun v w H2 o1 o2 s1 s2 q => ?_
  obtain ⟨Hs, env, G, t, w0, e, k⟩ := q.lift
  cases q1 : o1.rd env with
  | none => rw [q1] at e; cases e
  | some d =>
    cases q2 : o2.rd env with
    | none => rw [q1, q2] at e; cases e
    | some d' =>
      rw [q1, q2] at e
      have e : (pCmp o d d').map (fun b => T.sh (.bl b)) = some t := e
      cases q3 : pCmp o d d' with
      | none => rw [q3] at e; cases e
      | some bb =>
        rw [q3] at e
        cases e
        exact h2 H2 v w d d' bb Q (w0.ovRd s1 (fun p hp => by simp [hp]) q1) (w0.ovRd s2 (fun p hp => by simp [hp]) q2) q3 (k H2 Hs _ trivial (own_bl (OwnS.dropR w0)))
theorem x_tcmp (S : SX X Γ A C W CXt) {o : Cm} (ha : PE X x (tO Γ X.K W (evO C a))) (hb : PE X y (tO Γ X.K W (evO C b))) (hm : behindInMarks (cmA o) y = false) : PT X (.Compare x [cmA o] [y] pos) (tT Γ X.K W (evT C (.cmp o a b))) := by
  obtain ⟨r, h1, h2⟩ := sCmp (Γ := Γ) (X := X) S.hu o
  refine pt_mono (pt_cmpR h1 ha hb hm) fun σ H Q h => ?_
  simp only [evT] at h
  refine rdt.two (R := fun v w H2 => r v w H2 fun x H' => ∃ k, x = .bl k ∧ Q k H') h fun v w H2 o1 o2 s1 s2 q => ?_
  obtain ⟨Hs, env, G, t, w0, e, k⟩ := q.lift
  cases q1 : o1.rd env with
  | none => rw [q1] at e; cases e
  | some d =>
    cases q2 : o2.rd env with
    | none => rw [q1, q2] at e; cases e
    | some d' =>
      rw [q1, q2] at e
      have q3 : pCmp o d d' = some t := e
      exact h2 H2 v w d d' t _ (w0.ovRd s1 (fun p hp => by simp [hp]) q1) (w0.ovRd s2 (fun p hp => by simp [hp]) q2) q3 ⟨_, rfl, k H2 Hs t rfl (OwnS.dropR w0)⟩
theorem x_chn (S : SX X Γ A C W CXt) {o o' : Cm} (ha : PE X x (tO Γ X.K W (evO C a))) (hb : PE X y (tO Γ X.K W (evO C b))) (hc : PE X z (tO Γ X.K W (evO C c))) (hm : lastMarks [cmA o, cmA o'] [y, z] = false) :
    PE X (.Compare x [cmA o, cmA o'] [y, z] pos) (tE Γ X.K W (evE C (.chn o o' a b c))) := by
  obtain ⟨r, h1, h2⟩ := sCmp (Γ := Γ) (X := X) S.hu o
  obtain ⟨r', h1', h2'⟩ := sCmp (Γ := Γ) (X := X) S.hu o'
  refine pe_mono (pe_chain h1 h1' ha hb hc hm) fun σ H Q h => ?_
  simp only [evE] at h
  refine rdt.two (R := fun v w H2 => r v w H2 fun u H3 => ∃ k, u = .bl k ∧ if k = true then tO Γ X.K W (evO C c) σ H3 (fun w' H4 => r' w w' H4 Q) else Q (.bl false) H3) h fun v w H2 o1 o2 s1 s2 q => ?_
  obtain ⟨Hs, env, G, bb, w0, e, q⟩ := q.bindLift
  cases q1 : o1.rd env with
  | none => rw [q1] at e; cases e
  | some d =>
    cases q2 : o2.rd env with
    | none => rw [q1, q2] at e; cases e
    | some d' =>
      rw [q1, q2] at e
      have q3 : pCmp o d d' = some bb := e
      refine h2 H2 v w d d' bb _ (w0.ovRd s1 (fun p hp => by simp [hp]) q1) (w0.ovRd s2 (fun p hp => by simp [hp]) q2) q3 ⟨_, rfl, ?_⟩
      cases bb with
      | false =>
        rw [if_neg Bool.false_ne_true] at q ⊢
        obtain ⟨Hs', env', G', w1, k⟩ := q.ret_
        exact k H2 Hs' _ trivial (own_bl (OwnS.dropR w1))
      | true =>
        rw [if_pos rfl] at q ⊢
        refine (rdt.bind (ent := entO) (side := sideO) q).mono fun w' H4 ⟨o3, s3, q4⟩ => ?_
        obtain ⟨Hs4, env4, G4, t, w4, e4, k⟩ := q4.lift
        cases q5 : o2.rd env4 with
        | none => rw [q5] at e4; cases e4
        | some d5 =>
          cases q6 : o3.rd env4 with
          | none => rw [q5, q6] at e4; cases e4
          | some d6 =>
            rw [q5, q6] at e4
            have e4 : (pCmp o' d5 d6).map (fun b => T.sh (.bl b)) = some t := e4
            cases q7 : pCmp o' d5 d6 with
            | none => rw [q7] at e4; cases e4
            | some b2 =>
              rw [q7] at e4
              cases e4
              exact h2' H4 w w' d5 d6 b2 Q (w4.ovRd s2 (fun p hp => by simp [hp]) q5) (w4.ovRd s3 (fun p hp => by simp [hp]) q6) q7 (k H4 Hs4 _ trivial (own_bl (OwnS.dropR w4)))
theorem x_tchn (S : SX X Γ A C W CXt) {o o' : Cm} (ha : PE X x (tO Γ X.K W (evO C a))) (hb : PE X y (tO Γ X.K W (evO C b))) (hc : PE X z (tO Γ X.K W (evO C c))) (hm : lastMarks [cmA o, cmA o'] [y, z] = false) :
    PT X (.Compare x [cmA o, cmA o'] [y, z] pos) (tT Γ X.K W (evT C (.chn o o' a b c))) := by
  obtain ⟨r, h1, h2⟩ := sCmp (Γ := Γ) (X := X) S.hu o
  obtain ⟨r', h1', h2'⟩ := sCmp (Γ := Γ) (X := X) S.hu o'
  refine pt_mono (pt_chain h1 h1' ha hb hc hm) fun σ H Q h => ?_
  simp only [evT] at h
  refine rdt.two (R := fun v w H2 => r v w H2 fun u H3 => ∃ k, u = .bl k ∧ if k = true then tO Γ X.K W (evO C c) σ H3 (fun w' H4 => r' w w' H4 fun x H' => ∃ k, x = .bl k ∧ Q k H') else ∃ k, V.bl false = .bl k ∧ Q k H3) h fun v w H2 o1 o2 s1 s2 q => ?_
  obtain ⟨Hs, env, G, bb, w0, e, q⟩ := q.bindLift
  cases q1 : o1.rd env with
  | none => rw [q1] at e; cases e
  | some d =>
    cases q2 : o2.rd env with
    | none => rw [q1, q2] at e; cases e
    | some d' =>
      rw [q1, q2] at e
      have q3 : pCmp o d d' = some bb := e
      refine h2 H2 v w d d' bb _ (w0.ovRd s1 (fun p hp => by simp [hp]) q1) (w0.ovRd s2 (fun p hp => by simp [hp]) q2) q3 ⟨_, rfl, ?_⟩
      cases bb with
      | false =>
        rw [if_neg Bool.false_ne_true] at q ⊢
        obtain ⟨Hs', env', G', w1, k⟩ := q.ret_
        exact ⟨_, rfl, k H2 Hs' false rfl (OwnS.dropR w1)⟩
      | true =>
        rw [if_pos rfl] at q ⊢
        refine (rdt.bind (ent := entO) (side := sideO) q).mono fun w' H4 ⟨o3, s3, q4⟩ => ?_
        obtain ⟨Hs4, env4, G4, b2, w4, e4, k⟩ := q4.lift
        cases q5 : o2.rd env4 with
        | none => rw [q5] at e4; cases e4
        | some d5 =>
          cases q6 : o3.rd env4 with
          | none => rw [q5, q6] at e4; cases e4
          | some d6 =>
            rw [q5, q6] at e4
            have q7 : pCmp o' d5 d6 = some b2 := e4
            exact h2' H4 w w' d5 d6 b2 _ (w4.ovRd s2 (fun p hp => by simp [hp]) q5) (w4.ovRd s3 (fun p hp => by simp [hp]) q6) q7 ⟨_, rfl, k H4 Hs4 b2 rfl (OwnS.dropR w4)⟩
/-! ### tests -/
theorem x_tval {a : CO} (hx : plainT x = true) (ha : PE X x (tO Γ X.K W (evO C a))) : PT X x (tT Γ X.K W (evT C (.val a))) := by
  refine pt_mono (pt_truth ha (tst_of hx)) fun σ H Q h => ?_
  simp only [evT] at h
  refine (rdt.bind (ent := entO) (side := sideO) h).mono fun v H1 ⟨o, s, q⟩ => ?_
  obtain ⟨Hs, env, G, b, w, e, k⟩ := q.lift
  cases q1 : o.rd env with
  | none => rw [q1] at e; cases e
  | some d =>
    rw [q1] at e
    exact ⟨b, sTru (w.ovRd s (fun p hp => by simp [hp]) q1) e, k H1 Hs b rfl (OwnS.dropR w)⟩
theorem x_tnot {t : CT} (ha : PT X x (tT Γ X.K W (evT C t))) : PT X (.UnaryOp .Not x pos) (tT Γ X.K W (evT C (.notT t))) := by
  refine pt_mono (pt_not ha) fun σ H Q h => ?_
  simp only [evT] at h
  refine (rdt.bind (ent := entN) (side := sideB) h).mono fun b H1 ⟨b', s, q⟩ => ?_
  cases s
  obtain ⟨Hs, env, G, w, k⟩ := q.ret_
  exact k H1 Hs _ rfl w
theorem tT_and {t u : CT} {σ : St} {H : Hp} {Q : Bool → Hp → Prop} (h : tT Γ X.K W (evT C (.andT t u)) σ H Q) : tAnd (tT Γ X.K W (evT C t)) (tT Γ X.K W (evT C u)) σ H Q := by
  simp only [evT] at h
  refine (rdt.bind (ent := entN) (side := sideB) h).mono fun b H1 ⟨b', s, q⟩ => ?_
  cases s
  cases b with
  | true => exact q
  | false =>
    obtain ⟨Hs, env, G, w, k⟩ := q.ret_
    exact k H1 Hs _ rfl w
theorem tT_or {t u : CT} {σ : St} {H : Hp} {Q : Bool → Hp → Prop} (h : tT Γ X.K W (evT C (.orT t u)) σ H Q) : tOr (tT Γ X.K W (evT C t)) (tT Γ X.K W (evT C u)) σ H Q := by
  simp only [evT] at h
  refine (rdt.bind (ent := entN) (side := sideB) h).mono fun b H1 ⟨b', s, q⟩ => ?_
  cases s
  cases b with
  | false => exact q
  | true =>
    obtain ⟨Hs, env, G, w, k⟩ := q.ret_
    exact k H1 Hs _ rfl w
/-! ### values -/
theorem x_lit {d : D} {k : Const} {j : Nat} (h : litB d k = true) : PE X (.Constant k j pos) (tE Γ X.K W (evE C (.lit d))) := by
  have key : ∀ {v : V}, (∀ H, Rep Γ X.K H v d) → ∀ σ H Q, tE Γ X.K W (evE C (.lit d)) σ H Q → tC v σ H Q := fun {v} r σ H Q h => by
    simp only [evE] at h
    obtain ⟨Hs, env, G, w, kk⟩ := rdt.ret_ h
    exact kk H Hs v trivial (OwnS.addSh (r Hs) w)
  unfold litB at h
  split at h
  · exact pe_mono pe_non (key fun _ => .non)
  · have e := eq_of_beq h; subst e; exact pe_mono pe_bl (key fun _ => .bl _)
  · have e := of_decide_eq_true h; subst e; exact pe_mono pe_int (key fun _ => .int _)
  · have e := of_decide_eq_true h; subst e; exact pe_mono pe_str (key fun _ => .str _)
  · cases h
theorem x_glb (S : SX X Γ A C W CXt) {j : Nat} {n : Str} (h1 : A.gn[j]? = some n) (h2 : glB X.env.scope n = true) (h3 : plainN n = true) : PE X (.Name n pos) (tE Γ X.K W (evE C (.glb j))) := by
  cases q : C.gs[j]? with
  | none =>
    refine ⟨fun pins s σ H Q I h => ?_⟩
    simp only [evE] at h
    obtain ⟨Hs, env, G, t, w, e, k⟩ := rdt.lift h
    rw [q] at e; cases e
  | some d =>
    obtain ⟨u, v, m, r, rr⟩ := S.gl j n d h1 q
    refine pe_mono (pe_glob (gl_of h2) m r (plain_of h3).1) fun σ H Q h => ?_
    simp only [evE] at h
    obtain ⟨Hs, env, G, t, w, e, k⟩ := rdt.lift h
    rw [q] at e
    cases e
    exact k H Hs v trivial (OwnS.addSh (rr Hs) w)
theorem x_fz {c : CE} (h : PE X x (tE Γ X.K W (evE C c))) : PE X x (tE Γ X.K W (evE C (.fz c))) := by
  refine pe_mono h fun σ H Q h => ?_
  simp only [evE] at h
  refine (rdt.bind (ent := entT) (side := noSide) h).mono fun v H1 ⟨t, _, q⟩ => ?_
  obtain ⟨Hs, env, G, t', w, e, k⟩ := rdt.lift q
  cases q1 : t.rd with
  | none => rw [q1] at e; cases e
  | some d =>
    rw [q1] at e
    cases e
    have w : OwnS Γ X.K σ env ((v, t) :: G) H1 Hs := w
    obtain ⟨Hs', _, w'⟩ := w.freeze q1
    exact k H1 Hs' v trivial w'
theorem x_ite {t : CT} {a b : CE} (ht : PT X x (tT Γ X.K W (evT C t))) (ha : PE X y (tE Γ X.K W (evE C a))) (hb : PE X z (tE Γ X.K W (evE C b))) : PE X (.IfExp x y z pos) (tE Γ X.K W (evE C (.ite t a b))) := by
  refine pe_mono (pe_ifExp ht ha hb) fun σ H Q h => ?_
  simp only [evE] at h
  refine (rdt.bind (ent := entN) (side := sideB) h).mono fun v H1 ⟨r, s, q⟩ => ?_
  cases s
  cases v with
  | true => exact q
  | false => exact q
theorem x_notE {a : CO} (ha : PE X x (tO Γ X.K W (evO C a))) : PE X (.UnaryOp .Not x pos) (tE Γ X.K W (evE C (.notE a))) := by
  refine pe_mono (pe_notT ha) fun σ H Q h => ?_
  simp only [evE] at h
  refine (rdt.bind (ent := entO) (side := sideO) h).mono fun v H1 ⟨o, s, q⟩ => ?_
  obtain ⟨Hs, env, G, t, w, e, k⟩ := q.lift
  cases q1 : o.rd env with
  | none => rw [q1] at e; cases e
  | some d =>
    rw [q1] at e
    have e : (pTru d).map (fun b => T.sh (.bl (!b))) = some t := e
    cases q2 : pTru d with
    | none => rw [q2] at e; cases e
    | some b =>
      rw [q2] at e
      cases e
      exact ⟨b, sTru (w.ovRd s (fun p hp => by simp [hp]) q1) q2, k H1 Hs _ trivial (own_bl (OwnS.dropR w))⟩
theorem x_andE {a b : CE} {r : List Expr} {p : Pos} (ha : PE X x (tE Γ X.K W (evE C a))) (hb : PE X (.BoolOp .And (y :: r) p) (tE Γ X.K W (evE C b))) : PE X (.BoolOp .And (x :: y :: r) p) (tE Γ X.K W (evE C (.andE a b))) := by
  refine pe_mono (pe_and ha hb) fun σ H Q h => ?_
  simp only [evE] at h
  refine (rdt.bind (ent := entT) (side := noSide) h).mono fun v H1 ⟨t, _, q⟩ => ?_
  cases t with
  | sh d =>
    cases d with
    | bl c =>
      obtain ⟨Hs, env, G, r0, env', w, e, k⟩ := q
      have rr := OwnS.rep (show OwnS Γ X.K σ env ((v, .sh (.bl c)) :: G) H1 Hs from w)
      cases rr
      cases c with
      | true => exact ⟨true, rfl, Hs, env, G, r0, env', OwnS.dropR (L := [_]) w, e, k⟩
      | false =>
        cases e
        exact ⟨false, rfl, k H1 Hs _ trivial w⟩
    | _ => obtain ⟨Hs, env, G, r0, env', w, e, k⟩ := q; cases e
  | _ => obtain ⟨Hs, env, G, r0, env', w, e, k⟩ := q; cases e
theorem x_orE {a b : CE} {r : List Expr} {p : Pos} (ha : PE X x (tE Γ X.K W (evE C a))) (hb : PE X (.BoolOp .Or (y :: r) p) (tE Γ X.K W (evE C b))) : PE X (.BoolOp .Or (x :: y :: r) p) (tE Γ X.K W (evE C (.orE a b))) := by
  refine pe_mono (pe_or ha hb) fun σ H Q h => ?_
  simp only [evE] at h
  refine (rdt.bind (ent := entT) (side := noSide) h).mono fun v H1 ⟨t, _, q⟩ => ?_
  cases t with
  | sh d =>
    cases d with
    | bl c =>
      obtain ⟨Hs, env, G, r0, env', w, e, k⟩ := q
      have rr := OwnS.rep (show OwnS Γ X.K σ env ((v, .sh (.bl c)) :: G) H1 Hs from w)
      cases rr
      cases c with
      | false => exact ⟨false, rfl, Hs, env, G, r0, env', OwnS.dropR (L := [_]) w, e, k⟩
      | true =>
        cases e
        exact ⟨true, rfl, k H1 Hs _ trivial w⟩
    | _ => obtain ⟨Hs, env, G, r0, env', w, e, k⟩ := q; cases e
  | _ => obtain ⟨Hs, env, G, r0, env', w, e, k⟩ := q; cases e
/-! ### displays -/
theorem x_tup {cs : CEs} {es : List Expr} {n : Nat} (h : PA X es (tEs Γ X.K W (evEs C cs))) : PE X (.Tuple es n pos) (tE Γ X.K W (evE C (.tup cs))) := by
  refine pe_mono (pe_tup h) fun σ H Q h => ?_
  simp only [evE] at h
  refine (rdt.bind (ent := entTs) (side := sideTs) h).mono fun vs H1 ⟨ts, s, q⟩ => ?_
  obtain ⟨Hs, env, G, t, w, e, k⟩ := q.lift
  split at e
  · rename_i hz
    cases e
    have s : vs.length = ts.length := s
    refine ⟨by rw [s]; exact hz, fun p hp => k _ Hs _ trivial (OwnS.newT hp (by exact rfl) s ?_)⟩
    simpa [entTs] using w
  · cases e
theorem x_lst {cs : CEs} {es : List Expr} (h : PA X es (tEs Γ X.K W (evEs C cs))) : PE X (.List es pos) (tE Γ X.K W (evE C (.lst cs))) := by
  refine pe_mono (pe_lst h) fun σ H Q h => ?_
  simp only [evE] at h
  refine (rdt.bind (ent := entTs) (side := sideTs) h).mono fun vs H1 ⟨ts, s, q⟩ => ?_
  obtain ⟨Hs, env, G, t, w, e, k⟩ := q.lift
  split at e
  · rename_i hz
    cases e
    have s : vs.length = ts.length := s
    refine ⟨by rw [s]; exact hz, fun p hp => k _ Hs _ trivial (OwnS.newT hp (by exact rfl) s ?_)⟩
    simpa [entTs] using w
  · cases e
theorem x_nil : PA X [] (tEs Γ X.K W (evEs C .nil)) := by
  refine pa_mono pa_nil fun σ H Q h => ?_
  simp only [evEs] at h
  obtain ⟨Hs, env, G, w, k⟩ := rdt.ret_ h
  exact k H Hs [] rfl w
theorem x_cons {c : CE} {cs : CEs} {es : List Expr} (hx : noStar x = true) (h : PE X x (tE Γ X.K W (evE C c))) (hs : PA X es (tEs Γ X.K W (evEs C cs))) : PA X (x :: es) (tEs Γ X.K W (evEs C (.cons c cs))) := by
  refine pa_mono (pa_cons h hs (star_of hx)) fun σ H Q h => ?_
  simp only [evEs] at h
  refine (rdt.bind (ent := entT) (side := noSide) h).mono fun v H1 ⟨t, _, q⟩ => ?_
  refine (rdt.bind (ent := entTs) (side := sideTs) q).mono fun vs H2 ⟨ts, s, q2⟩ => ?_
  obtain ⟨Hs, env, G, w, k⟩ := q2.ret_
  refine k H2 Hs (v :: vs) (by have s : vs.length = ts.length := s; show (v :: vs).length = (t :: ts).length; simp [s]) ?_
  have w : OwnS Γ X.K σ env (vs.zip ts ++ ([(v, t)] ++ []) ++ G) H2 Hs := w
  have w : OwnS Γ X.K σ env (vs.zip ts ++ (v, t) :: G) H2 Hs := by simpa using w
  exact w.unmid
theorem x_onil : PA X [] (tOs Γ X.K W (evOs C .nil)) := by
  refine pa_mono pa_nil fun σ H Q h => ?_
  simp only [evOs] at h
  obtain ⟨Hs, env, G, w, k⟩ := rdt.ret_ h
  exact k H Hs [] trivial w
theorem x_ocons {c : CO} {cs : COs} {es : List Expr} (hx : noStar x = true) (h : PE X x (tO Γ X.K W (evO C c))) (hs : PA X es (tOs Γ X.K W (evOs C cs))) : PA X (x :: es) (tOs Γ X.K W (evOs C (.cons c cs))) := by
  refine pa_mono (pa_cons h hs (star_of hx)) fun σ H Q h => ?_
  simp only [evOs] at h
  refine (rdt.bind (ent := entO) (side := sideO) h).mono fun v H1 ⟨o, s, q⟩ => ?_
  refine (rdt.bind (ent := entOs) (side := sideOs) q).mono fun vs H2 ⟨os, s2, q2⟩ => ?_
  obtain ⟨Hs, env, G, w, k⟩ := q2.ret_
  refine k H2 Hs (v :: vs) ⟨s, s2⟩ ?_
  have w : OwnS Γ X.K σ env (entOs vs os ++ (entO v o ++ []) ++ G) H2 Hs := w
  show OwnS Γ X.K σ env (entO v o ++ entOs vs os ++ G) H2 Hs
  refine w.perm ?_
  rw [List.append_nil]
  exact List.perm_append_comm.append_right _
theorem x_dnl {t : Bool} : PE X (.Dict [] [] pos) (tE Γ X.K W (evE C (.dnl t))) := by
  cases t with
  | true =>
    refine pe_mono pe_dnewT fun σ H Q h => ?_
    simp only [evE] at h
    obtain ⟨Hs, env, G, w, k⟩ := rdt.ret_ h
    exact fun p hp => k _ Hs _ trivial (OwnS.newT (vs := []) (ts := []) hp ⟨rfl, rfl⟩ rfl w)
  | false =>
    refine pe_mono pe_dnewK fun σ H Q h => ?_
    simp only [evE] at h
    obtain ⟨Hs, env, G, w, k⟩ := rdt.ret_ h
    exact fun p hp => k _ Hs _ trivial (OwnS.newT (vs := []) (ts := []) hp ⟨rfl, rfl⟩ rfl w)
/-! ### parts of things -/
theorem x_idx (hy : noSli y = true) (ha : PE X x (tO Γ X.K W (evO C a))) (hb : PE X y (tO Γ X.K W (evO C b))) : PE X (.Subscript x y pos) (tE Γ X.K W (evE C (.idx a b))) := by
  refine pe_mono (pe_ix (ix_list.or ix_tup) ha hb (sli_of hy)) fun σ H Q h => ?_
  simp only [evE] at h
  refine rdt.two h fun v w H2 o1 o2 s1 s2 q => ?_
  obtain ⟨Hs, env, G, r, env', w0, e, k⟩ := q
  dsimp only at e
  split at e
  · rename_i i q2
    have ri := w0.ovRd s2 (fun p hp => by simp [hp]) q2
    cases ri
    have w1 : OwnS Γ X.K σ env (entO v o1 ++ G) H2 Hs := OwnS.dropR (L := entO (V.int i) o2) (by simpa using w0)
    obtain ⟨kd, p, vs, n, u, d, rfl, hs, sl, hu, rfl, Hs', w2⟩ := w1.kid s1 e
    have fin : Q u H2 := k H2 Hs' u trivial w2
    cases kd with
    | lst =>
      have sl : ixN vs.length i = some n := sl
      exact .inl ⟨p, vs, i, u, rfl, rfl, SqL.of hs, by unfold atI; rw [sl]; exact hu, fin⟩
    | tup =>
      have sl : ixN vs.length i = some n := sl
      exact .inr ⟨p, vs, i, u, rfl, rfl, SqT.of hs, by unfold atI; rw [sl]; exact hu, fin⟩
    | ktp =>
      have sl : ixN vs.length i = some n := sl
      exact .inr ⟨p, vs, i, u, rfl, rfl, hs, by unfold atI; rw [sl]; exact hu, fin⟩
    | _ => cases sl
  · cases e
theorem x_didx (S : SX X Γ A C W CXt) (hy : noSli y = true) (ha : PE X x (tO Γ X.K W (evO C a))) (hb : PE X y (tO Γ X.K W (evO C b))) : PE X (.Subscript x y pos) (tE Γ X.K W (evE C (.didx a b))) := by
  refine pe_mono (pe_dget (by have := S.hu; omega) ha hb (sli_of hy)) fun σ H Q h => ?_
  simp only [evE] at h
  refine rdt.two (R := fun x y H2 => ∃ a v, x = V.ref a ∧ DGet H2 a y (some v) ∧ Q v H2) h fun v w H2 o1 o2 s1 s2 q => ?_
  obtain ⟨Hs, env, G, r, env', w0, e, k⟩ := q
  dsimp only at e
  split at e
  · rename_i kd q2
    have ri := w0.ovRd s2 (fun p hp => by simp [hp]) q2
    have w1 : OwnS Γ X.K σ env (entO v o1 ++ G) H2 Hs := OwnS.dropR (L := entO w o2) (by simpa using w0)
    obtain ⟨kk, p, vs, n, u, d, rfl, hs, sl, hu, rfl, Hs', w2⟩ := w1.kid s1 e
    have fin : Q u H2 := k H2 Hs' u trivial w2
    cases kk with
    | dk ks =>
      unfold dkSel at sl
      simp only at sl
      split at sl
      · rename_i key hk
        obtain ⟨h1, h2⟩ := hs
        exact ⟨p, u, rfl, .inl ⟨_, key, h2, key_rep ri hk, (ixL_val sl hu).symm⟩, fin⟩
      · cases sl
    | dt ks =>
      unfold dkSel at sl
      simp only at sl
      split at sl
      · rename_i key hk
        obtain ⟨h1, h2⟩ := hs
        obtain ⟨b, e1, e2⟩ := keyT_rep ri hk
        exact ⟨p, u, rfl, .inr ⟨_, key, b, h2, e1, e2, (ixL_val sl hu).symm⟩, fin⟩
      · cases sl
    | _ => cases sl
  · cases e
theorem zip_look {fs : List Str} {vs : List V} {j : Nat} {f : Str} {w : V} (nd : fs.Nodup) (e : fs[j]? = some f) (h : vs[j]? = some w) : (fs.zip vs).lookup f = some w := by
  induction fs generalizing vs j with
  | nil => simp at e
  | cons g fs ih =>
    cases vs with
    | nil => simp at h
    | cons x vs =>
      rw [List.zip_cons_cons, List.lookup_cons]
      cases j with
      | zero =>
        simp at e h
        subst e h
        simp
      | succ j =>
        have ne : f ≠ g := by
          intro z
          subst z
          exact (List.nodup_cons.mp nd).1 (List.mem_of_getElem? (by simpa using e))
        have hb : (f == g) = false := beq_eq_false_iff_ne.mpr ne
        rw [hb]
        exact ih (List.nodup_cons.mp nd).2 (by simpa using e) (by simpa using h)
theorem x_fld (S : SX X Γ A C W CXt) {cc j : Nat} {f : Str} (hx : noSup x = true) (hf : (A.fl cc)[j]? = some f) (ha : PE X x (tO Γ X.K W (evO C a))) : PE X (.Attribute x f pos) (tE Γ X.K W (evE C (.fld cc j a))) := by
  have hf' : (Γ.fl cc)[j]? = some f := by rw [S.hfl]; exact hf
  have ck := S.cls cc fun z => by rw [z] at hf'; simp at hf'
  refine pe_mono (pe_fld ha (sup_of hx)) fun σ H Q h => ?_
  simp only [evE] at h
  refine (rdt.bind (ent := entO) (side := sideO) h).mono fun v H1 ⟨o, s, q⟩ => ?_
  obtain ⟨Hs, env, G, r, env', w0, e, k⟩ := q
  have w1 : OwnS Γ X.K σ env (entO v o ++ G) H1 Hs := by simpa using w0
  obtain ⟨kk, p, vs, n, u, d, rfl, hs, sl, hu, rfl, Hs', w2⟩ := w1.kid s e
  cases kk with
  | ins c' =>
    unfold fdSel at sl
    simp only at sl
    split at sl
    · rename_i hc
      cases sl
      obtain ⟨hc, hl⟩ := hc
      subst hc
      obtain ⟨h1, dx, h2⟩ := hs
      exact ⟨p, _, dx, _, u, rfl, h2, ck.cl, ck.no f (List.mem_of_getElem? hf'), zip_look ck.nd hf' hu, k H1 Hs' u trivial w2⟩
    · cases sl
  | _ => cases sl
end
end BC
set_option Elab.async false
set_option linter.all false
set_option maxRecDepth 100000
set_option maxHeartbeats 4000000
/-! Core expressions: slices, dicts, the built-in functions, isinstance, pop. -/
namespace BC
open PySem PySem.Spec PyProof.Rows L2
section
variable {Γ : Gm} {K : PySem.W.Frag} {σ : St} {env env' : En} {G : List VT} {H Hs : Hp}
theorem reps_map_rep {vs : List V} {ds : List D} (r : Reps Γ K H vs ds) (n : Nat) : Reps Γ K H (vs.drop n) (ds.drop n) := by
  induction n generalizing vs ds with
  | zero => exact r
  | succ n ih =>
    cases r with
    | nil => exact .nil
    | cons r1 r2 => exact ih r2
theorem reps_take {vs : List V} {ds : List D} (r : Reps Γ K H vs ds) (n : Nat) : Reps Γ K H (vs.take n) (ds.take n) := by
  induction n generalizing vs ds with
  | zero => exact .nil
  | succ n ih =>
    cases r with
    | nil => exact .nil
    | cons r1 r2 => exact .cons r1 (ih r2)
theorem reps_snoc {vs : List V} {ds : List D} {v : V} {d : D} (r : Reps Γ K H vs ds) (h : Rep Γ K H v d) : Reps Γ K H (vs ++ [v]) (ds ++ [d]) := by
  induction ds generalizing vs with
  | nil => cases r; exact .cons h .nil
  | cons _ _ ih => cases r with | cons r1 r2 => exact .cons r1 (ih r2)
theorem reps_rev {vs : List V} {ds : List D} (r : Reps Γ K H vs ds) : Reps Γ K H vs.reverse ds.reverse := by
  induction ds generalizing vs with
  | nil => cases r; exact .nil
  | cons _ _ ih =>
    cases r with
    | cons r1 r2 =>
      rw [List.reverse_cons, List.reverse_cons]
      exact reps_snoc (ih r2) r1
theorem reps_ints {vs : List V} {ds : List D} {is : List Int} (r : Reps Γ K H vs ds) (e : D.ints ds = some is) : vs = is.map V.int := by
  induction ds generalizing vs is with
  | nil => cases r; cases e; rfl
  | cons d ds ih =>
    cases r with
    | cons r1 r2 =>
      cases d with
      | int i =>
        simp only [D.ints] at e
        split at e
        · rename_i is' q
          cases e
          cases r1
          rw [ih r2 q]
          rfl
        · cases e
      | _ => cases e
theorem ints_reps {is : List Int} : Reps Γ K H (is.map V.int) (is.map D.int) := by
  induction is with
  | nil => exact .nil
  | cons i is ih => exact .cons (.int i) ih
theorem insI_perm (i : Int) (l : List Int) : (insI i l).Perm (i :: l) := by
  induction l with
  | nil => exact .refl _
  | cons j l ih =>
    unfold insI
    split
    · exact .refl _
    · exact (ih.cons j).trans (.swap i j l)
theorem srtI_perm (l : List Int) : (srtI l).Perm l := by
  induction l with
  | nil => exact .refl _
  | cons i l ih => exact (insI_perm i _).trans (ih.cons i)
theorem insI_srt (i : Int) (l : List Int) (h : l.Pairwise (· ≤ ·)) : (insI i l).Pairwise (· ≤ ·) := by
  induction l with
  | nil => exact List.pairwise_singleton _ _
  | cons j l ih =>
    unfold insI
    obtain ⟨h1, h2⟩ := List.pairwise_cons.mp h
    split
    · rename_i hij
      refine List.pairwise_cons.mpr ⟨fun a ha => ?_, h⟩
      rcases List.mem_cons.mp ha with rfl | ha
      · exact hij
      · exact Int.le_trans hij (h1 a ha)
    · rename_i hij
      refine List.pairwise_cons.mpr ⟨fun a ha => ?_, ih h2⟩
      rcases List.mem_cons.mp ((insI_perm i l).mem_iff.mp ha) with rfl | ha
      · omega
      · exact h1 a ha
theorem srtI_srt (l : List Int) : (srtI l).Pairwise (· ≤ ·) := by
  induction l with
  | nil => exact List.Pairwise.nil
  | cons i l ih => exact insI_srt i _ ih
theorem srt_uniq {a b : List Int} (p : a.Perm b) (ha : a.Pairwise (· ≤ ·)) (hb : b.Pairwise (· ≤ ·)) : a = b :=
  List.Perm.eq_of_pairwise (fun x y _ _ h1 h2 => Int.le_antisymm h1 h2) ha hb p
end
section
variable {X : Cx} {Γ : Gm} {A : AgC} {C : Ctx} {W : WX} {CXt : CXT}
variable {x y z e : Expr} {pos : Pos} {a b c : CO}
theorem pc_mono {op : CmpOp} {t t' : TE} (h : PC X op x y t) (k : ∀ σ H Q, t' σ H Q → t σ H Q) : PC X op x y t' := ⟨fun pins s σ H Q I q => h.run pins s σ H Q I (k σ H Q q)⟩
/-! ### slices -/
theorem x_rev {p1 p2 p3 : Pos} {k : Nat} (ha : PE X x (tO Γ X.K W (evO C a))) : PE X (.Subscript x (.Slice none none (some (.UnaryOp .USub (.Constant (.int 1) k p1) p2)) p3) pos) (tE Γ X.K W (evE C (.rev a))) := by
  refine pe_mono (pe_revL ha) fun σ H Q h => ?_
  simp only [evE] at h
  refine (rdt.bind (ent := entO) (side := sideO) h).mono fun v H1 ⟨o, s, q⟩ => ?_
  obtain ⟨Hs, env, G, t, w, e, k⟩ := q.lift
  split at e
  · rename_i ds q1
    cases e
    obtain ⟨p, vs, rfl, h1, h2⟩ := w.ovSd s (fun p hp => by simp [hp]) q1
    have h1 : H1 p = some (.lst vs) := h1
    exact ⟨p, vs, rfl, SqL.of h1, fun np hn => k _ Hs _ trivial (OwnS.newSh hn (by exact rfl) (reps_rev h2) (OwnS.dropR w))⟩
  · cases e
theorem x_slc {p2 : Pos} {lo hi : Option Expr} {l u : CP} (ha : PE X x (tO Γ X.K W (evO C a)))
    (hl : PO X lo (fun σ H Q => rdt Γ X.K W entN (fun _ b b' => b = b') [] (evP C l) σ H Q)) (hu : PO X hi (fun σ H Q => rdt Γ X.K W entN (fun _ b b' => b = b') [] (evP C u) σ H Q)) :
    PE X (.Subscript x (.Slice lo hi none p2) pos) (tE Γ X.K W (evE C (.slc a l u))) := by
  refine pe_mono (pe_slice sl_list ha hl hu) fun σ H Q h => ?_
  simp only [evE] at h
  refine (rdt.bind (ent := entO) (side := sideO) h).mono fun v H1 ⟨o, s, q⟩ => ?_
  refine (rdt.bind (ent := entN) (side := fun _ b b' => b = b') q).mono fun lv H2 ⟨lv', s2, q2⟩ => ?_
  refine (rdt.bind (ent := entN) (side := fun _ b b' => b = b') q2).mono fun uv H3 ⟨uv', s3, q3⟩ => ?_
  subst s2 s3
  obtain ⟨Hs, env, G, t, w, e, k⟩ := q3.lift
  split at e
  · rename_i ds q1
    cases e
    obtain ⟨p, vs, rfl, h1, h2⟩ := w.ovSd s (fun p hp => by simp [entN, hp]) q1
    have h1 : H3 p = some (.lst vs) := h1
    refine ⟨p, vs, rfl, SqL.of h1, fun np hn => k _ Hs _ trivial (OwnS.newSh hn (by exact rfl) ?_ (OwnS.dropR w))⟩
    unfold cutV
    rw [h2.length]
    exact reps_take (reps_map_rep h2 _) _
  · cases e
theorem x_pno : PO X none (fun σ H Q => rdt Γ X.K W entN (fun _ b b' => b = b') [] (evP C .no) σ H Q) := by
  refine ⟨fun pins s σ H Q I h => po_none.run pins s σ H Q I ?_⟩
  simp only [evP] at h
  obtain ⟨Hs, env, G, w, k⟩ := rdt.ret_ h
  exact k H Hs none rfl w
theorem x_pso {c : CE} (hc : PE X x (tE Γ X.K W (evE C c))) : PO X (some x) (fun σ H Q => rdt Γ X.K W entN (fun _ b b' => b = b') [] (evP C (.so c)) σ H Q) := by
  refine ⟨fun pins s σ H Q I h => (po_some hc).run pins s σ H Q I ?_⟩
  simp only [evP] at h
  refine (rdt.bind (ent := entT) (side := noSide) h).mono fun v H1 ⟨t, _, q⟩ => ?_
  obtain ⟨Hs, env, G, t', w, e, k⟩ := rdt.lift q
  split at e
  · cases e
    have rr := OwnS.rep (show OwnS Γ X.K σ env ((v, .sh (.int _)) :: G) H1 Hs from w)
    cases rr
    exact ⟨_, rfl, k H1 Hs _ rfl (OwnS.dropR w)⟩
  · cases e
/-! ### dicts -/
theorem base_m2 {m : Str} {ap cp : Pos} (hx : noSup x = true) (hy : noStar y = true) (hz : noStar z = true) (hl : lineOk ap cp = true) : M2 X x m ap y z cp :=
  ⟨sup_of hx, by rw [star_of hy, star_of hz]; rfl, hl, by rw [star_of hy, star_of hz]; rfl⟩
theorem OwnS.isD {σ : St} {env : En} {L : List VT} {H Hs : Hp} {v : V} {o : OV} {u : Unit} (w : OwnS Γ X.K σ env L H Hs) (s : sideO σ v o) (m : ∀ p ∈ entO v o, p ∈ L) (e : isDk (o.get env) = some u) : ∃ p, v = .ref p ∧ IsD H p := by
  cases q : o.get env with
  | none => rw [q] at e; cases e
  | some t =>
    rw [q] at e
    obtain ⟨env', M, w'⟩ := w.opd s m q
    unfold isDk at e
    split at e
    · rename_i eq; cases eq
      have rr := w'.rep
      cases rr with | nd h1 h2 => exact ⟨_, rfl, .inl ⟨_, (h1.le w'.le).2⟩⟩
    · rename_i eq; cases eq
      have rr := w'.rep
      cases rr with | nd h1 h2 => exact ⟨_, rfl, .inr ⟨_, (h1.le w'.le).2⟩⟩
    · rename_i eq; cases eq
      obtain ⟨a, vs, ob, rfl, ha, w0, _, _⟩ := w'.open_
      have h := w0.sh (K := X.K) ha
      exact ⟨_, rfl, .inl ⟨_, h.2⟩⟩
    · rename_i eq; cases eq
      obtain ⟨a, vs, ob, rfl, ha, w0, _, _⟩ := w'.open_
      have h := w0.sh (K := X.K) ha
      exact ⟨_, rfl, .inr ⟨_, h.2⟩⟩
    · cases e
theorem getL_rep {κ : Type} [DecidableEq κ] {K : PySem.W.Frag} {H : Hp} {ks : List κ} {vs : List V} {ds : List D} {k : κ} (l : ks.length = vs.length) (r : Reps Γ K H vs ds) :
    (getL ks ds k = none ∧ valV (ks.zip vs) k = none) ∨ ∃ w d, getL ks ds k = some d ∧ valV (ks.zip vs) k = some w ∧ Rep Γ K H w d := by
  rcases getL_val (xs := ds) (k := k) l (l.trans r.length) with h | ⟨n, d, w, h1, h2, h3, h4⟩
  · exact .inl h
  · obtain ⟨w', g1, g2⟩ := r.get h2
    rw [h3] at g1
    cases g1
    exact .inr ⟨w, d, h1, h4, g2⟩
/-- a dict's entry -/
theorem getK_rep {K : PySem.W.Frag} {H Hs : Hp} {v u : V} {d kd : D} {r : Option D} (hd : RepS Γ K H Hs v d) (hk : Rep Γ K H u kd) (e : getK d kd = some r) :
    ∃ p o, v = .ref p ∧ DGet H p u o ∧ ((r = none ∧ o = none) ∨ ∃ w d', r = some d' ∧ o = some w ∧ Rep Γ K Hs w d') := by
  unfold getK at e
  split at e
  · rename_i ks ds
    obtain ⟨p, vs, rfl, ⟨h1, h2⟩, h3⟩ := hd
    cases q : kd.key with
    | none => rw [q] at e; cases e
    | some key =>
      rw [q] at e
      cases e
      refine ⟨p, _, rfl, .inl ⟨_, key, h2, key_rep hk q, rfl⟩, ?_⟩
      rcases getL_rep (k := key) h1 h3 with h | ⟨w, d', g1, g2, g3⟩
      · exact .inl h
      · exact .inr ⟨w, d', g1, g2, g3⟩
  · rename_i ks ds
    obtain ⟨p, vs, rfl, ⟨h1, h2⟩, h3⟩ := hd
    cases q : kd.keyT with
    | none => rw [q] at e; cases e
    | some key =>
      rw [q] at e
      cases e
      obtain ⟨b, rfl, hb⟩ := keyT_rep hk q
      refine ⟨p, _, rfl, .inr ⟨_, key, b, h2, rfl, hb, rfl⟩, ?_⟩
      rcases getL_rep (k := key) h1 h3 with h | ⟨w, d', g1, g2, g3⟩
      · exact .inl h
      · exact .inr ⟨w, d', g1, g2, g3⟩
  · cases e
theorem rep_repS {K : PySem.W.Frag} {H : Hp} {v : V} {d : D} (h : Rep Γ K H v d) : RepS Γ K H H v d := by
  cases d with
  | nd k ds => cases h with | nd h1 h2 => exact ⟨_, _, rfl, h1, h2⟩
  | _ => exact h
theorem x_dget (S : SX X Γ A C W CXt) {ap cp : Pos} (m : M2 X x "get" ap y z cp) (ha : PE X x (tO Γ X.K W (evO C a))) (hb : PE X y (tO Γ X.K W (evO C b))) (hc : PE X z (tO Γ X.K W (evO C c))) :
    PE X (.Call (.Attribute x "get" ap) [y, z] [] cp) (tE Γ X.K W (evE C (.dget a b c))) := by
  refine pe_mono (pe_dget2 (by have := S.hu; omega) ha hb hc m) fun σ H Q h => ?_
  simp only [evE] at h
  refine (rdt.bind (ent := entO) (side := sideO) h).mono fun v H1 ⟨o, s, q⟩ => ?_
  obtain ⟨Hs, env, G, u, w, e, q⟩ := q.bindLift
  obtain ⟨p, rfl, hd⟩ := w.isD s (fun p hp => by simp [hp]) e
  refine ⟨p, rfl, hd, ?_⟩
  refine (rdt.bind (ent := entO) (side := sideO) q).mono fun u H2 ⟨o2, s2, q2⟩ => ?_
  refine (rdt.bind (ent := entO) (side := sideO) q2).mono fun t H3 ⟨o3, s3, q3⟩ => ?_
  obtain ⟨Hs, env, G, r, w, e, k⟩ := q3.lift
  split at e
  · rename_i dd
    cases q1 : o.sd env with
    | none => rw [q1] at e; cases e
    | some d =>
      cases q2 : o2.rd env with
      | none => rw [q1, q2] at e; cases e
      | some kd =>
        rw [q1, q2] at e
        have e : (getK d kd).map (fun r => T.sh (r.getD dd)) = some r := e
        cases q4 : getK d kd with
        | none => rw [q4] at e; cases e
        | some r' =>
          rw [q4] at e
          cases e
          obtain ⟨p', ov, ep, g, hh⟩ := getK_rep (w.ovSd s (fun p hp => by simp [hp]) q1) (w.ovRd s2 (fun p hp => by simp [hp]) q2) q4
          cases ep
          refine ⟨ov, g, k H3 Hs _ trivial (OwnS.addSh ?_ (OwnS.dropR w))⟩
          rcases hh with ⟨rfl, rfl⟩ | ⟨w', d', rfl, rfl, rr⟩
          · exact OwnS.rep (show OwnS Γ X.K σ env ((t, .sh dd) :: (entO u o2 ++ (entO (.ref p) o ++ []) ++ G)) H3 Hs from by simpa [entO] using w)
          · exact rr
  · cases e
theorem x_din (S : SX X Γ A C W CXt) {neg : Bool} (hk : PE X x (tO Γ X.K W (evO C a))) (hd : PE X y (tO Γ X.K W (evO C b))) (hm : behindInMarks (if neg then .NotIn else .In) y = false) :
    PE X (.Compare x [if neg then .NotIn else .In] [y] pos) (tE Γ X.K W (evE C (.din neg a b))) := by
  have key : ∀ {σ : St} {H : Hp} {Q : VK}, tE Γ X.K W (evE C (.din neg a b)) σ H Q → tO Γ X.K W (evO C a) σ H fun u H1 => tO Γ X.K W (evO C b) σ H1 fun v H2 => ∃ p o, v = V.ref p ∧ DGet H2 p u o ∧ Q (.bl (if neg then !o.isSome else o.isSome)) H2 := by
    intro σ H Q h
    simp only [evE] at h
    refine rdt.two (R := fun u v H2 => ∃ p o, v = V.ref p ∧ DGet H2 p u o ∧ Q (.bl (if neg then !o.isSome else o.isSome)) H2) h fun u v H2 o1 o2 s1 s2 q => ?_
    obtain ⟨Hs, env, G, r, w, e, k⟩ := q.lift
    cases q1 : o1.rd env with
    | none => rw [q1] at e; cases e
    | some kd =>
      cases q2 : o2.rd env with
      | none => rw [q1, q2] at e; cases e
      | some d =>
        rw [q1, q2] at e
        have e : (getK d kd).map (fun r => T.sh (.bl (if neg then !r.isSome else r.isSome))) = some r := e
        cases q4 : getK d kd with
        | none => rw [q4] at e; cases e
        | some r' =>
          rw [q4] at e
          cases e
          obtain ⟨p', ov, ep, g, hh⟩ := getK_rep (rep_repS (w.ovRd s2 (fun p hp => by simp [hp]) q2)) (w.ovRd s1 (fun p hp => by simp [hp]) q1) q4
          have ei : ov.isSome = r'.isSome := by rcases hh with ⟨rfl, rfl⟩ | ⟨w', d', rfl, rfl, rr⟩ <;> rfl
          refine ⟨p', ov, ep, g, ?_⟩
          rw [ei]
          exact k H2 Hs _ trivial (own_bl (OwnS.dropR w))
  cases neg with
  | true => exact pe_cmp (pc_mono (pc_dnotin (by have := S.hu; omega) hk hd) fun σ H Q h => key h) hm
  | false => exact pe_cmp (pc_mono (pc_din (by have := S.hu; omega) hk hd) fun σ H Q h => key h) hm
end
end BC
set_option Elab.async false
set_option linter.all false
set_option maxRecDepth 100000
set_option maxHeartbeats 4000000
/-! Core expressions: the built-in functions, isinstance, pop, displays of dicts. -/
namespace BC
open PySem PySem.Spec PyProof.Rows L2
section
variable {X : Cx} {Γ : Gm} {A : AgC} {C : Ctx} {W : WX} {CXt : CXT}
variable {x y z e : Expr} {pos p : Pos} {a b c : CO}
theorem x_tdin (S : SX X Γ A C W CXt) {neg : Bool} (hk : PE X x (tO Γ X.K W (evO C a))) (hd : PE X y (tO Γ X.K W (evO C b))) (hm : behindInMarks (if neg then .NotIn else .In) y = false) :
    PT X (.Compare x [if neg then .NotIn else .In] [y] pos) (tT Γ X.K W (evT C (.din neg a b))) := by
  have key : ∀ {σ : St} {H : Hp} {Q : Bool → Hp → Prop}, tT Γ X.K W (evT C (.din neg a b)) σ H Q → tO Γ X.K W (evO C a) σ H fun u H1 => tO Γ X.K W (evO C b) σ H1 fun v H2 => ∃ p o, v = V.ref p ∧ DGet H2 p u o ∧ Q (if neg then !o.isSome else o.isSome) H2 := by
    intro σ H Q h
    simp only [evT] at h
    refine rdt.two (R := fun u v H2 => ∃ p o, v = V.ref p ∧ DGet H2 p u o ∧ Q (if neg then !o.isSome else o.isSome) H2) h fun u v H2 o1 o2 s1 s2 q => ?_
    obtain ⟨Hs, env, G, r, w, e, k⟩ := q.lift
    cases q1 : o1.rd env with
    | none => rw [q1] at e; cases e
    | some kd =>
      cases q2 : o2.rd env with
      | none => rw [q1, q2] at e; cases e
      | some d =>
        rw [q1, q2] at e
        have e : (getK d kd).map (fun r => if neg then !r.isSome else r.isSome) = some r := e
        cases q4 : getK d kd with
        | none => rw [q4] at e; cases e
        | some r' =>
          rw [q4] at e
          cases e
          obtain ⟨p', ov, ep, g, hh⟩ := getK_rep (rep_repS (w.ovRd s2 (fun p hp => by simp [hp]) q2)) (w.ovRd s1 (fun p hp => by simp [hp]) q1) q4
          have ei : ov.isSome = r'.isSome := by rcases hh with ⟨rfl, rfl⟩ | ⟨w', d', rfl, rfl, rr⟩ <;> rfl
          refine ⟨p', ov, ep, g, ?_⟩
          rw [ei]
          exact k H2 Hs _ rfl (OwnS.dropR w)
  cases neg with
  | true => exact pt_mono (pt_cmp (pc_dnotin (by have := S.hu; omega) hk hd) hm) fun σ H Q h => (key h).mono fun u H1 q => q.mono fun v H2 ⟨p, o, e, g, q⟩ => ⟨p, o, e, g, _, rfl, q⟩
  | false => exact pt_mono (pt_cmp (pc_din (by have := S.hu; omega) hk hd) hm) fun σ H Q h => (key h).mono fun u H1 q => q.mono fun v H2 ⟨p, o, e, g, q⟩ => ⟨p, o, e, g, _, rfl, q⟩
/-! ### built-in functions -/
theorem blt_ok (S : SX X Γ A C W CXt) {n : Str} (h : n ∈ bltN) : X.mg n = none := S.blt n h
theorem pa_one (hx : noStar x = true) {t : TE} (h : PE X x t) : PA X [x] (tCons t tNil) := pa_cons h pa_nil (star_of hx)
theorem pRd_int {f : B1} {d d' : D} (h : pRd f d = some d') : ∃ i, d' = .int i := by
  unfold pRd at h
  split at h <;> first | (cases h; exact ⟨_, rfl⟩) | cases h
theorem b1_read {f : B1} {r : List V → Hp → VK → Prop} (hr : ∀ v d i H1 (Q : VK), Rep Γ X.K H1 v d → pRd f d = some (.int i) → Q (.int i) H1 → r [v] H1 Q) {σ : St} {H : Hp} {Q : VK} (h : tE Γ X.K W (evE C (.b1 f a)) σ H Q) :
    tCB r (tCons (tO Γ X.K W (evO C a)) tNil) σ H Q := by
  simp only [evE] at h
  refine (rdt.bind (ent := entO) (side := sideO) h).mono fun v H1 ⟨o, s, q⟩ => ?_
  obtain ⟨Hs, env, G, t, w, e, k⟩ := q.lift
  show r [v] H1 Q
  cases q1 : o.rd env with
  | none => rw [q1] at e; cases e
  | some d =>
    rw [q1] at e
    have e : (pRd f d).map T.sh = some t := e
    cases q2 : pRd f d with
    | none => rw [q2] at e; cases e
    | some d' =>
      rw [q2] at e
      cases e
      obtain ⟨i, rfl⟩ := pRd_int q2
      exact hr v d i H1 Q (w.ovRd s (fun p hp => by simp [hp]) q1) q2 (k H1 Hs _ trivial (OwnS.addSh (.int i) (OwnS.dropR w)))
theorem x_len (S : SX X Γ A C W CXt) (hg : glB X.env.scope "len" = true) (hy : noStar y = true) (ha : PE X y (tO Γ X.K W (evO C a))) : PE X (.Call (.Name "len" p) [y] [] pos) (tE Γ X.K W (evE C (.b1 .len a))) :=
  pe_mono (pe_callB call_len (gl_of hg) (blt_ok S (by decide)) rfl (pa_one hy ha) (by decide) (by decide) (star_of hy) rfl) fun σ H Q h => b1_read (fun v d i H1 Q r e q => by
    cases r <;> first | cases e | skip
    rename_i kk vs ds h1 h2
    cases kk <;> first | (have e : none = some (D.int i) := e; cases e) | skip
    · cases e; exact ⟨_, _, rfl, .inl ⟨_, SqL.of h1, rfl⟩, by rw [h2.length]; exact q⟩
    · cases e; exact ⟨_, _, rfl, .inr ⟨_, SqT.of h1, rfl⟩, by rw [h2.length]; exact q⟩
    · cases e; exact ⟨_, _, rfl, .inr ⟨_, h1, rfl⟩, by rw [h2.length]; exact q⟩) h
theorem x_abs (S : SX X Γ A C W CXt) (hg : glB X.env.scope "abs" = true) (hy : noStar y = true) (ha : PE X y (tO Γ X.K W (evO C a))) : PE X (.Call (.Name "abs" p) [y] [] pos) (tE Γ X.K W (evE C (.b1 .abs a))) :=
  pe_mono (pe_callB call_abs (gl_of hg) (blt_ok S (by decide)) rfl (pa_one hy ha) (by decide) (by decide) (star_of hy) rfl) fun σ H Q h => b1_read (fun v d i H1 Q r e q => by
    cases r <;> cases e
    exact ⟨_, rfl, q⟩) h
theorem x_int (S : SX X Γ A C W CXt) (hg : glB X.env.scope "int" = true) (hy : noStar y = true) (ha : PE X y (tO Γ X.K W (evO C a))) : PE X (.Call (.Name "int" p) [y] [] pos) (tE Γ X.K W (evE C (.b1 .int a))) :=
  pe_mono (pe_callTy call_int1 (gl_of hg) (blt_ok S (by decide)) rfl (pa_one hy ha) (by decide) (by decide) (star_of hy) rfl) fun σ H Q h => b1_read (fun v d i H1 Q r e q => by
    cases r <;> cases e
    · exact .inr ⟨_, rfl, q⟩
    · exact .inl ⟨_, rfl, q⟩) h
theorem x_neg (ha : PE X y (tO Γ X.K W (evO C a))) : PE X (.UnaryOp .USub y pos) (tE Γ X.K W (evE C (.b1 .neg a))) :=
  pe_mono (pe_un un_neg ha) fun σ H Q h => rdt.mono (b1_read (r := fun vs H1 Q => ∃ v, vs = [v] ∧ rU (fun i => V.int (-i)) v H1 Q) (fun v d i H1 Q r e q => by
    cases r <;> cases e
    exact ⟨_, rfl, _, rfl, q⟩) h) fun v H1 ⟨v', e, q⟩ => by cases e; exact q
theorem mk_read {f : B1} {r : List V → Hp → VK → Prop} (hr : ∀ (σ : St) env G H1 Hs v d t (Q : VK), OwnS Γ X.K σ env G H1 Hs → RepS Γ X.K H1 Hs v d → pMk f d = some t → (∀ H' Hs' w, OwnS Γ X.K σ env ((w, t) :: G) H' Hs' → Q w H') → r [v] H1 Q)
    {σ : St} {H : Hp} {Q : VK} (h : tE Γ X.K W (evE C (.mk f a)) σ H Q) : tCB r (tCons (tO Γ X.K W (evO C a)) tNil) σ H Q := by
  simp only [evE] at h
  refine (rdt.bind (ent := entO) (side := sideO) h).mono fun v H1 ⟨o, s, q⟩ => ?_
  obtain ⟨Hs, env, G, t, w, e, k⟩ := q.lift
  show r [v] H1 Q
  cases q1 : o.sd env with
  | none => rw [q1] at e; cases e
  | some d =>
    rw [q1] at e
    have e : pMk f d = some t := e
    exact hr σ env G H1 Hs v d t Q (OwnS.dropR w) (w.ovSd s (fun p hp => by simp [hp]) q1) e fun H' Hs' w' o' => k H' Hs' w' trivial o'
theorem pMk_nd {f : B1} {d : D} {t : T} (h : pMk f d = some t) : ∃ k ds, d = .nd k ds := by
  cases d <;> first | exact ⟨_, _, rfl⟩ | (exfalso; cases f <;> cases h)
theorem x_list (S : SX X Γ A C W CXt) (hg : glB X.env.scope "list" = true) (hy : noStar y = true) (ha : PE X y (tO Γ X.K W (evO C a))) : PE X (.Call (.Name "list" p) [y] [] pos) (tE Γ X.K W (evE C (.mk .list a))) :=
  pe_mono (pe_callTy call_list_of (gl_of hg) (blt_ok S (by decide)) rfl (pa_one hy ha) (by decide) (by decide) (star_of hy) rfl) fun σ H Q h => mk_read (fun σ env G H1 Hs v d t Q w r e q => by
    obtain ⟨kk, ds, rfl⟩ := pMk_nd e
    obtain ⟨q', vs, rfl, h1, h2⟩ := r
    cases kk <;> first | (have e : none = some t := e; cases e) | skip
    · cases e; exact ⟨q', vs, rfl, .inl (SqL.of h1), fun l hl => q _ Hs _ (OwnS.newSh hl (by exact rfl) h2 w)⟩
    · cases e; exact ⟨q', vs, rfl, .inr (SqT.of h1), fun l hl => q _ Hs _ (OwnS.newSh hl (by exact rfl) h2 w)⟩) h
theorem x_dict (S : SX X Γ A C W CXt) (hg : glB X.env.scope "dict" = true) (hy : noStar y = true) (ha : PE X y (tO Γ X.K W (evO C a))) : PE X (.Call (.Name "dict" p) [y] [] pos) (tE Γ X.K W (evE C (.mk .dict a))) :=
  pe_mono (pe_callTy call_dictD (gl_of hg) (blt_ok S (by decide)) rfl (pa_one hy ha) (by decide) (by decide) (star_of hy) rfl) fun σ H Q h => mk_read (fun σ env G H1 Hs v d t Q w r e q => by
    obtain ⟨kk, ds, rfl⟩ := pMk_nd e
    obtain ⟨q', vs, rfl, h1, h2⟩ := r
    cases kk <;> first | (have e : none = some t := e; cases e) | skip
    · cases e; exact ⟨q', _, rfl, h1.2, fun l hl => q _ Hs _ (OwnS.newSh hl ⟨h1.1, rfl⟩ h2 w)⟩) h
theorem x_tuple (S : SX X Γ A C W CXt) (hg : glB X.env.scope "tuple" = true) (hy : noStar y = true) (ha : PE X y (tO Γ X.K W (evO C a))) : PE X (.Call (.Name "tuple" p) [y] [] pos) (tE Γ X.K W (evE C (.mk .tuple a))) :=
  pe_mono (pe_callTy call_tuple_of (gl_of hg) (blt_ok S (by decide)) rfl (pa_one hy ha) (by decide) (by decide) (star_of hy) rfl) fun σ H Q h => mk_read (fun σ env G H1 Hs v d t Q w r e q => by
    obtain ⟨kk, ds, rfl⟩ := pMk_nd e
    obtain ⟨q', vs, rfl, h1, h2⟩ := r
    cases kk <;> first | (have e : none = some t := e; cases e) | skip
    · cases e; exact ⟨q', vs, rfl, .inl ⟨SqL.of h1, fun l hl => q _ Hs _ (OwnS.newSh hl (by exact rfl) h2 w)⟩⟩) h
theorem x_sorted (S : SX X Γ A C W CXt) (hg : glB X.env.scope "sorted" = true) (hy : noStar y = true) (ha : PE X y (tO Γ X.K W (evO C a))) : PE X (.Call (.Name "sorted" p) [y] [] pos) (tE Γ X.K W (evE C (.mk .sorted a))) :=
  pe_mono (pe_callB cr_sortedI (gl_of hg) (blt_ok S (by decide)) rfl (pa_one hy ha) (by decide) (by decide) (star_of hy) rfl) fun σ H Q h => mk_read (fun σ env G H1 Hs v d t Q w r e q => by
    obtain ⟨kk, ds, rfl⟩ := pMk_nd e
    obtain ⟨q', vs, rfl, h1, h2⟩ := r
    cases kk <;> first | (have e : none = some t := e; cases e) | skip
    have e : (match D.ints ds with
      | some is => some (own .lst ((srtI is).map D.int))
      | none => none) = some t := e
    split at e
    · rename_i is hi
      cases e
      have ev := reps_ints h2 hi
      subst ev
      refine ⟨q', is, rfl, SqL.of h1, fun ns' l pm pw hl => ?_⟩
      have en : ns' = srtI is := srt_uniq (pm.trans (srtI_perm is).symm) pw (srtI_srt is)
      subst en
      exact q _ Hs _ (OwnS.newSh hl (by exact rfl) ints_reps w)
    · cases e) h
theorem b2_read {f : B2} {r : List V → Hp → VK → Prop} (hr : ∀ i j k H1 (Q : VK), pB2 f (.int i) (.int j) = some (.int k) → Q (.int k) H1 → r [.int i, .int j] H1 Q) {σ : St} {H : Hp} {Q : VK} (h : tE Γ X.K W (evE C (.b2 f a b)) σ H Q) :
    tCB r (tCons (tO Γ X.K W (evO C a)) (tCons (tO Γ X.K W (evO C b)) tNil)) σ H Q := by
  simp only [evE] at h
  refine rdt.two (R := fun v w H2 => r [v, w] H2 Q) h fun v w H2 o1 o2 s1 s2 q => ?_
  obtain ⟨Hs, env, G, t, w0, e, k⟩ := q.lift
  cases q1 : o1.rd env with
  | none => rw [q1] at e; cases e
  | some d =>
    cases q2 : o2.rd env with
    | none => rw [q1, q2] at e; cases e
    | some d' =>
      rw [q1, q2] at e
      have e : (pB2 f d d').map T.sh = some t := e
      cases q3 : pB2 f d d' with
      | none => rw [q3] at e; cases e
      | some d3 =>
        rw [q3] at e
        cases e
        have r1 := w0.ovRd s1 (fun p hp => by simp [hp]) q1
        have r2 := w0.ovRd s2 (fun p hp => by simp [hp]) q2
        unfold pB2 at q3
        split at q3 <;> first | cases q3 | skip
        · cases r1; cases r2
          exact hr _ _ _ H2 Q rfl (k H2 Hs _ trivial (OwnS.addSh (.int _) (OwnS.dropR w0)))
        · cases r1; cases r2
          exact hr _ _ _ H2 Q rfl (k H2 Hs _ trivial (OwnS.addSh (.int _) (OwnS.dropR w0)))
theorem pa_two (hx : noStar x = true) (hy : noStar y = true) {t u : TE} (h : PE X x t) (h2 : PE X y u) : PA X [x, y] (tCons t (tCons u tNil)) := pa_cons h (pa_one hy h2) (star_of hx)
theorem pl_two (hy : noStar y = true) : (backTo pos (starEach [y] X.env)).any (·.1) = false := by rw [star_of hy]; rfl
theorem x_max (S : SX X Γ A C W CXt) (hg : glB X.env.scope "max" = true) (hy : noStar y = true) (hz : noStar z = true) (ha : PE X y (tO Γ X.K W (evO C a))) (hb : PE X z (tO Γ X.K W (evO C b))) :
    PE X (.Call (.Name "max" p) [y, z] [] pos) (tE Γ X.K W (evE C (.b2 .max a b))) :=
  pe_mono (pe_callB (call_max2 S.calm) (gl_of hg) (blt_ok S (by decide)) rfl (pa_two hy hz ha hb) (by decide) (by decide) (star_of hy) (pl_two hz)) fun σ H Q h => b2_read (fun i j k H1 Q e q => by cases e; exact ⟨i, j, rfl, q⟩) h
theorem x_min (S : SX X Γ A C W CXt) (hg : glB X.env.scope "min" = true) (hy : noStar y = true) (hz : noStar z = true) (ha : PE X y (tO Γ X.K W (evO C a))) (hb : PE X z (tO Γ X.K W (evO C b))) :
    PE X (.Call (.Name "min" p) [y, z] [] pos) (tE Γ X.K W (evE C (.b2 .min a b))) :=
  pe_mono (pe_callB (call_min2 S.calm) (gl_of hg) (blt_ok S (by decide)) rfl (pa_two hy hz ha hb) (by decide) (by decide) (star_of hy) (pl_two hz)) fun σ H Q h => b2_read (fun i j k H1 Q e q => by cases e; exact ⟨i, j, rfl, q⟩) h
/-! ### isinstance -/
theorem ty_rep (S : SX X Γ A C W CXt) {H : Hp} {v : V} {d : D} {t : TyD} (r : Rep Γ X.K H v d) (e : dTy d = some t) : TyX X.K H v (tyDV Γ t) ∧ tyDok Γ t := by
  unfold dTy at e
  split at e <;> first | cases e | skip
  · cases r; exact ⟨.base .non, trivial⟩
  · cases r; exact ⟨.base (.bl _), trivial⟩
  · cases r; exact ⟨.base (.int _), trivial⟩
  · cases r; exact ⟨.base (.str _), trivial⟩
  · cases r with | nd h1 h2 => exact ⟨.base (.lst h1), trivial⟩
  · cases r with | nd h1 h2 => exact ⟨.base (.tup h1), trivial⟩
  · cases r with
    | nd h1 h2 =>
      rcases h1.2 with h | ⟨o, h⟩
      · exact ⟨.base (.dK h), trivial⟩
      · exact ⟨.fDict h, trivial⟩
  · rename_i c ds
    split at e
    · cases e
    · rename_i hz
      cases e
      cases r with
      | nd h1 h2 =>
        obtain ⟨l, dx, h1⟩ := h1
        have hf : Γ.fl c ≠ [] := by
          intro z
          rw [z] at l
          have l2 := h2.length
          cases ds with
          | nil => exact hz rfl
          | cons d ds => rw [l2] at l; simp at l
        have ck := S.cls c hf
        exact ⟨.base (.ins h1 ck.cl ck.ha ck.hn ck.htk ck.hm), hf⟩
theorem cls_val (S : SX X Γ A C W CXt) {t : TyC} (h : tyB A X.env.scope t z = true) : ∃ c, PE X z (tC c) ∧ ClsV c (tyCV Γ t) ∧ tyCok A t ∧ noStar z = true := by
  unfold tyB at h
  split at h
  · obtain ⟨h1, h2⟩ := an h
    have h1 := of_decide_eq_true h1
    subst h1
    exact ⟨.ty "int", pe_bltn (gl_of h2) (blt_ok S (by decide)) rfl rfl, .ty _, trivial, rfl⟩
  · obtain ⟨h1, h2⟩ := an h
    have h1 := of_decide_eq_true h1
    subst h1
    exact ⟨.ty "bool", pe_bltn (gl_of h2) (blt_ok S (by decide)) rfl rfl, .ty _, trivial, rfl⟩
  · obtain ⟨h1, h2⟩ := an h
    have h1 := of_decide_eq_true h1
    subst h1
    exact ⟨.ty "str", pe_bltn (gl_of h2) (blt_ok S (by decide)) rfl rfl, .ty _, trivial, rfl⟩
  · obtain ⟨h1, h2⟩ := an h
    have h1 := of_decide_eq_true h1
    subst h1
    exact ⟨.ty "list", pe_bltn (gl_of h2) (blt_ok S (by decide)) rfl rfl, .ty _, trivial, rfl⟩
  · obtain ⟨h1, h2⟩ := an h
    have h1 := of_decide_eq_true h1
    subst h1
    exact ⟨.ty "tuple", pe_bltn (gl_of h2) (blt_ok S (by decide)) rfl rfl, .ty _, trivial, rfl⟩
  · obtain ⟨h1, h2⟩ := an h
    have h1 := of_decide_eq_true h1
    subst h1
    exact ⟨.ty "dict", pe_bltn (gl_of h2) (blt_ok S (by decide)) rfl rfl, .ty _, trivial, rfl⟩
  · obtain ⟨h, h4⟩ := an h
    obtain ⟨h, h3⟩ := an h
    obtain ⟨h1, h2⟩ := an h
    have h1 := of_decide_eq_true h1
    subst h1
    have hm := List.contains_iff_mem.mp h4
    exact ⟨.ref _, pe_glob (gl_of h2) (S.clm _ hm) rfl (plain_of h3).1, .own _, hm, rfl⟩
  · cases h
theorem x_isi (S : SX X Γ A C W CXt) {t : TyC} (hg : glB X.env.scope "isinstance" = true) (hy : noStar y = true) (ha : PE X y (tO Γ X.K W (evO C a))) (hz : tyB A X.env.scope t z = true) :
    PE X (.Call (.Name "isinstance" p) [y, z] [] pos) (tE Γ X.K W (evE C (.isi a t))) := by
  obtain ⟨c, h1, h2, h3, h4⟩ := cls_val S hz
  refine pe_mono (pe_callB call_isi (gl_of hg) (blt_ok S (by decide)) rfl (pa_two hy h4 ha h1) (by decide) (by decide) (star_of hy) (pl_two h4)) fun σ H Q h => ?_
  simp only [evE] at h
  refine (rdt.bind (ent := entO) (side := sideO) h).mono fun v H1 ⟨o, s, q⟩ => ?_
  obtain ⟨Hs, env, G, tt, w, e, k⟩ := q.lift
  cases q1 : o.rd env with
  | none => rw [q1] at e; cases e
  | some d =>
    rw [q1] at e
    have e : (isTy d t).map (fun b => T.sh (.bl b)) = some tt := e
    unfold isTy at e
    cases q2 : dTy d with
    | none => rw [q2] at e; cases e
    | some yt =>
      rw [q2] at e
      cases e
      obtain ⟨g1, g2⟩ := ty_rep S (w.ovRd s (fun p hp => by simp [hp]) q1) q2
      exact ⟨v, c, _, _, _, rfl, h2, g1, S.isi yt t g2 h3, k H1 Hs _ trivial (own_bl (OwnS.dropR w))⟩
/-! ### pop -/
theorem dropLast_zip : ∀ {vs : List V} {ts : List T} {t : T}, vs.length = ts.length → ts[ts.length - 1]? = some t → ∃ v, vs[vs.length - 1]? = some v ∧ vs.zip ts = vs.dropLast.zip ts.dropLast ++ [(v, t)]
  | [], [], _, _, e => by simp at e
  | _ :: _, [], _, l, _ => by simp at l
  | [], _ :: _, _, l, _ => by simp at l
  | [v], [u], t, _, e => by
    simp at e
    subst e
    exact ⟨v, by simp, rfl⟩
  | [_], _ :: _ :: _, _, l, _ => by simp at l
  | _ :: _ :: _, [_], _, l, _ => by simp at l
  | v :: v2 :: vs, u :: u2 :: us, t, l, e => by
    obtain ⟨w, h1, h2⟩ := dropLast_zip (vs := v2 :: vs) (ts := u2 :: us) (t := t) (by simpa using l) (by simpa using e)
    refine ⟨w, by simpa using h1, ?_⟩
    rw [List.zip_cons_cons, h2]
    rfl
theorem x_pop {i : Nat} {ap cp : Pos} (S : SX X Γ A C W CXt) (hv : varB A X.env.scope i x = true) (hs : noSup x = true) (hl : lineOk ap cp = true) : PE X (.Call (.Attribute x "pop" ap) [] [] cp) (tE Γ X.K W (evE C (.pop i []))) := by
  refine pe_mono (pe_bm0 PySem.F.plainAttrs_list PySem.F.slot_list_pop PySem.F.type_list_pop mt_pop (pe_slot S hv) (sup_of hs) hl) fun σ H Q h => ?_
  simp only [evE] at h
  obtain ⟨Hs, env, G, r, env', w, e, k⟩ := h
  dsimp only at e
  split at e
  · rename_i t ht
    obtain ⟨ts, rfl⟩ : ∃ ts, t = .ow .lst ts := by
      cases t with
      | ow kk ts => cases kk <;> first | exact ⟨_, rfl⟩ | cases e
      | _ => cases e
    · replace e : (match ts[ts.length - 1]? with
        | some x => some (Ex.ok x, env.set i (.ow .lst ts.dropLast))
        | none => none) = some (r, env') := e
      split at e
      · rename_i u hu
        cases e
        rcases w.asg i _ ht with z | ⟨v, sv⟩
        · cases z
        · obtain ⟨a, vs, ob, rfl, ha, w0, l, o1⟩ := (w.take ht sv).open_
          have w0 : ob = .lst vs := w0
          subst w0
          obtain ⟨u', hu', ez⟩ := dropLast_zip l hu
          refine ⟨.ref a, sv, .inl ⟨rfl, vs, SqL.of ha⟩, a, vs, u', rfl, rfl, ha, hu', ?_⟩
          refine k _ Hs u' trivial ?_
          have o2 := o1.write (.lst vs.dropLast)
          rw [ez] at o2
          have o3 : OwnS Γ X.K σ (env.set i .un) ((.ref a, .ce (.lst vs.dropLast)) :: (vs.dropLast.zip ts.dropLast ++ (u', u) :: G)) (upd H a (.lst vs.dropLast)) Hs := by
            refine o2.perm ?_
            simp
          have o4 := (o3.close (k := .lst) (by exact rfl) (by simp [l])).put sv
          rw [List.set_set] at o4
          exact o4
      · cases e
  · cases e
end
end BC
set_option Elab.async false
set_option linter.all false
set_option maxRecDepth 100000
set_option maxHeartbeats 4000000
/-! Core expressions: calls, methods, new instances, properties, displays of dicts. -/
namespace BC
open PySem PySem.Spec PyProof.Rows L2
def plains (es : List Expr) : Bool := es.all noStar
theorem plains_any {X : Cx} {pos : Pos} {es : List Expr} (h : plains es = true) : (backTo pos (starEach es X.env)).any (·.1) = false := by
  induction es with
  | nil => rfl
  | cons e es ih =>
    unfold plains at h
    rw [List.all_cons] at h
    obtain ⟨h1, h2⟩ := an h
    rw [star_of h1]
    show (false || (backTo pos (starEach es X.env)).any (·.1)) = false
    rw [ih h2]
    rfl
theorem plains_all {pos : Pos} {env : PySem.Env} {es : List Expr} (h : plains es = true) : (backTo pos (starEach es env)).all (fun x => !x.1) = true := by
  induction es with
  | nil => rfl
  | cons e es ih =>
    unfold plains at h
    rw [List.all_cons] at h
    obtain ⟨h1, h2⟩ := an h
    rw [star_of h1]
    show (true && (backTo pos (starEach es env)).all (fun x => !x.1)) = true
    rw [ih h2]
    rfl
theorem eval_meth {o : Expr} {m : Str} {ap pos : Pos} {es : List Expr} {env : PySem.Env} (hs : noSup o = true) (hp : plains es = true) (hl : lineOk ap pos = true) (h30 : es.length < 30) :
    eval (.Call (.Attribute o m ap) es [] pos) env = (do
      let ov ← eval o env
      standAt ap.atName
      let (f, first) ← holding [ov] (getMethod ov m (do return (← importBound o env).getD true))
      callWith pos f first (backTo pos (starEach es env)) (backToKw pos (keywordEach [] env))) := by
  rw [arm_eval_Call, sup_of hs]
  have hform : methodCallForm (es.length + ([] : List Keyword).length) (backTo pos (starEach es env)) (backToKw pos (keywordEach [] env)) = true := by
    unfold methodCallForm
    rw [plains_all hp]
    show (true && true && decide (es.length + 0 + 0 < 30)) = true
    simp [h30]
  unfold methodCall
  rw [hform]
  have hpos : methodCallPos true o env ap pos = pure pos := by
    unfold methodCallPos
    have hl : (ap.endLine == pos.line) = true := hl
    simp [hl]
  rw [hpos]
  rfl
section
variable {X : Cx} {Γ : Gm} {A : AgC} {C : Ctx} {W : WX} {CXt : CXT}
variable {x y z e : Expr} {es : List Expr} {pos p ap : Pos} {a b c : CO} {cs : COs}
theorem rdt.perm {K : PySem.W.Frag} {α β : Type} {ent : β → α → List VT} {side : St → β → α → Prop} {t1 t2 : List VT} {m : M α} {σ : St} {H : Hp} {Q : β → Hp → Prop} (p : t1.Perm t2) (h : rdt Γ K W ent side t1 m σ H Q) : rdt Γ K W ent side t2 m σ H Q := by
  obtain ⟨Hs, env, G, r, env', o, e, k⟩ := h
  exact ⟨Hs, env, G, r, env', o.perm (p.append_right G), e, k⟩
/-- one after another, with something new held -/
theorem rdt.bindW {K : PySem.W.Frag} {α β γ δ : Type} {ent : β → α → List VT} {side : St → β → α → Prop} {ent2 : δ → γ → List VT} {side2 : St → δ → γ → Prop} {tmp L : List VT} {m : M α} {f : α → M γ} {σ : St} {H H' : Hp} {Q : δ → Hp → Prop} (h : rdt Γ K W ent2 side2 tmp (bd m f) σ H Q)
    (tr : ∀ env G Hs, OwnS Γ K σ env G H Hs → OwnS Γ K σ env (L ++ G) H' Hs) :
    rdt Γ K W ent side [] m σ H' fun v H1 => ∃ a, side σ v a ∧ rdt Γ K W ent2 side2 (ent v a ++ (L ++ tmp)) (f a) σ H1 Q := by
  obtain ⟨Hs, env, G, r, env', o, e, k⟩ := h
  unfold bd at e
  cases q : m env with
  | none => rw [q] at e; cases e
  | some p =>
    obtain ⟨r1, e1⟩ := p
    rw [q] at e
    cases r1 with
    | ok a =>
      refine ⟨Hs, env, L ++ (tmp ++ G), _, e1, tr _ _ _ o, q, fun H1 Hs1 v s o1 => ⟨a, s, Hs1, e1, G, r, env', ?_, e, k⟩⟩
      rw [List.append_assoc, List.append_assoc]; exact o1
    | exc c ds =>
      cases e
      refine ⟨Hs, env, L ++ (tmp ++ G), _, _, tr _ _ _ o, q, fun H1 Hs1 d x => k H1 Hs1 d (XOwn.weak (L := L ++ tmp) ?_)⟩
      rw [List.append_assoc]; exact x
theorem x_call (S : SX X Γ A C W CXt) {j : Nat} {n : Str} (hj : A.cn[j]? = some (.fn n)) (hg : glB X.env.scope n = true) (hp : plainN n = true) (hy : noStar y = true) (hes : plains es = true) (ha : PA X (y :: es) (tOs Γ X.K W (evOs C cs))) :
    PE X (.Call (.Name n p) (y :: es) [] pos) (tE Γ X.K W (evE C (.call j cs))) := by
  obtain ⟨f, hf⟩ := S.fnl j _ hj
  obtain ⟨fa, fd, ps, k, F, R, m, kp, B, L⟩ := S.fn j _ f hj hf
  refine pe_mono (pe_callS F R (gl_of hg) m kp B S.tk ha (plain_of hp).1 (star_of hy) (plains_any hes)) fun σ H Q h => ?_
  simp only [evE] at h
  refine (rdt.bind (ent := entOs) (side := sideOs) h).mono fun vs H1 ⟨os, s, q⟩ => ?_
  rw [hf] at q
  exact s_call L s (List.append_nil _) q
theorem x_call0 (S : SX X Γ A C W CXt) {j : Nat} {n : Str} (hj : A.cn[j]? = some (.fn n)) (hg : glB X.env.scope n = true) (hp : plainN n = true) :
    PE X (.Call (.Name n p) [] [] pos) (tE Γ X.K W (evE C (.call j .nil))) := by
  obtain ⟨f, hf⟩ := S.fnl j _ hj
  obtain ⟨fa, fd, ps, k, F, R, m, kp, B, L⟩ := S.fn j _ f hj hf
  refine ⟨fun pins s σ H Q I h => ?_⟩
  simp only [evE, evOs] at h
  rw [hf] at h
  have h2 : rdt Γ X.K W entT noSide [] (callF f []) σ H Q := h
  refine wpAny_Call_Name_kw (ld_glob I (gl_of hg) m ?_ (plain_of hp).1)
  exact PySem.W.callWith_K0 I.kIn kp (run_fnS (us := []) (vs := []) F R B (S.tk σ) I .nil (s_call (os := []) L trivial rfl h2))
/-- which class an operand is of -/
theorem pick_ins {K : PySem.W.Frag} {σ : St} {env : En} {L : List VT} {H Hs : Hp} {v : V} {o : OV} {cj : List (Nat × Nat)} {j : Nat} (w : OwnS Γ K σ env L H Hs) (s : sideO σ v o) (m : ∀ p ∈ entO v o, p ∈ L) (e : pick cj o env = some j) :
    ∃ c a dx vs, cj.lookup c = some j ∧ v = .ref a ∧ vs.length ≤ (Γ.fl c).length ∧ H a = some (.ins (Γ.cad c) dx ((Γ.fl c).zip vs)) := by
  unfold pick at e
  cases q : o.get env with
  | none => rw [q] at e; cases e
  | some t =>
    rw [q] at e
    obtain ⟨env', M, w'⟩ := w.opd s m q
    have e : (match clsOf t with
      | some c => cj.lookup c
      | none => none) = some j := e
    unfold clsOf at e
    split at e
    · rename_i c hc
      split at hc
      · cases hc
        have rr := w'.rep
        cases rr with
        | nd h1 h2 =>
          obtain ⟨l, dx, h1⟩ := h1.le w'.le
          exact ⟨_, _, dx, _, e, rfl, l, h1⟩
      · cases hc
        obtain ⟨a, vs, ob, rfl, ha, w0, _, _⟩ := w'.open_
        obtain ⟨l, dx, rfl⟩ := w0
        exact ⟨_, a, dx, vs, e, rfl, l, ha⟩
      · cases hc
    · cases e
theorem look_none {fs : List Str} {vs : List V} {m : Str} (h : m ∉ fs) : (fs.zip vs).lookup m = none := by
  induction fs generalizing vs with
  | nil => rfl
  | cons f fs ih =>
    cases vs with
    | nil => rfl
    | cons v vs =>
      rw [List.zip_cons_cons, List.lookup_cons]
      have hb : (m == f) = false := beq_eq_false_iff_ne.mpr fun z => h (z ▸ List.mem_cons_self)
      rw [hb]
      exact ih fun z => h (List.mem_cons_of_mem _ z)
theorem mem_of_look {c j : Nat} {l : List (Nat × Nat)} (h : l.lookup c = some j) : (c, j) ∈ l := by
  induction l with
  | nil => cases h
  | cons q l ih =>
    obtain ⟨c', j'⟩ := q
    rw [List.lookup_cons] at h
    cases hb : c == c' with
    | true =>
      rw [hb] at h
      cases h
      have := eq_of_beq hb
      subst this
      exact List.mem_cons_self
    | false =>
      rw [hb] at h
      exact List.mem_cons_of_mem _ (ih h)
theorem x_meth (S : SX X Γ A C W CXt) {cj : List (Nat × Nat)} {m : Str} (hcj : ∀ q ∈ cj, A.cn[q.2]? = some (.me q.1 m)) (hs : noSup x = true) (hes : plains es = true) (hl : lineOk ap pos = true) (h30 : es.length < 30) (h0 : es = [] → cs = .nil)
    (he : PE X x (tO Γ X.K W (evO C a))) (ha : PA X es (tOs Γ X.K W (evOs C cs))) : PE X (.Call (.Attribute x m ap) es [] pos) (tE Γ X.K W (evE C (.meth cj a cs))) := by
  refine ⟨fun pins s σ H Q I h => ?_⟩
  simp only [evE] at h
  refine PySem.W.methodCall_KW (thn (he.run pins s σ H _ I (rdt.bind (ent := entO) (side := sideO) h)) fun u s1 ⟨v, H1, I1, rv, o, so, q⟩ => ?_) (eval_meth hs hes hl h30)
  obtain ⟨Hs, env, G, r, env', w, e, k⟩ := q
  dsimp only at e
  cases hpk : pick cj o env with
  | none => rw [hpk] at e; cases e
  | some j =>
    rw [hpk] at e
    obtain ⟨c, q, dx, vs0, hlk, rfl, hlen, hH⟩ := pick_ins w so (fun p hp => by simp [hp]) hpk
    have hA := hcj _ (mem_of_look hlk)
    obtain ⟨f, hf⟩ := S.fnl j _ hA
    obtain ⟨fa, fd, ps, kk, F, R, Mt, B, hc, hm, L⟩ := S.fn j _ f hA hf
    obtain rfl : u = Value.ref q := rv
    refine getmeth_ok I1 hH hc Mt (look_none hm) ?_
    have h2 := rdt.bind (ent := entOs) (side := sideOs) (⟨Hs, env, G, r, env', w, e, k⟩ : rdt Γ X.K W entT noSide (entO (.ref q) o ++ []) (bd (evOs C cs) _) σ H1 Q)
    have fin : ∀ (us : List Value) (s2 : Shared), AP X pins σ (fun vs H2 => ∃ os, sideOs σ vs os ∧ rdt Γ X.K W entT noSide (entOs vs os ++ (entO (.ref q) o ++ []))
        ((fun (os : List OV) => (fun e => if pick cj o e = some j then (match C.fs[j]? with
      | some f => callF f (o :: os) e
      | none => none) else none : M T)) os) σ H2 Q) us s2 → X.K.In s2.heap ∧ wpAny (model X.prog X.w) X.A (call (.ref fa) ([Value.ref q] ++ us)) (EP X pins σ Q) X.xe s2 := by
      intro us s2 ⟨vs, H2, I2, rr, os, sos, q2⟩
      refine ⟨I2.kIn, ?_⟩
      refine run_fnS (us := Value.ref q :: us) (vs := V.ref q :: vs) F R B (S.tk σ) I2 (.cons rfl rr) (s_call (os := o :: os) (tmp := entOs (V.ref q :: vs) (o :: os)) L ⟨so, sos⟩ rfl ?_)
      obtain ⟨Hs2, env2, G2, r2, env2', w2, e2, k2⟩ := q2
      dsimp only at e2
      split at e2
      · rw [hf] at e2
        refine ⟨Hs2, env2, G2, r2, env2', w2.perm ?_, e2, k2⟩
        show ((entOs vs os ++ (entO (V.ref q) o ++ [])) ++ G2).Perm ((entO (V.ref q) o ++ entOs vs os) ++ G2)
        rw [List.append_nil]
        exact List.perm_append_comm.append_right _
      · cases e2
    cases es with
    | nil =>
      cases h0 rfl
      simp only [evOs] at h2
      obtain ⟨Hs', env', G', w', k'⟩ := rdt.ret_ h2
      exact PySem.W.callWith_K0 (first := [.ref q]) I1.kIn Mt.kp (fin [] s1 ⟨[], H1, I1, .nil, k' H1 Hs' [] trivial w'⟩).2
    | cons e0 es0 =>
      have hes' : (noStar e0 && plains es0) = true := hes
      obtain ⟨g1, g2⟩ := an hes'
      exact PySem.W.callWith_K (first := [.ref q]) (h₀ := X.base) I1.ok.mod.kin Mt.kp (thn (ha.run pos pins s1 σ H1 _ I1 h2) fin) (star_of g1) (plains_any g2)
/-- a new instance and its __init__ -/
theorem run_mk {c j : Nat} {n : Str} {f : FnS} {fa : Addr} {fd : FuncData} {ps : List Str} {k : Nat} {pins : List (Addr × Obj)} {σ : St} {H : Hp} {s : Shared} {Q : VK} {us : List Value} {vs : List V} {os : List OV}
    (Mt : Mk X.K (Γ.cad c) fa) (F : FnOk X.prog X.w X.K X.mg X.base CXt k fa fd ps (spD Γ X.K ps.length f)) (hr : Room (k + 1) X.A) (hb : Binds X.K fd ps []) (L : FnL f ps.length) (hx : PassesAt CXt X σ (WE W σ)) (I : Inv X pins σ H s) (r : Vals vs us)
    (so : sideOs σ vs os) (h : rdt Γ X.K W entT noSide (entOs vs os) (makeF c f os) σ H Q) : wpAny (model X.prog X.w) X.A (call (.ref (Γ.cad c)) us) (EP X pins σ Q) X.xe s := by
  obtain ⟨Hs, env, G, r0, env', w, e, kq⟩ := h
  unfold makeF at e
  cases q : BC.lend os env with
  | none => rw [q] at e; cases e
  | some p =>
    obtain ⟨ts, e1⟩ := p
    rw [q] at e
    obtain ⟨o1, l1⟩ := OwnS.lend os vs env e1 ts G w so q
    have I2 := Inv.made (C := Γ.cad c) I
    have nx : H (s.heap.objs.size + 1) = none := I.hok.fresh (Nat.le_succ _)
    have nd : H s.heap.objs.size = none := I.hok.fresh (Nat.le_refl _)
    have ne : s.heap.objs.size ≠ s.heap.objs.size + 1 := Nat.ne_of_lt (Nat.lt_succ_self _)
    have o2 : OwnS Γ X.K σ e1 (vs.zip ts ++ G) (upd H s.heap.objs.size (.own (s.heap.objs.size + 1))) Hs := (o1.alloc nd).drop
    have nx2 : upd H s.heap.objs.size (.own (s.heap.objs.size + 1)) (s.heap.objs.size + 1) = none := by rw [upd_ne (Ne.symm ne)]; exact nx
    have o3 : OwnS Γ X.K σ e1 ((.ref (s.heap.objs.size + 1), .ow (.ins c) []) :: (vs.zip ts ++ G)) (upd (upd H s.heap.objs.size (.own (s.heap.objs.size + 1))) (s.heap.objs.size + 1) (.ins (Γ.cad c) s.heap.objs.size [])) Hs := by
      refine OwnS.newT (vs := []) (ts := []) nx2 ⟨Nat.zero_le _, s.heap.objs.size, ?_⟩ rfl o2
      rw [List.zip_nil_right]
    have e : (match f (.ow (.ins c) [] :: ts) with
      | some (.ret (.sh .non), t :: ts') => some (Ex.ok t, back os ts' e1)
      | some (.exc c' ds, _ :: ts') => some (Ex.exc c' ds, back os ts' e1)
      | _ => none) = some (r0, env') := e
    cases q2 : f (.ow (.ins c) [] :: ts) with
    | none => rw [q2] at e; cases e
    | some p2 =>
      obtain ⟨out, ts0⟩ := p2
      rw [q2] at e
      obtain ⟨n1, n2⟩ := L _ _ _ q2
      have hl : (Value.ref (s.heap.objs.size + 1) :: us ++ []).length = ps.length := by
        rw [List.append_nil, List.length_cons, ← r.length, l1]
        exact n1
      have b := hb _ (Value.ref (s.heap.objs.size + 1) :: us) I2.kIn hl
      rw [List.append_nil] at b
      have w0 : OwnS Γ X.K [] [] ((V.ref (s.heap.objs.size + 1) :: vs).zip (T.ow (.ins c) [] :: ts) ++ (ents σ e1 ++ G)) (upd (upd H s.heap.objs.size (.own (s.heap.objs.size + 1))) (s.heap.objs.size + 1) (.ins (Γ.cad c) s.heap.objs.size [])) Hs := by
        refine o3.enter.perm ?_
        show (ents σ e1 ++ ((V.ref (s.heap.objs.size + 1), T.ow (.ins c) []) :: (vs.zip ts ++ G))).Perm (((V.ref (s.heap.objs.size + 1), T.ow (.ins c) []) :: vs.zip ts) ++ (ents σ e1 ++ G))
        rw [← List.cons_append, ← List.append_assoc, ← List.append_assoc]
        exact List.perm_append_comm.append_right _
      have sp : spD Γ X.K ps.length f (V.ref (s.heap.objs.size + 1) :: vs) (upd (upd H s.heap.objs.size (.own (s.heap.objs.size + 1))) (s.heap.objs.size + 1) (.ins (Γ.cad c) s.heap.objs.size [])) (fun v H2 => v = .non ∧ Q (.ref (s.heap.objs.size + 1)) H2) (WE W σ) := by
        refine ⟨Hs, ents σ e1 ++ G, _, out, ts0, by simp [l1], n1, n2, w0, q2, ?_⟩
        split at e
        · rename_i t ts' eq
          cases eq
          cases e
          intro H' Hs' v wv
          have w1 : OwnS Γ X.K σ e1 (((v, T.sh .non) :: (V.ref (s.heap.objs.size + 1), t) :: vs.zip ts') ++ G) H' Hs' := OwnS.leave (L := (v, T.sh .non) :: (V.ref (s.heap.objs.size + 1), t) :: vs.zip ts') o1.len o1.asg wv
          have rv := OwnS.rep w1
          cases rv
          refine ⟨rfl, ?_⟩
          have w2 : OwnS Γ X.K σ e1 (vs.zip ts' ++ (V.ref (s.heap.objs.size + 1), t) :: G) H' Hs' := (OwnS.drop w1).mid
          exact kq H' Hs' _ trivial (OwnS.back os vs e1 ts' _ w2 so (by have : ts'.length + 1 = ts.length + 1 := n2; omega))
        · rename_i c' ds t ts' eq
          cases eq
          cases e
          intro H' Hs' d x
          refine kq H' Hs' d ((XOwn.leave (L := (V.ref (s.heap.objs.size + 1), t) :: vs.zip ts') o1.len o1.asg x).map fun E w => ?_)
          have w : OwnS Γ X.K σ e1 (((V.ref (s.heap.objs.size + 1), t) :: vs.zip ts' ++ G) ++ E) H' Hs' := w
          have w2 : OwnS Γ X.K σ e1 (vs.zip ts' ++ (G ++ E)) H' Hs' := by
            have := OwnS.drop (show OwnS Γ X.K σ e1 ((V.ref (s.heap.objs.size + 1), t) :: ((vs.zip ts' ++ G) ++ E)) H' Hs' from w)
            rwa [List.append_assoc] at this
          exact OwnS.back os vs e1 ts' _ w2 so (by have : ts'.length + 1 = ts.length + 1 := n2; omega)
        · cases e
      refine wpAny_call (make_map (f := fa) I.kIn Mt.makes Mt.init (beq_iff_eq.mp Mt.fn) (codeAny_mono (F.run _ X.stack _ _ ⟨Value.ref (s.heap.objs.size + 1) :: us, []⟩ (Value.ref (s.heap.objs.size + 1) :: us) _ _ (WE W σ) (hr.make (Γ.cad c) us [])
        (I2.env0.make (Γ.cad c) us []) b (.cons (show L2.RelV (V.ref (s.heap.objs.size + 1)) (Value.ref (s.heap.objs.size + 1)) from rfl) r) sp) fun rr s' hq' => ?_))
      cases rr with
      | error er => exact hx pins _ _ er s' I2 hq'
      | ok fl =>
        cases fl with
        | ret u =>
          obtain ⟨v, H', I3, rv, ev, q3⟩ := I2.after hq'
          subst ev
          exact ⟨rv, ⟨V.ref (s.heap.objs.size + 1), H', I3, rfl, q3⟩⟩
        | next => exact False.elim hq'
        | brk => exact False.elim hq'
        | cont => exact False.elim hq'
theorem x_make (S : SX X Γ A C W CXt) {c j : Nat} {n : Str} (hj : A.cn[j]? = some (.mk c n)) (hg : glB X.env.scope n = true) (hp : plainN n = true) (hes : plains es = true) (h0 : es = [] → cs = .nil) (ha : PA X es (tOs Γ X.K W (evOs C cs))) :
    PE X (.Call (.Name n p) es [] pos) (tE Γ X.K W (evE C (.make c j cs))) := by
  obtain ⟨f, hf⟩ := S.fnl j _ hj
  obtain ⟨fa, fd, ps, k, F, R, Mt, m, B, L⟩ := S.fn j _ f hj hf
  refine ⟨fun pins s σ H Q I h => ?_⟩
  simp only [evE] at h
  have h2 := rdt.bind (ent := entOs) (side := sideOs) h
  refine wpAny_Call_Name_kw (ld_glob I (gl_of hg) m ?_ (plain_of hp).1)
  have fin : ∀ (us : List Value) (s2 : Shared), AP X pins σ (fun vs H2 => ∃ os, sideOs σ vs os ∧ rdt Γ X.K W entT noSide (entOs vs os ++ [])
      (match C.fs[j]? with
      | some f => makeF c f os
      | none => fun _ => none) σ H2 Q) us s2 → X.K.In s2.heap ∧ wpAny (model X.prog X.w) X.A (call (.ref (Γ.cad c)) us) (EP X pins σ Q) X.xe s2 := by
    intro us s2 ⟨vs, H2, I2, rr, os, sos, q2⟩
    rw [hf, List.append_nil] at q2
    exact ⟨I2.kIn, run_mk (n := n) (j := j) Mt F R B L (S.tk σ) I2 rr sos q2⟩
  cases es with
  | nil =>
    cases h0 rfl
    simp only [evOs] at h2
    obtain ⟨Hs', env', G', w', k'⟩ := rdt.ret_ h2
    exact PySem.W.callWith_K0 I.kIn Mt.kp (fin [] s ⟨[], H, I, .nil, k' H Hs' [] trivial w'⟩).2
  | cons e0 es0 =>
    have hes' : (noStar e0 && plains es0) = true := hes
    obtain ⟨g1, g2⟩ := an hes'
    exact PySem.W.callWith_K (h₀ := X.base) I.ok.mod.kin Mt.kp (thn (ha.run pos pins s σ H _ I h2) fin) (star_of g1) (plains_any g2)
/-- a property -/
theorem x_prop (S : SX X Γ A C W CXt) {cj : List (Nat × Nat)} {m : Str} (hcj : ∀ q ∈ cj, A.cn[q.2]? = some (.pr q.1 m)) (hs : noSup x = true) (he : PE X x (tO Γ X.K W (evO C a))) : PE X (.Attribute x m pos) (tE Γ X.K W (evE C (.prop cj a))) := by
  refine ⟨fun pins s σ H Q I h => ?_⟩
  simp only [evE] at h
  refine attr_of (sup_of hs) (thn (he.run pins s σ H _ I (rdt.bind (ent := entO) (side := sideO) h)) fun u s1 ⟨v, H1, I1, rv, o, so, q⟩ => ?_)
  obtain ⟨Hs, env, G, r, env', w, e, k⟩ := q
  dsimp only at e
  cases hpk : pick cj o env with
  | none => rw [hpk] at e; cases e
  | some j =>
    rw [hpk] at e
    obtain ⟨c, q, dx, vs0, hlk, rfl, hlen, hH⟩ := pick_ins w so (fun p hp => by simp [hp]) hpk
    have hA := hcj _ (mem_of_look hlk)
    obtain ⟨f, hf⟩ := S.fnl j _ hA
    obtain ⟨pa, ga, fd, ps, kk, F, R, Pt, B, hc, L⟩ := S.fn j _ f hA hf
    obtain rfl : u = Value.ref q := rv
    dsimp only at e
    rw [hf] at e
    dsimp only at e
    split at e
    · rename_i t e2 hcf
      cases e
      have h2 : rdt Γ X.K (fun _ _ _ _ => False) entT noSide (entOs [V.ref q] [o]) (callF f [o]) σ H1 Q := ⟨Hs, env, G, .ok t, env', by simpa [entOs] using w, hcf, k⟩
      have sp := s_call (os := [o]) (vs := [V.ref q]) (W := fun _ _ _ _ => False) L ⟨so, trivial⟩ rfl h2
      exact getprop_ok (E := fun _ _ _ => False) I1 hH hc Pt F R B .nil (fun pins σ H s e s' I c => S.nx _ _ _ _ _ c) sp
    · cases e
/-! ### displays of dicts -/
def trsOf (Γ : Gm) (K : PySem.W.Frag) (W : WX) (C : Ctx) : CPs → List (TE × TE)
  | .nil => []
  | .cons k v r => (tE Γ K W (evE C k), tE Γ K W (evE C v)) :: trsOf Γ K W C r
def entPs : List (V × V) → List Key × List T → List VT := fun ps a => (ps.map (·.2)).zip a.2
def sidePs : St → List (V × V) → List Key × List T → Prop := fun _ ps a => ps.map (·.1) = a.1.map kV ∧ ps.length = a.2.length
theorem rdt_pairs {K : PySem.W.Frag} : ∀ (ps : CPs) {tmp : List VT} {σ : St} {H : Hp} {Q : List (V × V) → Hp → Prop}, rdt Γ K W entPs sidePs tmp (evPs C ps) σ H Q → tPairs (trsOf Γ K W C ps) σ H Q
  | .nil, tmp, σ, H, Q, h => by
    simp only [evPs] at h
    obtain ⟨Hs, env, G, w, k⟩ := rdt.ret_ h
    exact k H Hs [] ⟨rfl, rfl⟩ (OwnS.dropR w)
  | .cons c v r, tmp, σ, H, Q, h => by
    simp only [evPs] at h
    refine (rdt.bind (ent := entT) (side := noSide) h).mono fun u H1 ⟨kt, _, q⟩ => ?_
    refine (rdt.bind (ent := entT) (side := noSide) q).mono fun w H2 ⟨t, _, q2⟩ => ?_
    refine rdt_pairs r ((rdt.bind (ent := entPs) (side := sidePs) q2).mono fun ps H3 ⟨a, s, q3⟩ => ?_)
    obtain ⟨Hs, env, G, b, w3, e, k⟩ := q3.lift
    cases kt with
    | sh d =>
      dsimp only at e
      split at e
      · rename_i key hk
        cases e
        have w4 : OwnS Γ K σ env (entPs ps a ++ ((w, t) :: (u, T.sh d) :: (tmp ++ G))) H3 Hs := by simpa [entT] using w3
        have w5 := OwnS.dropR w4
        have ru := OwnS.rep (OwnS.drop w5)
        have eu := key_rep ru hk
        refine k H3 Hs ((u, w) :: ps) ⟨by rw [List.map_cons, List.map_cons, s.1, eu], by simp [s.2]⟩ ?_
        show OwnS Γ K σ env ((w, t) :: (entPs ps a ++ G)) H3 Hs
        refine OwnS.dropR (L := (u, T.sh d) :: tmp) (w4.perm ?_)
        show (entPs ps a ++ ((w, t) :: (u, T.sh d) :: (tmp ++ G))).Perm ((u, T.sh d) :: tmp ++ ((w, t) :: (entPs ps a ++ G)))
        have e1 : (u, T.sh d) :: tmp ++ ((w, t) :: (entPs ps a ++ G)) = ((u, T.sh d) :: tmp) ++ ((w, t) :: entPs ps a) ++ G := by simp
        have e2 : entPs ps a ++ ((w, t) :: (u, T.sh d) :: (tmp ++ G)) = (entPs ps a ++ [(w, t)]) ++ ((u, T.sh d) :: tmp) ++ G := by simp
        rw [e1, e2]
        refine List.Perm.append_right G ?_
        refine List.perm_append_comm.trans (List.Perm.append_left _ ?_)
        exact List.perm_append_comm (l₂ := [_])
      · cases e
    | _ => cases e
theorem any_key {κ : Type} [DecidableEq κ] {kvs : List (κ × V)} {k : κ} (h : k ∉ kvs.map (·.1)) : (kvs.any fun kv => decide (kv.1 = k)) = false := by
  rw [List.any_eq_false]
  intro q hq
  have : q.1 ≠ k := fun z => h (z ▸ List.mem_map_of_mem hq)
  simp [this]
theorem putK_new {κ : Type} [DecidableEq κ] {kvs : List (κ × V)} {k : κ} {v : V} (h : k ∉ kvs.map (·.1)) : putK kvs k v = kvs ++ [(k, v)] := by
  unfold putK
  rw [any_key h]
  rfl
theorem mergeK_nodup : ∀ (more kvs : List (Key × V)), (kvs.map (·.1) ++ more.map (·.1)).Nodup → mergeK kvs more = kvs ++ more
  | [], kvs, _ => by show kvs = _; rw [List.append_nil]
  | q :: more, kvs, h => by
    have h1 : q.1 ∉ kvs.map (·.1) := fun z => (List.nodup_append.mp h).2.2 _ z _ (by simp) rfl
    show mergeK (putK kvs q.1 q.2) more = _
    rw [putK_new h1, mergeK_nodup more _ (by simpa using h)]
    simp
theorem pairs_zip : ∀ (qs : List (V × V)) (ks : List Key), qs.map (·.1) = ks.map kV → qs = (ks.zip (qs.map (·.2))).map fun kv => (kV kv.1, kv.2)
  | [], [], _ => rfl
  | [], _ :: _, h => by simp at h
  | _ :: _, [], h => by simp at h
  | q :: qs, k :: ks, h => by
    rw [List.map_cons, List.map_cons] at h
    obtain ⟨e1, e2⟩ := List.cons.inj h
    show q :: qs = (kV k, q.2) :: (ks.zip (qs.map (·.2))).map fun kv => (kV kv.1, kv.2)
    rw [← pairs_zip qs ks e2, ← e1]
theorem x_dct {ps : CPs} {ks : List (Option Expr)} {vs : List Expr} (h : PPs X pos ks vs (trsOf Γ X.K W C ps)) (hall : ks.all (·.isSome) = true) (hl : ks.length = vs.length) (h0 : ks ≠ []) (h15 : ks.length ≤ 15) :
    PE X (.Dict ks vs pos) (tE Γ X.K W (evE C (.dct ps))) := by
  refine pe_mono (pe_disp h hall hl h0 h15) fun σ H Q h => ?_
  simp only [evE] at h
  intro p hp
  have h2 := rdt.bindW (ent := entPs) (side := sidePs) (L := [(.ref p, .ce (.dK []))]) h (H' := upd H p (.dK [])) fun env G Hs w => OwnS.alloc hp w
  refine rdt_pairs ps (h2.mono fun qs H3 ⟨a, s, q⟩ => ?_)
  obtain ⟨Hs, env, G, t, w, e, k⟩ := q.lift
  split at e
  · rename_i hz
    cases e
    have w1 : OwnS Γ X.K σ env ((.ref p, .ce (.dK [])) :: (entPs qs a ++ G)) H3 Hs := by
      refine w.perm ?_
      show ((entPs qs a ++ ([(V.ref p, T.ce (.dK []))] ++ [])) ++ G).Perm ((V.ref p, T.ce (.dK [])) :: (entPs qs a ++ G))
      rw [List.append_nil, List.append_assoc]
      exact List.perm_middle
    have l1 : a.1.length = (qs.map (·.2)).length := by
      have := congrArg List.length s.1
      rw [List.length_map, List.length_map] at this
      rw [List.length_map]; exact this.symm
    refine ⟨w1.cell, a.1.zip (qs.map (·.2)), ?_, ?_, ?_⟩
    · exact pairs_zip qs a.1 s.1
    · rw [List.length_zip]
      have := hz.1
      omega
    · have em : mergeK [] (a.1.zip (qs.map (·.2))) = a.1.zip (qs.map (·.2)) := by
        rw [mergeK_nodup _ _ (by
          show (([] : List Key) ++ (a.1.zip (qs.map (·.2))).map (·.1)).Nodup
          rw [List.nil_append, List.map_fst_zip (Nat.le_of_eq l1)]
          exact hz.2.2)]
        rfl
      rw [em]
      exact k _ Hs _ trivial ((w1.write (.dK (a.1.zip (qs.map (·.2))))).close (k := .dk a.1) ⟨l1, rfl⟩ (by rw [List.length_map]; exact s.2))
  · cases e
end
end BC
set_option Elab.async false
set_option linter.all false
set_option maxRecDepth 100000
set_option maxHeartbeats 4000000
/-! Core: what is iterated over, targets. -/
namespace BC
open PySem PySem.Spec PyProof.Rows L2
/-- an iterator gives the data ds, while the entries L are held -/
structure ItD (Γ : Gm) (K : PySem.W.Frag) (L : List VT) (J : It) (ds : List D) : Prop where
  goes : ∀ (i : Nat) (σ : St) env G H Hs, i < ds.length → OwnS Γ K σ env G H Hs → (∀ p ∈ L, p ∈ G) → J.go i H
  stops : ∀ (σ : St) env G H Hs, OwnS Γ K σ env G H Hs → (∀ p ∈ L, p ∈ G) → J.stop ds.length H
  yields : ∀ (i : Nat) x (σ : St) env G H H' Hs, i < ds.length → OwnS Γ K σ env G H Hs → (∀ p ∈ L, p ∈ G) → J.yld i H x H' → ∃ d Hs2, ds[i]? = some d ∧ OwnS Γ K σ env ((x, .sh d) :: G) H' Hs2
def iDt (Γ : Gm) (K : PySem.W.Frag) (W : WX) (tmp : List VT) (m : M (List D)) : TI := fun σ H R => ∃ Hs env G r env', OwnS Γ K σ env (tmp ++ G) H Hs ∧ m env = some (r, env') ∧ match r with
  | .ok ds => ∀ H' Hs' J L, ItD Γ K L J ds → OwnS Γ K σ env' (L ++ G) H' Hs' → R J H'
  | .exc c ds => ∀ H' Hs' d, XOwn Γ K σ env' G c ds d H' Hs' → W (.ref (Γ.cad c)) d σ H'
abbrev iD (Γ : Gm) (K : PySem.W.Frag) (W : WX) (m : M (List D)) : TI := iDt Γ K W [] m
section
variable {X : Cx} {Γ : Gm} {A : AgC} {C : Ctx} {W : WX} {CXt : CXT} {K : PySem.W.Frag}
theorem pi_mono {tg e : Expr} {t t' : TI} (h : PI X tg e t) (k : ∀ σ H R, t' σ H R → t σ H R) : PI X tg e t' := ⟨fun pins s σ H R I q => h.run pins s σ H R I (k σ H R q)⟩
theorem OwnS.memSh {σ : St} {env : En} {G : List VT} {H Hs : Hp} {v : V} {d : D} (o : OwnS Γ K σ env G H Hs) (m : (v, T.sh d) ∈ G) : Rep Γ K Hs v d := by
  obtain ⟨M, p⟩ := mem_perm m
  exact (o.perm p).rep
theorem OwnS.memPf {σ : St} {env : En} {G : List VT} {H Hs : Hp} {a : Addr} {u : HO} (o : OwnS Γ K σ env G H Hs) (m : (V.ref a, T.pf u) ∈ G) : Hs a = some u ∧ H a = some u := by
  obtain ⟨M, p⟩ := mem_perm m
  exact (o.perm p).pfGet
theorem reps_at {H : Hp} {vs : List V} {ds : List D} {i : Nat} {v : V} (r : Reps Γ K H vs ds) (e : vs[i]? = some v) : ∃ d, ds[i]? = some d ∧ Rep Γ K H v d := by
  have hi : i < ds.length := by rw [← r.length]; exact (List.getElem?_eq_some_iff.mp e).1
  obtain ⟨w, h1, h2⟩ := r.get (List.getElem?_eq_getElem hi)
  rw [e] at h1
  cases h1
  exact ⟨_, List.getElem?_eq_getElem hi, h2⟩
theorem itd_list {a : Addr} {ds : List D} : ItD Γ K [(.ref a, .sh (.nd .lst ds))] (Itl K a) ds where
  goes := fun i σ env G H Hs hi o m => by
    have r := o.memSh (m _ (List.mem_singleton.mpr rfl))
    cases r with
    | nd h1 h2 => exact walk_list.goes i H (by rw [h2.length]; exact hi) (SqL.of (h1.le o.le))
  stops := fun σ env G H Hs o m => by
    have r := o.memSh (m _ (List.mem_singleton.mpr rfl))
    cases r with
    | nd h1 h2 => rw [← h2.length]; exact walk_list.stops H (SqL.of (h1.le o.le))
  yields := fun i x σ env G H H' Hs hi o m y => by
    have r := o.memSh (m _ (List.mem_singleton.mpr rfl))
    cases r with
    | nd h1 h2 =>
      obtain ⟨e, e2⟩ := walk_list.yields i H x H' (by rw [h2.length]; exact hi) (SqL.of (h1.le o.le)) y
      subst e
      obtain ⟨d, g1, g2⟩ := reps_at h2 e2
      exact ⟨d, Hs, g1, o.addSh g2⟩
theorem itd_scr {a : Addr} {ds : List D} : ItD Γ K [(.ref a, .sh (.nd .scr ds))] (Itl K a) ds where
  goes := fun i σ env G H Hs hi o m => by
    have r := o.memSh (m _ (List.mem_singleton.mpr rfl))
    cases r with
    | nd h1 h2 => exact walk_list.goes i H (by rw [h2.length]; exact hi) (sqL_le o.le h1)
  stops := fun σ env G H Hs o m => by
    have r := o.memSh (m _ (List.mem_singleton.mpr rfl))
    cases r with
    | nd h1 h2 => rw [← h2.length]; exact walk_list.stops H (sqL_le o.le h1)
  yields := fun i x σ env G H H' Hs hi o m y => by
    have r := o.memSh (m _ (List.mem_singleton.mpr rfl))
    cases r with
    | nd h1 h2 =>
      obtain ⟨e, e2⟩ := walk_list.yields i H x H' (by rw [h2.length]; exact hi) (sqL_le o.le h1) y
      subst e
      obtain ⟨d, g1, g2⟩ := reps_at h2 e2
      exact ⟨d, Hs, g1, o.addSh g2⟩
theorem itd_ktp {a : Addr} {ds : List D} : ItD Γ K [(.ref a, .sh (.nd .ktp ds))] (Itt K a) ds where
  goes := fun i σ env G H Hs hi o m => by
    have r := o.memSh (m _ (List.mem_singleton.mpr rfl))
    cases r with
    | nd h1 h2 => exact walk_tup.goes i H (by rw [h2.length]; exact hi) (sqT_le o.le h1)
  stops := fun σ env G H Hs o m => by
    have r := o.memSh (m _ (List.mem_singleton.mpr rfl))
    cases r with
    | nd h1 h2 => rw [← h2.length]; exact walk_tup.stops H (sqT_le o.le h1)
  yields := fun i x σ env G H H' Hs hi o m y => by
    have r := o.memSh (m _ (List.mem_singleton.mpr rfl))
    cases r with
    | nd h1 h2 =>
      obtain ⟨e, e2⟩ := walk_tup.yields i H x H' (by rw [h2.length]; exact hi) (sqT_le o.le h1) y
      subst e
      obtain ⟨d, g1, g2⟩ := reps_at h2 e2
      exact ⟨d, Hs, g1, o.addSh g2⟩
theorem itd_tup {a : Addr} {ds : List D} : ItD Γ K [(.ref a, .sh (.nd .tup ds))] (Itt K a) ds where
  goes := fun i σ env G H Hs hi o m => by
    have r := o.memSh (m _ (List.mem_singleton.mpr rfl))
    cases r with
    | nd h1 h2 => exact walk_tup.goes i H (by rw [h2.length]; exact hi) (SqT.of (h1.le o.le))
  stops := fun σ env G H Hs o m => by
    have r := o.memSh (m _ (List.mem_singleton.mpr rfl))
    cases r with
    | nd h1 h2 => rw [← h2.length]; exact walk_tup.stops H (SqT.of (h1.le o.le))
  yields := fun i x σ env G H H' Hs hi o m y => by
    have r := o.memSh (m _ (List.mem_singleton.mpr rfl))
    cases r with
    | nd h1 h2 =>
      obtain ⟨e, e2⟩ := walk_tup.yields i H x H' (by rw [h2.length]; exact hi) (SqT.of (h1.le o.le)) y
      subst e
      obtain ⟨d, g1, g2⟩ := reps_at h2 e2
      exact ⟨d, Hs, g1, o.addSh g2⟩
theorem rngD_at {lo : Int} {n i : Nat} (h : i < n) : (rngD lo n)[i]? = some (.int (lo + (i : Int))) := by
  unfold rngD; rw [List.getElem?_map, List.getElem?_range h]; rfl
theorem rngC_at {lo c : Int} {n i : Nat} (h : i < n) : (rngC lo c n)[i]? = some (.int (lo + (i : Int) * c)) := by
  unfold rngC; rw [List.getElem?_map, List.getElem?_range h]; rfl
theorem itd_rng {lo : Int} {n : Nat} : ItD Γ K [] (Itr lo n) (rngD lo n) where
  goes := fun i σ env G H Hs hi o m => walk_range.goes i H (by simpa [rngD] using hi) trivial
  stops := fun σ env G H Hs o m => by
    have : (rngD lo n).length = n := by simp [rngD]
    rw [this]
    exact walk_range.stops H trivial
  yields := fun i x σ env G H H' Hs hi o m y => by
    have hi : i < n := by simpa [rngD] using hi
    obtain ⟨e, e2⟩ := walk_range.yields i H x H' hi trivial y
    subst e e2
    exact ⟨_, Hs, rngD_at hi, o.addSh (.int _)⟩
theorem itd_rngC {lo c : Int} {n : Nat} : ItD Γ K [] (Itc lo c n) (rngC lo c n) where
  goes := fun i σ env G H Hs hi o m => walk_rangeC.goes i H (by simpa [rngC] using hi) trivial
  stops := fun σ env G H Hs o m => by
    have : (rngC lo c n).length = n := by simp [rngC]
    rw [this]
    exact walk_rangeC.stops H trivial
  yields := fun i x σ env G H H' Hs hi o m y => by
    have hi : i < n := by simpa [rngC] using hi
    obtain ⟨e, e2⟩ := walk_rangeC.yields i H x H' hi trivial y
    subst e e2
    exact ⟨_, Hs, rngC_at hi, o.addSh (.int _)⟩
theorem enmD_len {ds : List D} : (enmD ds).length = ds.length := by simp [enmD]
theorem enmD_at {ds : List D} {i : Nat} {d : D} (h : ds[i]? = some d) : (enmD ds)[i]? = some (.nd .tup [.int (i : Int), d]) := by
  unfold enmD
  rw [List.getElem?_map, List.getElem?_zipIdx, h]
  simp
theorem itd_enm {a : Addr} {ds : List D} : ItD Γ K [(.ref a, .sh (.nd .lst ds))] (Ite K a) (enmD ds) where
  goes := fun i σ env G H Hs hi o m => by
    have r := o.memSh (m _ (List.mem_singleton.mpr rfl))
    cases r with
    | nd h1 h2 => exact walk_enum.goes i H (by rw [h2.length, ← enmD_len]; exact hi) (SqL.of (h1.le o.le))
  stops := fun σ env G H Hs o m => by
    have r := o.memSh (m _ (List.mem_singleton.mpr rfl))
    cases r with
    | nd h1 h2 => rw [enmD_len, ← h2.length]; exact walk_enum.stops H (SqL.of (h1.le o.le))
  yields := fun i x σ env G H H' Hs hi o m y => by
    have r := o.memSh (m _ (List.mem_singleton.mpr rfl))
    cases r with
    | nd h1 h2 =>
      obtain ⟨tt, u, w, e1, e2, e3, e4, e5⟩ := walk_enum.yields i H x H' (by rw [h2.length, ← enmD_len]; exact hi) (SqL.of (h1.le o.le)) y
      subst e1 e3
      cases e4
      obtain ⟨d, g1, g2⟩ := reps_at h2 e5
      have o2 := OwnS.newSh (k := .tup) (vs := [.int (i : Nat), w]) (ds := [.int (i : Int), d]) e2 (by exact rfl) (.cons (.int _) (.cons g2 .nil)) o
      obtain ⟨Hs', _, o3⟩ := o2.freeze (d := .nd .tup [.int (i : Int), d]) rfl
      exact ⟨_, Hs', enmD_at g1, o3⟩
theorem kD_rep {H : Hp} (k : Key) : Rep Γ K H (kV k) (kD k) := by
  cases k with
  | inl i => exact .int i
  | inr s => exact .str s
theorem itd_keys {a : Addr} {od : Obj} {ks : List Key} {vs : List V} (l : ks.length = vs.length) : ItD Γ K [(.ref a, .pf (.frz od (.dK (ks.zip vs))))] (Itk a od (ks.zip vs)) (ks.map kD) where
  goes := fun i σ env G H Hs hi o m => by
    have h := (o.memPf (m _ (List.mem_singleton.mpr rfl))).2
    exact walk_keys.goes i H (by rw [List.length_zip]; simp at hi; omega) h
  stops := fun σ env G H Hs o m => by
    have h := (o.memPf (m _ (List.mem_singleton.mpr rfl))).2
    have e : (ks.map kD).length = (ks.zip vs).length := by rw [List.length_zip, List.length_map]; omega
    rw [e]
    exact walk_keys.stops H h
  yields := fun i x σ env G H H' Hs hi o m y => by
    have h := (o.memPf (m _ (List.mem_singleton.mpr rfl))).2
    obtain ⟨e, k, v, e2, e3⟩ := walk_keys.yields i H x H' (by rw [List.length_zip]; simp at hi; omega) h y
    subst e e3
    refine ⟨kD k, Hs, ?_, o.addSh (kD_rep k)⟩
    have : ks[i]? = some k := by
      rw [List.getElem?_zip_eq_some] at e2
      exact e2.1
    rw [List.getElem?_map, this]
    rfl
end
end BC
set_option Elab.async false
set_option linter.all false
set_option maxRecDepth 100000
set_option maxHeartbeats 4000000
/-! Core: iterables against their rules; targets. -/
namespace BC
open PySem PySem.Spec PyProof.Rows L2
/-- slots outside as stand as they were -/
structure Kp (as : List Nat) (σ σ' : St) : Prop where
  len : σ'.length = σ.length
  kp : ∀ i, i ∉ as → σ'[i]? = σ[i]?
theorem Kp.rfl' {as : List Nat} {σ : St} : Kp as σ σ := ⟨rfl, fun _ _ => rfl⟩
theorem Kp.tr {as : List Nat} {σ σ1 σ2 : St} (h : Kp as σ σ1) (h2 : Kp as σ1 σ2) : Kp as σ σ2 := ⟨h2.len.trans h.len, fun i hi => (h2.kp i hi).trans (h.kp i hi)⟩
theorem Kp.set {as : List Nat} {σ : St} {i : Nat} {v : Option V} (h : i ∈ as) : Kp as σ (σ.set i v) := ⟨List.length_set, fun j hj => List.getElem?_set_ne fun z => hj (by rw [← z]; exact h)⟩
section
variable {X : Cx} {Γ : Gm} {A : AgC} {C : Ctx} {W : WX} {CXt : CXT} {K : PySem.W.Frag}
variable {σ : St} {H : Hp} {R : It → Hp → Prop} {tmp : List VT}
theorem iDt.bind {α β : Type} {ent : β → α → List VT} {side : St → β → α → Prop} {m : M α} {f : α → M (List D)} (h : iDt Γ K W tmp (bd m f) σ H R) :
    rdt Γ K W ent side [] m σ H fun v H1 => ∃ a, side σ v a ∧ iDt Γ K W (ent v a ++ tmp) (f a) σ H1 R := by
  obtain ⟨Hs, env, G, r, env', o, e, k⟩ := h
  unfold bd at e
  cases q : m env with
  | none => rw [q] at e; cases e
  | some p =>
    obtain ⟨r1, e1⟩ := p
    rw [q] at e
    cases r1 with
    | ok a =>
      refine ⟨Hs, env, tmp ++ G, _, e1, o, q, fun H1 Hs1 v s o1 => ⟨a, s, Hs1, e1, G, r, env', ?_, e, k⟩⟩
      rw [List.append_assoc]; exact o1
    | exc c ds =>
      cases e
      exact ⟨Hs, env, tmp ++ G, _, _, o, q, fun H1 Hs1 d x => k H1 Hs1 d (XOwn.weak x)⟩
theorem iDt.lift {f : En → Option (List D)} (h : iDt Γ K W tmp (BC.lift f) σ H R) :
    ∃ Hs env G ds, OwnS Γ K σ env (tmp ++ G) H Hs ∧ f env = some ds ∧ ∀ H' Hs' J L, ItD Γ K L J ds → OwnS Γ K σ env (L ++ G) H' Hs' → R J H' := by
  obtain ⟨Hs, env, G, r, env', o, e, k⟩ := h
  unfold BC.lift at e
  cases q : f env with
  | none => rw [q] at e; cases e
  | some a => rw [q] at e; cases e; exact ⟨Hs, env, G, a, o, q, k⟩
variable {tg x y z : Expr} {pos p : Pos}
theorem x_ilst {c : CE} (h : PE X x (tE Γ X.K W (evE C c))) : PI X tg x (iD Γ X.K W (evI C (.lst c))) := by
  refine pi_mono (pi_list h) fun σ H R h => ?_
  simp only [evI] at h
  refine (iDt.bind (ent := entT) (side := noSide) h).mono fun v H1 ⟨t, _, q⟩ => ?_
  obtain ⟨Hs, env, G, ds, o, e, k⟩ := q.lift
  split at e
  · rename_i ds' q1
    cases e
    have o : OwnS Γ X.K σ env ((v, t) :: G) H1 Hs := o
    obtain ⟨Hs', _, o'⟩ := o.freeze q1
    have r := o'.rep
    cases r with
    | nd h1 h2 => exact ⟨_, rfl, ⟨_, SqL.of (h1.le o'.le)⟩, k H1 Hs' _ _ itd_list o'⟩
  · cases e
theorem x_itup {c : CE} (h : PE X x (tE Γ X.K W (evE C c))) : PI X tg x (iD Γ X.K W (evI C (.tup c))) := by
  refine pi_mono (pi_tup h) fun σ H R h => ?_
  simp only [evI] at h
  refine (iDt.bind (ent := entT) (side := noSide) h).mono fun v H1 ⟨t, _, q⟩ => ?_
  obtain ⟨Hs, env, G, ds, o, e, k⟩ := q.lift
  split at e
  · rename_i ds' q1
    cases e
    have o : OwnS Γ X.K σ env ((v, t) :: G) H1 Hs := o
    obtain ⟨Hs', _, o'⟩ := o.freeze q1
    have r := o'.rep
    cases r with
    | nd h1 h2 => exact ⟨_, rfl, ⟨_, SqT.of (h1.le o'.le)⟩, k H1 Hs' _ _ itd_tup o'⟩
  · rename_i ds' q1
    cases e
    have o : OwnS Γ X.K σ env ((v, t) :: G) H1 Hs := o
    obtain ⟨Hs', _, o'⟩ := o.freeze q1
    have r := o'.rep
    cases r with
    | nd h1 h2 => exact ⟨_, rfl, ⟨_, sqT_le o'.le h1⟩, k H1 Hs' _ _ itd_ktp o'⟩
  · cases e
theorem x_iscr (S : SX X Γ A C W CXt) {i : Nat} (hv : varB A X.env.scope i x = true) : PI X tg x (iD Γ X.K W (evI C (.scr i))) := by
  refine pi_mono (pi_list (pe_slot S hv)) fun σ H R h => ?_
  simp only [evI] at h
  obtain ⟨Hs, env, G, ds, o, e, k⟩ := iDt.lift h
  split at e
  · rename_i ds' q1
    cases e
    rcases o.asg i _ q1 with z | ⟨v, sv⟩
    · cases z
    · have o2 := (o.take q1 sv).dup.put sv
      rw [List.set_set, set_self q1] at o2
      have r := o2.rep
      cases r with
      | nd h1 h2 => exact ⟨_, sv, _, rfl, ⟨_, sqL_le o2.le h1⟩, k H Hs _ _ itd_scr o2⟩
  · cases e
theorem okRng_b {a : Int} (h : okRng a = true) : -(2 ^ 62) ≤ a ∧ a < 2 ^ 62 := of_decide_eq_true h
theorem x_irng1 (S : SX X Γ A C W CXt) {c : CE} (hg : glB X.env.scope "range" = true) (hx : noStar x = true) (h : PE X x (tE Γ X.K W (evE C c))) : PI X tg (.Call (.Name "range" p) [x] [] pos) (iD Γ X.K W (evI C (.rng1 c))) := by
  refine pi_mono (pi_range1 (gl_of hg) (blt_ok S (by decide)) (pa_one hx h) (star_of hx)) fun σ H R h => ?_
  simp only [evI] at h
  refine (iDt.bind (ent := entT) (side := noSide) h).mono fun v H1 ⟨t, _, q⟩ => ?_
  obtain ⟨Hs, env, G, ds, o, e, k⟩ := q.lift
  obtain ⟨n, rfl⟩ : ∃ n, t = T.sh (.int n) := by
    cases t with
    | sh d => cases d with
      | int n => exact ⟨n, rfl⟩
      | _ => cases e
    | _ => cases e
  replace e : (if okRng n = true then some (rngD 0 n.toNat) else none) = some ds := e
  split at e
  · rename_i hn
    cases e
    have r := OwnS.rep (show OwnS Γ X.K σ env ((v, .sh (.int n)) :: G) H1 Hs from o)
    cases r
    exact ⟨n, rfl, (okRng_b hn).1, (okRng_b hn).2, k H1 Hs _ _ itd_rng (OwnS.dropR (L := [_]) o)⟩
  · cases e
theorem x_irng2 (S : SX X Γ A C W CXt) {c d : CE} (hg : glB X.env.scope "range" = true) (hx : noStar x = true) (hy : noStar y = true) (h : PE X x (tE Γ X.K W (evE C c))) (h2 : PE X y (tE Γ X.K W (evE C d))) :
    PI X tg (.Call (.Name "range" p) [x, y] [] pos) (iD Γ X.K W (evI C (.rng2 c d))) := by
  refine pi_mono (pi_range2 (gl_of hg) (blt_ok S (by decide)) (pa_two hx hy h h2) (by rw [star_of hx, star_of hy]; rfl) (star_of hy)) fun σ H R h => ?_
  simp only [evI] at h
  refine (iDt.bind (ent := entT) (side := noSide) h).mono fun v H1 ⟨t, _, q⟩ => ?_
  refine (iDt.bind (ent := entT) (side := noSide) q).mono fun u H2 ⟨t2, _, q2⟩ => ?_
  obtain ⟨Hs, env, G, ds, o, e, k⟩ := q2.lift
  obtain ⟨lo, rfl⟩ : ∃ n, t = T.sh (.int n) := by
    cases t with
    | sh d => cases d with
      | int n => exact ⟨n, rfl⟩
      | _ => cases e
    | _ => cases e
  obtain ⟨hi, rfl⟩ : ∃ n, t2 = T.sh (.int n) := by
    cases t2 with
    | sh d => cases d with
      | int n => exact ⟨n, rfl⟩
      | _ => cases e
    | _ => cases e
  replace e : (if okRng lo = true ∧ okRng hi = true then some (rngD lo (hi - lo).toNat) else none) = some ds := e
  · split at e
    · rename_i hn
      cases e
      have o : OwnS Γ X.K σ env ((u, .sh (.int hi)) :: (v, .sh (.int lo)) :: G) H2 Hs := o
      have r := o.rep
      have r2 := o.drop.rep
      cases r; cases r2
      exact ⟨lo, hi, rfl, ⟨(okRng_b hn.1).1, (okRng_b hn.1).2, (okRng_b hn.2).1, (okRng_b hn.2).2⟩, k H2 Hs _ _ itd_rng o.drop.drop⟩
    · cases e
theorem x_irng3 (S : SX X Γ A C W CXt) {c d g : CE} (hg : glB X.env.scope "range" = true) (hx : noStar x = true) (hy : noStar y = true) (hz : noStar z = true) (h : PE X x (tE Γ X.K W (evE C c))) (h2 : PE X y (tE Γ X.K W (evE C d))) (h3 : PE X z (tE Γ X.K W (evE C g))) :
    PI X tg (.Call (.Name "range" p) [x, y, z] [] pos) (iD Γ X.K W (evI C (.rng3 c d g))) := by
  refine pi_mono (pi_range3 (gl_of hg) (blt_ok S (by decide)) (pa_cons h (pa_two hy hz h2 h3) (star_of hx)) (star_of hx) (by rw [star_of hy, star_of hz]; rfl)) fun σ H R h => ?_
  simp only [evI] at h
  refine (iDt.bind (ent := entT) (side := noSide) h).mono fun v H1 ⟨t, _, q⟩ => ?_
  refine (iDt.bind (ent := entT) (side := noSide) q).mono fun u H2 ⟨t2, _, q2⟩ => ?_
  refine (iDt.bind (ent := entT) (side := noSide) q2).mono fun w H3 ⟨t3, _, q3⟩ => ?_
  obtain ⟨Hs, env, G, ds, o, e, k⟩ := q3.lift
  obtain ⟨lo, rfl⟩ : ∃ n, t = T.sh (.int n) := by
    cases t with
    | sh d => cases d with
      | int n => exact ⟨n, rfl⟩
      | _ => cases e
    | _ => cases e
  obtain ⟨hi, rfl⟩ : ∃ n, t2 = T.sh (.int n) := by
    cases t2 with
    | sh d => cases d with
      | int n => exact ⟨n, rfl⟩
      | _ => cases e
    | _ => cases e
  obtain ⟨st, rfl⟩ : ∃ n, t3 = T.sh (.int n) := by
    cases t3 with
    | sh d => cases d with
      | int n => exact ⟨n, rfl⟩
      | _ => cases e
    | _ => cases e
  replace e : (if 0 < st ∧ st < 1073741824 ∧ Builtin.Range.small lo hi st = true ∧ 0 ≤ Builtin.Range.rangeSize lo hi st then some (rngC lo st (Builtin.Range.rangeSize lo hi st).toNat) else none) = some ds := e
  · split at e
    · rename_i hn
      cases e
      have o : OwnS Γ X.K σ env ((w, .sh (.int st)) :: (u, .sh (.int hi)) :: (v, .sh (.int lo)) :: G) H3 Hs := o
      have r := o.rep
      have r2 := o.drop.rep
      have r3 := o.drop.drop.rep
      cases r; cases r2; cases r3
      refine ⟨lo, hi, st, _, rfl, ⟨by omega, by omega, hn.2.2.1, ?_⟩, k H3 Hs _ _ itd_rngC o.drop.drop.drop⟩
      exact (Int.toNat_of_nonneg hn.2.2.2).symm
    · cases e
theorem x_ienm (S : SX X Γ A C W CXt) {c : CE} {elts : List Expr} {kk : Nat} {tpos : Pos} (hg : glB X.env.scope "enumerate" = true) (hx : noStar x = true) (h : PE X x (tE Γ X.K W (evE C c))) :
    PI X (.Tuple elts kk tpos) (.Call (.Name "enumerate" p) [x] [] pos) (iD Γ X.K W (evI C (.enm c))) := by
  refine pi_mono (pi_enum (gl_of hg) (blt_ok S (by decide)) (pa_one hx h) (star_of hx)) fun σ H R h => ?_
  simp only [evI] at h
  refine (iDt.bind (ent := entT) (side := noSide) h).mono fun v H1 ⟨t, _, q⟩ => ?_
  obtain ⟨Hs, env, G, ds, o, e, k⟩ := q.lift
  split at e
  · rename_i ds' q1
    cases e
    have o : OwnS Γ X.K σ env ((v, t) :: G) H1 Hs := o
    obtain ⟨Hs', _, o'⟩ := o.freeze q1
    have r := o'.rep
    cases r with
    | nd h1 h2 => exact ⟨_, _, rfl, SqL.of (h1.le o'.le), k H1 Hs' _ _ itd_enm o'⟩
  · cases e
/-- behind a value a dict may be locked -/
def tLockV (t : TE) : TE := fun σ H Q => t σ H fun x H1 => Q x H1 ∨ ∃ d u, H1 d = some u ∧ Mut (some u) ∧ ∀ od, Q x (upd H1 d (.frz od u))
theorem pe_lockV {t : TE} (h : PE X x t) : PE X x (tLockV t) := by
  refine ⟨fun pins s σ H Q I hw => ?_⟩
  refine thn (h.run pins s σ H _ I hw) fun v s1 ⟨y, H1, I1, r, q⟩ => ?_
  rcases q with q | ⟨d, u, hd, mu, q⟩
  · exact ⟨y, H1, I1, r, q⟩
  · obtain ⟨od, I2⟩ := I1.lock hd mu
    exact ⟨y, _, I2, r, q od⟩
theorem x_ikeys {c : CE} (h : PE X x (tE Γ X.K W (evE C c))) : PI X tg x (iD Γ X.K W (evI C (.keys c))) := by
  refine pi_mono (pi_keys (pe_lockV h)) fun σ H R h => ?_
  simp only [evI] at h
  refine (iDt.bind (ent := entT) (side := noSide) h).mono fun v H1 ⟨t, _, q⟩ => ?_
  obtain ⟨Hs, env, G, ds, o, e, k⟩ := q.lift
  split at e
  · rename_i ks ds' q1
    cases e
    have o : OwnS Γ X.K σ env ((v, t) :: G) H1 Hs := o
    obtain ⟨Hs', _, o'⟩ := o.freeze q1
    have r := o'.rep
    cases r with
    | @nd d _ vs _ h1 h2 =>
      obtain ⟨l, h1⟩ := h1
      rcases h1 with h1 | ⟨od, h1⟩
      · rcases o'.le _ _ h1 with h3 | ⟨_, od, h3⟩
        · refine .inr ⟨d, _, h3, trivial, fun od => ⟨d, od, rfl, .inl ⟨_, upd_same, ?_⟩⟩⟩
          have o2 := (o'.lock (od := od) h1 trivial (.inl h3)).drop
          exact k _ _ _ _ (itd_keys l) (o2.pfAdd upd_same fun z => z)
        · refine .inl ⟨d, od, rfl, .inl ⟨_, h3, ?_⟩⟩
          have o2 := (o'.lock (od := od) h1 trivial (.inr h3)).drop
          have eH : upd H1 d (.frz od (.dK (ks.zip vs))) = H1 := by
            funext a
            by_cases ha : a = d
            · subst ha; rw [upd_same, h3]
            · rw [upd_ne ha]
          rw [eH] at o2
          exact k _ _ _ _ (itd_keys l) (o2.pfAdd upd_same fun z => z)
      · refine .inl ⟨d, od, rfl, .inl ⟨_, o'.le.at' h1 fun z => z, ?_⟩⟩
        exact k _ _ _ _ (itd_keys l) (o'.drop.pfAdd h1 fun z => z)
  · cases e
/-! ### targets -/
def gRd (Γ : Gm) (K : PySem.W.Frag) (as : List Nat) (g : CG) : TG := fun v σ H Q => ∃ Hs env G t env', OwnS Γ K σ env ((v, t) :: G) H Hs ∧ gset g t env = some env' ∧ ∀ σ' H' Hs', Kp as σ σ' → OwnS Γ K σ' env' G H' Hs' → Q σ' H'
def gsRd (Γ : Gm) (K : PySem.W.Frag) (as : List Nat) (gs : CGs) : TGs := fun vs σ H Q => ∃ Hs env G ts env', vs.length = ts.length ∧ OwnS Γ K σ env (vs.zip ts ++ G) H Hs ∧ gsets gs ts env = some env' ∧ ∀ σ' H' Hs', Kp as σ σ' → OwnS Γ K σ' env' G H' Hs' → Q σ' H'
theorem pg_mono {t t' : TG} (h : PG X tg t) (k : ∀ v σ H Q, t' v σ H Q → t v σ H Q) : PG X tg t' := ⟨fun pins s σ H v u Q I r q => h.run pins s σ H v u Q I r (k v σ H Q q)⟩
theorem pgs_mono {es : List Expr} {t t' : TGs} (h : PGs X es t) (k : ∀ v σ H Q, t' v σ H Q → t v σ H Q) : PGs X es t' := ⟨fun pins s σ H v u Q I r q => h.run pins s σ H v u Q I r (k v σ H Q q)⟩
theorem asgE_of {e : Expr} {es : List Expr} {env : PySem.Env} (h : noStar e = true) : assignEach (e :: es) env = (false, assign e env) :: assignEach es env := by
  cases e <;> first | rfl | cases h
theorem agGs_len {sc : Scope} {as : List Nat} : ∀ {gs : CGs} {es : List Expr}, agGs A sc as gs es = true → plains es = true ∧ ∀ {ts : List T} {e e' : En}, gsets gs ts e = some e' → ts.length = es.length
  | .nil, [], _ => ⟨rfl, fun {ts e e'} h => by cases ts with
    | nil => rfl
    | cons _ _ => simp [gsets] at h⟩
  | .nil, _ :: _, h => by simp [agGs] at h
  | .cons g r, [], h => by simp [agGs] at h
  | .cons g r, x :: es, h => by
    simp only [agGs] at h
    obtain ⟨h, h3⟩ := an h
    obtain ⟨h1, h2⟩ := an h
    obtain ⟨i1, i2⟩ := agGs_len h3
    refine ⟨by unfold plains; rw [List.all_cons, h2]; exact i1, fun {ts e e'} q => ?_⟩
    cases ts with
    | nil => simp [gsets] at q
    | cons t ts =>
      simp only [gsets] at q
      split at q
      · rw [List.length_cons, List.length_cons, i2 q]
      · cases q
theorem asg_len {es : List Expr} {env : PySem.Env} (h : plains es = true) : (assignEach es env).length = es.length ∧ (assignEach es env).findIdx? (·.1) = none := by
  induction es with
  | nil => exact ⟨rfl, rfl⟩
  | cons e es ih =>
    unfold plains at h
    rw [List.all_cons] at h
    obtain ⟨h1, h2⟩ := an h
    obtain ⟨i1, i2⟩ := ih h2
    rw [asgE_of h1]
    refine ⟨by rw [List.length_cons, List.length_cons, i1], ?_⟩
    rw [List.findIdx?_cons, i2]
    rfl
theorem map_sh_un {ds : List D} : unsh (ds.map T.sh) = some ds := by
  induction ds with
  | nil => rfl
  | cons d ds ih => simp [unsh, ih]
mutual
theorem x_tg (S : SX X Γ A C W CXt) {as : List Nat} : ∀ (g : CG) (e : Expr), agG A X.env.scope as g e = true → PG X e (gRd Γ X.K as g)
  | .nm i, e, h => by
    unfold agG at h
    split at h
    · rename_i n ps
      obtain ⟨h, h3⟩ := an h
      obtain ⟨h1, h2⟩ := an h
      have h1 : A.N[i]? = some n := of_decide_eq_true h1
      have hx : Loc X.env.scope n ∧ (X.fn n = true ∨ X.env.scope.names.lookup n = some .local) := by
        unfold locB at h2
        split at h2
        · rename_i q; exact ⟨.inl q, .inr q⟩
        · rename_i q; exact ⟨.inr q, .inl (S.fnv h2 n)⟩
        · cases h2
      refine pg_mono (pg_name (by exact S.nd) (by rw [S.hN]; exact h1) hx.1 hx.2) fun v σ H Q h => ?_
      obtain ⟨Hs, env, G, t, env', o, e, k⟩ := h
      simp only [gset] at e
      split at e
      · rename_i hi
        cases e
        exact k _ H Hs (Kp.set (List.contains_iff_mem.mp h3)) (o.assign (by rw [← o.len]; exact hi))
      · cases e
    · cases h
  | .tp gs, e, h => by
    unfold agG at h
    split at h
    · rename_i es kk ps
      obtain ⟨pl, gl⟩ := agGs_len h
      obtain ⟨l1, l2⟩ := asg_len (env := X.env) pl
      refine pg_mono (pg_tup (n := es.length) S.calm (x_tgs S gs es h) l1 l2) fun v σ H Q h => ?_
      obtain ⟨Hs, env, G, t, env', o, e, k⟩ := h
      simp only [gset] at e
      split at e
      · rename_i ds
        have r := o.rep
        cases r with
        | nd h1 h2 =>
          have hl := gl e
          rw [List.length_map] at hl
          exact ⟨_, _, rfl, SqT.of (h1.le o.le), by rw [h2.length]; exact hl, Hs, env, G, _, env', by rw [List.length_map]; exact h2.length, OwnS.addShs h2 o.drop, e, k⟩
      · rename_i ds
        have r := o.rep
        cases r with
        | nd h1 h2 =>
          have hl := gl e
          rw [List.length_map] at hl
          exact ⟨_, _, rfl, sqT_le o.le h1, by rw [h2.length]; exact hl, Hs, env, G, _, env', by rw [List.length_map]; exact h2.length, OwnS.addShs h2 o.drop, e, k⟩
      · rename_i ts
        obtain ⟨a, vs, ob, rfl, ha, w0, l, o1⟩ := o.open_
        have w0 : ob = .tup vs := w0
        subst w0
        exact ⟨a, vs, rfl, SqT.of ha, by rw [l]; exact gl e, Hs, env, G, ts, env', l, o1.drop, e, k⟩
      · cases e
    · cases h
theorem x_tgs (S : SX X Γ A C W CXt) {as : List Nat} : ∀ (gs : CGs) (es : List Expr), agGs A X.env.scope as gs es = true → PGs X es (gsRd Γ X.K as gs)
  | .nil, [], _ => by
    refine pgs_mono pgs_nil fun vs σ H Q h => ?_
    obtain ⟨Hs, env, G, ts, env', l, o, e, k⟩ := h
    cases ts with
    | nil =>
      cases vs with
      | nil =>
        simp only [gsets] at e
        cases e
        exact ⟨rfl, k σ H Hs Kp.rfl' o⟩
      | cons _ _ => simp at l
    | cons _ _ => simp [gsets] at e
  | .nil, _ :: _, h => by simp [agGs] at h
  | .cons g r, [], h => by simp [agGs] at h
  | .cons g r, x :: es, h => by
    simp only [agGs] at h
    obtain ⟨h, h3⟩ := an h
    obtain ⟨h1, h2⟩ := an h
    refine pgs_mono (pgs_cons (x_tg S g x h1) (x_tgs S r es h3) (by rw [asgE_of h2]; rfl)) fun vs σ H Q h => ?_
    obtain ⟨Hs, env, G, ts, env', l, o, e, k⟩ := h
    cases ts with
    | nil => simp [gsets] at e
    | cons t ts =>
      cases vs with
      | nil => simp at l
      | cons v vs =>
        simp only [gsets] at e
        split at e
        · rename_i e1 q1
          refine ⟨v, vs, rfl, Hs, env, vs.zip ts ++ G, t, e1, o, q1, fun σ1 H1 Hs1 kp o1 => ?_⟩
          exact ⟨Hs1, e1, G, ts, env', by simpa using l, o1, e, fun σ' H' Hs' kp' o' => k σ' H' Hs' (kp.tr kp') o'⟩
        · cases e
end
end
end BC
set_option Elab.async false
set_option linter.all false
set_option maxRecDepth 100000
set_option maxHeartbeats 4000000
/-! Core: comprehensions. -/
namespace BC
open PySem PySem.Spec PyProof.Rows L2
abbrev W0 : WX := fun _ _ _ _ => False
section
variable {X : Cx} {Γ : Gm} {A : AgC} {C : Ctx} {W : WX} {CXt : CXT} {K : PySem.W.Frag}
theorem wipe_at {σ : St} : ∀ {vs : List Nat} {i : Nat}, (wipe σ vs)[i]? = if i ∈ vs ∧ i < σ.length then some none else σ[i]?
  | [], i => by simp [wipe]
  | v :: vs, i => by
    unfold wipe
    by_cases hv : v = i
    · subst hv
      by_cases hl : v < σ.length
      · rw [List.getElem?_set_self (by rw [wipe_length]; exact hl)]
        simp [hl]
      · rw [List.getElem?_eq_none (by rw [List.length_set, wipe_length]; omega)]
        simp [hl]
    · rw [List.getElem?_set_ne hv, wipe_at]
      have hiv : ¬ i = v := fun z => hv z.symm
      simp only [List.mem_cons, hiv, false_or]
theorem wipe_kp {σ σ2 : St} {vs : List Nat} (h : Kp vs (wipe σ vs) σ2) : wipe σ2 vs = wipe σ vs := by
  apply List.ext_getElem?
  intro i
  rw [wipe_at, wipe_at]
  have hl : σ2.length = σ.length := by rw [h.len, wipe_length]
  by_cases hi : i ∈ vs
  · by_cases hl2 : i < σ.length
    · rw [if_pos ⟨hi, by rw [hl]; exact hl2⟩, if_pos ⟨hi, hl2⟩]
    · rw [if_neg (fun z => hl2 (by rw [← hl]; exact z.2)), if_neg (fun z => hl2 z.2), List.getElem?_eq_none (by omega), List.getElem?_eq_none (by omega)]
  · rw [if_neg (fun z => hi z.1), if_neg (fun z => hi z.1), h.kp i hi, wipe_at, if_neg (fun z => hi z.1)]
theorem wipeE_un {e : En} : ∀ {vs : List Nat} {i : Nat}, i ∈ vs → i < e.length → (wipeE vs e)[i]? = some .un
  | v :: vs, i, h, hl => by
    unfold wipeE
    have l2 : ∀ vs : List Nat, (wipeE vs e).length = e.length := fun vs => by
      induction vs with
      | nil => rfl
      | cons _ _ ih => unfold wipeE; rw [List.length_set, ih]
    by_cases hv : v = i
    · subst hv
      exact List.getElem?_set_self (by rw [l2]; exact hl)
    · rw [List.getElem?_set_ne hv]
      rcases List.mem_cons.mp h with z | h
      · exact absurd z.symm hv
      · exact wipeE_un h hl
theorem OwnS.wipeE {σ : St} {env : En} {G : List VT} {H Hs : Hp} (o : OwnS Γ K σ env G H Hs) : ∀ vs : List Nat, OwnS Γ K σ (BC.wipeE vs env) G H Hs
  | [] => o
  | _ :: vs => (OwnS.wipeE o vs).un1
/-- into a block -/
theorem OwnS.wipeIn {σ : St} {env : En} {G : List VT} {H Hs : Hp} (o : OwnS Γ K σ env G H Hs) (vs : List Nat) : OwnS Γ K (wipe σ vs) (BC.wipeE vs env) G H Hs := by
  refine (o.wipeE vs).reslot (wipe_length σ vs) fun i => ?_
  rw [wipe_at]
  by_cases hi : i ∈ vs ∧ i < σ.length
  · exact .inl (wipeE_un hi.1 (by rw [o.len]; exact hi.2))
  · exact .inr (if_neg hi)
/-- behind a turn -/
theorem OwnS.wipeOn {σ σ2 : St} {env : En} {G : List VT} {H Hs : Hp} {vs : List Nat} (o : OwnS Γ K σ2 env G H Hs) (h : wipe σ2 vs = wipe σ vs) : OwnS Γ K (wipe σ vs) (BC.wipeE vs env) G H Hs := by
  rw [← h]; exact o.wipeIn vs
/-- out of a block -/
theorem OwnS.wipeOut {σ : St} {env : En} {G : List VT} {H Hs : Hp} {vs : List Nat} (o : OwnS Γ K (wipe σ vs) env G H Hs) (h : ∀ i ∈ vs, i < σ.length → env[i]? = some .un) : OwnS Γ K σ env G H Hs := by
  refine o.reslot (by rw [wipe_length]) fun i => ?_
  rw [wipe_at]
  by_cases hi : i ∈ vs ∧ i < σ.length
  · exact .inl (h i hi.1 hi.2)
  · rw [if_neg hi]; exact .inr rfl
theorem lcLoop_un {own : List Nat} {g : CG} {t : M Bool} {c : M T} : ∀ {ds : List D} {acc ts : List T} {e e' : En} {n : Nat}, lcLoop own g t c ds acc e = some (ts, e') → True := fun _ => trivial
variable {tg elt iter : Expr} {ifs : List Expr} {scope : Scope} {pos : Pos}
theorem lc_read {own : List Nat} {g : CG} {it : CI} {t : CTs} {c : CE} {σ : St} {H : Hp} {Q : VK} (h : tE Γ K W (evE C (.lc own g it t c)) σ H Q) :
    tLc (iD Γ K W (evI C it)) (gRd Γ K own g) (tT Γ K W0 (evTs C t)) (tE Γ K W0 (evE C c)) own σ H Q := by
  simp only [evE] at h
  obtain ⟨Hs, env, G, r, env', w, e, k⟩ := h
  unfold bd at e
  show iD Γ K W (evI C it) σ H _
  cases q : evI C it env with
  | none => rw [q] at e; cases e
  | some p =>
    obtain ⟨r1, e1⟩ := p
    rw [q] at e
    cases r1 with
    | exc cc ds =>
      cases e
      exact ⟨Hs, env, G, _, _, w, q, fun H1 Hs1 d x => k H1 Hs1 d x⟩
    | ok ds =>
      refine ⟨Hs, env, G, _, e1, w, q, fun H1 Hs1 J L itd w1 D hD => ?_⟩
      have e : (match lcLoop own g (evTs C t) (evE C c) ds [] (BC.wipeE own e1) with
        | some (ts, e') => some (Ex.ok (T.ow .lst ts), e')
        | none => none) = some (r, env') := e
      cases q2 : lcLoop own g (evTs C t) (evE C c) ds [] (BC.wipeE own e1) with
      | none => rw [q2] at e; cases e
      | some p2 =>
        obtain ⟨ts, e2⟩ := p2
        rw [q2] at e
        cases e
        have w2 : OwnS Γ K σ e1 ((.ref D, .ow .lst []) :: (L ++ G)) (upd H1 D (.lst [])) Hs1 := OwnS.newT (vs := []) (ts := []) hD (by exact rfl) rfl w1
        refine ⟨fun i m H => ∃ Hs env acc, m = ds.length - i ∧ i ≤ ds.length ∧ OwnS Γ K (wipe σ own) env ((.ref D, .ow .lst acc) :: (L ++ G)) H Hs ∧ lcLoop own g (evTs C t) (evE C c) (ds.drop i) acc env = some (ts, env') ∧
          ∀ i ∈ own, i < σ.length → env[i]? = some .un, ⟨ds.length, Hs1, _, [], by simp, Nat.zero_le _, w2.wipeIn own, q2, fun i hi hl => wipeE_un hi (by rw [w2.len]; exact hl)⟩, ?_⟩
        rintro i m H ⟨Hs, env, acc, rfl, hi, o, el, un⟩
        have mL : ∀ p ∈ L, p ∈ (V.ref D, T.ow .lst acc) :: (L ++ G) := fun p hp => List.mem_cons_of_mem _ (List.mem_append_left _ hp)
        by_cases hlt : i < ds.length
        · refine .inr ⟨itd.goes i _ _ _ _ _ hlt o mL, _, fun H' nx => ⟨ds.length - (i + 1), by omega, nx⟩, fun x H' y => ?_⟩
          rw [List.drop_eq_getElem_cons hlt] at el
          obtain ⟨d, Hs2, hd, o2⟩ := itd.yields i x _ _ _ _ _ _ hlt o mL y
          have ed : ds[i] = d := by
            rw [List.getElem?_eq_getElem hlt] at hd
            exact Option.some.inj hd
          rw [ed] at el
          unfold lcLoop at el
          cases q3 : gset g (.sh d) env with
          | none => rw [q3] at el; cases el
          | some e3 =>
            rw [q3] at el
            refine ⟨Hs2, env, _, .sh d, e3, o2, q3, fun σ2 H2 Hs3 kp o3 => ⟨wipe_kp kp, ?_⟩⟩
            dsimp only at el
            cases q4 : evTs C t e3 with
            | none => rw [q4] at el; cases el
            | some p4 =>
              obtain ⟨r4, e4⟩ := p4
              rw [q4] at el
              cases r4 with
              | exc cc ds => cases el
              | ok b =>
                refine ⟨Hs3, e3, _, _, e4, o3, q4, fun H4 Hs4 b' sb o4 => ?_⟩
                have sb : b' = b := sb
                subst sb
                cases b' with
                | false =>
                  dsimp only
                  rw [if_neg Bool.false_ne_true]
                  exact ⟨Hs4, BC.wipeE own e4, acc, rfl, hlt, OwnS.wipeOn o4 (wipe_kp kp), el, fun i hi hl => wipeE_un hi (by rw [o4.len, kp.len, wipe_length]; exact hl)⟩
                | true =>
                  dsimp only
                  rw [if_pos rfl]
                  dsimp only at el
                  cases q5 : evE C c e4 with
                  | none => rw [q5] at el; cases el
                  | some p5 =>
                    obtain ⟨r5, e5⟩ := p5
                    rw [q5] at el
                    cases r5 with
                    | exc cc ds => cases el
                    | ok xt =>
                      refine ⟨Hs4, e4, _, _, e5, o4, q5, fun H5 Hs5 y _ o5 => ?_⟩
                      have el : (if acc.length < sizeLine then lcLoop own g (evTs C t) (evE C c) (ds.drop (i + 1)) (acc ++ [xt]) (BC.wipeE own e5) else none) = some (ts, env') := el
                      split at el
                      · rename_i hz
                        have o5 : OwnS Γ K σ2 e5 ((y, xt) :: (.ref D, .ow .lst acc) :: (L ++ G)) H5 Hs5 := o5
                        obtain ⟨a', vs, ob, ea, hD5, w0, l5, o6⟩ := o5.swap.open_
                        cases ea
                        have w0 : ob = .lst vs := w0
                        subst w0
                        refine ⟨vs, hD5, by rw [l5]; exact hz, Hs5, BC.wipeE own e5, acc ++ [xt], rfl, hlt, ?_, el, fun i hi hl => wipeE_un hi (by rw [o5.len, kp.len, wipe_length]; exact hl)⟩
                        have o7 := o6.write (.lst (vs ++ [y]))
                        have o8 : OwnS Γ K σ2 e5 ((.ref D, .ce (.lst (vs ++ [y]))) :: ((vs ++ [y]).zip (acc ++ [xt]) ++ (L ++ G))) (upd H5 D (.lst (vs ++ [y]))) Hs5 := by
                          rw [List.zip_append l5]
                          refine o7.perm (.cons _ ?_)
                          simp
                        exact OwnS.wipeOn (o8.close (by exact rfl) (by simp [l5])) (wipe_kp kp)
                      · cases el
        · have ei : i = ds.length := by omega
          subst ei
          refine .inl ⟨itd.stops _ _ _ _ _ o mL, ?_⟩
          rw [List.drop_length] at el
          simp only [lcLoop] at el
          cases el
          exact k H Hs _ trivial (OwnS.dropR (L := L) (OwnS.perm (G' := L ++ ((V.ref D, T.ow .lst ts) :: G)) (o.wipeOut un) (List.perm_middle.symm)))
theorem putK_zip {κ : Type} [DecidableEq κ] {ks : List κ} {vs : List V} {k : κ} {v : V} (l : ks.length = vs.length) (nd : ks.Nodup) : putK (ks.zip vs) k v = (putL ks vs k v).1.zip (putL ks vs k v).2 ∧ (putL ks vs k v).1.length = (putL ks vs k v).2.length ∧ (putL ks vs k v).1.Nodup ∧ ∀ j, j ∈ (putL ks vs k v).1 → j = k ∨ j ∈ ks := by
  induction ks generalizing vs with
  | nil =>
    cases vs with
    | nil => exact ⟨rfl, rfl, by simp [putL], fun j hj => .inl (by simpa [putL] using hj)⟩
    | cons _ _ => simp at l
  | cons j ks ih =>
    cases vs with
    | nil => simp at l
    | cons w vs =>
      obtain ⟨n1, n2⟩ := List.nodup_cons.mp nd
      by_cases hj : j = k
      · subst hj
        have e1 : putL (j :: ks) (w :: vs) j v = (j :: ks, v :: vs) := by simp [putL]
        rw [e1]
        refine ⟨?_, by simpa using l, nd, fun i hi => .inr hi⟩
        unfold putK
        rw [if_pos (by simp)]
        show ((j, w) :: ks.zip vs).map _ = (j, v) :: ks.zip vs
        rw [List.map_cons, if_pos rfl]
        congr 1
        refine (List.map_congr_left fun q hq => ?_).trans (List.map_id _)
        have : q.1 ∈ ks := (List.of_mem_zip (a := q.1) (b := q.2) hq).1
        have hne : ¬ q.1 = j := fun z => n1 (by rw [← z]; exact this)
        rw [if_neg hne]
        rfl
      · have e1 : putL (j :: ks) (w :: vs) k v = (j :: (putL ks vs k v).1, w :: (putL ks vs k v).2) := by simp [putL, hj]
        obtain ⟨i1, i2, i3, i4⟩ := ih (vs := vs) (by simpa using l) n2
        rw [e1]
        refine ⟨?_, by simp [i2], ?_, fun i hi => ?_⟩
        · show putK ((j, w) :: ks.zip vs) k v = (j, w) :: (putL ks vs k v).1.zip (putL ks vs k v).2
          rw [← i1]
          unfold putK
          have ha : (((j, w) :: ks.zip vs).any fun kv => decide (kv.1 = k)) = ((ks.zip vs).any fun kv => decide (kv.1 = k)) := by simp [hj]
          rw [ha]
          split
          · rw [List.map_cons, if_neg hj]
          · rfl
        · refine List.nodup_cons.mpr ⟨fun z => ?_, i3⟩
          rcases i4 _ z with z | z
          · exact hj z
          · exact n1 z
        · rcases List.mem_cons.mp hi with rfl | hi
          · exact .inr (by simp)
          · rcases i4 _ hi with z | z
            · exact .inl z
            · exact .inr (List.mem_cons_of_mem _ z)
/-- the trees go where the values go -/
theorem putL_own {σ : St} {env : En} {G : List VT} {H Hs : Hp} {κ : Type} [DecidableEq κ] {ks : List κ} {vs : List V} {ts : List T} {k : κ} {v : V} {t : T} (l : ks.length = vs.length) (l2 : vs.length = ts.length) (o : OwnS Γ K σ env ((v, t) :: (vs.zip ts ++ G)) H Hs) :
    OwnS Γ K σ env ((putL ks vs k v).2.zip (putL ks ts k t).2 ++ G) H Hs ∧ (putL ks vs k v).2.length = (putL ks ts k t).2.length ∧ (putL ks vs k v).1 = (putL ks ts k t).1 := by
  have key : ∀ (ks : List κ) (vs : List V) (ts : List T), ks.length = vs.length → vs.length = ts.length → (putL ks vs k v).2.length = (putL ks ts k t).2.length ∧ (putL ks vs k v).1 = (putL ks ts k t).1 ∧ ∃ L, ((v, t) :: vs.zip ts).Perm (L ++ (putL ks vs k v).2.zip (putL ks ts k t).2) := by
    intro ks
    induction ks with
    | nil =>
      intro vs ts l l2
      cases vs with
      | nil => cases ts with
        | nil => exact ⟨rfl, rfl, [], .refl _⟩
        | cons _ _ => simp at l2
      | cons _ _ => simp at l
    | cons j ks ih =>
      intro vs ts l l2
      cases vs with
      | nil => simp at l
      | cons w vs =>
        cases ts with
        | nil => simp at l2
        | cons u ts =>
          by_cases hj : j = k
          · subst hj
            have e1 : putL (j :: ks) (w :: vs) j v = (j :: ks, v :: vs) := by simp [putL]
            have e2 : putL (j :: ks) (u :: ts) j t = (j :: ks, t :: ts) := by simp [putL]
            rw [e1, e2]
            exact ⟨by simpa using l2, rfl, [(w, u)], .swap _ _ _⟩
          · have e1 : putL (j :: ks) (w :: vs) k v = (j :: (putL ks vs k v).1, w :: (putL ks vs k v).2) := by simp [putL, hj]
            have e2 : putL (j :: ks) (u :: ts) k t = (j :: (putL ks ts k t).1, u :: (putL ks ts k t).2) := by simp [putL, hj]
            obtain ⟨i1, i2, L, i3⟩ := ih vs ts (by simpa using l) (by simpa using l2)
            rw [e1, e2]
            refine ⟨by simp [i1], by simp [i2], L, ?_⟩
            show ((v, t) :: (w, u) :: vs.zip ts).Perm (L ++ (w, u) :: (putL ks vs k v).2.zip (putL ks ts k t).2)
            exact ((List.Perm.swap _ _ _).trans (i3.cons _)).trans List.perm_middle.symm
  obtain ⟨h1, h2, L, h3⟩ := key ks vs ts l l2
  refine ⟨OwnS.dropR (L := L) (o.perm ?_), h1, h2⟩
  rw [← List.append_assoc]
  exact h3.append_right G
theorem dc_read {b : Bool} {own : List Nat} {g : CG} {it : CI} {t : CTs} {kx c : CE} {σ : St} {H : Hp} {Q : VK} (h : tE Γ K W (evE C (.dc b own g it t kx c)) σ H Q) :
    tDc (iD Γ K W (evI C it)) (gRd Γ K own g) (tT Γ K W0 (evTs C t)) (tE Γ K W0 (evE C kx)) (tE Γ K W0 (evE C c)) own σ H Q := by
  simp only [evE] at h
  obtain ⟨Hs, env, G, r, env', w, e, k⟩ := h
  unfold bd at e
  show iD Γ K W (evI C it) σ H _
  cases q : evI C it env with
  | none => rw [q] at e; cases e
  | some p =>
    obtain ⟨r1, e1⟩ := p
    rw [q] at e
    cases r1 with
    | exc cc ds =>
      cases e
      exact ⟨Hs, env, G, _, _, w, q, fun H1 Hs1 d x => k H1 Hs1 d x⟩
    | ok ds =>
      refine ⟨Hs, env, G, _, e1, w, q, fun H1 Hs1 J L itd w1 D hD => ?_⟩
      have e : (match dcLoop own g (evTs C t) (evE C kx) (evE C c) ds [] [] (BC.wipeE own e1) with
        | some (ks, ts, e') => some (Ex.ok (T.ow (.dk ks) ts), e')
        | none => none) = some (r, env') := e
      cases q2 : dcLoop own g (evTs C t) (evE C kx) (evE C c) ds [] [] (BC.wipeE own e1) with
      | none => rw [q2] at e; cases e
      | some p2 =>
        obtain ⟨ks, ts, e2⟩ := p2
        rw [q2] at e
        cases e
        have w2 : OwnS Γ K σ e1 ((.ref D, .ow (.dk []) []) :: (L ++ G)) (upd H1 D (.dK [])) Hs1 := OwnS.newT (vs := []) (ts := []) hD ⟨rfl, rfl⟩ rfl w1
        refine ⟨fun i m H => ∃ Hs env aks acc, m = ds.length - i ∧ i ≤ ds.length ∧ aks.Nodup ∧ OwnS Γ K (wipe σ own) env ((.ref D, .ow (.dk aks) acc) :: (L ++ G)) H Hs ∧ dcLoop own g (evTs C t) (evE C kx) (evE C c) (ds.drop i) aks acc env = some (ks, ts, env') ∧
          ∀ i ∈ own, i < σ.length → env[i]? = some .un, ⟨ds.length, Hs1, _, [], [], by simp, Nat.zero_le _, List.nodup_nil, w2.wipeIn own, q2, fun i hi hl => wipeE_un hi (by rw [w2.len]; exact hl)⟩, ?_⟩
        rintro i m H ⟨Hs, env, aks, acc, rfl, hi, nd, o, el, un⟩
        have mL : ∀ p ∈ L, p ∈ (V.ref D, T.ow (.dk aks) acc) :: (L ++ G) := fun p hp => List.mem_cons_of_mem _ (List.mem_append_left _ hp)
        by_cases hlt : i < ds.length
        · refine .inr ⟨itd.goes i _ _ _ _ _ hlt o mL, _, fun H' nx => ⟨ds.length - (i + 1), by omega, nx⟩, fun x H' y => ?_⟩
          rw [List.drop_eq_getElem_cons hlt] at el
          obtain ⟨d, Hs2, hd, o2⟩ := itd.yields i x _ _ _ _ _ _ hlt o mL y
          have ed : ds[i] = d := by
            rw [List.getElem?_eq_getElem hlt] at hd
            exact Option.some.inj hd
          rw [ed] at el
          unfold dcLoop at el
          cases q3 : gset g (.sh d) env with
          | none => rw [q3] at el; cases el
          | some e3 =>
            rw [q3] at el
            refine ⟨Hs2, env, _, .sh d, e3, o2, q3, fun σ2 H2 Hs3 kp o3 => ⟨wipe_kp kp, ?_⟩⟩
            dsimp only at el
            cases q4 : evTs C t e3 with
            | none => rw [q4] at el; cases el
            | some p4 =>
              obtain ⟨r4, e4⟩ := p4
              rw [q4] at el
              cases r4 with
              | exc cc ds => cases el
              | ok b =>
                refine ⟨Hs3, e3, _, _, e4, o3, q4, fun H4 Hs4 b' sb o4 => ?_⟩
                have sb : b' = b := sb
                subst sb
                cases b' with
                | false =>
                  dsimp only
                  rw [if_neg Bool.false_ne_true]
                  exact ⟨Hs4, BC.wipeE own e4, aks, acc, rfl, hlt, nd, OwnS.wipeOn o4 (wipe_kp kp), el, fun i hi hl => wipeE_un hi (by rw [o4.len, kp.len, wipe_length]; exact hl)⟩
                | true =>
                  dsimp only
                  rw [if_pos rfl]
                  dsimp only at el
                  cases q5 : evE C kx e4 with
                  | none => rw [q5] at el; cases el
                  | some p5 =>
                    obtain ⟨r5, e5⟩ := p5
                    rw [q5] at el
                    cases r5 with
                    | exc cc ds => cases el
                    | ok kt =>
                      cases kt with
                      | sh kd =>
                        refine ⟨Hs4, e4, _, _, e5, o4, q5, fun H5 Hs5 y _ o5 => ?_⟩
                        dsimp only at el
                        cases q6 : evE C c e5 with
                        | none => rw [q6] at el; cases el
                        | some p6 =>
                          obtain ⟨r6, e6⟩ := p6
                          rw [q6] at el
                          cases r6 with
                          | exc cc ds => cases el
                          | ok xt =>
                            refine ⟨Hs5, e5, _, _, e6, o5, q6, fun H6 Hs6 z _ o6 => ?_⟩
                            dsimp only at el
                            cases hk : kd.key with
                            | none => rw [hk] at el; cases el
                            | some key =>
                              rw [hk] at el
                              dsimp only at el
                              split at el
                              · rename_i hz
                                have o6 : OwnS Γ K σ2 e6 ((z, xt) :: (y, .sh kd) :: (.ref D, .ow (.dk aks) acc) :: (L ++ G)) H6 Hs6 := o6
                                have ry := o6.drop.rep
                                have ey := key_rep ry hk
                                subst ey
                                have o7 := o6.swap.drop
                                obtain ⟨a', vs, ob, ea, hD5, w0, l5, o8⟩ := o7.swap.open_
                                cases ea
                                obtain ⟨l6, w0⟩ := w0
                                subst w0
                                obtain ⟨g1, g2, g3, _⟩ := putK_zip (k := key) (v := z) l6 nd
                                have o9 := o8.write (.dK ((putL aks vs key z).1.zip (putL aks vs key z).2))
                                have o10 : OwnS Γ K σ2 e6 ((z, xt) :: (vs.zip acc ++ ((.ref D, .ce (.dK ((putL aks vs key z).1.zip (putL aks vs key z).2))) :: (L ++ G)))) (upd H6 D (.dK ((putL aks vs key z).1.zip (putL aks vs key z).2))) Hs6 := by
                                  refine o9.perm ?_
                                  have p1 : (vs.zip acc ++ (z, xt) :: (L ++ G)).Perm ((z, xt) :: (vs.zip acc ++ (L ++ G))) := List.perm_middle
                                  refine (p1.cons _).trans ((List.Perm.swap _ _ _).trans ?_)
                                  exact (List.perm_middle (l₁ := vs.zip acc)).symm.cons _
                                obtain ⟨o11, l11, e11⟩ := putL_own (k := key) l6 l5 o10
                                have o12 : OwnS Γ K σ2 e6 ((.ref D, .ce (.dK ((putL aks vs key z).1.zip (putL aks vs key z).2))) :: ((putL aks vs key z).2.zip (putL aks acc key xt).2 ++ (L ++ G))) (upd H6 D (.dK ((putL aks vs key z).1.zip (putL aks vs key z).2))) Hs6 := o11.unmid
                                refine ⟨aks.zip vs, key, rfl, hD5, by rw [List.length_zip]; omega, Hs6, BC.wipeE own e6, (putL aks acc key xt).1, (putL aks acc key xt).2, rfl, hlt, by rw [← e11]; exact g3, ?_, el, fun i hi hl => wipeE_un hi (by rw [o6.len, kp.len, wipe_length]; exact hl)⟩
                                rw [g1]
                                exact OwnS.wipeOn (o12.close (k := .dk (putL aks acc key xt).1) ⟨by rw [← e11]; exact g2, by rw [← e11]⟩ l11) (wipe_kp kp)
                              · cases el
                      | _ => cases el
        · have ei : i = ds.length := by omega
          subst ei
          refine .inl ⟨itd.stops _ _ _ _ _ o mL, ?_⟩
          rw [List.drop_length] at el
          simp only [dcLoop] at el
          cases el
          exact k H Hs _ trivial (OwnS.dropR (L := L) (OwnS.perm (G' := L ++ ((V.ref D, T.ow (.dk ks) ts) :: G)) (o.wipeOut un) (List.perm_middle.symm)))
end
end BC
set_option Elab.async false
set_option linter.all false
set_option maxRecDepth 100000
set_option maxHeartbeats 4000000
/-! Core: own operators, classmethods, classes as values. -/
namespace BC
open PySem PySem.Spec PyProof.Rows L2
section
variable {X : Cx} {Γ : Gm} {A : AgC} {C : Ctx} {W : WX} {CXt : CXT}
variable {x y z e : Expr} {es : List Expr} {pos p ap : Pos} {a b c : CO} {cs : COs}
theorem noExc_of {K : PySem.W.Frag} {σ : St} {H : Hp} {Q : VK} {m : M T} {env env' : En} {G L : List VT} {Hs : Hp} {r : Ex T} (w : OwnS Γ K σ env (L ++ G) H Hs) (e : noExc m env = some (r, env')) (k : End Γ K W entT noSide σ env' G Q r) : rdt Γ K W0 entT noSide L m σ H Q := by
  unfold noExc at e
  split at e
  · rename_i t e' q
    cases e
    exact ⟨Hs, env, G, .ok t, env', w, q, k⟩
  · cases e
theorem ins_flds {K : PySem.W.Frag} {σ : St} {env : En} {L : List VT} {H Hs : Hp} {v : V} {o : OV} (w : OwnS Γ K σ env L H Hs) (s : sideO σ v o) (m : ∀ p ∈ entO v o, p ∈ L) (e : isIns o env = true) :
    ∃ c b dy fs, v = .ref b ∧ H b = some (.ins (Γ.cad c) dy fs) ∧ Γ.fl c ≠ [] := by
  unfold isIns at e
  split at e
  · rename_i c d ds q
    obtain ⟨env', M, w'⟩ := w.opd s m q
    have rr := w'.rep
    cases rr with
    | nd h1 h2 =>
      obtain ⟨l, dx, h1⟩ := h1.le w'.le
      refine ⟨c, _, dx, _, rfl, h1, fun z => ?_⟩
      rw [z, h2.length] at l
      simp at l
  · rename_i c t ts q
    obtain ⟨env', M, w'⟩ := w.opd s m q
    obtain ⟨b, vs, ob, rfl, ha, w0, l2, _⟩ := w'.open_
    obtain ⟨l, dx, rfl⟩ := w0
    refine ⟨c, b, dx, _, rfl, ha, fun z => ?_⟩
    rw [z, l2] at l
    simp at l
  · cases e
theorem pick_fl {K : PySem.W.Frag} {σ : St} {env : En} {L : List VT} {H Hs : Hp} {v : V} {o : OV} (w : OwnS Γ K σ env L H Hs) (s : sideO σ v o) (m : ∀ p ∈ entO v o, p ∈ L) {cj : List (Nat × Nat)} {j : Nat} (e : pick cj o env = some j) :
    ∃ c q dx vs, cj.lookup c = some j ∧ clsO o env = some c ∧ v = .ref q ∧ vs.length ≤ (Γ.fl c).length ∧ H q = some (.ins (Γ.cad c) dx ((Γ.fl c).zip vs)) := by
  unfold pick at e
  unfold clsO
  cases q : o.get env with
  | none => rw [q] at e; cases e
  | some t =>
    rw [q] at e
    obtain ⟨env', M, w'⟩ := w.opd s m q
    have e : (match clsOf t with
      | some c => cj.lookup c
      | none => none) = some j := e
    show ∃ c q dx vs, cj.lookup c = some j ∧ clsOf t = some c ∧ _
    cases hc : clsOf t with
    | none => rw [hc] at e; cases e
    | some c =>
      rw [hc] at e
      unfold clsOf at hc
      split at hc
      · cases hc
        have rr := w'.rep
        cases rr with
        | nd h1 h2 =>
          obtain ⟨l, dx, h1⟩ := h1.le w'.le
          exact ⟨_, _, dx, _, e, rfl, rfl, l, h1⟩
      · cases hc
        obtain ⟨a, vs, ob, rfl, ha, w0, _, _⟩ := w'.open_
        obtain ⟨l, dx, rfl⟩ := w0
        exact ⟨_, a, dx, vs, e, rfl, rfl, l, ha⟩
      · cases hc
theorem ins_at {pins : List (Addr × Obj)} {σ : St} {H : Hp} {s : Shared} {q D dx : Addr} {fs : List (Str × V)} (I : Inv X pins σ H s) (e : H q = some (.ins D dx fs)) : ∃ od, PySem.W.InstAt s.heap q (PySem.W.instObj D dx) D (some od) := by
  obtain ⟨mA, O, _⟩ := ins_get I.hok e
  obtain ⟨od, J, _⟩ := O.look
  exact ⟨od, J⟩
/-- x == y by the class's __eq__ -/
theorem x_ocmp (S : SX X Γ A C W CXt) {cj : List (Nat × Nat)} (hcj : ∀ q ∈ cj, A.cn[q.2]? = some (.op q.1 "__eq__")) (ha : PE X x (tO Γ X.K W (evO C a))) (hb : PE X y (tO Γ X.K W (evO C b))) : PE X (.Compare x [.Eq] [y] pos) (tE Γ X.K W (evE C (.ocmp cj a b))) := by
  have op : OpR X (compareOp .Eq) fun u v H Q => ∃ f n c c' q q' g fd ps k dx dx' fs fs', u = .ref q ∧ v = .ref q' ∧ H q = some (.ins (Γ.cad c) dx fs) ∧ H q' = some (.ins (Γ.cad c') dx' fs') ∧ PySem.W.notFirst X.K (Γ.cad c) (.ref (Γ.cad c')) = true ∧
      FnOk X.prog X.w X.K X.mg X.base CXt k g fd ps (spD Γ X.K n f) ∧ n = ps.length ∧ Room (k + 1) X.A ∧ PySem.W.findIn X.K (.ref (Γ.cad c)) "__eq__" = some (some (.ref g)) ∧ PySem.W.isFn X.K (.ref g) = true ∧ Binds X.K fd ps [] ∧ spD Γ X.K n f [u, v] H Q (fun _ _ _ => False) := by
    intro pins s σ H u v v1 u1 Q I rx ry h
    obtain ⟨f, n, c, c', q, q', g, fd, ps, k, dx, dx', fs, fs', rfl, rfl, h1, h2, h3, F, hn, R, hs, hf, B, sp⟩ := h
    cases (show v1 = Value.ref q from rx)
    cases (show u1 = Value.ref q' from ry)
    obtain ⟨od, J⟩ := ins_at I h1
    obtain ⟨od', J'⟩ := ins_at I h2
    obtain ⟨m, hF⟩ := I.fr
    show wpAny (model X.prog X.w) X.A (richCompare .Eq (.ref q) (.ref q')) (EP X pins σ Q) X.xe s
    refine PySem.W.cmp_K (op := .Eq) (tb := .ref (Γ.cad c')) R.units0 hF I.ok.mod.kin J J'.type h3 hs hf ?_
    have FR : FnR X.prog X.w X.K X.mg X.base CXt (k + 1) g (fun vs H Q E => spD Γ X.K n f (vs ++ []) H Q E) := (F.raw B .nil).mono (Nat.le_succ k)
    refine wpAny_mono (wpAny_call (run_fnR (us := [.ref q, .ref q']) (vs := [.ref q, .ref q']) (E := fun _ _ _ => False) FR R (fun _ _ _ _ _ _ _ c => (S.nx _ _ _ _ _ c).elim) I (.cons rfl (.cons rfl .nil)) sp)) (fun w s' z => ?_) fun _ _ x => x
    obtain ⟨z', H', I', rz, qz⟩ := z
    exact SlX.cmpback rz ⟨z', H', I', rz, qz⟩
  refine pe_mono (pe_cmpR op ha hb (nobehind _ (by decide) (by decide))) fun σ H Q h => ?_
  simp only [evE] at h
  refine rdt.two h fun v w H2 o1 o2 s1 s2 q => ?_
  obtain ⟨Hs, env, G, r, env', w0, e, k⟩ := q
  dsimp only at e
  split at e
  · rename_i j hp hi
    obtain ⟨c, q, dx, vs0, hlk, rfl, hlen, hH⟩ := pick_ins w0 s1 (fun p hp => by simp [hp]) hp
    obtain ⟨hi1, hi2⟩ := an hi
    obtain ⟨c', q', dy, fs', rfl, hH', hfl⟩ := ins_flds w0 s2 (fun p hp => by simp [hp]) hi2
    obtain ⟨c0, q0, dz, fs0, e0, hH0, hfl0⟩ := ins_flds w0 s1 (fun p hp => by simp [hp]) hi1
    cases e0
    have ec : Γ.cad c0 = Γ.cad c := by rw [hH] at hH0; exact (HO.ins.inj (Option.some.inj hH0)).1.symm
    have hA := hcj _ (mem_of_look hlk)
    obtain ⟨f, hf⟩ := S.fnl j _ hA
    obtain ⟨g, fd, ps, kk, F, R, hs, hfn, hfi, B, L⟩ := S.fn j _ f hA hf
    rw [hf] at e
    refine ⟨f, _, c, c', q, q', g, fd, ps, kk, dx, dy, _, fs', rfl, rfl, hH, hH', (by rw [← ec]; exact S.nf c0 c' hfl0 hfl), F, rfl, R, hs, hfn, B, ?_⟩
    refine s_call (os := [o1, o2]) (W := W0) (tmp := entOs [V.ref q, V.ref q'] [o1, o2]) L ⟨s1, s2, trivial⟩ rfl ?_
    have w1 : OwnS Γ X.K σ env (entOs [V.ref q, V.ref q'] [o1, o2] ++ G) H2 Hs := by
      refine w0.perm ?_
      show ((entO (V.ref q') o2 ++ (entO (V.ref q) o1 ++ [])) ++ G).Perm ((entO (V.ref q) o1 ++ (entO (V.ref q') o2 ++ [])) ++ G)
      rw [List.append_nil, List.append_nil]
      exact List.perm_append_comm.append_right _
    exact noExc_of w1 e k
  · cases e
/-- x[y] by the class's __getitem__ -/
theorem sli_true {y : Expr} {o i : Value} (h : noSli y = true) : subscripted y true o i = runValue (.builtin "lifetime.subscript" ⟨[o, i], []⟩) := by
  cases y <;> first | rfl | cases h
theorem x_ogi (S : SX X Γ A C W CXt) {cj : List (Nat × Nat)} (hcj : ∀ q ∈ cj, A.cn[q.2]? = some (.op q.1 "__getitem__")) (hy : noSli y = true) (ha : PE X x (tO Γ X.K W (evO C a))) (hb : PE X y (tO Γ X.K W (evO C b))) : PE X (.Subscript x y pos) (tE Γ X.K W (evE C (.ogi cj a b))) := by
  refine ⟨fun pins s σ H Q I h => ?_⟩
  simp only [evE] at h
  have h2 := rdt.two (R := fun u v H2 => ∃ f n c q g fd ps k dx fs, u = .ref q ∧ H2 q = some (.ins (Γ.cad c) dx fs) ∧ FnOk X.prog X.w X.K X.mg X.base CXt k g fd ps (spD Γ X.K n f) ∧ Room (k + 1) X.A ∧
      PySem.W.findIn X.K (.ref (Γ.cad c)) "__getitem__" = some (some (.ref g)) ∧ PySem.W.isFn X.K (.ref g) = true ∧ PySem.W.fnIn X.K g = true ∧ Binds X.K fd ps [] ∧ spD Γ X.K n f [u, v] H2 Q (fun _ _ _ => False)) h fun v w H2 o1 o2 s1 s2 q => by
    obtain ⟨Hs, env, G, r, env', w0, e, k⟩ := q
    dsimp only at e
    split at e
    · rename_i j hp
      obtain ⟨c, q, dx, vs0, hlk, rfl, hlen, hH⟩ := pick_ins w0 s1 (fun p hp => by simp [hp]) hp
      have hA := hcj _ (mem_of_look hlk)
      obtain ⟨f, hf⟩ := S.fnl j _ hA
      obtain ⟨g, fd, ps, kk, F, R, hs, hfn, hfi, B, L⟩ := S.fn j _ f hA hf
      rw [hf] at e
      refine ⟨f, _, c, q, g, fd, ps, kk, dx, _, rfl, hH, F, R, hs, hfn, hfi, B, ?_⟩
      refine s_call (os := [o1, o2]) (W := W0) (tmp := entOs [V.ref q, w] [o1, o2]) L ⟨s1, s2, trivial⟩ rfl ?_
      have w1 : OwnS Γ X.K σ env (entOs [V.ref q, w] [o1, o2] ++ G) H2 Hs := by
        refine w0.perm ?_
        show ((entO w o2 ++ (entO (V.ref q) o1 ++ [])) ++ G).Perm ((entO (V.ref q) o1 ++ (entO w o2 ++ [])) ++ G)
        rw [List.append_nil, List.append_nil]
        exact List.perm_append_comm.append_right _
      exact noExc_of w1 e k
    · cases e
  refine Subscript_ (binT ha hb I h2 fun u1 u2 s2 v w H2 I2 rx ry q => ?_)
  obtain ⟨f, n, c, q, g, fd, ps, k, dx, fs, rfl, hH, F, R, hs, hfn, hfi, B, sp⟩ := q
  cases (show u1 = Value.ref q from rx)
  obtain ⟨od, J⟩ := ins_at I2 hH
  obtain ⟨m, hF⟩ := I2.fr
  refine PySem.W.sub_K hF I2.ok.mod.kin J hs hfi hfn ?_ (sli_true hy)
  have FR : FnR X.prog X.w X.K X.mg X.base CXt k g (fun vs H Q E => spD Γ X.K n f (vs ++ []) H Q E) := F.raw B .nil
  exact wpAny_call (SlX.run_at (us := [.ref q, u2]) (ws := [.ref q, w]) (E := fun _ _ _ => False) FR R.in1 I2.env0.in1 (fun _ _ _ _ _ _ _ c => (S.nx _ _ _ _ _ c).elim) I2 (.cons rfl (.cons ry .nil)) sp)
/-- the call of a bound classmethod -/
theorem run_bm {k : Nat} {q g : Addr} {fd : FuncData} {ps : List Str} {f : FnS} {c : Nat} {Q : VK} {us : List Value} {vs : List V} {pins : List (Addr × Obj)} {σ : St} {H : Hp} {s : Shared} (F : FnOk X.prog X.w X.K X.mg X.base CXt k g fd ps (spD Γ X.K ps.length f)) (hr : Room k X.A) (B : Binds X.K fd ps [])
    (hx : PassesAt CXt X σ (WE W σ)) (I : Inv X ((q, PySem.W.methodObj (.ref g) (.ref (Γ.cad c))) :: pins) σ H s) (r : Vals vs us) (h : spD Γ X.K ps.length f (.ref (Γ.cad c) :: vs) H Q (WE W σ)) : wpAny (model X.prog X.w) X.A (call (.ref q) us) (EP X pins σ Q) X.xe s := by
  have r2 : Vals (V.ref (Γ.cad c) :: vs) (Value.ref (Γ.cad c) :: us) := .cons (show L2.RelV (V.ref (Γ.cad c)) (Value.ref (Γ.cad c)) from rfl) r
  have hl : (Value.ref (Γ.cad c) :: us).length = ps.length := by rw [← r2.length]; exact F.len _ _ _ _ h
  have b := B s (Value.ref (Γ.cad c) :: us) I.kIn (by rw [List.append_nil]; exact hl)
  rw [List.append_nil] at b
  have z : wpAny (model X.prog X.w) X.A (call (.ref q) us) (EP X ((q, PySem.W.methodObj (.ref g) (.ref (Γ.cad c))) :: pins) σ Q) X.xe s := by
    refine wpAny_call (PySem.W.method_call (ClX.pin_at I) (codeAny_mono (F.run X.A X.stack s H ⟨Value.ref (Γ.cad c) :: us, []⟩ _ _ Q (WE W σ) hr I.env0 b r2 h) fun r s' hq => ?_))
    cases r with
    | error e => exact hx _ H s e s' I hq
    | ok fl =>
      cases fl with
      | ret u => exact I.after hq
      | next => exact False.elim hq
      | brk => exact False.elim hq
      | cont => exact False.elim hq
  exact thn z fun _ _ y => ClX.unpinE y
theorem run_cmargs {k : Nat} {q g : Addr} {fd : FuncData} {ps : List Str} {f : FnS} {c : Nat} {Q : VK} {pins : List (Addr × Obj)} {σ : St} {H : Hp} {s : Shared} {F' : List V → Hp → Prop} (F : FnOk X.prog X.w X.K X.mg X.base CXt k g fd ps (spD Γ X.K ps.length f)) (hr : Room k X.A) (B : Binds X.K fd ps [])
    (hx : PassesAt CXt X σ (WE W σ)) (I : Inv X ((q, PySem.W.methodObj (.ref g) (.ref (Γ.cad c))) :: pins) σ H s) (hb : X.base.get? q = none) (hf : PySem.W.fnIn X.K g = true) (hes : plains es = true) (h0 : es = [] → cs = .nil) (ha : PA X es (tOs Γ X.K W (evOs C cs)))
    (h : tOs Γ X.K W (evOs C cs) σ H F') (fin : ∀ vs H2, F' vs H2 → spD Γ X.K ps.length f (.ref (Γ.cad c) :: vs) H2 Q (WE W σ)) :
    wpAny (model X.prog X.w) X.A (callWith pos (.ref q) [] (backTo pos (starEach es X.env)) []) (EP X pins σ Q) X.xe s := by
  cases es with
  | nil =>
    cases h0 rfl
    simp only [evOs] at h
    obtain ⟨Hs', env', G', w', k'⟩ := rdt.ret_ h
    have hq := k' H Hs' [] trivial w'
    exact PySem.W.callWith_M0 (K := X.K) (first := []) ⟨ClX.pin_at I, I.kIn⟩ hf (run_bm (us := []) (vs := []) F hr B hx I .nil (fin _ _ hq))
  | cons e0 es0 =>
    have hes' : (noStar e0 && plains es0) = true := hes
    obtain ⟨g1, g2⟩ := an hes'
    exact ClX.callwith_cm I hb hf (thn (ha.run pos _ s σ H _ I h) fun us s3 ⟨vs, H2, I3, rv, q2⟩ => ⟨⟨ClX.pin_at I3, I3.kIn⟩, run_bm F hr B hx I3 rv (fin _ _ q2)⟩) (star_of g1) (plains_any g2)
/-- C.m(..), m a classmethod -/
theorem x_clsm (S : SX X Γ A C W CXt) {c j : Nat} {n m : Str} {np : Pos} (hc : A.isc.contains c = true) (hn : n = A.cln c) (hg : glB X.env.scope n = true) (hp : plainN n = true) (hj : A.cn[j]? = some (.cm c m)) (hes : plains es = true) (hl : lineOk ap pos = true) (h30 : es.length < 30) (h0 : es = [] → cs = .nil)
    (ha : PA X es (tOs Γ X.K W (evOs C cs))) : PE X (.Call (.Attribute (.Name n np) m ap) es [] pos) (tE Γ X.K W (evE C (.clsm c j cs))) := by
  subst hn
  obtain ⟨f, hf⟩ := S.fnl j _ hj
  obtain ⟨mc, p, g, fd, ps, k, F, R, rd, cm, ci, B, L, hm⟩ := S.fn j _ f hj hf
  have he : PE X (.Name (A.cln c) np) (tC (.ref (Γ.cad c))) := pe_glob (gl_of hg) (S.clm c (List.contains_iff_mem.mp hc)) rfl (plain_of hp).1
  refine ⟨fun pins s σ H Q I h => ?_⟩
  simp only [evE] at h
  have h2 := rdt.bind (ent := entOs) (side := sideOs) h
  refine PySem.W.methodCall_KW (thn (he.run pins s σ H (fun v H1 => v = .ref (Γ.cad c) ∧ H1 = H) I ⟨rfl, rfl⟩) fun u s1 ⟨v, H1, I1, rv, ev, eH⟩ => ?_) (eval_meth rfl hes hl h30)
  subst ev eH
  obtain rfl : u = Value.ref (Γ.cad c) := rv
  refine ClX.getmethcm_ok I1 rd cm fun s2 I2 => ?_
  refine run_cmargs F R B (S.tk σ) I2 (ClX.base_none I1 (Nat.le_refl _)) cm.fi hes h0 ha h2 fun vs H2 ⟨os, so, q⟩ => ?_
  rw [hf] at q
  refine s_call (os := .t (.sh (.cl c)) :: os) (tmp := entOs (V.ref (Γ.cad c) :: vs) (.t (.sh (.cl c)) :: os)) L ⟨trivial, so⟩ rfl ?_
  obtain ⟨Hs, env, G, r, env', w, e, k⟩ := q
  rw [List.append_nil] at w
  exact ⟨Hs, env, G, r, env', OwnS.addSh (.cl c) w, e, k⟩
/-- o.m(..), m a classmethod of o's class -/
theorem x_insm (S : SX X Γ A C W CXt) {cj : List (Nat × Nat)} {m : Str} (hcj : ∀ q ∈ cj, A.cn[q.2]? = some (.cm q.1 m)) (hs : noSup x = true) (hes : plains es = true) (hl : lineOk ap pos = true) (h30 : es.length < 30) (h0 : es = [] → cs = .nil)
    (he : PE X x (tO Γ X.K W (evO C a))) (ha : PA X es (tOs Γ X.K W (evOs C cs))) : PE X (.Call (.Attribute x m ap) es [] pos) (tE Γ X.K W (evE C (.insm cj a cs))) := by
  refine ⟨fun pins s σ H Q I h => ?_⟩
  simp only [evE] at h
  refine PySem.W.methodCall_KW (thn (he.run pins s σ H _ I (rdt.bind (ent := entO) (side := sideO) h)) fun u s1 ⟨v, H1, I1, rv, o, so, q⟩ => ?_) (eval_meth hs hes hl h30)
  obtain ⟨Hs, env, G, r, env', w, e, k⟩ := q
  dsimp only at e
  cases hpk : pick cj o env with
  | none => rw [hpk] at e; cases e
  | some j =>
    rw [hpk] at e
    obtain ⟨c, q, dx, vs0, hlk, hcl, rfl, hlen, hH⟩ := pick_fl w so (fun p hp => by simp [hp]) hpk
    have hA := hcj _ (mem_of_look hlk)
    obtain ⟨f, hf⟩ := S.fnl j _ hA
    obtain ⟨mc, p, g, fd, ps, kk, F, R, rd, cm, ci, B, L, hm⟩ := S.fn j _ f hA hf
    obtain rfl : u = Value.ref q := rv
    obtain ⟨mA, O, rr, _, _, _⟩ := ins_get I1.hok hH
    obtain ⟨od, J, hlook⟩ := O.look
    have hl0 : PySem.W.lookIn m od = some none := by
      rw [hlook m]
      exact congrArg some (RelO.none_of (by rw [← look_none hm]; exact rr m))
    refine ClX.getmethim_ok I1 J hl0 ci fun s2 I2 => ?_
    have h2 := rdt.bind (ent := entOs) (side := sideOs) (⟨Hs, env, G, r, env', w, e, k⟩ : rdt Γ X.K W entT noSide (entO (.ref q) o ++ []) (bd (evOs C cs) _) σ H1 Q)
    refine run_cmargs F R B (S.tk σ) I2 (ClX.base_none I1 (Nat.le_refl _)) ci.fi hes h0 ha h2 fun vs H2 ⟨os, sos, q2⟩ => ?_
    obtain ⟨Hs2, env2, G2, r2, env2', w2, e2, k2⟩ := q2
    dsimp only at e2
    split at e2
    · rename_i hpk2
      obtain ⟨c2, q2, dx2, vs2, hlk2, hcl2, eq2, hlen2, hH2⟩ := pick_fl w2 so (fun p hp => by simp [hp]) hpk2
      have hA2 := hcj _ (mem_of_look hlk2)
      have ecc : c2 = c := by
        have hA : A.cn[j]? = some (.cm c m) := hA
        have hA2 : A.cn[j]? = some (.cm c2 m) := hA2
        rw [hA] at hA2
        cases hA2
        rfl
      subst ecc
      rw [hf, hcl2] at e2
      refine s_call (os := .t (.sh (.cl c2)) :: os) (tmp := entOs (V.ref (Γ.cad c2) :: vs) (.t (.sh (.cl c2)) :: os)) L ⟨trivial, sos⟩ rfl ?_
      have w3 : OwnS Γ X.K σ env2 (entOs vs os ++ G2) H2 Hs2 := by
        refine OwnS.dropR (L := entO (V.ref q) o) (w2.perm ?_)
        show ((entOs vs os ++ (entO (V.ref q) o ++ [])) ++ G2).Perm (entO (V.ref q) o ++ (entOs vs os ++ G2))
        rw [List.append_nil, ← List.append_assoc]
        exact List.perm_append_comm.append_right _
      exact ⟨Hs2, env2, G2, r2, env2', OwnS.addSh (.cl c2) w3, e2, k2⟩
    · cases e2
/-- a slot that holds a class, called -/
theorem x_mkv (S : SX X Γ A C W CXt) {i c j : Nat} {n : Str} {np : Pos} (hv : varB A X.env.scope i (.Name n np) = true) (hj : A.cn[j]? = some (.mv c)) (hes : plains es = true) (h0 : es = [] → cs = .nil) (ha : PA X es (tOs Γ X.K W (evOs C cs))) :
    PE X (.Call (.Name n np) es [] pos) (tE Γ X.K W (evE C (.mkv i c j cs))) := by
  obtain ⟨f, hf⟩ := S.fnl j _ hj
  obtain ⟨fa, fd, ps, k, F, R, Mt, B, L⟩ := S.fn j _ f hj hf
  refine ⟨fun pins s σ H Q I h => ?_⟩
  simp only [evE] at h
  obtain ⟨Hs, env, G, r, env', w, e, kq⟩ := h
  dsimp only at e
  split at e
  · rename_i c' q1
    split at e
    · rename_i ec
      subst ec
      rcases w.asg i _ q1 with z | ⟨v, sv⟩
      · cases z
      · have o2 := (w.take q1 sv).rep
        cases o2
        refine wpAny_Call_Name_kw (thn ((pe_slot S hv).run pins s σ H (fun v H1 => v = .ref (Γ.cad c') ∧ H1 = H) I ⟨_, sv, rfl, rfl⟩) fun u s1 ⟨v, H1, I1, rv, ev, eH⟩ => ?_)
        subst ev eH
        obtain rfl : u = Value.ref (Γ.cad c') := rv
        have h2 := rdt.bind (ent := entOs) (side := sideOs) (⟨Hs, env, G, r, env', w, e, kq⟩ : rdt Γ X.K W entT noSide [] (bd (evOs C cs) _) σ H1 Q)
        have fin : ∀ (us : List Value) (s2 : Shared), AP X pins σ (fun vs H2 => ∃ os, sideOs σ vs os ∧ rdt Γ X.K W entT noSide (entOs vs os ++ [])
            ((fun (os : List OV) => (match C.fs[j]? with
            | some f => makeF c' f os
            | none => fun _ => none : M T)) os) σ H2 Q) us s2 → X.K.In s2.heap ∧ wpAny (model X.prog X.w) X.A (call (.ref (Γ.cad c')) us) (EP X pins σ Q) X.xe s2 := by
          intro us s2 ⟨vs, H2, I2, rr, os, sos, q2⟩
          dsimp only at q2
          rw [hf, List.append_nil] at q2
          exact ⟨I2.kIn, run_mk (n := n) (j := j) Mt F R B L (S.tk σ) I2 rr sos q2⟩
        cases es with
        | nil =>
          cases h0 rfl
          simp only [evOs] at h2
          obtain ⟨Hs', env', G', w', k'⟩ := rdt.ret_ h2
          exact PySem.W.callWith_K0 I1.kIn Mt.kp (fin [] s1 ⟨[], H1, I1, .nil, k' H1 Hs' [] trivial w'⟩).2
        | cons e0 es0 =>
          have hes' : (noStar e0 && plains es0) = true := hes
          obtain ⟨g1, g2⟩ := an hes'
          exact PySem.W.callWith_K (h₀ := X.base) I1.ok.mod.kin Mt.kp (thn (ha.run pos pins s1 σ H1 _ I1 h2) fin) (star_of g1) (plains_any g2)
    · cases e
  · cases e
end
end BC
set_option Elab.async false
set_option linter.all false
set_option maxRecDepth 100000
set_option maxHeartbeats 8000000
/-! Core: paths into what a slot owns. -/
namespace BC
open PySem PySem.Spec PyProof.Rows L2
section
variable {Γ : Gm} {K : PySem.W.Frag} {σ : St} {env : En} {G : List VT} {H Hs : Hp}
def StepV (Γ : Gm) (H : Hp) (u : V) : PSt → V → Prop
  | .ix n, w => ∃ a vs, u = .ref a ∧ H a = some (.lst vs) ∧ vs[n]? = some w
  | .last, w => ∃ a vs, u = .ref a ∧ H a = some (.lst vs) ∧ vs[vs.length - 1]? = some w
  | .fd c j, w => ∃ a dx vs, u = .ref a ∧ H a = some (.ins (Γ.cad c) dx ((Γ.fl c).zip vs)) ∧ vs.length ≤ (Γ.fl c).length ∧ vs[j]? = some w
def PathV (Γ : Gm) (H : Hp) : V → List PSt → V → Prop
  | v, [], w => w = v
  | v, s :: p, w => ∃ u, StepV Γ H v s u ∧ PathV Γ H u p w
theorem PathV.snoc {v w : V} {p : List PSt} {s : PSt} : PathV Γ H v (p ++ [s]) w ↔ ∃ u, PathV Γ H v p u ∧ StepV Γ H u s w := by
  induction p generalizing v with
  | nil =>
    constructor
    · rintro ⟨u, h, e⟩
      have e : w = u := e
      subst e
      exact ⟨v, rfl, h⟩
    · rintro ⟨u, e, h⟩
      have e : u = v := e
      subst e
      exact ⟨w, h, rfl⟩
  | cons t p ih =>
    constructor
    · rintro ⟨u, h, h2⟩
      obtain ⟨x, g1, g2⟩ := ih.mp h2
      exact ⟨x, ⟨u, h, g1⟩, g2⟩
    · rintro ⟨x, ⟨u, h, g1⟩, g2⟩
      exact ⟨u, h, ih.mpr ⟨x, g1, g2⟩⟩
/-- one step into an owned tree -/
theorem OwnS.step {v : V} {kd : Kd} {tt : List T} {n : Nat} {tn : T} (o : OwnS Γ K σ env ((v, .ow kd tt) :: G) H Hs) (e : tt[n]? = some tn) :
    ∃ a ob vs w L, v = .ref a ∧ H a = some ob ∧ OwO Γ ob kd vs ∧ vs.length = tt.length ∧ vs[n]? = some w ∧ OwnS Γ K σ env ((w, tn) :: (L ++ G)) H Hs ∧
      ∀ {σ' : St} {env' : En} {H' Hs' : Hp} {u : T} {G' : List VT}, OwnS Γ K σ' env' ((w, u) :: (L ++ G')) H' Hs' → OwnS Γ K σ' env' ((v, .ow kd (tt.set n u)) :: G') H' Hs' := by
  obtain ⟨a, vs, ob, rfl, ha, w0, l, o1⟩ := o.open_
  obtain ⟨w, L, M, h1, h2, h3⟩ := zip_split l e
  have p1 : ∀ (u : T) (G' : List VT), ((V.ref a, T.ce ob) :: (L ++ (w, u) :: M ++ G')).Perm ((w, u) :: (((V.ref a, T.ce ob) :: (L ++ M)) ++ G')) := fun u G' => by
    rw [List.append_assoc]
    refine ((List.perm_middle.cons _).trans (.swap _ _ _)).trans ?_
    simp
  refine ⟨a, ob, vs, w, (.ref a, .ce ob) :: (L ++ M), rfl, ha, w0, l, h1, ?_, fun {σ' env' H' Hs' u G'} o2 => ?_⟩
  · rw [h2] at o1
    exact o1.perm (p1 _ _)
  · refine OwnS.close (vs := vs) w0 (by rw [List.length_set]; exact l) ?_
    rw [h3]
    exact o2.perm (p1 _ _).symm
/-- a path into an owned tree: what stands there is taken out, and comes back -/
theorem OwnS.path {k : Kd} {ts : List T} : ∀ (p : List PSt) (t : T) {v : V} {G : List VT}, OwnS Γ K σ env ((v, t) :: G) H Hs → t.at_ p = some (.ow k ts) →
    ∃ a R, PathV Γ H v p (.ref a) ∧ OwnS Γ K σ env ((.ref a, .ow k ts) :: (R ++ G)) H Hs ∧
      ∀ {σ' : St} {env' : En} {H' Hs' : Hp} {u : T} {G' : List VT}, OwnS Γ K σ' env' ((.ref a, u) :: (R ++ G')) H' Hs' → OwnS Γ K σ' env' ((v, t.set_ p u) :: G') H' Hs' := by
  intro p
  induction p with
  | nil =>
    intro t v G o e
    have e : t = .ow k ts := by
      cases t <;> simp only [T.at_] at e <;> exact Option.some.inj e
    subst e
    obtain ⟨a, vs, ob, rfl, ha, w0, l, o1⟩ := o.open_
    refine ⟨a, [], rfl, o, fun {σ' env' H' Hs' u G'} o2 => ?_⟩
    simp only [T.set_]
    exact o2
  | cons s p ih =>
    intro t v G o e
    cases t with
    | ow kd tt =>
      have main : ∀ (n : Nat) (tn : T), tt[n]? = some tn → tn.at_ p = some (.ow k ts) → (∀ u, (T.ow kd tt).set_ (s :: p) u = .ow kd (tt.set n (tn.set_ p u))) →
          (∀ a ob vs w, H a = some ob → OwO Γ ob kd vs → vs.length = tt.length → vs[n]? = some w → StepV Γ H (.ref a) s w) →
          ∃ a R, PathV Γ H v (s :: p) (.ref a) ∧ OwnS Γ K σ env ((.ref a, .ow k ts) :: (R ++ G)) H Hs ∧
            ∀ {σ' : St} {env' : En} {H' Hs' : Hp} {u : T} {G' : List VT}, OwnS Γ K σ' env' ((.ref a, u) :: (R ++ G')) H' Hs' → OwnS Γ K σ' env' ((v, (T.ow kd tt).set_ (s :: p) u) :: G') H' Hs' := by
        intro n tn en ea es st
        obtain ⟨a, ob, vs, w, L, rfl, ha, w0, l, h1, o1, cl⟩ := o.step en
        obtain ⟨b, R, pv, o2, cl2⟩ := ih tn o1 ea
        refine ⟨b, R ++ L, ⟨w, st a ob vs w ha w0 l h1, pv⟩, by rw [List.append_assoc]; exact o2, fun {σ' env' H' Hs' u G'} o3 => ?_⟩
        rw [es]
        refine cl (cl2 ?_)
        rw [List.append_assoc] at o3
        exact o3
      cases s with
      | ix n =>
        cases kd with
        | lst =>
          simp only [T.at_] at e
          split at e
          · rename_i tn en
            refine main n tn en e (fun u => by simp only [T.set_, en]) fun a ob vs w ha w0 l h1 => ?_
            have w0 : ob = .lst vs := w0
            subst w0
            exact ⟨a, vs, rfl, ha, h1⟩
          · cases e
        | _ => simp [T.at_] at e
      | last =>
        cases kd with
        | lst =>
          simp only [T.at_] at e
          split at e
          · rename_i tn en
            refine main (tt.length - 1) tn en e (fun u => by simp only [T.set_, en]) fun a ob vs w ha w0 l h1 => ?_
            have w0 : ob = .lst vs := w0
            subst w0
            exact ⟨a, vs, rfl, ha, by rw [l]; exact h1⟩
          · cases e
        | _ => simp [T.at_] at e
      | fd c j =>
        cases kd with
        | ins c' =>
          simp only [T.at_] at e
          split at e
          · rename_i hc
            subst hc
            split at e
            · rename_i tn en
              refine main j tn en e (fun u => by simp only [T.set_, en]) fun a ob vs w ha w0 l h1 => ?_
              obtain ⟨hl, dx, w0⟩ := w0
              subst w0
              exact ⟨a, dx, vs, rfl, ha, hl, h1⟩
            · cases e
          · cases e
        | _ => simp [T.at_] at e
    | _ => simp [T.at_] at e
theorem set_at {k : Kd} {ts : List T} : ∀ {p : List PSt} {t : T}, t.at_ p = some (.ow k ts) → t.set_ p (.ow k ts) = t := by
  intro p
  induction p with
  | nil =>
    intro t e
    have e : t = .ow k ts := by
      cases t <;> simp only [T.at_] at e <;> exact Option.some.inj e
    subst e
    simp only [T.set_]
  | cons s p ih =>
    intro t e
    cases t with
    | ow kd tt =>
      have sl : ∀ {n : Nat} {tn : T}, tt[n]? = some tn → tt.set n tn = tt := fun h => set_self h
      cases s with
      | ix n =>
        cases kd with
        | lst =>
          simp only [T.at_] at e
          split at e
          · rename_i tn en
            simp only [T.set_, en, ih e, sl en]
          · cases e
        | _ => simp [T.at_] at e
      | last =>
        cases kd with
        | lst =>
          simp only [T.at_] at e
          split at e
          · rename_i tn en
            simp only [T.set_, en, ih e, sl en]
          · cases e
        | _ => simp [T.at_] at e
      | fd c j =>
        cases kd with
        | ins c' =>
          simp only [T.at_] at e
          split at e
          · rename_i hc
            subst hc
            split at e
            · rename_i tn en
              simp only [T.set_, en, ih e, sl en]
            · cases e
          · cases e
        | _ => simp [T.at_] at e
    | _ => simp [T.at_] at e
theorem at_ne {p : List PSt} {t : T} {k : Kd} {ts : List T} (e : t.at_ p = some (.ow k ts)) : t ≠ .un := by
  rintro rfl
  cases p <;> simp [T.at_] at e
/-- an owned dict is read -/
theorem OwnS.dkGet {v : V} {ks : List Key} {ts : List T} (o : OwnS Γ K σ env ((v, .ow (.dk ks) ts) :: G) H Hs) :
    ∃ a vs, v = .ref a ∧ H a = some (.dK (ks.zip vs)) ∧ ks.length = vs.length ∧ vs.length = ts.length ∧ ∀ (n : Nat) (d : D) (w : V), ts[n]? = some (T.sh d) → vs[n]? = some w → Rep Γ K Hs w d := by
  obtain ⟨a, vs, ob, rfl, ha, ⟨w0, rfl⟩, l, o1⟩ := o.open_
  refine ⟨a, vs, rfl, ha, w0, l, fun n d w e ew => ?_⟩
  obtain ⟨w', L, M, h1, h2, h3⟩ := zip_split l e
  rw [ew] at h1
  cases h1
  rw [h2] at o1
  exact OwnS.rep (G := (V.ref a, T.ce (.dK (ks.zip vs))) :: (L ++ (M ++ G))) (o1.perm (by
    rw [List.append_assoc]
    exact (List.perm_middle.cons _).trans (.swap _ _ _)))
end
section
variable {Γ : Gm} {C : Ctx} {CXt : CXT} {W : WX} {X : Cx} {A : AgC}
variable {x y z e o : Expr} {pos p ap cp : Pos}
def tPth (Γ : Gm) (i : Nat) (p : List PSt) : TE := fun σ H Q => ∃ v w, σ[i]? = some (some v) ∧ PathV Γ H v p w ∧ Q w H
theorem pe_pth (S : SX X Γ A C W CXt) {i : Nat} : ∀ (r : List PSt) (e : Expr), agPR A X.env.scope i r e = true → PE X e (tPth Γ i r.reverse)
  | [], e, h => by
    simp only [agPR] at h
    exact pe_mono (pe_slot S h) fun σ H Q ⟨v, w, h1, h2, q⟩ => by
      have h2 : w = v := h2
      subst h2
      exact ⟨w, h1, q⟩
  | .ix n :: r, e, h => by
    unfold agPR at h
    split at h
    · obtain ⟨h1, h2⟩ := an h
      have h1 := of_decide_eq_true h1
      subst h1
      refine pe_mono (pe_ix ix_list (pe_pth S r _ h2) pe_int (sli_of rfl)) fun σ H Q ⟨v, w, h1, h2, q⟩ => ?_
      rw [List.reverse_cons] at h2
      obtain ⟨u, h3, a, vs, rfl, ha, hn⟩ := PathV.snoc.mp h2
      refine ⟨v, _, h1, h3, ?_⟩
      refine ⟨a, vs, n, w, rfl, rfl, SqL.of ha, ?_, q⟩
      have hl := (List.getElem?_eq_some_iff.mp hn).1
      unfold atI ixN
      rw [if_pos (Int.natCast_nonneg n), if_pos (by omega)]
      exact hn
    · cases h
  | .last :: r, e, h => by
    unfold agPR at h
    split at h
    · obtain ⟨h1, h2⟩ := an h
      have h1 := of_decide_eq_true h1
      subst h1
      refine pe_mono (pe_ix ix_list (pe_pth S r _ h2) (pe_un un_neg pe_int) (sli_of rfl)) fun σ H Q ⟨v, w, h1, h2, q⟩ => ?_
      rw [List.reverse_cons] at h2
      obtain ⟨u, h3, a, vs, rfl, ha, hn⟩ := PathV.snoc.mp h2
      have hl := (List.getElem?_eq_some_iff.mp hn).1
      have ne : atI vs (-1) = some w := by
        unfold atI ixN
        rw [if_neg (by decide)]
        split
        · rename_i j hj
          have ej : ((-1 : Int) + vs.length).toNat = vs.length - 1 := by omega
          simp only [Option.bind_some]
          rw [← hn]
          congr 1 <;> omega
        · rename_i hj
          exfalso
          omega
      refine ⟨v, _, h1, h3, 1, rfl, ?_⟩
      exact ⟨a, vs, -1, w, rfl, rfl, SqL.of ha, ne, q⟩
    · cases h
  | .fd c j :: r, e, h => by
    unfold agPR at h
    split at h
    · rename_i y f pp
      obtain ⟨h, h3⟩ := an h
      obtain ⟨h1, h2⟩ := an h
      have h1 := of_decide_eq_true h1
      have hf' : (Γ.fl c)[j]? = some f := by rw [S.hfl]; exact h1
      have ck := S.cls c fun z => by rw [z] at hf'; simp at hf'
      refine pe_mono (pe_fld (pe_pth S r _ h3) (sup_of h2)) fun σ H Q ⟨v, w, h1, h2, q⟩ => ?_
      rw [List.reverse_cons] at h2
      obtain ⟨u, h3, a, dx, vs, rfl, ha, hl, hn⟩ := PathV.snoc.mp h2
      exact ⟨v, _, h1, h3, a, _, dx, _, w, rfl, ha, ck.cl, ck.no f (List.mem_of_getElem? hf'), zip_look ck.nd hf' hn, q⟩
    · cases h
theorem x_pget (S : SX X Γ A C W CXt) {i : Nat} {q : List PSt} {b c : CO} (hp : agPR A X.env.scope i q.reverse x = true) (m : M2 X x "get" ap y z cp) (hb : PE X y (tO Γ X.K W (evO C b))) (hc : PE X z (tO Γ X.K W (evO C c))) :
    PE X (.Call (.Attribute x "get" ap) [y, z] [] cp) (tE Γ X.K W (evE C (.pget i q b c))) := by
  refine pe_mono (pe_dget2 (by have := S.hu; omega) (pe_pth S _ _ hp) hb hc m) fun σ H Q h => ?_
  rw [List.reverse_reverse]
  simp only [evE] at h
  obtain ⟨Hs, env, G, r, env', w, e, k⟩ := h
  dsimp only at e
  split at e
  · rename_i t q1
    split at e
    · rename_i ks ts q2
      have nt := at_ne q2
      rcases w.asg i t q1 with z | ⟨v, sv⟩
      · exact absurd z nt
      obtain ⟨a, R, pv, w2, cl⟩ := (w.take q1 sv).path q t q2
      obtain ⟨a', vs, ea, ha, l0, l1, hr⟩ := w2.dkGet
      cases ea
      refine ⟨v, .ref a, sv, pv, a, rfl, .inl ⟨_, .inl ha⟩, ?_⟩
      have h2 : rdt Γ X.K W entT noSide ((.ref a, .ow (.dk ks) ts) :: R) _ σ H Q := ⟨Hs, _, G, r, env', w2, e, k⟩
      refine (rdt.bind (ent := entO) (side := sideO) h2).mono fun u H2 ⟨o2, s2, q3⟩ => ?_
      refine (rdt.bind (ent := entO) (side := sideO) q3).mono fun t3 H3 ⟨o3, s3, q4⟩ => ?_
      obtain ⟨Hs3, env3, G3, r3, env3', w3, e3, k3⟩ := q4
      dsimp only at e3
      split at e3
      · rename_i dd kd hy
        cases kk : kd.key with
        | none => rw [kk] at e3; cases e3
        | some key =>
          rw [kk] at e3
          dsimp only at e3
          have wk : OwnS Γ X.K σ env3 ((.ref a, .ow (.dk ks) ts) :: (R ++ G3)) H3 Hs3 := OwnS.dropR (L := entO t3 (.t (.sh dd)) ++ entO u o2) (by simpa using w3)
          have eu := key_rep (w3.ovRd s2 (fun p hp => by simp [hp]) hy) kk
          subst eu
          obtain ⟨a', vs, ea, ha, l0, l1, hr⟩ := wk.dkGet
          cases ea
          have wt : Rep Γ X.K Hs3 t3 dd := OwnS.rep (G := entO (kV key) o2 ++ ((.ref a, .ow (.dk ks) ts) :: R) ++ G3) (by simpa [entO] using w3)
          have fin : ∀ (d : D) (ov : V), Rep Γ X.K Hs3 ov d → r3 = .ok (.sh d) → env3' = env3.set i t → Q ov H3 := fun d ov rr er ee => by
            subst er
            subst ee
            refine k3 H3 Hs3 ov trivial (OwnS.addSh rr ?_)
            have z := cl (σ' := σ) (env' := env3) (u := .ow (.dk ks) ts) (G' := G3) wk
            rw [set_at q2] at z
            exact z.put sv
          refine ⟨valV (ks.zip vs) key, .inl ⟨_, key, .inl ha, rfl, rfl⟩, ?_⟩
          rcases getL_val (xs := ts) (k := key) l0 (l0.trans l1) with ⟨g1, g2⟩ | ⟨n, d, w', g1, g2, g3, g4⟩
          · rw [g1] at e3
            cases e3
            rw [g2]
            exact fin dd t3 wt rfl rfl
          · rw [g1] at e3
            rw [g4]
            cases d with
            | sh d =>
              cases e3
              exact fin d w' (hr n d w' g2 g3) rfl rfl
            | _ => cases e3
      · cases e3
    · cases e
  · cases e
end
end BC
set_option Elab.async false
set_option linter.all false
set_option maxRecDepth 100000
set_option maxHeartbeats 8000000
/-! Core: every expression that agrees with a term is served by its reading. -/
namespace BC
open PySem PySem.Spec PyProof.Rows L2
section
variable {Γ : Gm} {C : Ctx} {CXt : CXT}
theorem SX.blk {X : Cx} {A : AgC} {W : WX} (S : SX X Γ A C W CXt) (s : Shared) (H : Hp) (scope : Scope) (cenv : PySem.Env) (fp : List Addr) : SX (X.blk s H scope cenv fp) Γ A.blk C W0 CXt where
  hN := S.hN
  nd := S.nd
  calm := S.calm
  hu := S.hu
  hfl := S.hfl
  blt := S.blt
  gl := S.gl
  fn := S.fn
  fnl := S.fnl
  cls := S.cls
  nf := S.nf
  clm := S.clm
  isi := S.isi
  fnv := fun h => by cases h
  tk := fun σ pins H s e s' I c => (S.nx _ _ _ _ _ c).elim
  nx := S.nx
theorem agOs_plain {A : AgC} {sc : Scope} : ∀ {cs : COs} {es : List Expr}, agOs A sc cs es = true → plains es = true ∧ (es = [] → cs = .nil)
  | .nil, [], _ => ⟨rfl, fun _ => rfl⟩
  | .nil, _ :: _, h => by simp [agOs] at h
  | .cons c r, [], h => by simp [agOs] at h
  | .cons c r, e :: es, h => by
    simp only [agOs] at h
    obtain ⟨h, h3⟩ := an h
    obtain ⟨h1, h2⟩ := an h
    refine ⟨?_, fun z => by cases z⟩
    unfold plains
    rw [List.all_cons, h2]
    exact (agOs_plain h3).1
theorem pt_pw {X : Cx} {op : BoolOp} {vs : List Expr} {p : Pos} {t : TT} (h : PT X (.BoolOp op vs p) t) : PW X (.BoolOp op vs p) t := ⟨fun wh pins s σ H Q I q => h.run pins s σ H Q I q⟩
theorem ownN_snd {A : AgC} {own : List Nat} : (ownN A own).map (·.2) = own := by
  unfold ownN
  rw [List.map_map]
  exact (List.map_congr_left fun _ _ => rfl).trans (List.map_id _)
theorem set_of {e : Expr} {env : PySem.Env} (h : noSet e = true) : ∀ x, foldedSetIterable e env x = pure x := by
  intro x
  cases e <;> first | rfl | cases h
mutual
theorem pE (c : CE) : ∀ {X : Cx} {A : AgC} {W : WX}, SX X Γ A C W CXt → ∀ (e : Expr), agE A X.env.scope c e = true → PE X e (tE Γ X.K W (evE C c)) := by
  intro X A W S e h
  cases c with
  | lit d => unfold agE at h; split at h <;> first | exact x_lit h | cases h
  | glb j =>
    unfold agE at h
    split at h
    · obtain ⟨h, h3⟩ := an h
      obtain ⟨h1, h2⟩ := an h
      exact x_glb S (of_decide_eq_true h1) h2 h3
    · cases h
  | var i => unfold agE at h; exact pe_mono (pe_slot S h) fun σ H Q h => by simp only [evE] at h; exact s_var h
  | mv i => unfold agE at h; exact pe_mono (pe_slot S h) fun σ H Q h => by simp only [evE] at h; exact s_mv h
  | fz c => unfold agE at h; exact x_fz (pE c S e h)
  | tup cs => unfold agE at h; split at h <;> first | exact x_tup (pEs cs S _ h) | cases h
  | lst cs => unfold agE at h; split at h <;> first | exact x_lst (pEs cs S _ h) | cases h
  | dnl t => unfold agE at h; split at h <;> first | exact x_dnl | cases h
  | dct ps =>
    unfold agE at h
    split at h
    · obtain ⟨h1, h2⟩ := an h
      have h2 := of_decide_eq_true h2
      obtain ⟨g1, g2, g3⟩ := pPs ps S _ _ h1
      exact x_dct g1 g2 g3 (fun z => by rw [z] at h2; simp at h2) h2.2
    · cases h
  | op2 o a b =>
    unfold agE at h
    split at h
    · obtain ⟨h, h3⟩ := an h
      obtain ⟨h1, h2⟩ := an h
      rw [op_of h1]
      exact x_op2 (pO a S _ h2) (pO b S _ h3)
    · cases h
  | b1 f a =>
    unfold agE at h
    split at h
    · obtain ⟨h, h5⟩ := an h
      obtain ⟨h, h4⟩ := an h
      obtain ⟨h, h3⟩ := an h
      obtain ⟨h1, h2⟩ := an h
      have h1 := of_decide_eq_true h1
      subst h1
      cases f with
      | len => exact x_len S h2 h3 (pO a S _ h4)
      | abs => exact x_abs S h2 h3 (pO a S _ h4)
      | int => exact x_int S h2 h3 (pO a S _ h4)
      | _ => cases h5
    · obtain ⟨h1, h2⟩ := an h
      cases f with
      | neg => exact x_neg (pO a S _ h2)
      | _ => cases h1
    · cases h
  | mk f a =>
    unfold agE at h
    split at h
    · obtain ⟨h, h5⟩ := an h
      obtain ⟨h, h4⟩ := an h
      obtain ⟨h, h3⟩ := an h
      obtain ⟨h1, h2⟩ := an h
      have h1 := of_decide_eq_true h1
      subst h1
      cases f with
      | list => exact x_list S h2 h3 (pO a S _ h4)
      | dict => exact x_dict S h2 h3 (pO a S _ h4)
      | tuple => exact x_tuple S h2 h3 (pO a S _ h4)
      | sorted => exact x_sorted S h2 h3 (pO a S _ h4)
      | _ => cases h5
    · cases h
  | b2 f a b =>
    unfold agE at h
    split at h
    · obtain ⟨h, h6⟩ := an h
      obtain ⟨h, h5⟩ := an h
      obtain ⟨h, h4⟩ := an h
      obtain ⟨h, h3⟩ := an h
      obtain ⟨h1, h2⟩ := an h
      have h1 := of_decide_eq_true h1
      subst h1
      cases f with
      | max => exact x_max S h2 h3 h4 (pO a S _ h5) (pO b S _ h6)
      | min => exact x_min S h2 h3 h4 (pO a S _ h5) (pO b S _ h6)
    · cases h
  | isi a ts =>
    unfold agE at h
    split at h
    · obtain ⟨h, h5⟩ := an h
      obtain ⟨h, h4⟩ := an h
      obtain ⟨h, h3⟩ := an h
      obtain ⟨h1, h2⟩ := an h
      have h1 := of_decide_eq_true h1
      subst h1
      exact x_isi S h2 h3 (pO a S _ h4) h5
    · cases h
  | cmp o a b =>
    unfold agE at h
    split at h
    · obtain ⟨h, h4⟩ := an h
      obtain ⟨h, h3⟩ := an h
      obtain ⟨h1, h2⟩ := an h
      have e1 := cm_of h1
      subst e1
      exact x_cmp S (pO a S _ h2) (pO b S _ h3) (by simpa using h4)
    · cases h
  | chn o o' a b c =>
    unfold agE at h
    split at h
    · obtain ⟨h, h6⟩ := an h
      obtain ⟨h, h5⟩ := an h
      obtain ⟨h, h4⟩ := an h
      obtain ⟨h, h3⟩ := an h
      obtain ⟨h1, h2⟩ := an h
      have e1 := cm_of h1
      have e2 := cm_of h2
      subst e1 e2
      exact x_chn S (pO a S _ h3) (pO b S _ h4) (pO c S _ h5) (by simpa using h6)
    · cases h
  | andE a b =>
    unfold agE at h
    split at h
    · obtain ⟨h1, h2⟩ := an h
      exact x_andE (pE a S _ h1) (pe_one (pE b S _ h2))
    · obtain ⟨h1, h2⟩ := an h
      exact x_andE (pE a S _ h1) (pE b S _ h2)
    · cases h
  | orE a b =>
    unfold agE at h
    split at h
    · obtain ⟨h1, h2⟩ := an h
      exact x_orE (pE a S _ h1) (pe_one (pE b S _ h2))
    · obtain ⟨h1, h2⟩ := an h
      exact x_orE (pE a S _ h1) (pE b S _ h2)
    · cases h
  | notE a => unfold agE at h; split at h <;> first | exact x_notE (pO a S _ h) | cases h
  | ite t a b =>
    unfold agE at h
    split at h
    · obtain ⟨h, h3⟩ := an h
      obtain ⟨h1, h2⟩ := an h
      exact x_ite (pT t S _ h1) (pE a S _ h2) (pE b S _ h3)
    · cases h
  | idx a b =>
    unfold agE at h
    split at h
    · obtain ⟨h, h3⟩ := an h
      obtain ⟨h1, h2⟩ := an h
      exact x_idx h3 (pO a S _ h1) (pO b S _ h2)
    · cases h
  | didx a b =>
    unfold agE at h
    split at h
    · obtain ⟨h, h3⟩ := an h
      obtain ⟨h1, h2⟩ := an h
      exact x_didx S h3 (pO a S _ h1) (pO b S _ h2)
    · cases h
  | slc a lo hi =>
    unfold agE at h
    split at h
    · obtain ⟨h, h3⟩ := an h
      obtain ⟨h1, h2⟩ := an h
      exact x_slc (pO a S _ h1) (pP lo S _ h2) (pP hi S _ h3)
    · cases h
  | rev a =>
    unfold agE at h
    split at h
    · obtain ⟨h1, h2⟩ := an h
      have h1 := of_decide_eq_true h1
      subst h1
      exact x_rev (pO a S _ h2)
    · cases h
  | fld c j a =>
    unfold agE at h
    split at h
    · obtain ⟨h, h3⟩ := an h
      obtain ⟨h1, h2⟩ := an h
      exact x_fld S h2 (of_decide_eq_true h3) (pO a S _ h1)
    · cases h
  | dget a k d =>
    unfold agE at h
    split at h
    · obtain ⟨h, h8⟩ := an h
      obtain ⟨h, h7⟩ := an h
      obtain ⟨h, h6⟩ := an h
      obtain ⟨h, h5⟩ := an h
      obtain ⟨h, h4⟩ := an h
      obtain ⟨h, h3⟩ := an h
      obtain ⟨h1, h2⟩ := an h
      have h1 := of_decide_eq_true h1
      subst h1
      exact x_dget S (base_m2 h5 h6 h7 h8) (pO a S _ h2) (pO k S _ h3) (pO d S _ h4)
    · cases h
  | pget i p k d =>
    unfold agE at h
    split at h
    · obtain ⟨h, h8⟩ := an h
      obtain ⟨h, h7⟩ := an h
      obtain ⟨h, h6⟩ := an h
      obtain ⟨h, h5⟩ := an h
      obtain ⟨h, h4⟩ := an h
      obtain ⟨h, h3⟩ := an h
      obtain ⟨h1, h2⟩ := an h
      have h1 := of_decide_eq_true h1
      subst h1
      exact x_pget S h2 (base_m2 h5 h6 h7 h8) (pO k S _ h3) (pO d S _ h4)
    · cases h
  | pop i p =>
    unfold agE at h
    split at h
    · obtain ⟨h, h5⟩ := an h
      obtain ⟨h, h4⟩ := an h
      obtain ⟨h, h3⟩ := an h
      obtain ⟨h1, h2⟩ := an h
      have h1 := of_decide_eq_true h1
      subst h1
      have h4 := List.isEmpty_iff.mp h4
      subst h4
      exact x_pop S h2 h3 h5
    · cases h
  | din neg k d =>
    unfold agE at h
    split at h
    · rename_i op y pp
      obtain ⟨h, h4⟩ := an h
      obtain ⟨h, h3⟩ := an h
      obtain ⟨h1, h2⟩ := an h
      have e1 : op = (if neg then .NotIn else .In) := by
        split at h1
        · have : neg = false := by simpa using h1
          rw [this]; rfl
        · rw [h1]; rfl
        · cases h1
      subst e1
      exact x_din S (pO k S _ h2) (pO d S _ h3) (by simpa using h4)
    · cases h
  | ocmp cj a b =>
    unfold agE at h
    split at h
    · obtain ⟨h, h3⟩ := an h
      obtain ⟨h1, h2⟩ := an h
      exact x_ocmp S (fun q hq => of_decide_eq_true (List.all_eq_true.mp h3 q hq)) (pO a S _ h1) (pO b S _ h2)
    · cases h
  | ogi cj a k =>
    unfold agE at h
    split at h
    · obtain ⟨h, h4⟩ := an h
      obtain ⟨h, h3⟩ := an h
      obtain ⟨h1, h2⟩ := an h
      exact x_ogi S (fun q hq => of_decide_eq_true (List.all_eq_true.mp h4 q hq)) h3 (pO a S _ h1) (pO k S _ h2)
    · cases h
  | clsm c j as =>
    unfold agE at h
    split at h
    · obtain ⟨h, h8⟩ := an h
      obtain ⟨h, h7⟩ := an h
      obtain ⟨h, h6⟩ := an h
      obtain ⟨h, h5⟩ := an h
      obtain ⟨h, h4⟩ := an h
      obtain ⟨h, h3⟩ := an h
      obtain ⟨h1, h2⟩ := an h
      obtain ⟨g1, g2⟩ := agOs_plain h5
      exact x_clsm S h2 (of_decide_eq_true h1) h3 h4 (of_decide_eq_true h6) g1 h7 (of_decide_eq_true h8) g2 (pOs as S _ h5)
    · cases h
  | insm cj a as =>
    unfold agE at h
    split at h
    · obtain ⟨h, h6⟩ := an h
      obtain ⟨h, h5⟩ := an h
      obtain ⟨h, h4⟩ := an h
      obtain ⟨h, h3⟩ := an h
      obtain ⟨h1, h2⟩ := an h
      obtain ⟨g1, g2⟩ := agOs_plain h3
      exact x_insm S (fun q hq => of_decide_eq_true (List.all_eq_true.mp h4 q hq)) h2 g1 h5 (of_decide_eq_true h6) g2 (pO a S _ h1) (pOs as S _ h3)
    · cases h
  | mkv i c j as =>
    unfold agE at h
    split at h
    · obtain ⟨h, h3⟩ := an h
      obtain ⟨h1, h2⟩ := an h
      obtain ⟨g1, g2⟩ := agOs_plain h2
      exact x_mkv S h1 (of_decide_eq_true h3) g1 g2 (pOs as S _ h2)
    · cases h
  | call j as =>
    unfold agE at h
    split at h
    · rename_i n p0 ys p1
      obtain ⟨h, h4⟩ := an h
      obtain ⟨h, h3⟩ := an h
      obtain ⟨h1, h2⟩ := an h
      obtain ⟨g1, g2⟩ := agOs_plain h4
      cases ys with
      | nil =>
        cases g2 rfl
        exact x_call0 S (of_decide_eq_true h1) h2 h3
      | cons y ys =>
        have g1' : (noStar y && plains ys) = true := g1
        obtain ⟨i1, i2⟩ := an g1'
        exact x_call S (of_decide_eq_true h1) h2 h3 i1 i2 (pOs as S _ h4)
    · cases h
  | meth cj a as =>
    unfold agE at h
    split at h
    · obtain ⟨h, h6⟩ := an h
      obtain ⟨h, h5⟩ := an h
      obtain ⟨h, h4⟩ := an h
      obtain ⟨h, h3⟩ := an h
      obtain ⟨h1, h2⟩ := an h
      obtain ⟨g1, g2⟩ := agOs_plain h3
      exact x_meth S (fun q hq => of_decide_eq_true (List.all_eq_true.mp h4 q hq)) h2 g1 h5 (of_decide_eq_true h6) g2 (pO a S _ h1) (pOs as S _ h3)
    · cases h
  | make c j as =>
    unfold agE at h
    split at h
    · obtain ⟨h, h4⟩ := an h
      obtain ⟨h, h3⟩ := an h
      obtain ⟨h1, h2⟩ := an h
      obtain ⟨g1, g2⟩ := agOs_plain h4
      exact x_make S (of_decide_eq_true h1) h2 h3 g1 g2 (pOs as S _ h4)
    · cases h
  | prop cj a =>
    unfold agE at h
    split at h
    · obtain ⟨h, h3⟩ := an h
      obtain ⟨h1, h2⟩ := an h
      exact x_prop S (fun q hq => of_decide_eq_true (List.all_eq_true.mp h3 q hq)) h2 (pO a S _ h1)
    · cases h
  | lrng a => cases h
  | lc own g it t c =>
    unfold agE at h
    split at h
    · obtain ⟨h, h6⟩ := an h
      obtain ⟨h, h5⟩ := an h
      obtain ⟨h, h4⟩ := an h
      obtain ⟨h, h3⟩ := an h
      obtain ⟨h1, h2⟩ := an h
      refine pe_mono (pe_lc (te := tE Γ X.K W0 (evE C c)) (tt := tT Γ X.K W0 (evTs C t)) (g := gRd Γ X.K own g) (own := ownN A own) S.calm S.nd (pIt it S _ _ h1) (blkOk_by (by rw [S.hN]; exact h3)) (fun s H C0 cl fp => x_tg (S.blk s H _ _ fp) g _ h4) (fun s H C0 cl fp => pTs t (S.blk s H _ _ fp) _ h5) (fun s H C0 cl fp => pE c (S.blk s H _ _ fp) _ h6) (set_of h2)) fun σ H Q q => ?_
      rw [ownN_snd]
      exact lc_read q
    · cases h
  | dc ty own g it t k c =>
    unfold agE at h
    split at h
    · obtain ⟨h, h8⟩ := an h
      obtain ⟨h, h7⟩ := an h
      obtain ⟨h, h6⟩ := an h
      obtain ⟨h, h5⟩ := an h
      obtain ⟨h, h4⟩ := an h
      obtain ⟨h, h3⟩ := an h
      obtain ⟨h1, h2⟩ := an h
      refine pe_mono (pe_dc (tv := tE Γ X.K W0 (evE C c)) (tk := tE Γ X.K W0 (evE C k)) (tt := tT Γ X.K W0 (evTs C t)) (g := gRd Γ X.K own g) (own := ownN A own) S.calm S.nd (pIt it S _ _ h1) (blkOk_by (by rw [S.hN]; exact h3)) (fun s H C0 cl fp => x_tg (S.blk s H _ _ fp) g _ h4) (fun s H C0 cl fp => pTs t (S.blk s H _ _ fp) _ h5) (fun s H C0 cl fp => pE k (S.blk s H _ _ fp) _ h6) (fun s H C0 cl fp => pE c (S.blk s H _ _ fp) _ h7) (set_of h2)) fun σ H Q q => ?_
      rw [ownN_snd]
      exact dc_read q
    · cases h
theorem pEs (cs : CEs) : ∀ {X : Cx} {A : AgC} {W : WX}, SX X Γ A C W CXt → ∀ (es : List Expr), agEs A X.env.scope cs es = true → PA X es (tEs Γ X.K W (evEs C cs)) := by
  intro X A W S es h
  cases cs with
  | nil => unfold agEs at h; split at h <;> first | exact x_nil | cases h
  | cons c r =>
    unfold agEs at h
    split at h
    · obtain ⟨h, h3⟩ := an h
      obtain ⟨h1, h2⟩ := an h
      exact x_cons h2 (pE c S _ h1) (pEs r S _ h3)
    · cases h
theorem pPs (ps : CPs) : ∀ {X : Cx} {A : AgC} {W : WX}, SX X Γ A C W CXt → ∀ {pos : Pos} (ks : List (Option Expr)) (vs : List Expr), agPs A X.env.scope ps ks vs = true → PPs X pos ks vs (trsOf Γ X.K W C ps) ∧ ks.all (·.isSome) = true ∧ ks.length = vs.length := by
  intro X A W S pos ks vs h
  cases ps with
  | nil => unfold agPs at h; split at h <;> first | exact ⟨pps_nil, rfl, rfl⟩ | cases h
  | cons k v r =>
    unfold agPs at h
    split at h
    · obtain ⟨h, h3⟩ := an h
      obtain ⟨h1, h2⟩ := an h
      obtain ⟨g1, g2, g3⟩ := pPs r S (pos := pos) _ _ h3
      exact ⟨pps_cons (pE k S _ h1) (pE v S _ h2) g1, by rw [List.all_cons, g2]; rfl, by rw [List.length_cons, List.length_cons, g3]⟩
    · cases h
theorem pP (l : CP) : ∀ {X : Cx} {A : AgC} {W : WX}, SX X Γ A C W CXt → ∀ (e : Option Expr), agP A X.env.scope l e = true → PO X e (fun σ H Q => rdt Γ X.K W entN (fun _ b b' => b = b') [] (evP C l) σ H Q) := by
  intro X A W S e h
  cases l with
  | no => unfold agP at h; split at h <;> first | exact x_pno | cases h
  | so c => unfold agP at h; split at h <;> first | exact x_pso (pE c S _ h) | cases h
theorem pO (o : CO) : ∀ {X : Cx} {A : AgC} {W : WX}, SX X Γ A C W CXt → ∀ (e : Expr), agO A X.env.scope o e = true → PE X e (tO Γ X.K W (evO C o)) := by
  intro X A W S e h
  cases o with
  | e c => unfold agO at h; exact pe_mono (pE c S _ h) fun σ H Q h => s_oe h
  | v i => unfold agO at h; exact pe_mono (pe_slot S h) fun σ H Q h => s_ov h
theorem pOs (os : COs) : ∀ {X : Cx} {A : AgC} {W : WX}, SX X Γ A C W CXt → ∀ (es : List Expr), agOs A X.env.scope os es = true → PA X es (tOs Γ X.K W (evOs C os)) := by
  intro X A W S es h
  cases os with
  | nil => unfold agOs at h; split at h <;> first | exact x_onil | cases h
  | cons c r =>
    unfold agOs at h
    split at h
    · obtain ⟨h, h3⟩ := an h
      obtain ⟨h1, h2⟩ := an h
      exact x_ocons h2 (pO c S _ h1) (pOs r S _ h3)
    · cases h
theorem pT (t : CT) : ∀ {X : Cx} {A : AgC} {W : WX}, SX X Γ A C W CXt → ∀ (e : Expr), agT A X.env.scope t e = true → PT X e (tT Γ X.K W (evT C t)) := by
  intro X A W S e h
  cases t with
  | val c =>
    unfold agT at h
    obtain ⟨h1, h2⟩ := an h
    exact x_tval h2 (pO c S _ h1)
  | cmp o a b =>
    unfold agT at h
    split at h
    · obtain ⟨h, h4⟩ := an h
      obtain ⟨h, h3⟩ := an h
      obtain ⟨h1, h2⟩ := an h
      have e1 := cm_of h1
      subst e1
      exact x_tcmp S (pO a S _ h2) (pO b S _ h3) (by simpa using h4)
    · cases h
  | chn o o' a b c =>
    unfold agT at h
    split at h
    · obtain ⟨h, h6⟩ := an h
      obtain ⟨h, h5⟩ := an h
      obtain ⟨h, h4⟩ := an h
      obtain ⟨h, h3⟩ := an h
      obtain ⟨h1, h2⟩ := an h
      have e1 := cm_of h1
      have e2 := cm_of h2
      subst e1 e2
      exact x_tchn S (pO a S _ h3) (pO b S _ h4) (pO c S _ h5) (by simpa using h6)
    · cases h
  | din neg k d =>
    unfold agT at h
    split at h
    · rename_i op y pp
      obtain ⟨h, h4⟩ := an h
      obtain ⟨h, h3⟩ := an h
      obtain ⟨h1, h2⟩ := an h
      have e1 : op = (if neg then .NotIn else .In) := by
        split at h1
        · have : neg = false := by simpa using h1
          rw [this]; rfl
        · rw [h1]; rfl
        · cases h1
      subst e1
      exact x_tdin S (pO k S _ h2) (pO d S _ h3) (by simpa using h4)
    · cases h
  | andT a b =>
    unfold agT at h
    split at h
    · obtain ⟨h1, h2⟩ := an h
      exact (pw_mono (pw_and (pT a S _ h1) (pw_and1 (pT b S _ h2))) fun σ H Q q => tT_and q).pt
    · obtain ⟨h1, h2⟩ := an h
      exact (pw_mono (pw_and (pT a S _ h1) (pt_pw (pT b S _ h2))) fun σ H Q q => tT_and q).pt
    · cases h
  | orT a b =>
    unfold agT at h
    split at h
    · obtain ⟨h1, h2⟩ := an h
      exact (pw_mono (pw_or (pT a S _ h1) (pw_or1 (pT b S _ h2))) fun σ H Q q => tT_or q).pt
    · obtain ⟨h1, h2⟩ := an h
      exact (pw_mono (pw_or (pT a S _ h1) (pt_pw (pT b S _ h2))) fun σ H Q q => tT_or q).pt
    · cases h
  | notT a => unfold agT at h; split at h <;> first | exact x_tnot (pT a S _ h) | cases h
theorem pTs (ts : CTs) : ∀ {X : Cx} {A : AgC} {W : WX}, SX X Γ A C W CXt → ∀ (es : List Expr), agTs A X.env.scope ts es = true → PTs X es (tT Γ X.K W (evTs C ts)) := by
  intro X A W S es h
  cases ts with
  | nil =>
    unfold agTs at h
    split at h
    · refine ⟨fun pins s σ H Q I q => pts_nil.run pins s σ H Q I ?_⟩
      simp only [evTs] at q
      obtain ⟨Hs, env, G, w, k⟩ := rdt.ret_ q
      exact k H Hs true rfl w
    · cases h
  | cons t r =>
    unfold agTs at h
    split at h
    · refine ⟨fun pins s σ H Q I q => (pts_one (pT t S _ h)).run pins s σ H Q I ?_⟩
      simp only [evTs] at q
      refine (rdt.bind (ent := entN) (side := sideB) q).mono fun b H1 ⟨b', sb, q1⟩ => ?_
      cases sb
      cases b with
      | true =>
        obtain ⟨Hs, env, G, w, k⟩ := rdt.ret_ q1
        exact k H1 Hs true rfl w
      | false =>
        obtain ⟨Hs, env, G, w, k⟩ := rdt.ret_ q1
        exact k H1 Hs false rfl w
    · cases h
theorem pIt (it : CI) : ∀ {X : Cx} {A : AgC} {W : WX}, SX X Γ A C W CXt → ∀ (tg e : Expr), agI A X.env.scope it tg e = true → PI X tg e (iD Γ X.K W (evI C it)) := by
  intro X A W S tg e h
  cases it with
  | lst c => unfold agI at h; exact x_ilst (pE c S _ h)
  | tup c => unfold agI at h; exact x_itup (pE c S _ h)
  | scr i => unfold agI at h; exact x_iscr S h
  | rng1 a =>
    unfold agI at h
    split at h
    · obtain ⟨h, h4⟩ := an h
      obtain ⟨h, h3⟩ := an h
      obtain ⟨h1, h2⟩ := an h
      have h1 := of_decide_eq_true h1
      subst h1
      exact x_irng1 S h2 h3 (pE a S _ h4)
    · cases h
  | rng2 a b =>
    unfold agI at h
    split at h
    · obtain ⟨h, h6⟩ := an h
      obtain ⟨h, h5⟩ := an h
      obtain ⟨h, h4⟩ := an h
      obtain ⟨h, h3⟩ := an h
      obtain ⟨h1, h2⟩ := an h
      have h1 := of_decide_eq_true h1
      subst h1
      exact x_irng2 S h2 h3 h4 (pE a S _ h5) (pE b S _ h6)
    · cases h
  | rng3 a b c =>
    unfold agI at h
    split at h
    · obtain ⟨h, h8⟩ := an h
      obtain ⟨h, h7⟩ := an h
      obtain ⟨h, h6⟩ := an h
      obtain ⟨h, h5⟩ := an h
      obtain ⟨h, h4⟩ := an h
      obtain ⟨h, h3⟩ := an h
      obtain ⟨h1, h2⟩ := an h
      have h1 := of_decide_eq_true h1
      subst h1
      exact x_irng3 S h2 h3 h4 h5 (pE a S _ h6) (pE b S _ h7) (pE c S _ h8)
    · cases h
  | enm c =>
    unfold agI at h
    split at h
    · obtain ⟨h, h5⟩ := an h
      obtain ⟨h, h4⟩ := an h
      obtain ⟨h, h3⟩ := an h
      obtain ⟨h1, h2⟩ := an h
      have h1 := of_decide_eq_true h1
      subst h1
      cases tg with
      | Tuple es k p => exact x_ienm S h2 h3 (pE c S _ h4)
      | _ => cases h5
    · cases h
  | keys c => unfold agI at h; exact x_ikeys (pE c S _ h)
end
end
end BC
set_option Elab.async false
set_option linter.all false
set_option maxRecDepth 100000
set_option maxHeartbeats 8000000
/-! Core: statements. -/
namespace BC
open PySem PySem.Spec PyProof.Rows L2
section
variable (Γ : Gm) (K : PySem.W.Frag) (W : WX) (as : List Nat)
/-- what is wanted behind a statement -/
def SEnd (D : Ends) (σ : St) (env : En) (G : List VT) : Fl → Prop
  | .nx => ∀ σ' H' Hs', Kp as σ σ' → OwnS Γ K σ' env G H' Hs' → D.nx σ' H'
  | .bk => ∀ σ' H' Hs', Kp as σ σ' → OwnS Γ K σ' env G H' Hs' → D.bk σ' H'
  | .ct => ∀ σ' H' Hs', Kp as σ σ' → OwnS Γ K σ' env G H' Hs' → D.ct σ' H'
  | .ret t => ∀ σ' H' Hs' v, Kp as σ σ' → OwnS Γ K σ' env ((v, t) :: G) H' Hs' → D.rt v H'
  | .exc c ds => ∀ σ' H' Hs' d, Kp as σ σ' → XOwn Γ K σ' env G c ds d H' Hs' → W (.ref (Γ.cad c)) d σ' H'
def sRt (tmp : List VT) (m : MS) : TS := fun D σ H => ∃ Hs env G r env', OwnS Γ K σ env (tmp ++ G) H Hs ∧ m env = some (r, env') ∧ SEnd Γ K W as D σ env' G r
abbrev sRd (m : MS) : TS := sRt Γ K W as [] m
end
section
variable {Γ : Gm} {C : Ctx} {CXt : CXT} {K : PySem.W.Frag} {W : WX} {as : List Nat} {D : Ends} {σ : St} {H : Hp} {tmp : List VT}
theorem ps_mono {X : Cx} {st : Stmt} {t t' : TS} (h : PS X st t) (k : ∀ D σ H, t' D σ H → t D σ H) : PS X st t' := ⟨fun pins s σ H D I q => h.run pins s σ H D I (k D σ H q)⟩
theorem pss_mono {X : Cx} {st : List Stmt} {t t' : TS} (h : PSs X st t) (k : ∀ D σ H, t' D σ H → t D σ H) : PSs X st t' := ⟨fun pins s σ H D I q => h.run pins s σ H D I (k D σ H q)⟩
/-- an expression first -/
theorem sRt.bind {α β : Type} {ent : β → α → List VT} {side : St → β → α → Prop} {m : M α} {f : α → MS} (h : sRt Γ K W as tmp (bdS m f) D σ H) :
    rdt Γ K W ent side [] m σ H fun v H1 => ∃ a, side σ v a ∧ sRt Γ K W as (ent v a ++ tmp) (f a) D σ H1 := by
  obtain ⟨Hs, env, G, r, env', o, e, k⟩ := h
  unfold bdS at e
  cases q : m env with
  | none => rw [q] at e; cases e
  | some p =>
    obtain ⟨r1, e1⟩ := p
    rw [q] at e
    cases r1 with
    | ok a =>
      refine ⟨Hs, env, tmp ++ G, _, e1, o, q, fun H1 Hs1 v s o1 => ⟨a, s, Hs1, e1, G, r, env', ?_, e, k⟩⟩
      rw [List.append_assoc]; exact o1
    | exc c ds =>
      cases e
      exact ⟨Hs, env, tmp ++ G, _, _, o, q, fun H1 Hs1 d x => k σ H1 Hs1 d Kp.rfl' (XOwn.weak x)⟩
theorem sRt.up {f : En → Option En} (h : sRt Γ K W as tmp (upS f) D σ H) :
    ∃ Hs env G env', OwnS Γ K σ env (tmp ++ G) H Hs ∧ f env = some env' ∧ ∀ σ' H' Hs', Kp as σ σ' → OwnS Γ K σ' env' G H' Hs' → D.nx σ' H' := by
  obtain ⟨Hs, env, G, r, env', o, e, k⟩ := h
  unfold upS at e
  cases q : f env with
  | none => rw [q] at e; cases e
  | some e' => rw [q] at e; cases e; exact ⟨Hs, env, G, _, o, q, k⟩
theorem SEnd.kp {σ1 : St} {env : En} {G : List VT} {r : Fl} (h : Kp as σ σ1) (k : SEnd Γ K W as D σ env G r) : SEnd Γ K W as D σ1 env G r := by
  cases r with
  | nx => exact fun σ' H' Hs' kp o => k σ' H' Hs' (h.tr kp) o
  | bk => exact fun σ' H' Hs' kp o => k σ' H' Hs' (h.tr kp) o
  | ct => exact fun σ' H' Hs' kp o => k σ' H' Hs' (h.tr kp) o
  | ret t => exact fun σ' H' Hs' v kp o => k σ' H' Hs' v (h.tr kp) o
  | exc c ds => exact fun σ' H' Hs' d kp o => k σ' H' Hs' d (h.tr kp) o
theorem SEnd.weak {L : List VT} {env : En} {G : List VT} {r : Fl} (k : SEnd Γ K W as D σ env G r) : SEnd Γ K W as D σ env (L ++ G) r := by
  cases r with
  | nx => exact fun σ' H' Hs' kp o => k σ' H' Hs' kp o.dropR
  | bk => exact fun σ' H' Hs' kp o => k σ' H' Hs' kp o.dropR
  | ct => exact fun σ' H' Hs' kp o => k σ' H' Hs' kp o.dropR
  | ret t => exact fun σ' H' Hs' v kp o => k σ' H' Hs' v kp (OwnS.dropR (L := L) (o.perm (List.perm_middle (l₁ := L)).symm))
  | exc c ds => exact fun σ' H' Hs' d kp o => k σ' H' Hs' d kp (XOwn.weak o)
theorem sRt.drop {L : List VT} {m : MS} (h : sRt Γ K W as (L ++ tmp) m D σ H) : sRt Γ K W as tmp m D σ H := by
  obtain ⟨Hs, env, G, r, env', o, e, k⟩ := h
  rw [List.append_assoc] at o
  exact ⟨Hs, env, G, r, env', o.dropR, e, k⟩
variable {X : Cx} {A : AgC}
/-! ### one after another -/
theorem s_sq {m n : MS} (h : sRd Γ K W as (sq m n) D σ H) : sRd Γ K W as m { D with nx := sRd Γ K W as n D } σ H := by
  obtain ⟨Hs, env, G, r, env', o, e, k⟩ := h
  unfold sq at e
  cases q : m env with
  | none => rw [q] at e; cases e
  | some p =>
    obtain ⟨r1, e1⟩ := p
    rw [q] at e
    refine ⟨Hs, env, G, r1, e1, o, q, ?_⟩
    cases r1 with
    | nx => exact fun σ' H' Hs' kp o' => ⟨Hs', e1, G, r, env', o', e, k.kp kp⟩
    | bk => cases e; exact k
    | ct => cases e; exact k
    | ret t => cases e; exact k
    | exc c ds => cases e; exact k
/-! ### simple statements -/
theorem s_nx (h : sRd Γ K W as (fun e => some (.nx, e)) D σ H) : D.nx σ H := by
  obtain ⟨Hs, env, G, r, env', o, e, k⟩ := h
  cases e
  exact k σ H Hs Kp.rfl' o
theorem s_bk (h : sRd Γ K W as (fun e => some (.bk, e)) D σ H) : D.bk σ H := by
  obtain ⟨Hs, env, G, r, env', o, e, k⟩ := h
  cases e
  exact k σ H Hs Kp.rfl' o
theorem ps_none {st : Stmt} : PS X st (sRd Γ K W as fun _ => none) := ⟨fun pins s σ H D I h => by
  obtain ⟨Hs, env, G, r, env', o, e, k⟩ := h
  cases e⟩
theorem gRd_of {g : CG} {v : V} {t : T} (h : sRt Γ K W as ([(v, t)] ++ []) (upS (gset g t)) D σ H) : gRd Γ K as g v σ H D.nx := by
  obtain ⟨Hs, env, G, env', o, e, k⟩ := h.up
  exact ⟨Hs, env, G, t, env', o, e, k⟩
/-! ### for -/
theorem s_for {it : CI} {g : CG} {b : MS} {tb : TS} (hb : ∀ D σ H, sRd Γ K W as b D σ H → tb D σ H) (h : sRd Γ K W as (bdS (evI C it) fun ds => forL g b ds) D σ H) : tFor (iD Γ K W (evI C it)) (gRd Γ K as g) tb D σ H := by
  obtain ⟨Hs, env, G, r, env', o, e, k⟩ := h
  unfold bdS at e
  show iD Γ K W (evI C it) σ H _
  cases q : evI C it env with
  | none => rw [q] at e; cases e
  | some p =>
    obtain ⟨r1, e1⟩ := p
    rw [q] at e
    cases r1 with
    | exc c ds =>
      cases e
      exact ⟨Hs, env, G, _, _, o, q, fun H1 Hs1 d x => k σ H1 Hs1 d Kp.rfl' x⟩
    | ok ds =>
      refine ⟨Hs, env, G, _, e1, o, q, fun H1 Hs1 J L itd o1 => ?_⟩
      have e : forL g b ds e1 = some (r, env') := e
      refine ⟨fun i m σ1 H => ∃ Hs env, m = ds.length - i ∧ i ≤ ds.length ∧ Kp as σ σ1 ∧ OwnS Γ K σ1 env (L ++ G) H Hs ∧ forL g b (ds.drop i) env = some (r, env'), ⟨ds.length, Hs1, e1, by simp, Nat.zero_le _, Kp.rfl', o1, e⟩, ?_⟩
      rintro i m σ1 H ⟨Hs, env, rfl, hi, kp, o, el⟩
      have mL : ∀ p ∈ L, p ∈ L ++ G := fun p hp => List.mem_append_left _ hp
      by_cases hlt : i < ds.length
      · refine .inr ⟨itd.goes i _ _ _ _ _ hlt o mL, _, fun σ' H' nx => ⟨ds.length - (i + 1), by omega, nx⟩, fun x H' y => ?_⟩
        rw [List.drop_eq_getElem_cons hlt] at el
        obtain ⟨d, Hs2, hd, o2⟩ := itd.yields i x _ _ _ _ _ _ hlt o mL y
        have ed : ds[i] = d := by
          rw [List.getElem?_eq_getElem hlt] at hd
          exact Option.some.inj hd
        rw [ed] at el
        unfold forL at el
        cases q3 : gset g (.sh d) env with
        | none => rw [q3] at el; cases el
        | some e3 =>
          rw [q3] at el
          refine ⟨Hs2, env, _, .sh d, e3, o2, q3, fun σ2 H2 Hs3 kp2 o3 => hb _ _ _ ?_⟩
          dsimp only at el
          cases q4 : b e3 with
          | none => rw [q4] at el; cases el
          | some p4 =>
            obtain ⟨r4, e4⟩ := p4
            rw [q4] at el
            refine ⟨Hs3, e3, L ++ G, r4, e4, o3, q4, ?_⟩
            cases r4 with
            | nx => exact fun σ3 H3 Hs4 kp3 o4 => ⟨Hs4, e4, rfl, hlt, (kp.tr kp2).tr kp3, o4, el⟩
            | ct => exact fun σ3 H3 Hs4 kp3 o4 => ⟨Hs4, e4, rfl, hlt, (kp.tr kp2).tr kp3, o4, el⟩
            | bk =>
              cases el
              exact fun σ3 H3 Hs4 kp3 o4 => k σ3 H3 Hs4 ((kp.tr kp2).tr kp3) o4.dropR
            | ret t =>
              cases el
              exact (k.kp (kp.tr kp2)).weak
            | exc c ds =>
              cases el
              exact (k.kp (kp.tr kp2)).weak
      · have ei : i = ds.length := by omega
        subst ei
        rw [List.drop_length] at el
        simp only [forL] at el
        cases el
        exact .inl ⟨itd.stops _ _ _ _ _ o mL, k σ1 H Hs kp o.dropR⟩
/-! ### while -/
theorem s_whl {t : CT} {b : MS} {tb : TS} {n : Nat} (hb : ∀ D σ H, sRd Γ K W as b D σ H → tb D σ H) (h : sRd Γ K W as (whlL (evT C t) b n) D σ H) : tWhile (tT Γ K W (evT C t)) tb D σ H := by
  obtain ⟨Hs, env, G, r, env', o, e, k⟩ := h
  refine ⟨fun m σ1 H => ∃ Hs env, Kp as σ σ1 ∧ OwnS Γ K σ1 env G H Hs ∧ whlL (evT C t) b m env = some (r, env'), ⟨n, Hs, env, Kp.rfl', o, e⟩, ?_⟩
  rintro m σ1 H ⟨Hs, env, kp, o, el⟩
  cases m with
  | zero => simp only [whlL] at el; cases el
  | succ m =>
    unfold whlL at el
    cases q : evT C t env with
    | none => rw [q] at el; cases el
    | some p =>
      obtain ⟨r1, e1⟩ := p
      rw [q] at el
      refine ⟨Hs, env, G, r1, e1, o, q, ?_⟩
      cases r1 with
      | exc c ds =>
        cases el
        exact fun H1 Hs1 d x => k σ1 H1 Hs1 d kp x
      | ok bb =>
        intro H1 Hs1 v sb o1
        have sb : v = bb := sb
        subst sb
        cases v with
        | false =>
          cases el
          rw [if_neg Bool.false_ne_true]
          exact k σ1 H1 Hs1 kp o1
        | true =>
          rw [if_pos rfl]
          refine ⟨_, fun σ' H' nx => ⟨m, Nat.lt_succ_self m, nx⟩, hb _ _ _ ?_⟩
          dsimp only at el
          cases q4 : b e1 with
          | none => rw [q4] at el; cases el
          | some p4 =>
            obtain ⟨r4, e4⟩ := p4
            rw [q4] at el
            refine ⟨Hs1, e1, G, r4, e4, o1, q4, ?_⟩
            cases r4 with
            | nx => exact fun σ3 H3 Hs4 kp3 o4 => ⟨Hs4, e4, kp.tr kp3, o4, el⟩
            | ct => exact fun σ3 H3 Hs4 kp3 o4 => ⟨Hs4, e4, kp.tr kp3, o4, el⟩
            | bk =>
              cases el
              exact fun σ3 H3 Hs4 kp3 o4 => k σ3 H3 Hs4 (kp.tr kp3) o4
            | ret t =>
              cases el
              exact k.kp kp
            | exc c ds =>
              cases el
              exact k.kp kp
end
end BC
set_option Elab.async false
set_option linter.all false
set_option maxRecDepth 100000
set_option maxHeartbeats 8000000
/-! Core: statements against their rules. -/
namespace BC
open PySem PySem.Spec PyProof.Rows L2
theorem swap_no {e : Expr} {t : Option Expr} {l : Nat} {env : PySem.Env} (h : noComp e = true) : swapsWith e t l env = pure false := by
  cases e <;> first | rfl | cases h
theorem swap_att {e o : Expr} {f : Str} {p : Pos} {l : Nat} {env : PySem.Env} : swapsWith e (some (.Attribute o f p)) l env = pure false := by
  cases e <;> rfl
theorem swap_sub {e o i : Expr} {p : Pos} {l : Nat} {env : PySem.Env} : swapsWith e (some (.Subscript o i p)) l env = pure false := by
  cases e <;> rfl
theorem stores_no {t e : Expr} {env : PySem.Env} (h : noTupE e = true) : swappedStores [t] e env = pure none := by
  unfold swappedStores
  cases t <;> cases e <;> first | rfl | cases h
section
variable {Γ : Gm} {C : Ctx} {CXt : CXT} {W : WX} {D : Ends} {σ : St} {H : Hp} {X : Cx} {A : AgC}
variable {x y z e o : Expr} {pos p ap cp : Pos}
theorem pss_of {ss : List Stmt} {m : MS} {as : List Nat} (h : PSs X ss (sRd Γ X.K W as m)) : PSs X ss (sRd Γ X.K W as m) := h
/-- the tree of a slot is a list: its value -/
theorem OwnS.slotL {K : PySem.W.Frag} {env : En} {G : List VT} {Hs : Hp} {i : Nat} {ts : List T} (w : OwnS Γ K σ env G H Hs) (e : env[i]? = some (.ow .lst ts)) :
    ∃ a vs, σ[i]? = some (some (.ref a)) ∧ H a = some (.lst vs) ∧ vs.length = ts.length ∧ OwnS Γ K σ (env.set i .un) ((.ref a, .ce (.lst vs)) :: (vs.zip ts ++ G)) H Hs := by
  rcases w.asg i _ e with z | ⟨v, sv⟩
  · cases z
  · obtain ⟨a, vs, ob, rfl, ha, w0, l, o1⟩ := (w.take e sv).open_
    have w0 : ob = .lst vs := w0
    subst w0
    exact ⟨a, vs, sv, ha, l, o1⟩
theorem OwnS.slotPut {K : PySem.W.Frag} {env : En} {G : List VT} {Hs : Hp} {i : Nat} {a : Addr} {ob : HO} {k : Kd} {vs : List V} {ts : List T} (sv : σ[i]? = some (some (.ref a))) (w0 : OwO Γ ob k vs) (l : vs.length = ts.length)
    (w : OwnS Γ K σ (env.set i .un) ((.ref a, .ce ob) :: (vs.zip ts ++ G)) H Hs) : OwnS Γ K σ (env.set i (.ow k ts)) G H Hs := by
  have o := (w.close w0 l).put sv
  rwa [List.set_set] at o
/-- what stands at a guarded slot -/
theorem sRt.gd {K : PySem.W.Frag} {as : List Nat} {i : Nat} {m : MS} {tmp : List VT} (h : sRt Γ K W as tmp (gdS i m) D σ H) : sRt Γ K W as tmp m D σ H ∧ ∃ a vs, σ[i]? = some (some (.ref a)) ∧ H a = some (.lst vs) := by
  obtain ⟨Hs, env, G, r, env', w, e, k⟩ := h
  unfold gdS at e
  split at e
  · rename_i ts q
    obtain ⟨a, vs, sv, ha, _, _⟩ := w.slotL q
    exact ⟨⟨Hs, env, G, r, env', w, e, k⟩, a, vs, sv, ha⟩
  · cases e
theorem x_app {i : Nat} {c : CE} (S : SX X Γ A C W CXt) (hv : varB A X.env.scope i o = true) (hs : noSup o = true) (hx : noStar x = true) (hl : lineOk ap cp = true) (hc : PE X x (tE Γ X.K W (evE C c))) :
    PS X (.Expr (.Call (.Attribute o "append" ap) [x] [] cp) pos) (sRd Γ X.K W A.asn (evS C (.app i c))) := by
  refine ps_mono (ps_expr (pe_bm PySem.F.plainAttrs_list PySem.F.slot_list_append PySem.F.type_list_append mt_append (pe_slot S hv) (pa_one hx hc) (sup_of hs) (by rw [star_of hx]; rfl) hl (star_of hx) rfl) rfl) fun D σ H h => ?_
  simp only [evS] at h
  obtain ⟨h, a, vs, sv, ha⟩ := h.gd
  refine ⟨.ref a, sv, .inl ⟨rfl, vs, SqL.of ha⟩, ?_⟩
  refine (sRt.bind (ent := entT) (side := noSide) h).mono fun v H1 hq => ?_
  obtain ⟨t, -, q⟩ := hq
  obtain ⟨Hs, env, G, env', w, e, k⟩ := q.up
  clear q
  split at e
  · rename_i ts q1
    split at e
    · rename_i hz
      cases e
      have w : OwnS Γ X.K σ env ((v, t) :: G) H1 Hs := w
      obtain ⟨a', vs', sv', ha', l, o1⟩ := w.slotL q1
      rw [sv] at sv'
      cases sv'
      refine ⟨a, vs', v, rfl, rfl, ha', by rw [l]; exact hz, ?_⟩
      refine k _ _ Hs Kp.rfl' (OwnS.slotPut (vs := vs' ++ [v]) sv (by exact rfl) (by simp [l]) ?_)
      have o2 := o1.write (.lst (vs' ++ [v]))
      rw [List.zip_append l]
      refine o2.perm (.cons _ ?_)
      simp
    · cases e
  · cases e
theorem reps_sh_own {K : PySem.W.Frag} {env : En} {G : List VT} {Hs : Hp} {vs : List V} {ds : List BC.D} (r : Reps Γ K Hs vs ds) (w : OwnS Γ K σ env G H Hs) : OwnS Γ K σ env (vs.zip (ds.map T.sh) ++ G) H Hs := OwnS.addShs r w
theorem x_ext {i : Nat} {c : CO} (S : SX X Γ A C W CXt) (hv : varB A X.env.scope i o = true) (hs : noSup o = true) (hx : noStar x = true) (hl : lineOk ap cp = true) (hc : PE X x (tO Γ X.K W (evO C c))) :
    PS X (.Expr (.Call (.Attribute o "extend" ap) [x] [] cp) pos) (sRd Γ X.K W A.asn (evS C (.ext i c))) := by
  refine ps_mono (ps_expr (pe_bm PySem.F.plainAttrs_list PySem.F.slot_list_extend PySem.F.type_list_extend mt_extend (pe_slot S hv) (pa_one hx hc) (sup_of hs) (by rw [star_of hx]; rfl) hl (star_of hx) rfl) rfl) fun D σ H h => ?_
  simp only [evS] at h
  obtain ⟨h, a, vs, sv, ha⟩ := h.gd
  refine ⟨.ref a, sv, .inl ⟨rfl, vs, SqL.of ha⟩, ?_⟩
  refine (sRt.bind (ent := entO) (side := sideO) h).mono fun v H1 ⟨ov, so, q⟩ => ?_
  obtain ⟨Hs, env, G, env', w, e, k⟩ := q.up
  clear q
  split at e
  · rename_i ts ds q1 q2
    split at e
    · rename_i hz
      cases e
      obtain ⟨b, ws, rfl, h1, h2⟩ := w.ovSd so (fun p hp => by simp [hp]) q2
      have h1 : H1 b = some (.lst ws) := h1
      have w : OwnS Γ X.K σ env G H1 Hs := OwnS.dropR w
      obtain ⟨a', vs', sv', ha', l, o1⟩ := w.slotL q1
      rw [sv] at sv'
      cases sv'
      refine ⟨a, b, vs', ws, rfl, rfl, ha', h1, by rw [l, h2.length]; exact hz, ?_⟩
      refine k _ _ Hs Kp.rfl' (OwnS.slotPut (vs := vs' ++ ws) sv (by exact rfl) (by simp [l, h2.length]) ?_)
      have o2 := OwnS.addShs h2 (o1.write (.lst (vs' ++ ws)))
      rw [List.zip_append l]
      refine o2.perm ?_
      refine List.perm_middle.trans (.cons _ ?_)
      rw [← List.append_assoc, List.append_assoc]
      rw [List.append_assoc]
      have p1 : (ws.zip (List.map T.sh ds) ++ (vs'.zip ts ++ G)).Perm (vs'.zip ts ++ (ws.zip (List.map T.sh ds) ++ G)) := by
        rw [← List.append_assoc, ← List.append_assoc]
        exact List.perm_append_comm.append_right _
      exact p1
    · cases e
  · cases e
theorem x_rvs {i : Nat} (S : SX X Γ A C W CXt) (hv : varB A X.env.scope i o = true) (hs : noSup o = true) (hl : lineOk ap cp = true) :
    PS X (.Expr (.Call (.Attribute o "reverse" ap) [] [] cp) pos) (sRd Γ X.K W A.asn (evS C (.rvs i))) := by
  refine ps_mono (ps_expr (pe_bm0 PySem.F.plainAttrs_list PySem.F.slot_list_reverse PySem.F.type_list_reverse mt_reverse (pe_slot S hv) (sup_of hs) hl) rfl) fun D σ H h => ?_
  simp only [evS] at h
  obtain ⟨Hs, env, G, env', w, e, k⟩ := h.up
  split at e
  · rename_i ts q1
    cases e
    have w : OwnS Γ X.K σ env G H Hs := w
    obtain ⟨a, vs, sv, ha, l, o1⟩ := w.slotL q1
    refine ⟨.ref a, sv, .inl ⟨rfl, vs, SqL.of ha⟩, a, vs, rfl, rfl, ha, ?_⟩
    refine k _ _ Hs Kp.rfl' (OwnS.slotPut (vs := vs.reverse) sv (by exact rfl) (by simp [l]) ?_)
    have o2 := o1.write (.lst vs.reverse)
    have ez : (vs.zip ts).reverse = vs.reverse.zip ts.reverse := by unfold List.zip; exact List.reverse_zipWith l
    rw [← ez]
    refine o2.perm (.cons _ (List.Perm.append_right _ (List.reverse_perm _).symm))
  · cases e
theorem x_ins {i : Nat} {kc c : CE} (S : SX X Γ A C W CXt) (hv : varB A X.env.scope i o = true) (hs : noSup o = true) (hx : noStar x = true) (hy : noStar y = true) (hl : lineOk ap cp = true) (hk : PE X x (tE Γ X.K W (evE C kc))) (hc : PE X y (tE Γ X.K W (evE C c))) :
    PS X (.Expr (.Call (.Attribute o "insert" ap) [x, y] [] cp) pos) (sRd Γ X.K W A.asn (evS C (.ins i kc c))) := by
  refine ps_mono (ps_expr (pe_bm PySem.F.plainAttrs_list PySem.F.slot_list_insert PySem.F.type_list_insert mt_insert (pe_slot S hv) (pa_two hx hy hk hc) (sup_of hs) (by rw [star_of hx, star_of hy]; rfl) hl (star_of hx) (pl_two hy)) rfl) fun D σ H h => ?_
  simp only [evS] at h
  obtain ⟨h, a, vs, sv, ha⟩ := h.gd
  refine ⟨.ref a, sv, .inl ⟨rfl, vs, SqL.of ha⟩, ?_⟩
  refine (sRt.bind (ent := entT) (side := noSide) h).mono fun u H1 hq => ?_
  obtain ⟨kt, -, q⟩ := hq
  refine (sRt.bind (ent := entT) (side := noSide) q).mono fun v H2 hq => ?_
  obtain ⟨t, -, q⟩ := hq
  obtain ⟨Hs, env, G, env', w, e, k⟩ := q.up
  clear q
  split at e
  · rename_i ts j q1
    split at e
    · rename_i hz
      cases e
      have w : OwnS Γ X.K σ env ((v, t) :: (u, .sh (.int j)) :: G) H2 Hs := w
      have ru := w.drop.rep
      cases ru
      have w := w.swap.drop
      obtain ⟨a', vs', sv', ha', l, o1⟩ := w.slotL q1
      rw [sv] at sv'
      cases sv'
      refine ⟨a, vs', j, v, rfl, rfl, ha', by rw [l]; exact hz.1, hz.2.1, hz.2.2, ?_⟩
      refine k _ _ Hs Kp.rfl' (OwnS.slotPut (vs := vs'.take j.toNat ++ [v] ++ vs'.drop j.toNat) sv (by exact rfl) (by simp [l]) ?_)
      have o2 := o1.write (.lst (vs'.take j.toNat ++ [v] ++ vs'.drop j.toNat))
      have l1 : (vs'.take j.toNat).length = (ts.take j.toNat).length := by simp [l]
      have e1 : vs'.zip ts = (vs'.take j.toNat).zip (ts.take j.toNat) ++ (vs'.drop j.toNat).zip (ts.drop j.toNat) := by
        rw [← List.zip_append l1, List.take_append_drop, List.take_append_drop]
      rw [List.zip_append (by simp [l]), List.zip_append l1]
      rw [e1] at o2
      refine o2.perm (.cons _ ?_)
      have e2 : (vs'.take j.toNat).zip (ts.take j.toNat) ++ (vs'.drop j.toNat).zip (ts.drop j.toNat) ++ (v, t) :: G = ((vs'.take j.toNat).zip (ts.take j.toNat) ++ (vs'.drop j.toNat).zip (ts.drop j.toNat)) ++ [(v, t)] ++ G := by simp
      rw [e2]
      refine List.Perm.append_right G ?_
      rw [List.append_assoc, List.append_assoc]
      exact List.Perm.append_left _ List.perm_append_comm
    · cases e
  · cases e
def tSub (tv to ti : TE) (t : TSet) : TS := fun D σ H => tv σ H fun v H1 => to σ H1 fun o H2 => ti σ H2 fun i H3 => t o i v H3 fun H4 => D.nx σ H4
theorem ps_sub {tv to ti : TE} {t : TSet} {p2 : Pos} (hv : PE X y tv) (ho : PE X o to) (hi : PE X x ti) (hs : PSet X t) : PS X (.Assign [.Subscript o x p2] y pos) (tSub tv to ti t) := by
  refine ⟨fun pins s σ H D I h => ?_⟩
  refine wpAny_Assign_Subscript (thn (hv.run pins s σ H _ I h) fun r s1 ⟨v, H1, I1, rv, q1⟩ => thn (ho.run pins s1 σ H1 _ I1 q1) fun u s2 ⟨x, H2, I2, rx, q2⟩ => thn (hi.run pins s2 σ H2 _ I2 q2) fun iv s3 ⟨y, H3, I3, ry, q3⟩ => ?_) swap_sub
  exact thn (hs pins s3 σ H3 x y v u iv r _ I3 rx ry rv q3) fun _ s4 ⟨H4, I4, q4⟩ => ⟨σ, H4, I4, q4⟩
theorem sRt.gdt {K : PySem.W.Frag} {as : List Nat} {i : Nat} {m : MS} {tmp : List VT} (h : sRt Γ K W as tmp (gdT i m) D σ H) : sRt Γ K W as tmp m D σ H ∧ ∃ v, σ[i]? = some (some v) := by
  obtain ⟨Hs, env, G, r, env', w, e, k⟩ := h
  unfold gdT at e
  split at e
  · rename_i kk ts q
    rcases w.asg i _ q with z | ⟨v, sv⟩
    · cases z
    · exact ⟨⟨Hs, env, G, r, env', w, e, k⟩, v, sv⟩
  · cases e
theorem zip_set {vs : List V} {ts : List T} {n : Nat} {v : V} {t : T} (l : vs.length = ts.length) (h : n < ts.length) : ∃ L M w u, vs.zip ts = L ++ (w, u) :: M ∧ (vs.set n v).zip (ts.set n t) = L ++ (v, t) :: M := by
  induction ts generalizing vs n with
  | nil => simp at h
  | cons y ts ih =>
    cases vs with
    | nil => simp at l
    | cons x vs =>
      cases n with
      | zero => exact ⟨[], vs.zip ts, x, y, rfl, rfl⟩
      | succ n =>
        obtain ⟨L, M, w, u, h1, h2⟩ := ih (vs := vs) (n := n) (by simpa using l) (by simpa using h)
        refine ⟨(x, y) :: L, M, w, u, ?_, ?_⟩
        · show (x, y) :: vs.zip ts = _
          rw [h1] <;> rfl
        · show (x, y) :: (vs.set n v).zip (ts.set n t) = _
          rw [h2] <;> rfl
theorem ixN_lt {n j : Nat} {i : Int} (h : ixN n i = some j) : j < n := (ixN_seq h).2.1
theorem x_seti {i : Nat} {kc c : CE} {p2 : Pos} (S : SX X Γ A C W CXt) (hv : varB A X.env.scope i o = true) (hk : PE X x (tE Γ X.K W (evE C kc))) (hc : PE X y (tE Γ X.K W (evE C c))) :
    PS X (.Assign [.Subscript o x p2] y pos) (sRd Γ X.K W A.asn (evS C (.seti i kc c))) := by
  refine ps_mono (ps_sub hc (pe_slot S hv) hk set_list) fun D σ H h => ?_
  simp only [evS] at h
  refine (sRt.bind (ent := entT) (side := noSide) h).mono fun v H1 hq => ?_
  obtain ⟨t, -, q⟩ := hq
  obtain ⟨q, u0, sv⟩ := q.gdt
  refine ⟨u0, sv, ?_⟩
  refine (sRt.bind (ent := entT) (side := noSide) q).mono fun u H2 hq => ?_
  obtain ⟨kt, -, q⟩ := hq
  obtain ⟨Hs, env, G, env', w, e, k⟩ := q.up
  clear q
  split at e
  · rename_i ts j q1
    split at e
    · rename_i n hn
      cases e
      have w : OwnS Γ X.K σ env ((u, .sh (.int j)) :: (v, t) :: G) H2 Hs := w
      have ru := w.rep
      cases ru
      have w := w.drop
      obtain ⟨a, vs, sv', ha, l, o1⟩ := w.slotL q1
      rw [sv] at sv'
      cases sv'
      refine ⟨a, vs, j, n, rfl, rfl, ha, by rw [l]; exact hn, ?_⟩
      refine k _ _ Hs Kp.rfl' (OwnS.slotPut (vs := vs.set n v) sv (by exact rfl) (by simp [l]) ?_)
      obtain ⟨L, M, w1, u1, z1, z2⟩ := zip_set (v := v) (t := t) l (ixN_lt hn)
      have o2 := o1.write (.lst (vs.set n v))
      rw [z2]
      rw [z1] at o2
      have o3 : OwnS Γ X.K σ (env.set i .un) ((w1, u1) :: ((.ref a, .ce (.lst (vs.set n v))) :: (L ++ (v, t) :: M ++ G))) (upd H2 a (.lst (vs.set n v))) Hs := by
        refine o2.perm ?_
        refine List.Perm.trans ?_ (List.Perm.swap _ _ _)
        refine .cons _ ?_
        have e1 : L ++ (w1, u1) :: M ++ (v, t) :: G = L ++ (w1, u1) :: (M ++ (v, t) :: G) := by simp
        have e2 : L ++ (v, t) :: M ++ G = L ++ (v, t) :: (M ++ G) := by simp
        rw [e1, e2]
        refine List.perm_middle.trans (.cons _ ?_)
        refine List.Perm.append_left L ?_
        exact List.perm_middle
      exact o3.drop
    · cases e
  · cases e
theorem x_setd {i : Nat} {kc c : CE} {p2 : Pos} (S : SX X Γ A C W CXt) (hv : varB A X.env.scope i o = true) (hk : PE X x (tE Γ X.K W (evE C kc))) (hc : PE X y (tE Γ X.K W (evE C c))) :
    PS X (.Assign [.Subscript o x p2] y pos) (sRd Γ X.K W A.asn (evS C (.setd i kc c))) := by
  refine ps_mono (ps_dput (by have := S.hu; omega) (pe_slot S hv) hk hc swap_sub) fun D σ H h => ?_
  simp only [evS] at h
  refine (sRt.bind (ent := entT) (side := noSide) h).mono fun v H1 hq => ?_
  obtain ⟨t, -, q⟩ := hq
  obtain ⟨q, u0, sv⟩ := q.gdt
  refine ⟨u0, sv, ?_⟩
  refine (sRt.bind (ent := entT) (side := noSide) q).mono fun u H2 hq => ?_
  obtain ⟨kt, -, q⟩ := hq
  obtain ⟨Hs, env, G, env', w, e, k⟩ := q.up
  clear q
  split at e
  · rename_i ks ts d q1
    split at e
    · rename_i key hk
      split at e
      · rename_i hz
        cases e
        have w : OwnS Γ X.K σ env ((u, .sh d) :: (v, t) :: G) H2 Hs := w
        have eu := key_rep w.rep hk
        subst eu
        have w := w.drop
        obtain ⟨a, vs, ob, ea, ha, w0, l, o1⟩ := (w.take q1 sv).open_
        subst ea
        obtain ⟨l0, w0⟩ := w0
        subst w0
        refine ⟨a, _, rfl, .inl ⟨_, key, ha, rfl, by rw [List.length_zip]; have := hz.1; omega, rfl⟩, ?_⟩
        have o2 := o1.write (.dK (putK (ks.zip vs) key v))
        obtain ⟨g1, g2, _, _⟩ := putK_zip (k := key) (v := v) l0 hz.2
        have o10 : OwnS Γ X.K σ (env.set i .un) ((v, t) :: (vs.zip ts ++ ((.ref a, .ce (.dK (putK (ks.zip vs) key v))) :: G))) (upd H2 a (.dK (putK (ks.zip vs) key v))) Hs := by
          refine o2.perm ?_
          have p1 : (vs.zip ts ++ (v, t) :: G).Perm ((v, t) :: (vs.zip ts ++ G)) := List.perm_middle
          refine (p1.cons _).trans ((List.Perm.swap _ _ _).trans ?_)
          exact (List.perm_middle (l₁ := vs.zip ts)).symm.cons _
        obtain ⟨o11, l11, e11⟩ := putL_own (k := key) l0 l o10
        have o12 := o11.unmid
        refine k _ _ Hs Kp.rfl' ?_
        have o13 := (o12.close (k := .dk (putL ks ts key t).1) ⟨by rw [← e11]; exact g2, by rw [g1, e11]⟩ l11).put sv
        rw [List.set_set] at o13
        exact o13
      · cases e
    · cases e
  · rename_i ks ts d q1
    split at e
    · rename_i key hk
      split at e
      · rename_i hz
        cases e
        have w : OwnS Γ X.K σ env ((u, .sh d) :: (v, t) :: G) H2 Hs := w
        obtain ⟨b, eb, hb⟩ := keyT_rep (Rep.le w.le _ _ w.rep) hk
        subst eb
        have w := w.drop
        obtain ⟨a, vs, ob, ea, ha, w0, l, o1⟩ := (w.take q1 sv).open_
        subst ea
        obtain ⟨l0, w0⟩ := w0
        subst w0
        refine ⟨a, _, rfl, .inr ⟨_, key, b, ha, rfl, hb, by rw [List.length_zip]; have := hz.1; omega, rfl⟩, ?_⟩
        have o2 := o1.write (.dT (putK (ks.zip vs) key v))
        obtain ⟨g1, g2, _, _⟩ := putK_zip (k := key) (v := v) l0 hz.2
        have o10 : OwnS Γ X.K σ (env.set i .un) ((v, t) :: (vs.zip ts ++ ((.ref a, .ce (.dT (putK (ks.zip vs) key v))) :: G))) (upd H2 a (.dT (putK (ks.zip vs) key v))) Hs := by
          refine o2.perm ?_
          have p1 : (vs.zip ts ++ (v, t) :: G).Perm ((v, t) :: (vs.zip ts ++ G)) := List.perm_middle
          refine (p1.cons _).trans ((List.Perm.swap _ _ _).trans ?_)
          exact (List.perm_middle (l₁ := vs.zip ts)).symm.cons _
        obtain ⟨o11, l11, e11⟩ := putL_own (k := key) l0 l o10
        have o12 := o11.unmid
        refine k _ _ Hs Kp.rfl' ?_
        have o13 := (o12.close (k := .dt (putL ks ts key t).1) ⟨by rw [← e11]; exact g2, by rw [g1, e11]⟩ l11).put sv
        rw [List.set_set] at o13
        exact o13
      · cases e
    · cases e
  · cases e
end
end BC
set_option Elab.async false
set_option linter.all false
set_option maxRecDepth 100000
set_option maxHeartbeats 8000000
/-! Core: assignments; every statement that agrees with a term is served by its reading. -/
namespace L2
open PySem PySem.Spec PyProof.Rows
section
variable {X : Cx}
/-- name = {k: v for ..} on one line, the name a local (as ps_setLc) -/
theorem ps_setDc {i : Nat} {y : Str} {py : Pos} {kx vx tg iter : Expr} {ifs : List Expr} {scope : Scope} {own : List (Str × Nat)} {pos spos : Pos} {wi : TI} {g : TG} {tt : TT} {tk tv : TE} (hc : X.calm = true) (hN : X.N.Nodup) (hy : X.N[i]? = some y) (hyl : X.env.scope.names.lookup y = some .local)
    (hsw : swapsWith (.DictComp kx vx [⟨tg, iter, ifs, 0⟩] scope pos) (some (.Name y py)) spos.line X.env = pure true) (hi : PI X tg iter wi) (ok : BlkOk X.N X.env.scope scope own)
    (hg : ∀ (s : Shared) (H : Hp) (C : Addr) (cl : List (Str × Addr)) (fp : List Addr), PG (X.blk s H scope (compEnvC scope cl C X.env) fp) tg g) (ht : ∀ (s : Shared) (H : Hp) (C : Addr) (cl : List (Str × Addr)) (fp : List Addr), PTs (X.blk s H scope (compEnvC scope cl C X.env) fp) ifs tt)
    (hk : ∀ (s : Shared) (H : Hp) (C : Addr) (cl : List (Str × Addr)) (fp : List Addr), PE (X.blk s H scope (compEnvC scope cl C X.env) fp) kx tk)
    (he : ∀ (s : Shared) (H : Hp) (C : Addr) (cl : List (Str × Addr)) (fp : List Addr), PE (X.blk s H scope (compEnvC scope cl C X.env) fp) vx tv) (hs : ∀ x, foldedSetIterable iter X.env x = pure x := by intro _; rfl) :
    PS X (.Assign [.Name y py] (.DictComp kx vx [⟨tg, iter, ifs, 0⟩] scope pos) spos) (tAsg (tDc wi g tt tk tv (own.map (·.2))) (gName i)) := by
  refine ⟨fun pins s σ H D I h => ?_⟩
  rw [exec_Assign_Name_used _ _ _ _ hsw]
  refine wpAny_bind (wpAny_standAt (wpAny_bind ?_))
  show wpAny _ X.A (do let _ ← comprehension (.DictComp kx vx [⟨tg, iter, ifs, 0⟩] scope pos) scope X.env (firstIterPos [⟨tg, iter, ifs, 0⟩] pos) newDict false (eval iter X.env) (some (assign (.Name y py) X.env))) _ _ s
  have h : tDc wi g tt tk tv (own.map (·.2)) σ H (fun x H1 => gName i x σ H1 D.nx) := h
  refine wpAny_bind (thn (dc_core (Qf := fun _ s' => SP X pins D .next s') hc hN I hi ok hg ht hk he hs h fun L C s' m H' I' q hn f => ?_) fun _ s' hq => wpAny_pure (wpAny_pure hq))
  show wpAny _ _ (assign (.Name y py) X.env (.ref L)) _ _ _
  refine wpAny_assign_Name (store_ok2 (v := V.ref L) I' hN hy (.inl hyl) rfl (fun s2 I2 ⟨a, sb, ha⟩ => ?_) (.inr hyl))
  obtain ⟨f0, f1, f2, f3, f4, f5⟩ := f
  have haC : C ≠ a := by
    rcases ha with z | z
    · rw [z]; exact f1
    · exact fun e => f4 y a z e.symm
  refine ⟨m, hn.sameBut sb haC, fun h3 sb3 => ?_⟩
  exact ⟨_, H', I2.turned (t' := s2.toks) (fun b o hb e => (sb3.2 b hb).trans e) f0 f1 f3 f4 f5, q⟩
theorem sw_trueD {kx elt : Expr} {gs : List Comprehension} {scope : Scope} {pos py : Pos} {y : Str} {l : Nat} {env : Env} (hk : env.scope.kind = .function) (hy : env.scope.names.lookup y = some .local) (hl : (py.line == pos.line) = true)
    (ha : (scope.names.any fun (n, k) => n == y && (k == .local || k == .cell)) = false) : swapsWith (.DictComp kx elt gs scope pos) (some (.Name y py)) l env = pure true := by
  have ky : env.kindOf y = some .local := hy
  have hb : env.blockKind = .function := by unfold Env.blockKind; rw [hk]; rfl
  unfold swapsWith
  simp only [hb, ky, ha, Expr.pos, hl]
  rfl
end
end L2
namespace BC
open PySem PySem.Spec PyProof.Rows L2
theorem putF_zip {fs : List Str} {vs : List V} {j : Nat} {f : Str} {y : V} (nd : fs.Nodup) (e : fs[j]? = some f) : (j < vs.length → putF f y (fs.zip vs) = fs.zip (vs.set j y)) ∧ (j = vs.length → putF f y (fs.zip vs) = fs.zip (vs ++ [y])) := by
  induction fs generalizing vs j with
  | nil => simp at e
  | cons g fs ih =>
    obtain ⟨n1, n2⟩ := List.nodup_cons.mp nd
    cases vs with
    | nil =>
      refine ⟨fun h => absurd h (by simp), fun h => ?_⟩
      have h : j = 0 := h
      subst h
      simp at e
      subst e
      simp [putF]
    | cons x vs =>
      cases j with
      | zero =>
        simp at e
        subst e
        refine ⟨fun _ => ?_, fun h => absurd h (by simp)⟩
        show putF g y ((g, x) :: fs.zip vs) = (g, y) :: fs.zip vs
        unfold putF
        rw [if_pos rfl]
      | succ j =>
        have e2 : fs[j]? = some f := by simpa using e
        have ne : ¬ g = f := fun z => n1 (by rw [z]; exact List.mem_of_getElem? e2)
        obtain ⟨i1, i2⟩ := ih (vs := vs) n2 e2
        have e3 : ∀ r, putF f y ((g, x) :: r) = (g, x) :: putF f y r := fun r => by
          show (if g = f then _ else _) = _
          rw [if_neg ne]
        refine ⟨fun h => ?_, fun h => ?_⟩
        · show putF f y ((g, x) :: fs.zip vs) = (g, x) :: fs.zip (vs.set j y)
          rw [e3, i1 (by simpa using h)]
        · show putF f y ((g, x) :: fs.zip vs) = (g, x) :: fs.zip (vs ++ [y])
          rw [e3, i2 (by simpa using h)]
section
variable {Γ : Gm} {C : Ctx} {CXt : CXT} {W : WX} {D : Ends} {σ : St} {H : Hp} {X : Cx} {A : AgC}
variable {x y z e o : Expr} {pos p ap cp : Pos}
theorem x_setf {i cc j : Nat} {f : Str} {c : CE} {p2 : Pos} (S : SX X Γ A C W CXt) (hv : varB A X.env.scope i o = true) (hf : (A.fl cc)[j]? = some f) (hc : PE X y (tE Γ X.K W (evE C c))) :
    PS X (.Assign [.Attribute o f p2] y pos) (sRd Γ X.K W A.asn (evS C (.setf i cc j c))) := by
  have hf' : (Γ.fl cc)[j]? = some f := by rw [S.hfl]; exact hf
  have ck := S.cls cc fun z => by rw [z] at hf'; simp at hf'
  refine ps_mono (ps_fld (pe_slot S hv) hc swap_att) fun D σ H h => ?_
  simp only [evS] at h
  refine (sRt.bind (ent := entT) (side := noSide) h).mono fun v H1 hq => ?_
  obtain ⟨t, -, q⟩ := hq
  obtain ⟨Hs, env, G, env', w, e, k⟩ := q.up
  clear q
  unfold setF at e
  split at e
  · rename_i c' ts q1
    have w : OwnS Γ X.K σ env ((v, t) :: G) H1 Hs := w
    rcases w.asg i _ q1 with zz | ⟨u, sv⟩
    · cases zz
    · obtain ⟨a, vs, ob, ea, ha, w0, l, o1⟩ := (w.take q1 sv).open_
      subst ea
      obtain ⟨l0, dx, w0⟩ := w0
      subst w0
      refine ⟨.ref a, sv, ?_⟩
      have lf : j < (Γ.fl cc).length := (List.getElem?_eq_some_iff.mp hf').1
      split at e
      · rename_i hz
        obtain ⟨hz1, hz2⟩ := hz
        subst hz1
        cases e
        have e1 := (putF_zip (vs := vs) (y := v) ck.nd hf').1 (by rw [l]; exact hz2)
        refine ⟨a, _, dx, _, rfl, ha, ck.cl, ck.no f (List.mem_of_getElem? hf'), by rw [List.length_zip]; have := ck.few; omega, ?_⟩
        rw [e1]
        obtain ⟨L, M, w1, u1, z1, z2⟩ := zip_set (v := v) (t := t) l hz2
        have o2 := o1.write (.ins (Γ.cad c') dx ((Γ.fl c').zip (vs.set j v)))
        rw [z1] at o2
        have o3 : OwnS Γ X.K σ (env.set i .un) ((w1, u1) :: ((.ref a, .ce (.ins (Γ.cad c') dx ((Γ.fl c').zip (vs.set j v)))) :: (L ++ (v, t) :: M ++ G))) (upd H1 a (.ins (Γ.cad c') dx ((Γ.fl c').zip (vs.set j v)))) Hs := by
          refine o2.perm ?_
          refine List.Perm.trans ?_ (List.Perm.swap _ _ _)
          refine .cons _ ?_
          have e1 : L ++ (w1, u1) :: M ++ (v, t) :: G = L ++ (w1, u1) :: (M ++ (v, t) :: G) := by simp
          have e2 : L ++ (v, t) :: M ++ G = L ++ (v, t) :: (M ++ G) := by simp
          rw [e1, e2]
          refine List.perm_middle.trans (.cons _ ?_)
          refine List.Perm.append_left L ?_
          exact List.perm_middle
        have o4 := o3.drop
        rw [← z2] at o4
        exact k _ _ Hs Kp.rfl' (OwnS.slotPut (k := .ins c') sv ⟨by rw [List.length_set]; exact l0, dx, rfl⟩ (by simp [l]) o4)
      · split at e
        · rename_i hz
          obtain ⟨hz1, hz2⟩ := hz
          subst hz1
          cases e
          have e1 := (putF_zip (vs := vs) (y := v) ck.nd hf').2 (by rw [l]; exact hz2)
          refine ⟨a, _, dx, _, rfl, ha, ck.cl, ck.no f (List.mem_of_getElem? hf'), by rw [List.length_zip]; have := ck.few; omega, ?_⟩
          rw [e1]
          have o2 := o1.write (.ins (Γ.cad c') dx ((Γ.fl c').zip (vs ++ [v])))
          refine k _ _ Hs Kp.rfl' (OwnS.slotPut (k := .ins c') (vs := vs ++ [v]) sv ⟨by rw [List.length_append]; simp; omega, dx, rfl⟩ (by simp [l]) ?_)
          rw [List.zip_append l]
          refine o2.perm (.cons _ ?_)
          simp
        · cases e
  · cases e
theorem gRd_nm {K : PySem.W.Frag} {as : List Nat} {i : Nat} {v : V} {Q : St → Hp → Prop} (hi : i ∈ as) (h : gRd Γ K as (.nm i) v σ H Q) : gName i v σ H Q := by
  obtain ⟨Hs, env, G, t, env', o, e, k⟩ := h
  simp only [gset] at e
  split at e
  · rename_i hl
    cases e
    exact k _ H Hs (Kp.set hi) (o.assign (by rw [← o.len]; exact hl))
  · cases e
theorem asg_read {K : PySem.W.Frag} {as : List Nat} {g : CG} {c : CE} (h : sRd Γ K W as (evS C (.asg g c)) D σ H) : tAsg (tE Γ K W (evE C c)) (gRd Γ K as g) D σ H := by
  simp only [evS] at h
  refine (sRt.bind (ent := entT) (side := noSide) h).mono fun v H1 hq => ?_
  obtain ⟨t, -, q⟩ := hq
  exact gRd_of q
theorem x_exp {c : CE} (hn : noComp e = true) (hc : PE X e (tE Γ X.K W (evE C c))) : PS X (.Expr e pos) (sRd Γ X.K W A.asn (evS C (.exp c))) := by
  refine ps_mono (ps_expr hc (swap_no hn)) fun D σ H h => ?_
  simp only [evS] at h
  refine (sRt.bind (ent := entT) (side := noSide) h).mono fun v H1 hq => ?_
  obtain ⟨t, -, q⟩ := hq
  obtain ⟨Hs, env, G, env', w, e, k⟩ := q.up
  cases e
  exact k σ H1 Hs Kp.rfl' (OwnS.dropR w)
theorem x_asg (S : SX X Γ A C W CXt) {g : CG} {c : CE} {tg : Expr} (h : agS A X.env.scope (.asg g c) (.Assign [tg] e pos) = true) : PS X (.Assign [tg] e pos) (sRd Γ X.K W A.asn (evS C (.asg g c))) := by
  unfold agS at h
  obtain ⟨h, h3⟩ := an h
  obtain ⟨h1, h2⟩ := an h
  split at h3
  · rename_i hn
    cases tg with
    | Name n py =>
      cases g with
      | nm i =>
        have h1' := h1
        unfold agG at h1'
        obtain ⟨h1', i3⟩ := an h1'
        obtain ⟨i1, i2⟩ := an h1'
        have i1 : A.N[i]? = some n := of_decide_eq_true i1
        have i3 := List.contains_iff_mem.mp i3
        have hx : Loc X.env.scope n ∧ (X.fn n = true ∨ X.env.scope.names.lookup n = some .local) := by
          unfold locB at i2
          split at i2
          · rename_i q; exact ⟨.inl q, .inr q⟩
          · rename_i q; exact ⟨.inr q, .inl (S.fnv i2 n)⟩
          · cases i2
        have hN : X.N[i]? = some n := by rw [S.hN]; exact i1
        split at h3
        · rename_i py' elt tg' iter ifs bs bpos e1 e2
          cases e1
          obtain ⟨h0, h3⟩ := an h3
          unfold swB at h3
          obtain ⟨h3, j3⟩ := an h3
          obtain ⟨j1, j2⟩ := an h3
          have hyl : X.env.scope.names.lookup n = some .local := by
            split at j1
            · assumption
            · cases j1
          cases c with
          | lc own g' it t c =>
            unfold agE at h2
            obtain ⟨h, g6⟩ := an h2
            obtain ⟨h, g5⟩ := an h
            obtain ⟨h, g4⟩ := an h
            obtain ⟨h, g3⟩ := an h
            obtain ⟨g1, g2⟩ := an h
            refine ⟨fun pins s σ H D I q => ?_⟩
            refine (ps_setLc (te := tE Γ X.K W0 (evE C c)) (tt := tT Γ X.K W0 (evTs C t)) (g := gRd Γ X.K own g') (own := ownN A own) S.calm S.nd hN hyl (sw_true I.ok.kind hyl j2 (by simpa using j3)) (pIt it S _ _ g1) (blkOk_by (by rw [S.hN]; exact g3))
              (fun s H C0 cl fp => x_tg (S.blk s H _ _ fp) g' _ g4) (fun s H C0 cl fp => pTs t (S.blk s H _ _ fp) _ g5) (fun s H C0 cl fp => pE c (S.blk s H _ _ fp) _ g6) (set_of g2)).run pins s σ H D I ?_
            have q1 := asg_read q
            unfold tAsg at q1 ⊢
            rw [ownN_snd]
            exact lc_read (q1.mono fun v H1 q2 => gRd_nm i3 q2)
          | fz c => cases h0
          | _ => exact absurd h2 (by unfold agE; exact Bool.false_ne_true)
        · rename_i py' kx elt tg' iter ifs bs bpos e1 e2
          cases e1
          obtain ⟨h0, h3⟩ := an h3
          unfold swB at h3
          obtain ⟨h3, j3⟩ := an h3
          obtain ⟨j1, j2⟩ := an h3
          have hyl : X.env.scope.names.lookup n = some .local := by
            split at j1
            · assumption
            · cases j1
          cases c with
          | dc ty own g' it t kk c =>
            unfold agE at h2
            obtain ⟨h, g8⟩ := an h2
            obtain ⟨h, g7⟩ := an h
            obtain ⟨h, g6⟩ := an h
            obtain ⟨h, g5⟩ := an h
            obtain ⟨h, g4⟩ := an h
            obtain ⟨h, g3⟩ := an h
            obtain ⟨g1, g2⟩ := an h
            refine ⟨fun pins s σ H D I q => ?_⟩
            refine (ps_setDc (tv := tE Γ X.K W0 (evE C c)) (tk := tE Γ X.K W0 (evE C kk)) (tt := tT Γ X.K W0 (evTs C t)) (g := gRd Γ X.K own g') (own := ownN A own) S.calm S.nd hN hyl (sw_trueD I.ok.kind hyl j2 (by simpa using j3)) (pIt it S _ _ g1) (blkOk_by (by rw [S.hN]; exact g3))
              (fun s H C0 cl fp => x_tg (S.blk s H _ _ fp) g' _ g4) (fun s H C0 cl fp => pTs t (S.blk s H _ _ fp) _ g5) (fun s H C0 cl fp => pE kk (S.blk s H _ _ fp) _ g6) (fun s H C0 cl fp => pE c (S.blk s H _ _ fp) _ g7) (set_of g2)).run pins s σ H D I ?_
            have q1 := asg_read q
            unfold tAsg at q1 ⊢
            rw [ownN_snd]
            exact dc_read (q1.mono fun v H1 q2 => gRd_nm i3 q2)
          | fz c => cases h0
          | _ => exact absurd h2 (by unfold agE; exact Bool.false_ne_true)
        · refine ps_mono (ps_set S.nd hN hx.1 (pE c S _ h2) (swap_no h3) hx.2) fun D σ H q => ?_
          exact (asg_read q).mono fun v H1 q2 => gRd_nm i3 q2
      | tp gs => simp [agG] at h1
    | _ => cases hn
  · rename_i hn
    obtain ⟨n1, n2⟩ := an h3
    refine ps_mono (ps_asg (pE c S e h2) (x_tg S g tg h1) (show swapsWith e _ _ _ = _ from swap_no n2) (stores_no n1) ?_) fun D σ H q => asg_read q
    cases g with
    | nm i =>
      cases tg with
      | Name n py => exact absurd rfl hn
      | _ => simp [agG] at h1
    | tp gs =>
      cases tg with
      | Tuple es k p => rfl
      | _ => simp [agG] at h1
end
end BC
set_option Elab.async false
set_option linter.all false
set_option maxRecDepth 100000
set_option maxHeartbeats 8000000
/-! Core: statements on paths. -/
namespace BC
open PySem PySem.Spec PyProof.Rows L2
section
variable {Γ : Gm} {K : PySem.W.Frag} {σ : St} {env : En} {L : List VT} {H Hs : Hp} {a : Addr} {v : V} {t : T} {ts : List T}
theorem OwnS.lstApp (o : OwnS Γ K σ env ((.ref a, .ow .lst ts) :: (v, t) :: L) H Hs) : ∃ vs, H a = some (.lst vs) ∧ vs.length = ts.length ∧ OwnS Γ K σ env ((.ref a, .ow .lst (ts ++ [t])) :: L) (upd H a (.lst (vs ++ [v]))) Hs := by
  obtain ⟨a', vs, ob, ea, ha, w0, l, o1⟩ := o.open_
  cases ea
  have w0 : ob = .lst vs := w0
  subst w0
  refine ⟨vs, ha, l, OwnS.close (vs := vs ++ [v]) (by exact rfl) (by simp [l]) ?_⟩
  have o2 := o1.write (.lst (vs ++ [v]))
  rw [List.zip_append l]
  refine o2.perm (.cons _ ?_)
  simp
theorem OwnS.lstSet {n : Nat} (hn : n < ts.length) (o : OwnS Γ K σ env ((.ref a, .ow .lst ts) :: (v, t) :: L) H Hs) : ∃ vs, H a = some (.lst vs) ∧ vs.length = ts.length ∧ OwnS Γ K σ env ((.ref a, .ow .lst (ts.set n t)) :: L) (upd H a (.lst (vs.set n v))) Hs := by
  obtain ⟨a', vs, ob, ea, ha, w0, l, o1⟩ := o.open_
  cases ea
  have w0 : ob = .lst vs := w0
  subst w0
  refine ⟨vs, ha, l, OwnS.close (vs := vs.set n v) (by exact rfl) (by simp [l]) ?_⟩
  obtain ⟨M, N, w1, u1, z1, z2⟩ := zip_set (v := v) (t := t) l hn
  have o2 := o1.write (.lst (vs.set n v))
  rw [z2]
  rw [z1] at o2
  have o3 : OwnS Γ K σ env ((w1, u1) :: ((.ref a, .ce (.lst (vs.set n v))) :: (M ++ (v, t) :: N ++ L))) (upd H a (.lst (vs.set n v))) Hs := by
    refine o2.perm ?_
    refine List.Perm.trans ?_ (List.Perm.swap _ _ _)
    refine .cons _ ?_
    have e1 : M ++ (w1, u1) :: N ++ (v, t) :: L = M ++ (w1, u1) :: (N ++ (v, t) :: L) := by simp
    have e2 : M ++ (v, t) :: N ++ L = M ++ (v, t) :: (N ++ L) := by simp
    rw [e1, e2]
    refine List.perm_middle.trans (.cons _ ?_)
    refine List.Perm.append_left M ?_
    exact List.perm_middle
  exact o3.drop
theorem OwnS.dkPut {ks : List Key} {key : Key} (hz : ks.Nodup) (o : OwnS Γ K σ env ((.ref a, .ow (.dk ks) ts) :: (v, t) :: L) H Hs) :
    ∃ vs, H a = some (.dK (ks.zip vs)) ∧ ks.length = vs.length ∧ vs.length = ts.length ∧ OwnS Γ K σ env ((.ref a, .ow (.dk (putL ks ts key t).1) (putL ks ts key t).2) :: L) (upd H a (.dK (putK (ks.zip vs) key v))) Hs := by
  obtain ⟨a', vs, ob, ea, ha, w0, l, o1⟩ := o.open_
  cases ea
  obtain ⟨l0, w0⟩ := w0
  subst w0
  refine ⟨vs, ha, l0, l, ?_⟩
  have o2 := o1.write (.dK (putK (ks.zip vs) key v))
  obtain ⟨g1, g2, _, _⟩ := putK_zip (k := key) (v := v) l0 hz
  have o10 : OwnS Γ K σ env ((v, t) :: (vs.zip ts ++ ((.ref a, .ce (.dK (putK (ks.zip vs) key v))) :: L))) (upd H a (.dK (putK (ks.zip vs) key v))) Hs := by
    refine o2.perm ?_
    have p1 : (vs.zip ts ++ (v, t) :: L).Perm ((v, t) :: (vs.zip ts ++ L)) := List.perm_middle
    refine (p1.cons _).trans ((List.Perm.swap _ _ _).trans ?_)
    exact (List.perm_middle (l₁ := vs.zip ts)).symm.cons _
  obtain ⟨o11, l11, e11⟩ := putL_own (k := key) l0 l o10
  have o12 := o11.unmid
  exact o12.close (k := .dk (putL ks ts key t).1) ⟨by rw [← e11]; exact g2, by rw [g1, e11]⟩ l11
end
section
variable {Γ : Gm} {C : Ctx} {CXt : CXT} {W : WX} {D : Ends} {σ : St} {H : Hp} {X : Cx} {A : AgC}
variable {x y z e o : Expr} {pos p ap cp : Pos}
theorem x_papp {i : Nat} {q : List PSt} {c : CE} (S : SX X Γ A C W CXt) (hv : agPR A X.env.scope i q.reverse o = true) (hs : noSup o = true) (hx : noStar x = true) (hl : lineOk ap cp = true) (hc : PE X x (tE Γ X.K W (evE C c))) :
    PS X (.Expr (.Call (.Attribute o "append" ap) [x] [] cp) pos) (sRd Γ X.K W A.asn (evS C (.papp i q c))) := by
  refine ps_mono (ps_expr (pe_bm PySem.F.plainAttrs_list PySem.F.slot_list_append PySem.F.type_list_append mt_append (pe_pth S _ _ hv) (pa_one hx hc) (sup_of hs) (by rw [star_of hx]; rfl) hl (star_of hx) rfl) rfl) fun D σ H h => ?_
  rw [List.reverse_reverse]
  simp only [evS] at h
  obtain ⟨Hs, env, G, r, env', w, e, k⟩ := h
  dsimp only at e
  split at e
  · rename_i t0 q1
    split at e
    · rename_i ts q2
      rcases w.asg i t0 q1 with z | ⟨v0, sv⟩
      · exact absurd z (at_ne q2)
      obtain ⟨a, R, pv, w2, cl⟩ := (w.take q1 sv).path q t0 q2
      obtain ⟨a', vs, ob, ea, ha, w0, l, _⟩ := w2.open_
      cases ea
      have w0 : ob = .lst vs := w0
      subst w0
      refine ⟨v0, .ref a, sv, pv, .inl ⟨rfl, vs, SqL.of ha⟩, ?_⟩
      have h2 : sRt Γ X.K W A.asn ((.ref a, .ow .lst ts) :: R) _ D σ H := ⟨Hs, _, G, r, env', w2, e, k⟩
      refine (sRt.bind (ent := entT) (side := noSide) h2).mono fun v H1 hq => ?_
      obtain ⟨t, -, q3⟩ := hq
      obtain ⟨Hs3, env3, G3, env3', w3, e3, k3⟩ := q3.up
      split at e3
      · rename_i hz
        cases e3
        have w3 : OwnS Γ X.K σ env3 ((v, t) :: (.ref a, .ow .lst ts) :: (R ++ G3)) H1 Hs3 := w3
        obtain ⟨vs', ha', l', w4⟩ := w3.swap.lstApp
        exact ⟨a, vs', v, rfl, rfl, ha', by rw [l']; exact hz, k3 _ _ Hs3 Kp.rfl' ((cl w4).put sv)⟩
      · cases e3
    · cases e
  · cases e
theorem x_pset {i : Nat} {q : List PSt} {kc c : CE} {p2 : Pos} (S : SX X Γ A C W CXt) (hv : agPR A X.env.scope i q.reverse o = true) (hk : PE X x (tE Γ X.K W (evE C kc))) (hc : PE X y (tE Γ X.K W (evE C c))) :
    PS X (.Assign [.Subscript o x p2] y pos) (sRd Γ X.K W A.asn (evS C (.pset i q kc c))) := by
  refine ps_mono (ps_sub hc (pe_pth S _ _ hv) hk set_list) fun D σ H h => ?_
  rw [List.reverse_reverse]
  simp only [evS] at h
  refine (sRt.bind (ent := entT) (side := noSide) h).mono fun v H1 hq => ?_
  obtain ⟨t, -, h1⟩ := hq
  obtain ⟨Hs, env, G, r, env', w, e, k⟩ := h1
  dsimp only at e
  split at e
  · rename_i t0 q1
    split at e
    · rename_i ts q2
      rcases w.asg i t0 q1 with z | ⟨v0, sv⟩
      · exact absurd z (at_ne q2)
      obtain ⟨a, R, pv, w2, cl⟩ := (w.take q1 sv).path q t0 q2
      refine ⟨v0, .ref a, sv, pv, ?_⟩
      have h2 : sRt Γ X.K W A.asn ((.ref a, .ow .lst ts) :: (R ++ [(v, t)])) _ D σ H1 := ⟨Hs, _, G, r, env', by simpa [entT] using w2, e, k⟩
      refine (sRt.bind (ent := entT) (side := noSide) h2).mono fun u H2 hq => ?_
      obtain ⟨kt, -, q3⟩ := hq
      obtain ⟨Hs3, env3, G3, env3', w3, e3, k3⟩ := q3.up
      split at e3
      · rename_i j
        split at e3
        · rename_i n hn
          cases e3
          have w3 : OwnS Γ X.K σ env3 ((u, .sh (.int j)) :: (.ref a, .ow .lst ts) :: ((R ++ [(v, t)]) ++ G3)) H2 Hs3 := w3
          have ru := w3.rep
          cases ru
          have w4 : OwnS Γ X.K σ env3 ((.ref a, .ow .lst ts) :: (v, t) :: (R ++ G3)) H2 Hs3 := w3.drop.perm (by
            refine .cons _ ?_
            have e1 : (R ++ [(v, t)]) ++ G3 = R ++ (v, t) :: G3 := by simp
            rw [e1]
            exact List.perm_middle)
          obtain ⟨vs', ha', l', w5⟩ := w4.lstSet (ixN_lt hn)
          exact ⟨a, vs', j, n, rfl, rfl, ha', by rw [l']; exact hn, k3 _ _ Hs3 Kp.rfl' ((cl w5).put sv)⟩
        · cases e3
      · cases e3
    · cases e
  · cases e
theorem x_psetd {i : Nat} {q : List PSt} {kc c : CE} {p2 : Pos} (S : SX X Γ A C W CXt) (hv : agPR A X.env.scope i q.reverse o = true) (hk : PE X x (tE Γ X.K W (evE C kc))) (hc : PE X y (tE Γ X.K W (evE C c))) :
    PS X (.Assign [.Subscript o x p2] y pos) (sRd Γ X.K W A.asn (evS C (.psetd i q kc c))) := by
  refine ps_mono (ps_dput (by have := S.hu; omega) (pe_pth S _ _ hv) hk hc swap_sub) fun D σ H h => ?_
  rw [List.reverse_reverse]
  simp only [evS] at h
  refine (sRt.bind (ent := entT) (side := noSide) h).mono fun v H1 hq => ?_
  obtain ⟨t, -, h1⟩ := hq
  obtain ⟨Hs, env, G, r, env', w, e, k⟩ := h1
  dsimp only at e
  split at e
  · rename_i t0 q1
    split at e
    · rename_i ks ts q2
      rcases w.asg i t0 q1 with z | ⟨v0, sv⟩
      · exact absurd z (at_ne q2)
      obtain ⟨a, R, pv, w2, cl⟩ := (w.take q1 sv).path q t0 q2
      refine ⟨v0, .ref a, sv, pv, ?_⟩
      have h2 : sRt Γ X.K W A.asn ((.ref a, .ow (.dk ks) ts) :: (R ++ [(v, t)])) _ D σ H1 := ⟨Hs, _, G, r, env', by simpa [entT] using w2, e, k⟩
      refine (sRt.bind (ent := entT) (side := noSide) h2).mono fun u H2 hq => ?_
      obtain ⟨kt, -, q3⟩ := hq
      obtain ⟨Hs3, env3, G3, env3', w3, e3, k3⟩ := q3.up
      split at e3
      · rename_i d
        split at e3
        · rename_i key hk
          split at e3
          · rename_i hz
            cases e3
            have w3 : OwnS Γ X.K σ env3 ((u, .sh d) :: (.ref a, .ow (.dk ks) ts) :: ((R ++ [(v, t)]) ++ G3)) H2 Hs3 := w3
            have eu := key_rep w3.rep hk
            subst eu
            have w4 : OwnS Γ X.K σ env3 ((.ref a, .ow (.dk ks) ts) :: (v, t) :: (R ++ G3)) H2 Hs3 := w3.drop.perm (by
              refine .cons _ ?_
              have e1 : (R ++ [(v, t)]) ++ G3 = R ++ (v, t) :: G3 := by simp
              rw [e1]
              exact List.perm_middle)
            obtain ⟨vs', ha', l0, l', w5⟩ := w4.dkPut (key := key) hz.2
            exact ⟨a, _, rfl, .inl ⟨_, key, ha', rfl, by rw [List.length_zip]; have := hz.1; omega, rfl⟩, k3 _ _ Hs3 Kp.rfl' ((cl w5).put sv)⟩
          · cases e3
        · cases e3
      · cases e3
    · cases e
  · cases e
theorem atI_of {vs : List V} {w : V} {i : Int} {n m : Nat} (l : vs.length = m) (h : ixN m i = some n) (e : vs[n]? = some w) : atI vs i = some w := by
  unfold atI
  rw [l, h]
  exact e
theorem x_al {r i : Nat} {ac bc kc cc : CE} {n : Str} {w o2 : Expr} {py p1 p2 p3 pos2 : Pos} {ss : List Stmt} {rest : MS} (S : SX X Γ A C W CXt) (hv : varB A X.env.scope i o = true) (ha : PE X x (tE Γ X.K W (evE C ac))) (sx : noSli x = true) (hb : PE X y (tE Γ X.K W (evE C bc))) (sy : noSli y = true)
    (hn : A.N[r]? = some n) (hloc : locB A.fnc X.env.scope n = true) (hr : r ∈ A.asn) (hv2 : varB A X.env.scope r o2 = true) (hc : PE X e (tE Γ X.K W (evE C cc))) (hk : PE X w (tE Γ X.K W (evE C kc))) (hrest : PSs X ss (sRd Γ X.K W A.asn rest)) :
    PSs X (.Assign [.Name n py] (.Subscript (.Subscript o x p1) y p2) pos :: .Assign [.Subscript o2 w p3] e pos2 :: ss) (sRd Γ X.K W A.asn (sq (alM r i (evE C ac) (evE C bc) (evE C kc) (evE C cc)) rest)) := by
  have hx : Loc X.env.scope n ∧ (X.fn n = true ∨ X.env.scope.names.lookup n = some .local) := by
    unfold locB at hloc
    split at hloc
    · rename_i q; exact ⟨.inl q, .inr q⟩
    · rename_i q; exact ⟨.inr q, .inl (S.fnv hloc n)⟩
    · cases hloc
  have hN : X.N[r]? = some n := by rw [S.hN]; exact hn
  refine pss_mono (pss_cons (ps_set S.nd hN hx.1 (pe_ix ix_list (pe_ix ix_list (pe_slot S hv) ha (sli_of sx)) hb (sli_of sy)) (swap_no rfl) hx.2) (pss_cons (ps_sub hc (pe_slot S hv2) hk set_list) hrest)) fun D σ H h => ?_
  have h := s_sq h
  unfold alM at h
  obtain ⟨h, a0, vs0, sv, ha0⟩ := h.gd
  refine ⟨.ref a0, sv, ?_⟩
  refine (sRt.bind (ent := entT) (side := noSide) h).mono fun y0 H2 hq => ?_
  obtain ⟨xt, -, q⟩ := hq
  obtain ⟨Hs, env, G, r1, env', w, e, k⟩ := q
  dsimp only at e
  split at e
  · rename_i ts xi q1
    split at e
    · rename_i n1 hn1
      split at e
      · rename_i us q2
        have w : OwnS Γ X.K σ env ((y0, .sh (.int xi)) :: G) H2 Hs := w
        have ru := w.rep
        cases ru
        obtain ⟨a', ob, vs, pl, L, ea, ha, w0, l, hvn, o1, cl⟩ := (w.drop.take q1 sv).step q2
        cases ea
        have w0 : ob = .lst vs := w0
        subst w0
        refine ⟨a0, vs, xi, pl, rfl, rfl, SqL.of ha, atI_of l hn1 hvn, ?_⟩
        have h2 : sRt Γ X.K W A.asn ((pl, .ow .lst us) :: L) _ _ σ H2 := ⟨Hs, _, G, r1, env', o1, e, k⟩
        refine (sRt.bind (ent := entT) (side := noSide) h2).mono fun y1 H4 hq => ?_
        obtain ⟨yt, -, q⟩ := hq
        obtain ⟨Hs4, env4, G4, r4, env4', w4, e4, k4⟩ := q
        dsimp only at e4
        split at e4
        · rename_i yi
          split at e4
          · rename_i m hm
            split at e4
            · rename_i ws q3
              split at e4
              · rename_i hri
                obtain ⟨hri, hrl⟩ := hri
                have w4 : OwnS Γ X.K σ env4 ((y1, .sh (.int yi)) :: (pl, .ow .lst us) :: (L ++ G4)) H4 Hs4 := w4
                have ru := w4.rep
                cases ru
                obtain ⟨a1, ob1, vs1, row, L1, ea, ha1, w01, l1, hvm, o4, cl1⟩ := w4.drop.step q3
                subst ea
                have w01 : ob1 = .lst vs1 := w01
                subst w01
                refine ⟨a1, vs1, yi, row, rfl, rfl, SqL.of ha1, atI_of l1 hm hvm, ?_⟩
                have hrs : r < σ.length := by rw [← w4.len]; exact hrl
                have o5 := (o4.addUn row).assign hrs
                obtain ⟨a2, vs2, ob2, ea2, _⟩ := o4.open_
                subst ea2
                have h5 : sRt Γ X.K W A.asn ((.ref a2, .ow .lst ws) :: (L1 ++ L)) _ _ (σ.set r (some (.ref a2))) H4 := ⟨Hs4, _, G4, r4, env4', by simpa using o5, e4, k4.kp (Kp.set hr)⟩
                refine (sRt.bind (ent := entT) (side := noSide) h5).mono fun v H5 hq => ?_
                obtain ⟨t, -, q5⟩ := hq
                refine ⟨.ref a2, by rw [List.getElem?_set_self hrs], ?_⟩
                refine (sRt.bind (ent := entT) (side := noSide) q5).mono fun u H6 hq => ?_
                obtain ⟨kt, -, q6⟩ := hq
                obtain ⟨Hs6, env6, G6, env6', w6, e6, k6⟩ := q6.up
                split at e6
                · rename_i j
                  split at e6
                  · rename_i qn hqn
                    cases e6
                    have w6 : OwnS Γ X.K (σ.set r (some (.ref a2))) env6 ((u, .sh (.int j)) :: (v, t) :: (.ref a2, .ow .lst ws) :: (L1 ++ (L ++ G6))) H6 Hs6 := by simpa [entT] using w6
                    have ru := w6.rep
                    cases ru
                    obtain ⟨vs', ha', l', w7⟩ := w6.drop.swap.lstSet (ixN_lt hqn)
                    refine ⟨a2, vs', j, qn, rfl, rfl, ha', by rw [l']; exact hqn, k6 _ _ Hs6 Kp.rfl' ?_⟩
                    have sv' : (σ.set r (some (.ref a2)))[i]? = some (some (.ref a0)) := by rw [List.getElem?_set_ne hri]; exact sv
                    exact (cl (cl1 w7)).put sv'
                  · cases e6
                · cases e6
              · cases e4
            · cases e4
          · cases e4
        · cases e4
      · cases e
    · cases e
  · cases e
end
end BC
set_option Elab.async false
set_option linter.all false
set_option maxRecDepth 100000
set_option maxHeartbeats 8000000
/-! Core: every statement, every def. -/
namespace BC
open PySem PySem.Spec PyProof.Rows L2
section
variable {Γ : Gm} {C : Ctx} {CXt : CXT}
mutual
theorem pS (s : CS) : ∀ {X : Cx} {A : AgC} {W : WX}, SX X Γ A C W CXt → PassesOwn (model X.prog X.w) X.A X.env X.xe → ∀ (st : Stmt), agS A X.env.scope s st = true → PS X st (sRd Γ X.K W A.asn (evS C s)) := by
  intro X A W S po st h
  cases s with
  | asg g c =>
    cases st with
    | Assign tgs e pos =>
      cases tgs with
      | nil => simp [agS] at h
      | cons tg tgs =>
        cases tgs with
        | nil => exact x_asg S h
        | cons _ _ => simp [agS] at h
    | _ => simp [agS] at h
  | exp c =>
    unfold agS at h
    split at h
    · obtain ⟨h1, h2⟩ := an h
      exact x_exp h2 (pE c S _ h1)
    · cases h
  | ifS t a b =>
    unfold agS at h
    split at h
    · obtain ⟨h, h3⟩ := an h
      obtain ⟨h1, h2⟩ := an h
      refine ps_mono (ps_if (pT t S _ h1) (pB a S po _ h2) (pB b S po _ h3)) fun D σ H q => ?_
      simp only [evS] at q
      refine (sRt.bind (ent := entN) (side := sideB) q).mono fun bb H1 hq => ?_
      obtain ⟨b', sb, q⟩ := hq
      cases sb
      cases bb with
      | true => exact q
      | false => exact q
    · cases h
  | forS g it b =>
    unfold agS at h
    split at h
    · obtain ⟨h, h4⟩ := an h
      obtain ⟨h, h3⟩ := an h
      obtain ⟨h1, h2⟩ := an h
      refine ps_mono (ps_for po S.calm (pIt it S _ _ h1) (x_tg S g _ h3) (pB b S po _ h4) (set_of h2)) fun D σ H q => ?_
      simp only [evS] at q
      exact s_for (fun _ _ _ h => h) q
    · cases h
  | whl n t b =>
    unfold agS at h
    split at h
    · obtain ⟨h1, h2⟩ := an h
      refine ps_mono (ps_while po (pT t S _ h1) (pB b S po _ h2)) fun D σ H q => ?_
      simp only [evS] at q
      exact s_whl (fun _ _ _ h => h) q
    · cases h
  | retS c =>
    unfold agS at h
    split at h
    · refine ps_mono (ps_ret (pE c S _ h)) fun D σ H q => ?_
      simp only [evS] at q
      refine (sRt.bind (ent := entT) (side := noSide) q).mono fun v H1 hq => ?_
      obtain ⟨t, -, q⟩ := hq
      obtain ⟨Hs, env, G, r, env', o, e, k⟩ := q
      cases e
      exact k σ H1 Hs v Kp.rfl' o
    · cases h
  | retN =>
    unfold agS at h
    split at h
    · refine ps_mono ps_retN fun D σ H q => ?_
      simp only [evS] at q
      obtain ⟨Hs, env, G, r, env', o, e, k⟩ := q
      cases e
      exact k σ H Hs .non Kp.rfl' (OwnS.addSh .non o)
    · cases h
  | brk =>
    unfold agS at h
    split at h
    · refine ps_mono ps_break fun D σ H q => ?_
      simp only [evS] at q
      exact s_bk q
    · cases h
  | pas =>
    unfold agS at h
    split at h
    · refine ps_mono ps_pass fun D σ H q => ?_
      simp only [evS] at q
      exact s_nx q
    · refine ps_mono ps_doc fun D σ H q => ?_
      simp only [evS] at q
      exact s_nx q
    · cases h
  | nev => simp only [evS]; exact ps_none
  | app i c =>
    unfold agS at h
    split at h
    · obtain ⟨h, h6⟩ := an h
      obtain ⟨h, h5⟩ := an h
      obtain ⟨h, h4⟩ := an h
      obtain ⟨h, h3⟩ := an h
      obtain ⟨h1, h2⟩ := an h
      have h1 := of_decide_eq_true h1
      subst h1
      exact x_app S h2 h3 h4 h5 (pE c S _ h6)
    · cases h
  | ext i c =>
    unfold agS at h
    split at h
    · obtain ⟨h, h6⟩ := an h
      obtain ⟨h, h5⟩ := an h
      obtain ⟨h, h4⟩ := an h
      obtain ⟨h, h3⟩ := an h
      obtain ⟨h1, h2⟩ := an h
      have h1 := of_decide_eq_true h1
      subst h1
      exact x_ext S h2 h3 h4 h5 (pO c S _ h6)
    · cases h
  | seti i k c =>
    unfold agS at h
    split at h
    · obtain ⟨h, h3⟩ := an h
      obtain ⟨h1, h2⟩ := an h
      exact x_seti S h1 (pE k S _ h2) (pE c S _ h3)
    · cases h
  | setd i k c =>
    unfold agS at h
    split at h
    · obtain ⟨h, h3⟩ := an h
      obtain ⟨h1, h2⟩ := an h
      exact x_setd S h1 (pE k S _ h2) (pE c S _ h3)
    · cases h
  | setf i cc j x =>
    unfold agS at h
    split at h
    · obtain ⟨h, h3⟩ := an h
      obtain ⟨h1, h2⟩ := an h
      exact x_setf S h1 (of_decide_eq_true h2) (pE x S _ h3)
    · cases h
  | rvs i =>
    unfold agS at h
    split at h
    · obtain ⟨h, h4⟩ := an h
      obtain ⟨h, h3⟩ := an h
      obtain ⟨h1, h2⟩ := an h
      have h1 := of_decide_eq_true h1
      subst h1
      exact x_rvs S h2 h3 h4
    · cases h
  | ins i k c =>
    unfold agS at h
    split at h
    · obtain ⟨h, h8⟩ := an h
      obtain ⟨h, h7⟩ := an h
      obtain ⟨h, h6⟩ := an h
      obtain ⟨h, h5⟩ := an h
      obtain ⟨h, h4⟩ := an h
      obtain ⟨h, h3⟩ := an h
      obtain ⟨h1, h2⟩ := an h
      have h1 := of_decide_eq_true h1
      subst h1
      exact x_ins S h2 h3 h4 h5 h6 (pE k S _ h7) (pE c S _ h8)
    · cases h
  | papp i p c =>
    unfold agS at h
    split at h
    · obtain ⟨h, h6⟩ := an h
      obtain ⟨h, h5⟩ := an h
      obtain ⟨h, h4⟩ := an h
      obtain ⟨h, h3⟩ := an h
      obtain ⟨h1, h2⟩ := an h
      have h1 := of_decide_eq_true h1
      subst h1
      exact x_papp S h2 h3 h4 h5 (pE c S _ h6)
    · cases h
  | pset i p k c =>
    unfold agS at h
    split at h
    · obtain ⟨h, h3⟩ := an h
      obtain ⟨h1, h2⟩ := an h
      exact x_pset S h1 (pE k S _ h2) (pE c S _ h3)
    · cases h
  | psetd i p k c =>
    unfold agS at h
    split at h
    · obtain ⟨h, h3⟩ := an h
      obtain ⟨h1, h2⟩ := an h
      exact x_psetd S h1 (pE k S _ h2) (pE c S _ h3)
    · cases h
  | sdapp _ _ _ => cases h
  | aug _ _ _ => cases h
theorem pB (b : CB) : ∀ {X : Cx} {A : AgC} {W : WX}, SX X Γ A C W CXt → PassesOwn (model X.prog X.w) X.A X.env X.xe → ∀ (ss : List Stmt), agB A X.env.scope b ss = true → PSs X ss (sRd Γ X.K W A.asn (evB C b)) := by
  intro X A W S po ss h
  cases b with
  | nil =>
    unfold agB at h
    split at h
    · refine pss_mono pss_nil fun D σ H q => ?_
      simp only [evB] at q
      exact s_nx q
    · cases h
  | cons s r =>
    unfold agB at h
    split at h
    · obtain ⟨h1, h2⟩ := an h
      refine pss_mono (pss_cons (pS s S po _ h1) (pB r S po _ h2)) fun D σ H q => ?_
      simp only [evB] at q
      exact s_sq q
    · cases h
  | al r i a b k c rest =>
    unfold agB at h
    split at h
    · obtain ⟨h, h12⟩ := an h
      obtain ⟨h, h11⟩ := an h
      obtain ⟨h, h10⟩ := an h
      obtain ⟨h, h9⟩ := an h
      obtain ⟨h, h8⟩ := an h
      obtain ⟨h, h7⟩ := an h
      obtain ⟨h, h6⟩ := an h
      obtain ⟨h, h5⟩ := an h
      obtain ⟨h, h4⟩ := an h
      obtain ⟨h, h3⟩ := an h
      obtain ⟨h1, h2⟩ := an h
      simp only [evB]
      exact x_al S h1 (pE a S _ h2) h3 (pE b S _ h4) h5 (of_decide_eq_true h6) h7 (List.contains_iff_mem.mp h8) h9 (pE c S _ h10) (pE k S _ h11) (pB rest S po _ h12)
    · cases h
end
/-! ### defs -/
variable {K : PySem.W.Frag} {H Hs : Hp} {G : List VT}
theorem evD_len {cd : CDef} : FnL (evD C cd) cd.np := by
  intro ts o ts' h
  have bl : ∀ (asn : List Nat) (i : Nat) (ts : List T) (e : En), (backP asn i ts e).length = ts.length := by
    intro asn i ts e
    induction ts generalizing i with
    | nil => rfl
    | cons t ts ih => simp [backP, ih]
  unfold evD at h
  split at h
  · rename_i hl
    split at h <;> first | (cases h; exact ⟨hl, bl _ _ _ _⟩) | cases h
  · cases h
def keepSh (asn : List Nat) : Nat → List V → List T → List VT
  | i, v :: vs, t :: ts => (if asn.contains i = true then (match t with | .sh d => [(v, .sh d)] | _ => []) else []) ++ keepSh asn (i + 1) vs ts
  | _, _, _ => []
theorem OwnS.keepSh {σ : St} {env : En} (asn : List Nat) : ∀ (i : Nat) (vs : List V) (ts : List T) (L : List VT), OwnS Γ K σ env (vs.zip ts ++ L) H Hs → OwnS Γ K σ env (vs.zip ts ++ (BC.keepSh asn i vs ts ++ L)) H Hs
  | _, [], _, _, o => by simpa [BC.keepSh] using o
  | _, _ :: _, [], _, o => by simpa [BC.keepSh] using o
  | i, v :: vs, t :: ts, L, o => by
    have o1 : OwnS Γ K σ env ((v, t) :: (vs.zip ts ++ L)) H Hs := o
    have o2 : OwnS Γ K σ env (vs.zip ts ++ (v, t) :: L) H Hs := o1.mid
    have o3 := OwnS.keepSh asn (i + 1) vs ts ((v, t) :: L) o2
    have o4 : OwnS Γ K σ env ((v, t) :: (vs.zip ts ++ (BC.keepSh asn (i + 1) vs ts ++ L))) H Hs := by
      refine o3.perm ?_
      rw [← List.append_assoc, ← List.append_assoc]
      exact List.perm_middle
    unfold BC.keepSh
    by_cases hc : asn.contains i = true
    · rw [if_pos hc]
      cases t with
      | sh d =>
        have o5 := o4.dup
        show OwnS Γ K σ env ((v, .sh d) :: (vs.zip ts ++ ([(v, .sh d)] ++ BC.keepSh asn (i + 1) vs ts ++ L))) H Hs
        refine o5.perm (.cons _ ?_)
        show ((v, T.sh d) :: (vs.zip ts ++ (BC.keepSh asn (i + 1) vs ts ++ L))).Perm (vs.zip ts ++ ((v, T.sh d) :: (BC.keepSh asn (i + 1) vs ts ++ L)))
        exact List.perm_middle.symm
      | _ => exact o4
    · rw [if_neg hc]; exact o4
/-- into a def's body -/
theorem ents_start {n : Nat} : ∀ {vs : List V} {ts : List T}, vs.length = ts.length → ents (vs.map some ++ List.replicate n none) (ts ++ List.replicate n .un) = vs.zip ts ++ List.replicate n (V.non, T.un)
  | [], [], _ => by
    unfold ents
    induction n with
    | zero => rfl
    | succ n ih => simpa [List.replicate_succ] using ih
  | v :: vs, t :: ts, l => by
    have := ents_start (n := n) (vs := vs) (ts := ts) (by simpa using l)
    show (v, t) :: ents (vs.map some ++ List.replicate n none) (ts ++ List.replicate n .un) = (v, t) :: (vs.zip ts ++ List.replicate n (V.non, T.un))
    rw [this]
  | [], _ :: _, l => by simp at l
  | _ :: _, [], l => by simp at l
theorem OwnS.uns {σ : St} {env : En} : ∀ n : Nat, OwnS Γ K σ env G H Hs → OwnS Γ K σ env (List.replicate n (V.non, T.un) ++ G) H Hs
  | 0, o => o
  | n + 1, o => (OwnS.uns n o).addUn V.non
theorem OwnS.start {N : List Str} {vs : List V} {ts : List T} {n : Nat} (l : vs.length = ts.length) (ln : N.length - vs.length = n) (o : OwnS Γ K [] [] (vs.zip ts ++ G) H Hs) : OwnS Γ K (L2.start N vs) (ts ++ List.replicate n .un) G H Hs := by
  have o1 : OwnS Γ K [] [] (vs.zip ts ++ (List.replicate n (V.non, T.un) ++ G)) H Hs := by
    refine (OwnS.uns n o).perm ?_
    rw [← List.append_assoc, ← List.append_assoc]
    exact List.perm_append_comm.append_right _
  unfold L2.start
  rw [ln]
  refine o1.perm' (by simp [l]) (fun i t e => ?_) ?_
  · by_cases hi : i < ts.length
    · refine .inr ⟨vs[i]'(by omega), ?_⟩
      rw [List.getElem?_append_left (by simp [l, hi]), List.getElem?_map, List.getElem?_eq_getElem (by omega)]
      rfl
    · rw [List.getElem?_append_right (by omega), List.getElem?_replicate] at e
      split at e
      · cases e; exact .inl rfl
      · cases e
  · rw [ents_start l]
    show (vs.zip ts ++ (List.replicate n (V.non, T.un) ++ G)).Perm _
    rw [List.append_assoc]
theorem OwnS.exit {σ : St} {asn : List Nat} : ∀ (vs : List V) (ts : List T) (i : Nat) (env env1 : En) (L : List VT), (∀ (j : Nat) (v : V), vs[j]? = some v → (i + j) ∉ asn → σ[i + j]? = some (some v)) → (∀ j, i ≤ j → env1[j]? = env[j]?) →
    OwnS Γ K σ env1 (BC.keepSh asn i vs ts ++ L) H Hs → vs.length = ts.length → ∃ env2, OwnS Γ K σ env2 (vs.zip (backP asn i ts env) ++ L) H Hs
  | [], _, _, _, env1, _, _, _, o, _ => ⟨env1, by simpa [BC.keepSh] using o⟩
  | _ :: _, [], _, _, _, _, _, _, _, l => by simp at l
  | v :: vs, t :: ts, i, env, env1, L, hv, he, o, l => by
    have hv' : ∀ (j : Nat) (w : V), vs[j]? = some w → (i + 1 + j) ∉ asn → σ[i + 1 + j]? = some (some w) := fun j w e n => by
      have e1 : i + 1 + j = i + (j + 1) := by omega
      rw [e1] at n ⊢
      exact hv (j + 1) w (by simpa using e) n
    have l' : vs.length = ts.length := by simpa using l
    unfold BC.keepSh at o
    by_cases hc : asn.contains i = true
    · rw [if_pos hc] at o
      have fin : ∀ u, OwnS Γ K σ env1 ((v, u) :: (BC.keepSh asn (i + 1) vs ts ++ L)) H Hs → shOr t = u → ∃ env2, OwnS Γ K σ env2 ((v :: vs).zip (backP asn i (t :: ts) env) ++ L) H Hs := fun u o1 eu => by
        have o2 : OwnS Γ K σ env1 (BC.keepSh asn (i + 1) vs ts ++ (v, u) :: L) H Hs := o1.mid
        obtain ⟨env2, o3⟩ := OwnS.exit vs ts (i + 1) env env1 ((v, u) :: L) hv' (fun j hj => he j (by omega)) o2 l'
        refine ⟨env2, ?_⟩
        unfold backP
        rw [if_pos hc, eu]
        exact o3.unmid
      cases t with
      | sh d => exact fin (.sh d) o rfl
      | _ => exact fin .un (OwnS.addUn v o) rfl
    · rw [if_neg hc] at o
      have o : OwnS Γ K σ env1 (BC.keepSh asn (i + 1) vs ts ++ L) H Hs := o
      have sv : σ[i]? = some (some v) := hv 0 v rfl (fun z => hc (List.contains_iff_mem.mpr z))
      cases q : env[i]? with
      | none =>
        have o1 := OwnS.addUn v o
        have o2 : OwnS Γ K σ env1 (BC.keepSh asn (i + 1) vs ts ++ (v, .un) :: L) H Hs := o1.mid
        obtain ⟨env2, o3⟩ := OwnS.exit vs ts (i + 1) env env1 ((v, .un) :: L) hv' (fun j hj => he j (by omega)) o2 l'
        refine ⟨env2, ?_⟩
        unfold backP
        rw [if_neg hc, q]
        exact o3.unmid
      | some u =>
        have q1 : env1[i]? = some u := by rw [he i (Nat.le_refl _)]; exact q
        have o1 := o.take q1 sv
        have o2 : OwnS Γ K σ (env1.set i .un) (BC.keepSh asn (i + 1) vs ts ++ (v, u) :: L) H Hs := o1.mid
        obtain ⟨env2, o3⟩ := OwnS.exit vs ts (i + 1) env (env1.set i .un) ((v, u) :: L) hv' (fun j hj => by rw [List.getElem?_set_ne (by omega)]; exact he j (by omega)) o2 l'
        refine ⟨env2, ?_⟩
        unfold backP
        rw [if_neg hc, q]
        exact o3.unmid
theorem XOwn.mapG {σ σ' : St} {env env' : En} {G' : List VT} {c : Nat} {ds : List D} {d : Option Addr} (x : XOwn Γ K σ env G c ds d H Hs) (f : ∀ E, OwnS Γ K σ env (G ++ E) H Hs → OwnS Γ K σ' env' (G' ++ E) H Hs) : XOwn Γ K σ' env' G' c ds d H Hs := by
  rcases x with ⟨h1, h2, h3, o⟩ | ⟨b, ws, h1, h2, h3, h4, o⟩
  · refine .inl ⟨h1, h2, h3, ?_⟩
    have := f [] (by rw [List.append_nil]; exact o)
    rwa [List.append_nil] at this
  · refine .inr ⟨b, ws, h1, h2, h3, h4, ?_⟩
    have o1 : OwnS Γ K σ env (G ++ [(.ref b, .ce (.xd ((Γ.fl c).zip ws)))]) H Hs := o.perm (List.perm_append_comm (l₁ := [_]))
    exact (f _ o1).perm List.perm_append_comm
theorem spD_body {N ps : List Str} {cd : CDef} {vs : List V} {Q : VK} {E : XK} (hn : cd.n = N.length) (hp : cd.np = ps.length) (hl : ps.length ≤ N.length) (h : spD Γ K ps.length (evD C cd) vs H Q E) :
    sRd Γ K (fun cls d _ H => E cls d H) cd.asn (evB C cd.body) { nx := fun _ H' => Q .non H', rt := Q } (L2.start N vs) H := by
  obtain ⟨Hs, G, ts, o, ts', l1, l2, l3, w, e, k⟩ := h
  unfold evD at e
  split at e
  · rename_i hts
    have w1 := OwnS.start (N := N) (n := cd.n - cd.np) l1 (by omega) (OwnS.keepSh cd.asn 0 vs ts G w)
    have sv : ∀ (σ' : St), Kp cd.asn (L2.start N vs) σ' → ∀ (j : Nat) (v : V), vs[j]? = some v → (0 + j) ∉ cd.asn → σ'[0 + j]? = some (some v) := fun σ' kp j v ev nj => by
      rw [kp.kp _ nj]
      have hj := (List.getElem?_eq_some_iff.mp ev).1
      unfold L2.start
      rw [Nat.zero_add, List.getElem?_append_left (by simpa using hj), List.getElem?_map, ev]
      rfl
    have out : ∀ (σ' : St) (e : En) (L : List VT) (H' Hs' : Hp), Kp cd.asn (L2.start N vs) σ' → OwnS Γ K σ' e (BC.keepSh cd.asn 0 vs ts ++ L) H' Hs' → OwnS Γ K [] [] (vs.zip (backP cd.asn 0 ts e) ++ L) H' Hs' := fun σ' e L H' Hs' kp o => by
      obtain ⟨env2, o2⟩ := OwnS.exit vs ts 0 e e L (sv σ' kp) (fun _ _ => rfl) o l1
      exact OwnS.dropR o2.enter
    cases q : evB C cd.body (ts ++ List.replicate (cd.n - cd.np) .un) with
    | none => rw [q] at e; cases e
    | some p =>
      obtain ⟨r, e1⟩ := p
      rw [q] at e
      refine ⟨Hs, _, _, r, e1, w1, q, ?_⟩
      cases r with
      | nx =>
        cases e
        intro σ' H' Hs' kp o
        exact k H' Hs' .non (OwnS.addSh .non (out σ' e1 G H' Hs' kp o))
      | ret t =>
        cases e
        intro σ' H' Hs' v kp o
        have o1 : OwnS Γ K σ' e1 (BC.keepSh cd.asn 0 vs ts ++ (v, t) :: G) H' Hs' := o.mid
        exact k H' Hs' v (out σ' e1 _ H' Hs' kp o1).unmid
      | exc c ds =>
        cases e
        intro σ' H' Hs' d kp x
        exact k H' Hs' d (x.mapG fun E o => by
          have o : OwnS Γ K σ' e1 ((BC.keepSh cd.asn 0 vs ts ++ G) ++ E) H' Hs' := o
          rw [List.append_assoc] at o ⊢
          exact out σ' e1 _ H' Hs' kp o)
      | bk => cases e
      | ct => cases e
  · cases e
/-- THE RULE: a def whose body agrees with a term keeps the term's promise -/
theorem fn_core {P : Program} {w : World} {mg : Str → Option Value} {base : Heap} {k : Nat} {f : Addr} {name qual : Str} {params : Arguments} {body : List Stmt} {scope : Scope} {dV kV doc pm cdv ct oc : Value} {an od : Option Addr}
    {osl : Array (Option Value)} {N ps : List Str} {A : AgC} {cd : CDef} (lk : K.lookup f = some ⟨oc, od, .func (PySem.W.fnOf name qual params body scope dV kV doc pm an cdv ct), osl⟩) (hcd : PySem.W.codeIn K cdv qual = true) (Sc : FnScope N ps scope)
    (hn : cd.n = N.length) (hp : cd.np = ps.length) (ha : A.asn = cd.asn) (ag : agB A scope cd.body body = true)
    (S : ∀ (Ar : Around) (outer : List PySem.Env) (s : Shared) (H : Hp) (E : XK), Room k (Ar.deeper (envOfC qual scope s.heap.objs.size f cdv)) → SX (cxOf CXt P w K mg base N qual scope f cdv Ar outer s H E) Γ A C (fun cls d _ H => E cls d H) CXt) :
    FnOk P w K mg base CXt (k + 1) f (PySem.W.fnOf name qual params body scope dV kV doc pm an cdv ct) ps (spD Γ K ps.length (evD C cd)) := by
  have hl : ps.length ≤ N.length := by have := congrArg List.length Sc.pre; rw [List.length_take] at this; omega
  refine fn_of lk hcd Sc (fun vs H Q E h => ?_) (fun Ar outer s H vs Q E hr h => ?_)
  · obtain ⟨Hs, G, ts, o, ts', l1, l2, _⟩ := h
    rw [l1]; exact l2
  · refine ⟨_, pB cd.body (S Ar outer s H E hr) (passes_of rfl) body ag, ?_⟩
    have q := spD_body hn hp hl h
    rw [← ha] at q
    exact q
end
end BC
set_option Elab.async false
set_option linter.all false
set_option maxRecDepth 100000
set_option maxHeartbeats 8000000
/-! A table of defs: what must be seen of the text and of the heap, and that each def then keeps its term's promise. -/
namespace BC
open PySem PySem.Spec PyProof.Rows L2
structure ClsC where
  nm : Str
  fl : List Str
structure DefC where
  knd : Nat
  x : Str
  m : Str
  name : Str
  qual : Str
  params : Arguments
  body : List Stmt
  scope : Scope
  N : List Str
  ps : List Str
  t : CDef
  cn : List CalN
  cx : List Nat
  gn : List Str
  gs : List D
  isc : List Nat
structure Tab where
  cs : List ClsC
  ds : List DefC
namespace Tab
variable (T : Tab)
def cnm (c : Nat) : Str := match T.cs[c]? with
  | some k => k.nm
  | none => Str.empty
def fls (c : Nat) : List Str := match T.cs[c]? with
  | some k => k.fl
  | none => []
def gm (K : PySem.W.Frag) : Gm := ⟨fun c => He.ga K (T.cnm c), T.fls, fun _ => 0⟩
def agc (d : DefC) : AgC := { N := d.N, cn := d.cn, gn := d.gn, cln := T.cnm, isc := d.isc, fnc := true, asn := d.t.asn, fl := T.fls }
end Tab
def recAt (K : PySem.W.Frag) (p : Addr) (k : String) : Addr := match PySem.W.recIn K p k with
  | some (.ref g :: _) => g
  | _ => 0
/-- where a def's function stands -/
def DefC.adr (K : PySem.W.Frag) (d : DefC) : Addr := match d.knd with
  | 0 => He.ga K d.x
  | 1 => He.ma K (He.ga K d.x) d.m
  | 2 => recAt K (He.ma K (He.ga K d.x) d.m) "classmethod"
  | _ => recAt K (He.ma K (He.ga K d.x) d.m) "property"
/-! ### what is seen of the text alone -/
def scpB (N ps : List Str) (sc : Scope) : Bool := (match sc.kind with | .function => true | _ => false) && !sc.isCoroutine && !sc.isGenerator && decide N.Nodup && decide (N.take ps.length = ps) &&
  (ps.all fun x => match sc.names.lookup x with | some .local => true | some .cell => true | _ => false) && (sc.names.all fun y => match y.2 with | .free => false | _ => true)
theorem scp_ok {N ps : List Str} {sc : Scope} (h : scpB N ps sc = true) : FnScope N ps sc := by
  unfold scpB at h
  obtain ⟨h, h7⟩ := an h
  obtain ⟨h, h6⟩ := an h
  obtain ⟨h, h5⟩ := an h
  obtain ⟨h, h4⟩ := an h
  obtain ⟨h, h3⟩ := an h
  obtain ⟨h1, h2⟩ := an h
  refine ⟨?_, by simpa using h2, by simpa using h3, of_decide_eq_true h4, of_decide_eq_true h5, fun x hx => ?_, fun y hy e => ?_⟩
  · split at h1
    · assumption
    · cases h1
  · have q := List.all_eq_true.mp h6 x hx
    split at q <;> first | exact .inl (by assumption) | exact .inr (by assumption) | cases q
  · have q := List.all_eq_true.mp h7 y hy
    rw [e] at q
    cases q
/-- the i-th def -/
def DefC.okT (T : Tab) (i : Nat) (d : DefC) : Bool := scpB d.N d.ps d.scope && decide (d.t.n = d.N.length) && decide (d.t.np = d.ps.length) && decide (d.cn.length = d.cx.length) && (d.cx.all fun j => decide (j < i)) && decide (d.gn.length = d.gs.length) && (d.isc.all fun c => decide (c < T.cs.length)) &&
  agB (T.agc d) d.scope d.t.body d.body
/-! ### what is seen of the heap -/
def calB (T : Tab) (K : PySem.W.Frag) (n : CalN) (d : DefC) : Bool := match n with
  | .fn x => d.knd == 0 && decide (d.x = x) && (He.Fa.glo x).ok K && PySem.W.keepIn K (.ref (He.ga K x))
  | .me c m => d.knd == 1 && decide (d.x = T.cnm c) && decide (d.m = m) && (He.Fa.meth (T.cnm c) m).ok K && (He.Fa.cls (T.cnm c)).ok K && !((T.fls c).contains m)
  | .mk c x => d.knd == 1 && decide (d.x = T.cnm c) && decide (d.m = "__init__") && decide (T.cnm c = x) && (He.Fa.mkr x).ok K && (He.Fa.glo x).ok K
  | .mv c => d.knd == 1 && decide (d.x = T.cnm c) && decide (d.m = "__init__") && (He.Fa.mkr (T.cnm c)).ok K
  | .op c m => d.knd == 1 && decide (d.x = T.cnm c) && decide (d.m = m) && (He.Fa.meth (T.cnm c) m).ok K && PySem.W.fnIn K (He.ma K (He.ga K (T.cnm c)) m)
  | .cm c m => d.knd == 2 && decide (d.x = T.cnm c) && decide (d.m = m) && cmB K (He.ga K (T.cnm c)) m && !((T.fls c).contains m)
  | .pr c p => d.knd == 3 && decide (d.x = T.cnm c) && decide (d.m = p) && prB K (He.ga K (T.cnm c)) p && (He.Fa.cls (T.cnm c)).ok K
where
  cmB (K : PySem.W.Frag) (C : Addr) (m : Str) : Bool :=
    PySem.W.readsIn K C (.type "type") && He.eqO (PySem.W.specialIn K (.ref C) "__getattribute__") (some (some (.builtin "type.__getattribute__"))) &&
    (match PySem.W.findCls K (.ref C) (.type "type") m with
      | some (.get (.builtin b) (.ref p) .none (.ref C')) => decide (b = "classmethod.__get__") && decide (p = He.ma K C m) && decide (C' = C)
      | _ => false) &&
    (match PySem.W.recIn K (He.ma K C m) "classmethod" with
      | some (.ref g :: _) => PySem.W.fnIn K g
      | _ => false) &&
    PySem.W.plainGet K C Str.empty && PySem.W.isClsIn K C && He.eqO (PySem.W.findIn K (.ref C) m) (some (some (.ref (He.ma K C m)))) && decide (PySem.W.typeIn K (.ref (He.ma K C m)) = some (.type "classmethod")) &&
    He.eqO (PySem.W.specialIn K (.ref (He.ma K C m)) "__get__") (some (some (.builtin "classmethod.__get__"))) && decide (PySem.W.takesIn K (.ref (He.ma K C m)) = some false) && !(PySem.W.copiedNames.contains m)
  prB (K : PySem.W.Frag) (C : Addr) (m : Str) : Bool :=
    He.eqO (PySem.W.findIn K (.ref C) m) (some (some (.ref (He.ma K C m)))) && He.eqO (PySem.W.specialIn K (.ref (He.ma K C m)) "__get__") (some (some (.builtin "property.__get__"))) && decide (PySem.W.takesIn K (.ref (He.ma K C m)) = some true) &&
    (match PySem.W.recIn K (He.ma K C m) "property" with
      | some (.ref _ :: _) => true
      | _ => false)
/-- a function's record -/
abbrev FnRec : Type := Option (Str × Str × Arguments × FuncBody × Scope × Addr × List (Str × Addr) × Value × Addr)
def fnRec (K : PySem.W.Frag) (a : Addr) : FnRec := match K.lookup a with
  | some ⟨_, _, .func fd, _⟩ => some (fd.name, fd.qualname, fd.params, fd.body, fd.scope, fd.globals, fd.closure, fd.defaults, fd.builtins)
  | _ => none
def DefC.val (d : DefC) : FnRec := some (d.name, d.qual, d.params, .stmts d.body, d.scope, mainGlobals, [], .none, builtinsNs)
def DefC.codeB (K : PySem.W.Frag) (d : DefC) : Bool := match K.lookup (d.adr K) with
  | some ⟨_, _, .func fd, _⟩ => PySem.W.codeIn K fd.code d.qual
  | _ => false
theorem fnRec_ok {K : PySem.W.Frag} {d : DefC} (e : fnRec K (d.adr K) = d.val) (c : d.codeB K = true) :
    ∃ oc od osl kV doc pm an cdv ct, K.lookup (d.adr K) = some ⟨oc, od, .func (PySem.W.fnOf d.name d.qual d.params d.body d.scope .none kV doc pm an cdv ct), osl⟩ ∧ PySem.W.codeIn K cdv d.qual = true := by
  unfold DefC.codeB at c
  unfold fnRec at e
  cases q : K.lookup (d.adr K) with
  | none =>
    rw [q] at c
    cases c
  | some o =>
    obtain ⟨oc, od, dt, osl⟩ := o
    rw [q] at c e
    cases dt with
    | func fd =>
      obtain ⟨n1, n2, n3, n4, n5, n6, n7, n8, n9, n10, n11, n12, n13, n14, n15⟩ := fd
      have e2 : (some (n1, n2, n3, n4, n5, n6, n7, n8, n15) : FnRec) = some (d.name, d.qual, d.params, .stmts d.body, d.scope, mainGlobals, [], .none, builtinsNs) := e
      simp only [Option.some.injEq, Prod.mk.injEq] at e2
      obtain ⟨h1, h2, h3, h4, h5, h6, h7, h8, h9⟩ := e2
      subst h1 h2 h3 h4 h5 h6 h7 h8 h9
      exact ⟨oc, od, osl, n9, n10, n11, n12, n13, n14, rfl, c⟩
    | _ => cases c
def clsB (T : Tab) (K : PySem.W.Frag) (c : Nat) : Bool := (He.Fa.cls (T.cnm c)).ok K && (He.Fa.glo (T.cnm c)).ok K && ((T.fls c).all fun f => (He.Fa.noat (T.cnm c) f).ok K) && decide (T.fls c).Nodup && decide ((T.fls c).length < 1000) &&
  He.eqO (PySem.W.findIn K (.ref (He.ga K (T.cnm c))) "__class__") (some (some (.builtin "object.__class__"))) && decide (PySem.W.mroIn K (He.ga K (T.cnm c)) (.type "object") = some true)
def objB (K : PySem.W.Frag) : Bool := He.eqO (PySem.W.specialIn K (.builtin "object.__class__") "__get__") (some (some (.builtin "getset_descriptor.__get__"))) && decide (PySem.W.takesIn K (.builtin "object.__class__") = some true)
def tyDs (n : Nat) : List TyD := [.non, .bool, .int, .str, .list, .tuple, .dict] ++ (List.range n).map .cls
def tyCs (n : Nat) : List TyC := [.int, .bool, .str, .list, .tuple, .dict] ++ (List.range n).map .cls
def glK (K : PySem.W.Frag) (x : Str) : D → Bool
  | .int i => (He.Fa.int x i).ok K
  | .str s => (He.Fa.str x s).ok K
  | _ => false
def DefC.okK (T : Tab) (K : PySem.W.Frag) (d : DefC) : Bool := d.codeB K && ((List.range d.cn.length).all fun j => match d.cn[j]?, d.cx[j]? with
    | some n, some i => (match T.ds[i]? with
      | some e => calB T K n e
      | none => false)
    | _, _ => false) && ((List.range d.gn.length).all fun j => match d.gn[j]?, d.gs[j]? with
    | some x, some v => glK K x v
    | _, _ => false) && (d.knd != 0 || (He.Fa.glo d.x).ok K)
def Tab.okK (T : Tab) (K : PySem.W.Frag) : Bool := (bltN.all fun x => (He.Fa.free x).ok K) && objB K && ((List.range T.cs.length).all fun c => clsB T K c) &&
  ((List.range T.cs.length).all fun c => (List.range T.cs.length).all fun c' => PySem.W.notFirst K (He.ga K (T.cnm c)) (.ref (He.ga K (T.cnm c')))) &&
  ((tyDs T.cs.length).all fun a => (tyCs T.cs.length).all fun t => decide (PySem.W.kitOne K (tyDV (T.gm K) a) (tyCV (T.gm K) t) = some (tyLe a t))) && (T.ds.all fun d => d.okK T K)
def FnFact (K : PySem.W.Frag) (d : DefC) : Prop := ∃ oc od osl kV doc pm an cdv ct, K.lookup (d.adr K) = some ⟨oc, od, .func (PySem.W.fnOf d.name d.qual d.params d.body d.scope .none kV doc pm an cdv ct), osl⟩ ∧ PySem.W.codeIn K cdv d.qual = true
/-- how a def's parameters are bound -/
def BindC (d : DefC) : Prop := ∀ (kV doc pm : Value) (an : Option Addr) (cdv ct : Value) (us : List Value), us.length = d.ps.length → bindArgs (PySem.W.fnOf d.name d.qual d.params d.body d.scope .none kV doc pm an cdv ct) ⟨us, []⟩ = pure (d.ps.zip us)
def evStep (d : DefC) (acc : List FnS) : FnS := evD ⟨d.cx.map fun i => (acc[i]?).getD (fun _ => none), d.gs⟩ d.t
def evTab : List DefC → List FnS → List FnS
  | [], acc => acc
  | d :: r, acc => evTab r (acc ++ [evStep d acc])
section
variable {T : Tab} {P : Program} {w : World} {K : PySem.W.Frag} {mg : Str → Option Value} {base : Heap}
theorem recAt_ok {p : Addr} {k : String} (h : (match PySem.W.recIn K p k with
      | some (.ref g :: _) => true
      | _ => false) = true) : ∃ rest, PySem.W.recIn K p k = some (.ref (recAt K p k) :: rest) := by
  unfold recAt
  split at h
  · rename_i g rest q
    exact ⟨rest, by rw [q]⟩
  · cases h
/-- a def of the table, done -/
def Done (T : Tab) (P : Program) (w : World) (K : PySem.W.Frag) (mg : Str → Option Value) (base : Heap) (i : Nat) (d : DefC) (f : FnS) : Prop :=
  ∃ fd, FnOk P w K mg base CX0 (2 * i + 2) (d.adr K) fd d.ps (spD (T.gm K) K d.ps.length f) ∧ Binds K fd d.ps [] ∧ FnL f d.ps.length ∧ ∃ oc od osl, K.lookup (d.adr K) = some ⟨oc, od, .func fd, osl⟩
theorem cal_ok {i k : Nat} {X : Cx} {n : CalN} {d : DefC} {f : FnS} (hX : X.prog = P ∧ X.w = w ∧ X.K = K ∧ X.mg = mg ∧ X.base = base) (KX : K.In base) (G : base.Ns mainGlobals mg) (c : calB T K n d = true) (D : Done T P w K mg base i d f) (R : Room k X.A) (hk : 2 * i + 3 ≤ k) : CalOk X (T.gm K) CX0 n f := by
  obtain ⟨rfl, rfl, rfl, rfl, rfl⟩ := hX
  obtain ⟨fd, F, B, L, _⟩ := D
  cases n with
  | fn x =>
    unfold calB at c
    obtain ⟨c, c4⟩ := an c
    obtain ⟨c, c3⟩ := an c
    obtain ⟨c1, c2⟩ := an c
    have e : d.adr X.K = He.ga X.K x := by
      unfold DefC.adr
      rw [eq_of_beq c1, ← of_decide_eq_true c2]
      rfl
    rw [e] at F
    exact ⟨_, fd, d.ps, 2 * i + 2, F, R.mono (by omega), He.glo_ok KX G c3, c4, B, L⟩
  | me c' m =>
    unfold calB at c
    obtain ⟨c, c6⟩ := an c
    obtain ⟨c, c5⟩ := an c
    obtain ⟨c, c4⟩ := an c
    obtain ⟨c, c3⟩ := an c
    obtain ⟨c1, c2⟩ := an c
    have e : d.adr X.K = He.ma X.K (He.ga X.K (T.cnm c')) m := by
      unfold DefC.adr
      rw [eq_of_beq c1, ← of_decide_eq_true c2, ← of_decide_eq_true c3]
      rfl
    rw [e] at F
    refine ⟨_, fd, d.ps, 2 * i + 2, F, R.mono (by omega), He.meth_ok c4, B, He.cls_ok c5, fun z => ?_, L⟩
    have z : m ∈ T.fls c' := z
    rw [List.contains_iff_mem.mpr z] at c6
    cases c6
  | mk c' x =>
    unfold calB at c
    obtain ⟨c, c6⟩ := an c
    obtain ⟨c, c5⟩ := an c
    obtain ⟨c, c4⟩ := an c
    obtain ⟨c, c3⟩ := an c
    obtain ⟨c1, c2⟩ := an c
    have e4 := of_decide_eq_true c4
    subst e4
    have e : d.adr X.K = He.ma X.K (He.ga X.K (T.cnm c')) "__init__" := by
      unfold DefC.adr
      rw [eq_of_beq c1, ← of_decide_eq_true c2, ← of_decide_eq_true c3]
      rfl
    rw [e] at F
    exact ⟨_, fd, d.ps, 2 * i + 2, F, R.mono (by omega), He.mkr_ok c5, He.glo_ok KX G c6, B, L⟩
  | mv c' =>
    unfold calB at c
    obtain ⟨c, c5⟩ := an c
    obtain ⟨c, c3⟩ := an c
    obtain ⟨c1, c2⟩ := an c
    have e : d.adr X.K = He.ma X.K (He.ga X.K (T.cnm c')) "__init__" := by
      unfold DefC.adr
      rw [eq_of_beq c1, ← of_decide_eq_true c2, ← of_decide_eq_true c3]
      rfl
    rw [e] at F
    exact ⟨_, fd, d.ps, 2 * i + 2, F, R.mono (by omega), He.mkr_ok c5, B, L⟩
  | op c' m =>
    unfold calB at c
    obtain ⟨c, c5⟩ := an c
    obtain ⟨c, c4⟩ := an c
    obtain ⟨c, c3⟩ := an c
    obtain ⟨c1, c2⟩ := an c
    have e : d.adr X.K = He.ma X.K (He.ga X.K (T.cnm c')) m := by
      unfold DefC.adr
      rw [eq_of_beq c1, ← of_decide_eq_true c2, ← of_decide_eq_true c3]
      rfl
    rw [e] at F
    have M := He.meth_ok c4
    exact ⟨_, fd, d.ps, 2 * i + 2, F, R.mono (by omega), M.at_, M.fn, c5, B, L⟩
  | cm c' m =>
    unfold calB at c
    obtain ⟨c, c6⟩ := an c
    obtain ⟨c, c5⟩ := an c
    obtain ⟨c, c3⟩ := an c
    obtain ⟨c1, c2⟩ := an c
    unfold calB.cmB at c5
    obtain ⟨c5, b11⟩ := an c5
    obtain ⟨c5, b10⟩ := an c5
    obtain ⟨c5, b9⟩ := an c5
    obtain ⟨c5, b8⟩ := an c5
    obtain ⟨c5, b7⟩ := an c5
    obtain ⟨c5, b6⟩ := an c5
    obtain ⟨c5, b5⟩ := an c5
    obtain ⟨c5, b4⟩ := an c5
    obtain ⟨c5, b3⟩ := an c5
    obtain ⟨b1, b2⟩ := an c5
    have e : d.adr X.K = recAt X.K (He.ma X.K (He.ga X.K (T.cnm c')) m) "classmethod" := by
      unfold DefC.adr
      rw [eq_of_beq c1, ← of_decide_eq_true c2, ← of_decide_eq_true c3]
      rfl
    rw [e] at F
    have rr : (∃ rest, PySem.W.recIn X.K (He.ma X.K (He.ga X.K (T.cnm c')) m) "classmethod" = some (.ref (recAt X.K (He.ma X.K (He.ga X.K (T.cnm c')) m) "classmethod") :: rest)) ∧ PySem.W.fnIn X.K (recAt X.K (He.ma X.K (He.ga X.K (T.cnm c')) m) "classmethod") = true := by
      unfold recAt
      split at b4
      · rename_i g rest q
        rw [q]
        exact ⟨⟨rest, rfl⟩, b4⟩
      · cases b4
    have at_ : PySem.W.findCls X.K (.ref (He.ga X.K (T.cnm c'))) (.type "type") m = some (.get (.builtin "classmethod.__get__") (.ref (He.ma X.K (He.ga X.K (T.cnm c')) m)) .none (.ref (He.ga X.K (T.cnm c')))) := by
      split at b3
      · rename_i b p C' q
        obtain ⟨b3, b33⟩ := an b3
        obtain ⟨b31, b32⟩ := an b3
        rw [q, of_decide_eq_true b31, of_decide_eq_true b32, of_decide_eq_true b33]
      · cases b3
    refine ⟨.type "type", _, _, fd, d.ps, 2 * i + 2, F, R.mono (by omega), ⟨b1, He.eqO_ok b2⟩, ⟨at_, rr.1, rr.2⟩, ⟨b5, b6, He.eqO_ok b7, of_decide_eq_true b8, He.eqO_ok b9, of_decide_eq_true b10, by simpa using b11, rr.1, rr.2⟩, B, L, fun z => ?_⟩
    have z : m ∈ T.fls c' := z
    rw [List.contains_iff_mem.mpr z] at c6
    cases c6
  | pr c' p =>
    unfold calB at c
    obtain ⟨c, c6⟩ := an c
    obtain ⟨c, c5⟩ := an c
    obtain ⟨c, c3⟩ := an c
    obtain ⟨c1, c2⟩ := an c
    unfold calB.prB at c5
    obtain ⟨c5, b4⟩ := an c5
    obtain ⟨c5, b3⟩ := an c5
    obtain ⟨b1, b2⟩ := an c5
    have e : d.adr X.K = recAt X.K (He.ma X.K (He.ga X.K (T.cnm c')) p) "property" := by
      unfold DefC.adr
      rw [eq_of_beq c1, ← of_decide_eq_true c2, ← of_decide_eq_true c3]
      rfl
    rw [e] at F
    exact ⟨_, _, fd, d.ps, 2 * i + 2, F, R.mono (by omega), ⟨He.eqO_ok b1, He.eqO_ok b2, of_decide_eq_true b3, recAt_ok b4⟩, B, He.cls_ok c6, L⟩
theorem cnm_lt {c : Nat} (h : T.fls c ≠ []) : c < T.cs.length := by
  unfold Tab.fls at h
  cases q : T.cs[c]? with
  | none => rw [q] at h; exact absurd rfl h
  | some k => exact (List.getElem?_eq_some_iff.mp q).1
theorem rng_all {n : Nat} {p : Nat → Bool} (h : (List.range n).all p = true) {c : Nat} (hc : c < n) : p c = true := List.all_eq_true.mp h c (List.mem_range.mpr hc)
theorem cls_ok' (c1 : objB K = true) {c : Nat} (h : clsB T K c = true) : ClsOk K (T.gm K) c := by
  unfold clsB at h
  obtain ⟨h, h7⟩ := an h
  obtain ⟨h, h6⟩ := an h
  obtain ⟨h, h5⟩ := an h
  obtain ⟨h, h4⟩ := an h
  obtain ⟨h, h3⟩ := an h
  obtain ⟨h1, h2⟩ := an h
  unfold objB at c1
  obtain ⟨o1, o2⟩ := an c1
  exact ⟨He.cls_ok h1, fun f hf => He.noat_ok (List.all_eq_true.mp h3 f hf), of_decide_eq_true h4, of_decide_eq_true h5, He.eqO_ok h6, He.eqO_ok o1, of_decide_eq_true o2, of_decide_eq_true h7⟩
theorem ty_mem {n : Nat} {a : TyD} (h : ∀ c, a = .cls c → c < n) : a ∈ tyDs n := by
  unfold tyDs
  cases a with
  | cls c => exact List.mem_append_right _ (List.mem_map.mpr ⟨c, List.mem_range.mpr (h c rfl), rfl⟩)
  | _ => exact List.mem_append_left _ (by simp)
theorem tc_mem {n : Nat} {a : TyC} (h : ∀ c, a = .cls c → c < n) : a ∈ tyCs n := by
  unfold tyCs
  cases a with
  | cls c => exact List.mem_append_right _ (List.mem_map.mpr ⟨c, List.mem_range.mpr (h c rfl), rfl⟩)
  | _ => exact List.mem_append_left _ (by simp)
theorem sx_ok {i : Nat} {d : DefC} {acc : List FnS} {cdv : Value} (KX : K.In base) (G : base.Ns mainGlobals mg) (hT : T.okK K = true) (hd : d.okK T K = true) (ht : d.okT T i = true) (hacc : ∀ j e, j < i → T.ds[j]? = some e → ∃ f, acc[j]? = some f ∧ Done T P w K mg base j e f)
    (Ar : Around) (outer : List PySem.Env) (s : Shared) (H : Hp) (E : XK) (hr : Room (2 * i + 1) (Ar.deeper (envOfC d.qual d.scope s.heap.objs.size (d.adr K) cdv))) :
    SX (cxOf CX0 P w K mg base d.N d.qual d.scope (d.adr K) cdv Ar outer s H E) (T.gm K) (T.agc d) ⟨d.cx.map fun i => (acc[i]?).getD (fun _ => none), d.gs⟩ (fun cls dd _ H => E cls dd H) CX0 := by
  unfold DefC.okT at ht
  obtain ⟨ht, t8⟩ := an ht
  obtain ⟨ht, t7⟩ := an ht
  obtain ⟨ht, t6⟩ := an ht
  obtain ⟨ht, t5⟩ := an ht
  obtain ⟨ht, t4⟩ := an ht
  obtain ⟨ht, t3⟩ := an ht
  obtain ⟨t1, t2⟩ := an ht
  unfold Tab.okK at hT
  obtain ⟨hT, k6⟩ := an hT
  obtain ⟨hT, k5⟩ := an hT
  obtain ⟨hT, k4⟩ := an hT
  obtain ⟨hT, k3⟩ := an hT
  obtain ⟨k1, k2⟩ := an hT
  unfold DefC.okK at hd
  obtain ⟨hd, d4⟩ := an hd
  obtain ⟨hd, d3⟩ := an hd
  obtain ⟨d1, d2⟩ := an hd
  have t4 := of_decide_eq_true t4
  have t6 := of_decide_eq_true t6
  have iscl : ∀ c ∈ d.isc, c < T.cs.length := fun c hc => of_decide_eq_true (List.all_eq_true.mp t7 c hc)
  refine ⟨rfl, (scp_ok t1).nd, rfl, ?_, rfl, fun x hx => He.free_ok KX G (List.all_eq_true.mp k1 x hx), fun j x v e1 e2 => ?_, fun j n f e1 e2 => ?_, fun j n e1 => ?_, fun c hc => cls_ok' k2 (rng_all k3 (cnm_lt hc)), fun c c' hc hc' => rng_all (rng_all k4 (cnm_lt hc)) (cnm_lt hc'), fun c hc => ?_, fun a t ha htc => ?_, fun _ _ => rfl, fun σ pins H s e s' I c => c.elim, fun outer H s e s' c => c⟩
  · have := hr.un
    show (Ar.deeper (envOfC d.qual d.scope s.heap.objs.size (d.adr K) cdv)).units + 65 < cLine
    omega
  · have hj : j < d.gn.length := (List.getElem?_eq_some_iff.mp e1).1
    have q := rng_all d3 hj
    have e1 : d.gn[j]? = some x := e1
    have e2 : d.gs[j]? = some v := e2
    rw [e1, e2] at q
    cases v with
    | int i =>
      obtain ⟨t, e⟩ := He.int_ok KX G q
      exact ⟨_, .int i, e, ⟨t, rfl⟩, fun H => .int i⟩
    | str z =>
      obtain ⟨t, e⟩ := He.str_ok KX G q
      exact ⟨_, .str z, e, ⟨t, rfl⟩, fun H => .str z⟩
    | _ => cases q
  · have hj : j < d.cn.length := (List.getElem?_eq_some_iff.mp e1).1
    have q := rng_all d2 hj
    have e1 : d.cn[j]? = some n := e1
    have e2 : (d.cx.map fun i => (acc[i]?).getD (fun _ => none))[j]? = some f := e2
    rw [List.getElem?_map] at e2
    cases ex : d.cx[j]? with
    | none => rw [ex] at e2; cases e2
    | some i' =>
      rw [ex] at e2
      rw [e1, ex] at q
      dsimp only at q
      have hlt : i' < i := of_decide_eq_true (List.all_eq_true.mp t5 i' (List.mem_of_getElem? ex))
      cases eT : T.ds[i']? with
      | none => rw [eT] at q; cases q
      | some e =>
        rw [eT] at q
        obtain ⟨f', hf', D⟩ := hacc i' e hlt eT
        have ef : (acc[i']?).getD (fun _ => none) = f := Option.some.inj e2
        rw [hf'] at ef
        have ef : f' = f := ef
        subst ef
        exact cal_ok ⟨rfl, rfl, rfl, rfl, rfl⟩ KX G q D hr (by omega)
  · have hj : j < d.cn.length := (List.getElem?_eq_some_iff.mp e1).1
    refine ⟨_, List.getElem?_eq_getElem ?_⟩
    rw [List.length_map, ← t4]
    exact hj
  · have q := rng_all k3 (iscl c hc)
    unfold clsB at q
    obtain ⟨q, _⟩ := an q
    obtain ⟨q, _⟩ := an q
    obtain ⟨q, _⟩ := an q
    obtain ⟨q, _⟩ := an q
    obtain ⟨q, _⟩ := an q
    obtain ⟨_, q⟩ := an q
    exact He.glo_ok KX G q
  · have ma : a ∈ tyDs T.cs.length := ty_mem fun c e => by subst e; exact cnm_lt ha
    have mt : t ∈ tyCs T.cs.length := tc_mem fun c e => by subst e; exact iscl c htc
    exact of_decide_eq_true (List.all_eq_true.mp (List.all_eq_true.mp k5 a ma) t mt)
theorem def_done {i : Nat} {d : DefC} {acc : List FnS} (KX : K.In base) (G : base.Ns mainGlobals mg) (hT : T.okK K = true) (hd : d.okK T K = true) (ht : d.okT T i = true) (hb : BindC d) (hf : FnFact K d) (hacc : ∀ j e, j < i → T.ds[j]? = some e → ∃ f, acc[j]? = some f ∧ Done T P w K mg base j e f) :
    Done T P w K mg base i d (evStep d acc) := by
  obtain ⟨oc, od, osl, kV, doc, pm, an0, cdv, ct, lk, hcd⟩ := hf
  have S := sx_ok (P := P) (w := w) (cdv := cdv) KX G hT hd ht hacc
  unfold DefC.okT at ht
  obtain ⟨ht, t8⟩ := an ht
  obtain ⟨ht, t7⟩ := an ht
  obtain ⟨ht, t6⟩ := an ht
  obtain ⟨ht, t5⟩ := an ht
  obtain ⟨ht, t4⟩ := an ht
  obtain ⟨ht, t3⟩ := an ht
  obtain ⟨t1, t2⟩ := an ht
  have t3 := of_decide_eq_true t3
  refine ⟨_, fn_core (A := T.agc d) lk hcd (scp_ok t1) (of_decide_eq_true t2) t3 rfl t8 S, .all fun us hl => hb kV doc pm an0 cdv ct us hl, ?_, oc, od, osl, lk⟩
  have := evD_len (C := ⟨d.cx.map fun i => (acc[i]?).getD (fun _ => none), d.gs⟩) (cd := d.t)
  rw [t3] at this
  exact this
/-- all defs of a table -/
theorem tab_done (KX : K.In base) (G : base.Ns mainGlobals mg) (hT : T.okK K = true) : ∀ (r pre : List DefC) (acc : List FnS), T.ds = pre ++ r → acc.length = pre.length → (∀ j e, j < pre.length → T.ds[j]? = some e → ∃ f, acc[j]? = some f ∧ Done T P w K mg base j e f) →
    (∀ j d, T.ds[j]? = some d → d.okT T j = true ∧ BindC d ∧ FnFact K d) → ∀ j e, T.ds[j]? = some e → ∃ f, (evTab r acc)[j]? = some f ∧ Done T P w K mg base j e f
  | [], pre, acc, hds, hl, hacc, _ => fun j e he => by
    refine hacc j e ?_ he
    rw [hds, List.append_nil] at he
    exact (List.getElem?_eq_some_iff.mp he).1
  | d :: r, pre, acc, hds, hl, hacc, hx => by
    have hd : T.ds[pre.length]? = some d := by rw [hds, List.getElem?_append_right (Nat.le_refl _)]; simp
    obtain ⟨x1, x2, x3⟩ := hx pre.length d hd
    have hdK : d.okK T K = true := by
      have h := hT
      unfold Tab.okK at h
      exact List.all_eq_true.mp (an h).2 d (List.mem_of_getElem? hd)
    have D := def_done (P := P) (w := w) KX G hT hdK x1 x2 x3 hacc
    show ∀ j e, T.ds[j]? = some e → ∃ f, (evTab r (acc ++ [evStep d acc]))[j]? = some f ∧ Done T P w K mg base j e f
    refine tab_done KX G hT r (pre ++ [d]) (acc ++ [evStep d acc]) (by rw [hds]; simp) (by simp [hl]) (fun j e hj he => ?_) hx
    by_cases hjp : j < pre.length
    · obtain ⟨f, h1, h2⟩ := hacc j e hjp he
      exact ⟨f, by rw [List.getElem?_append_left (by rw [hl]; exact hjp)]; exact h1, h2⟩
    · have ej : j = pre.length := by rw [List.length_append] at hj; simp at hj; omega
      subst ej
      rw [hd] at he
      cases he
      exact ⟨_, by rw [← hl, List.getElem?_append_right (Nat.le_refl _)]; simp, D⟩
end
/-! ### the hook -/
abbrev AlT : Type := Bool × List FnRec
def obsT (T : Tab) (K : PySem.W.Frag) : AlT := (T.okK K, T.ds.map fun d => fnRec K (d.adr K))
def valT (T : Tab) : AlT := (true, T.ds.map DefC.val)
def SaysT (T : Tab) (K : PySem.W.Frag) : Prop := obsT T K = valT T
def obsTG (n : Nat) (T : Tab) (g : Addr → Option Obj) : AlT := obsT T (He.frG g (cStatics :: He.asD g n))
def hookT (n : Nat) (T : Tab) : PySem.W.Hook where
  α := AlT
  obs := fun s => obsTG n T s.heap.get?
  val := fun _ => valT T
  says := fun _ h => ∃ K : PySem.W.Frag, K.In h ∧ SaysT T K
  of := fun _ _ e => ⟨_, He.frG_in, e⟩
  keeps := fun _ _ _ ⟨K, hK, c⟩ k => ⟨K, PySem.W.Frag.In.keeps hK k, c⟩
theorem obsTG_eq {n : Nat} {T : Tab} {g : Addr → Option Obj} {s : Shared} (h : ∀ a, g a = s.heap.get? a) : obsTG n T g = (hookT n T).obs s := by
  have e : g = s.heap.get? := funext h
  rw [e] <;> rfl
theorem says_fn {T : Tab} {K : PySem.W.Frag} (c : SaysT T K) : T.okK K = true ∧ ∀ d ∈ T.ds, FnFact K d := by
  have c1 : T.okK K = true := congrArg (fun z : AlT => z.1) c
  have c2 : (T.ds.map fun d => fnRec K (d.adr K)) = T.ds.map DefC.val := congrArg (fun z : AlT => z.2) c
  refine ⟨c1, fun d hd => ?_⟩
  obtain ⟨j, hj⟩ := List.getElem?_of_mem hd
  have e2 : (T.ds.map fun d => fnRec K (d.adr K))[j]? = (T.ds.map DefC.val)[j]? := by rw [c2]
  rw [List.getElem?_map, List.getElem?_map, hj] at e2
  have c3 := c1
  unfold Tab.okK at c3
  have hk := List.all_eq_true.mp (an c3).2 d hd
  unfold DefC.okK at hk
  exact fnRec_ok (Option.some.inj e2) (an (an (an hk).1).1).1
end BC
set_option Elab.async false
set_option linter.all false
set_option maxRecDepth 100000
set_option maxHeartbeats 8000000
/-! A law over a table. -/
namespace BC
open PySem PySem.Spec PyProof.Rows L2
def scrD (ns : List Int) : T := .sh (.nd .scr (ns.map D.int))
def lawF (T : Tab) (li : Nat) : FnS := ((evTab T.ds [])[li]?).getD fun _ => none
theorem tab_law {T : Tab} {li n : Nat} {d : DefC} {x : Str} {P : Program} (stat : ∀ j d, T.ds[j]? = some d → d.okT T j = true ∧ BindC d) (hd : T.ds[li]? = some d) (hk : d.knd = 0) (hps : d.ps = [x])
    (law : ∀ ns : List Int, ns.length ≤ n → ∃ ts', lawF T li [scrD ns] = some (.ret (.sh (.bl true)), ts')) (w : World) (mg : Str → Option Value) (fa : Addr) (h : Heap) (Y : ∃ K : PySem.W.Frag, K.In h ∧ SaysT T K) (G : h.Ns mainGlobals mg) (hmg : mg d.x = some (.ref fa)) :
    ∃ (K : PySem.W.Frag) (fd : FuncData) (sp : Sp), K.In h ∧ (∀ (s : Shared) (u : Value), BindsTo s fd ⟨[u], []⟩ [(x, u)]) ∧
      (∀ (H : Hp) (a : Addr) (ns : List Int), ns.length ≤ n → Only H → SqL K H a (ns.map V.int) → sp [.ref a] H (fun v _ => v = .bl true) fun _ _ _ => False) ∧
      ∀ base : Heap, K.In base → base.Ns mainGlobals mg → FnOk P w K mg base CX0 (2 * li + 2) fa fd [x] sp := by
  obtain ⟨K, KX, c⟩ := Y
  obtain ⟨okK, facts⟩ := says_fn c
  have hdm := List.mem_of_getElem? hd
  obtain ⟨oc, od, osl, kV, doc, pm, an0, cdv, ct, lk, hcd⟩ := facts d hdm
  have hdK : d.okK T K = true := by
    have h := okK
    unfold Tab.okK at h
    exact List.all_eq_true.mp (an h).2 d hdm
  have hga : He.ga K d.x = fa := by
    unfold DefC.okK at hdK
    have q := (an hdK).2
    rw [hk] at q
    have q2 : (He.Fa.glo d.x).ok K = true := by simpa using q
    have e := He.glo_ok KX G q2
    rw [hmg] at e
    cases e
    rfl
  have hadr : d.adr K = fa := by
    unfold DefC.adr
    rw [hk]
    exact hga
  have done : ∀ (base : Heap), K.In base → base.Ns mainGlobals mg → ∃ f, (evTab T.ds [])[li]? = some f ∧ Done T P w K mg base li d f := fun base KB GB =>
    tab_done KB GB okK T.ds [] [] rfl rfl (fun j e hj => absurd hj (Nat.not_lt_zero _)) (fun j d hj => ⟨(stat j d hj).1, (stat j d hj).2, facts d (List.mem_of_getElem? hj)⟩) li d hd
  refine ⟨K, PySem.W.fnOf d.name d.qual d.params d.body d.scope .none kV doc pm an0 cdv ct, spD (T.gm K) K 1 (lawF T li), KX, fun s u => ?_, fun H a ns hl hO hS => ?_, fun base KB GB => ?_⟩
  · have e := (stat li d hd).2 kV doc pm an0 cdv ct [u] (by rw [hps]; rfl)
    rw [hps] at e
    exact .of_eq e
  · obtain ⟨ts', e⟩ := law ns hl
    have L : FnL (lawF T li) 1 := by
      obtain ⟨f, hf, fd, _, _, L, _⟩ := done h KX G
      unfold lawF
      rw [hf]
      rw [hps] at L
      exact L
    obtain ⟨l1, l2⟩ := L _ _ _ e
    have rp : Rep (T.gm K) K H (.ref a) (.nd .scr (ns.map D.int)) := .nd hS ints_reps
    refine ⟨H, [], [scrD ns], _, ts', rfl, rfl, l2, ?_, e, ?_⟩
    · refine OwnS.addSh rp ⟨Le.rfl', rfl, fun i t h => by simp at h, [], .nil, List.nodup_nil, fun a ha => by simp at ha⟩
    · intro H' Hs' v o
      have r := OwnS.rep o
      cases r
      rfl
  · obtain ⟨f, hf, fd, F, _, _, oc', od', osl', lk'⟩ := done base KB GB
    rw [lk] at lk'
    cases lk'
    have el : lawF T li = f := by
      unfold lawF
      rw [hf]
      rfl
    rw [el]
    rw [hadr, hps] at F
    exact F
end BC
set_option Elab.async false
set_option linter.all false
set_option maxRecDepth 100000
set_option maxHeartbeats 8000000
/-! How Core terms are run by hand: conditions under which they end well. -/
namespace BC
open PySem PySem.Spec PyProof.Rows L2
def WE {α : Type} (m : M α) (e : En) (P : α → En → Prop) : Prop := ∃ a e', m e = some (.ok a, e') ∧ P a e'
def Fl.isX : Fl → Bool
  | .exc _ _ => true
  | _ => false
def WS (m : MS) (e : En) (P : Fl → En → Prop) : Prop := ∃ r e', m e = some (r, e') ∧ r.isX = false ∧ P r e'
section
variable {α β : Type} {e : En}
theorem WE_bd {m : M α} {f : α → M β} {P : β → En → Prop} : WE (bd m f) e P ↔ WE m e fun a e1 => WE (f a) e1 P := by
  unfold WE bd
  constructor
  · rintro ⟨b, e', h, p⟩
    cases q : m e with
    | none => rw [q] at h; cases h
    | some r =>
      obtain ⟨r, e1⟩ := r
      rw [q] at h
      cases r with
      | ok a => exact ⟨a, e1, rfl, b, e', h, p⟩
      | exc c ds => cases h
  · rintro ⟨a, e1, q, b, e', h, p⟩
    exact ⟨b, e', by rw [q]; exact h, p⟩
theorem WE_ret {a : α} {P : α → En → Prop} : WE (ret a) e P ↔ P a e := by
  unfold WE ret
  constructor
  · rintro ⟨b, e', h, p⟩
    cases h
    exact p
  · exact fun p => ⟨a, e, rfl, p⟩
theorem WE_lift {f : En → Option α} {P : α → En → Prop} : WE (lift f) e P ↔ ∃ a, f e = some a ∧ P a e := by
  unfold WE lift
  constructor
  · rintro ⟨b, e', h, p⟩
    cases q : f e with
    | none => rw [q] at h; cases h
    | some a => rw [q] at h; cases h; exact ⟨_, rfl, p⟩
  · rintro ⟨a, q, p⟩
    exact ⟨a, e, by rw [q], p⟩
theorem WS_sq {m n : MS} {P : Fl → En → Prop} : WS (sq m n) e P ↔ WS m e fun r e1 => match r with
    | .nx => WS n e1 P
    | r => P r e1 := by
  unfold WS sq
  constructor
  · rintro ⟨r, e', h, x0, p⟩
    cases q : m e with
    | none => rw [q] at h; cases h
    | some x =>
      obtain ⟨x, e1⟩ := x
      rw [q] at h
      cases x with
      | nx => exact ⟨_, e1, rfl, rfl, r, e', h, x0, p⟩
      | bk => cases h; exact ⟨_, _, rfl, rfl, p⟩
      | ct => cases h; exact ⟨_, _, rfl, rfl, p⟩
      | ret t => cases h; exact ⟨_, _, rfl, rfl, p⟩
      | exc c ds => cases h; cases x0
  · rintro ⟨x, e1, q, x0, h⟩
    cases x with
    | nx =>
      obtain ⟨r, e', h, x1, p⟩ := h
      exact ⟨r, e', by rw [q]; exact h, x1, p⟩
    | bk => exact ⟨_, e1, by rw [q], rfl, h⟩
    | ct => exact ⟨_, e1, by rw [q], rfl, h⟩
    | ret t => exact ⟨_, e1, by rw [q], rfl, h⟩
    | exc c ds => cases x0
theorem WS_bdS {m : M α} {f : α → MS} {P : Fl → En → Prop} : WS (bdS m f) e P ↔ WE m e fun a e1 => WS (f a) e1 P := by
  unfold WS bdS WE
  constructor
  · rintro ⟨r, e', h, x0, p⟩
    cases q : m e with
    | none => rw [q] at h; cases h
    | some x =>
      obtain ⟨x, e1⟩ := x
      rw [q] at h
      cases x with
      | ok a => exact ⟨a, e1, rfl, r, e', h, x0, p⟩
      | exc c ds => cases h; cases x0
  · rintro ⟨a, e1, q, r, e', h, x0, p⟩
    exact ⟨r, e', by rw [q]; exact h, x0, p⟩
theorem WS_upS {f : En → Option En} {P : Fl → En → Prop} : WS (upS f) e P ↔ ∃ e', f e = some e' ∧ P .nx e' := by
  unfold WS upS
  constructor
  · rintro ⟨r, e', h, x0, p⟩
    cases q : f e with
    | none => rw [q] at h; cases h
    | some a => rw [q] at h; cases h; exact ⟨_, rfl, p⟩
  · rintro ⟨a, q, p⟩
    exact ⟨_, a, by rw [q], rfl, p⟩
theorem WS_fn {r : Fl} {f : En → En} {P : Fl → En → Prop} (h : r.isX = false) : WS (fun e => some (r, f e)) e P ↔ P r (f e) := by
  unfold WS
  constructor
  · rintro ⟨r', e', q, x0, p⟩
    cases q
    exact p
  · exact fun p => ⟨_, _, rfl, h, p⟩
theorem WS_ret {t : T} {P : Fl → En → Prop} : WS (fun e => some (.ret t, e)) e P ↔ P (.ret t) e := WS_fn (f := fun e => e) rfl
theorem WS_nx {P : Fl → En → Prop} : WS (fun e => some (.nx, e)) e P ↔ P .nx e := WS_fn (f := fun e => e) rfl
theorem WS_bk {P : Fl → En → Prop} : WS (fun e => some (.bk, e)) e P ↔ P .bk e := WS_fn (f := fun e => e) rfl
theorem WS_ite {c : Prop} [Decidable c] {m n : MS} {P : Fl → En → Prop} : WS (if c then m else n) e P ↔ if c then WS m e P else WS n e P := by split <;> rfl
theorem WE_ite {c : Prop} [Decidable c] {m n : M α} {P : α → En → Prop} : WE (if c then m else n) e P ↔ if c then WE m e P else WE n e P := by split <;> rfl
theorem WE_no {P : α → En → Prop} : WE (fun _ => none) e P ↔ False := ⟨fun ⟨_, _, h, _⟩ => (by cases h), False.elim⟩
theorem WS_no {P : Fl → En → Prop} : WS (fun _ => none) e P ↔ False := ⟨fun ⟨_, _, h, _⟩ => (by cases h), False.elim⟩
/-- what depends on the slots -/
theorem WE_at {f : En → M α} {P : α → En → Prop} : WE (fun e => f e e) e P ↔ WE (f e) e P := Iff.rfl
theorem WE_some {a : α} {e' : En} {m : M α} {P : α → En → Prop} (h : m e = some (.ok a, e')) : WE m e P ↔ P a e' := by
  unfold WE
  rw [h]
  constructor
  · rintro ⟨b, e1, q, p⟩
    cases q
    exact p
  · exact fun p => ⟨_, _, rfl, p⟩
theorem WS_some {r : Fl} {e' : En} {m : MS} {P : Fl → En → Prop} (h : m e = some (r, e')) (x : r.isX = false) : WS m e P ↔ P r e' := by
  unfold WS
  rw [h]
  constructor
  · rintro ⟨b, e1, q, _, p⟩
    cases q
    exact p
  · exact fun p => ⟨_, _, rfl, x, p⟩
theorem WE_mono {m : M α} {P Q : α → En → Prop} (h : WE m e P) (k : ∀ a e', P a e' → Q a e') : WE m e Q := by
  obtain ⟨a, e', q, p⟩ := h
  exact ⟨a, e', q, k a e' p⟩
theorem WS_mono {m : MS} {P Q : Fl → En → Prop} (h : WS m e P) (k : ∀ a e', P a e' → Q a e') : WS m e Q := by
  obtain ⟨a, e', q, x, p⟩ := h
  exact ⟨a, e', q, x, k a e' p⟩
/-- a for, by what holds ahead of each turn -/
theorem WS_for {g : CG} {b : MS} {P : Fl → En → Prop} (I : List D → En → Prop) : ∀ {ds : List D} {e : En}, I ds e → (∀ d r e, I (d :: r) e → ∃ e1, gset g (.sh d) e = some e1 ∧ WS b e1 fun fl e2 => match fl with
    | .nx => I r e2
    | .ct => I r e2
    | .bk => P .nx e2
    | fl => P fl e2) → (∀ e, I [] e → P .nx e) → WS (forL g b ds) e P
  | [], e, h, _, f => ⟨.nx, e, by simp only [forL], rfl, f e h⟩
  | d :: r, e, h, s, f => by
    obtain ⟨e1, q1, fl, e2, q2, x, p⟩ := s d r e h
    have q3 : ∀ z, (match (fl, e2) with
      | (.nx, e2) => forL g b r e2
      | (.ct, e2) => forL g b r e2
      | (.bk, e2) => some (.nx, e2)
      | r => some r) = z → forL g b (d :: r) e = z := fun z hz => by
      rw [← hz]
      conv => lhs; unfold forL
      rw [q1]
      dsimp only
      rw [q2]
      cases fl <;> rfl
    cases fl with
    | nx =>
      obtain ⟨r', e', h1, h2⟩ := WS_for (P := P) I p s f
      exact ⟨r', e', q3 _ h1, h2⟩
    | ct =>
      obtain ⟨r', e', h1, h2⟩ := WS_for (P := P) I p s f
      exact ⟨r', e', q3 _ h1, h2⟩
    | bk => exact ⟨_, e2, q3 _ rfl, rfl, p⟩
    | ret t => exact ⟨_, e2, q3 _ rfl, rfl, p⟩
    | exc c ds => cases x
/-- a comprehension, by what holds ahead of each turn -/
theorem lc_for {own : List Nat} {g : CG} {t : M Bool} {c : M T} {P : List T → En → Prop} (I : List D → List T → En → Prop) : ∀ {ds : List D} {acc : List T} {e : En}, I ds acc e →
    (∀ d r acc e, I (d :: r) acc e → ∃ e1, gset g (.sh d) e = some e1 ∧ WE t e1 fun b e2 => if b = true then WE c e2 fun x e3 => acc.length < sizeLine ∧ I r (acc ++ [x]) (wipeE own e3) else I r acc (wipeE own e2)) →
    (∀ acc e, I [] acc e → P acc e) → ∃ ts e', lcLoop own g t c ds acc e = some (ts, e') ∧ P ts e'
  | [], acc, e, h, _, f => ⟨acc, e, by simp only [lcLoop], f acc e h⟩
  | d :: r, acc, e, h, s, f => by
    obtain ⟨e1, q1, b, e2, q2, p⟩ := s d r acc e h
    unfold lcLoop
    rw [q1]
    dsimp only
    rw [q2]
    cases b with
    | false =>
      rw [if_neg Bool.false_ne_true] at p
      exact lc_for I p s f
    | true =>
      rw [if_pos rfl] at p
      obtain ⟨x, e3, q3, hz, p⟩ := p
      dsimp only
      rw [q3]
      dsimp only
      rw [if_pos hz]
      exact lc_for I p s f
theorem WE_lc {X : Ctx} {own : List Nat} {g : CG} {it : CI} {t : CTs} {c : CE} {P : T → En → Prop} (h : WE (evI X it) e fun ds e1 => ∃ ts e', lcLoop own g (evTs X t) (evE X c) ds [] (wipeE own e1) = some (ts, e') ∧ P (.ow .lst ts) e') : WE (evE X (.lc own g it t c)) e P := by
  simp only [evE]
  rw [WE_bd]
  refine WE_mono h fun ds e1 ⟨ts, e', q, p⟩ => ⟨.ow .lst ts, e', ?_, p⟩
  dsimp only
  rw [q]
theorem dc_for {own : List Nat} {g : CG} {t : M Bool} {k v : M T} {P : List Key → List T → En → Prop} (I : List D → List Key → List T → En → Prop) : ∀ {ds : List D} {ks : List Key} {acc : List T} {e : En}, I ds ks acc e →
    (∀ d r ks acc e, I (d :: r) ks acc e → ∃ e1, gset g (.sh d) e = some e1 ∧ WE t e1 fun b e2 => if b = true then WE k e2 fun kt e3 => ∃ kd key, kt = .sh kd ∧ kd.key = some key ∧ WE v e3 fun x e4 => ks.length < sizeLine ∧ I r (putL ks acc key x).1 (putL ks acc key x).2 (wipeE own e4) else I r ks acc (wipeE own e2)) →
    (∀ ks acc e, I [] ks acc e → P ks acc e) → ∃ ks' ts e', dcLoop own g t k v ds ks acc e = some (ks', ts, e') ∧ P ks' ts e'
  | [], ks, acc, e, h, _, f => ⟨ks, acc, e, by simp only [dcLoop], f ks acc e h⟩
  | d :: r, ks, acc, e, h, s, f => by
    obtain ⟨e1, q1, b, e2, q2, p⟩ := s d r ks acc e h
    unfold dcLoop
    rw [q1]
    dsimp only
    rw [q2]
    cases b with
    | false =>
      rw [if_neg Bool.false_ne_true] at p
      exact dc_for I p s f
    | true =>
      rw [if_pos rfl] at p
      obtain ⟨kt, e3, q3, kd, key, rfl, hk, x, e4, q4, hz, p⟩ := p
      dsimp only
      rw [q3]
      dsimp only
      rw [q4]
      dsimp only
      rw [hk]
      dsimp only
      rw [if_pos hz]
      exact dc_for I p s f
theorem WE_dc {X : Ctx} {b : Bool} {own : List Nat} {g : CG} {it : CI} {t : CTs} {k c : CE} {P : T → En → Prop} (h : WE (evI X it) e fun ds e1 => ∃ ks ts e', dcLoop own g (evTs X t) (evE X k) (evE X c) ds [] [] (wipeE own e1) = some (ks, ts, e') ∧ P (.ow (.dk ks) ts) e') : WE (evE X (.dc b own g it t k c)) e P := by
  simp only [evE]
  rw [WE_bd]
  refine WE_mono h fun ds e1 ⟨ks, ts, e', q, p⟩ => ⟨.ow (.dk ks) ts, e', ?_, p⟩
  dsimp only
  rw [q]
/-- a call -/
theorem WE_call {f : FnS} {os : List OV} {P : T → En → Prop} (h : ∃ ts e1 t ts', lend os e = some (ts, e1) ∧ f ts = some (.ret t, ts') ∧ P t (back os ts' e1)) : WE (callF f os) e P := by
  obtain ⟨ts, e1, t, ts', q1, q2, p⟩ := h
  exact ⟨t, back os ts' e1, by unfold callF; rw [q1]; dsimp only; rw [q2], p⟩
theorem WE_make {c : Nat} {f : FnS} {os : List OV} {P : T → En → Prop} (h : ∃ ts e1 t ts', lend os e = some (ts, e1) ∧ f (.ow (.ins c) [] :: ts) = some (.ret (.sh .non), t :: ts') ∧ P t (back os ts' e1)) : WE (makeF c f os) e P := by
  obtain ⟨ts, e1, t, ts', q1, q2, p⟩ := h
  exact ⟨t, back os ts' e1, by unfold makeF; rw [q1]; dsimp only; rw [q2], p⟩
theorem WE_noExc {m : M T} {P : T → En → Prop} (h : WE m e P) : WE (noExc m) e P := by
  obtain ⟨t, e', q, p⟩ := h
  exact ⟨t, e', by unfold noExc; rw [q], p⟩
/-- a def that returns -/
theorem evD_ret {X : Ctx} {cd : CDef} {ts : List T} {P : T → List T → Prop} (hl : ts.length = cd.np) (h : WS (evB X cd.body) (ts ++ List.replicate (cd.n - cd.np) .un) fun r e => match r with
    | .ret t => P t (backP cd.asn 0 ts e)
    | .nx => P (.sh .non) (backP cd.asn 0 ts e)
    | _ => False) : ∃ t ts', evD X cd ts = some (.ret t, ts') ∧ P t ts' := by
  obtain ⟨r, e, q, _, p⟩ := h
  unfold evD
  rw [if_pos hl, q]
  cases r with
  | ret t => exact ⟨t, _, rfl, p⟩
  | nx => exact ⟨_, _, rfl, p⟩
  | _ => exact p.elim
end
end BC
set_option Elab.async false
set_option linter.all false
set_option maxRecDepth 100000
set_option maxHeartbeats 4000000
/-! One rule a form, for running Core terms by hand (by simp only). -/
namespace BC
open PySem PySem.Spec PyProof.Rows L2
section
variable {X : Ctx} {e : En} {P : T → En → Prop} {PO : OV → En → Prop} {PB : Bool → En → Prop} {PS : Fl → En → Prop} {a b c : CO}
theorem OVrd_s {i : Nat} : (OV.s i).rd e = (e[i]?).bind T.rd := rfl
theorem OVrd_t {t : T} : (OV.t t).rd e = t.rd := rfl
theorem OVsd_s {i : Nat} : (OV.s i).sd e = (e[i]?).bind T.sd := rfl
theorem OVsd_t {t : T} : (OV.t t).sd e = t.sd := rfl
theorem OVget_s {i : Nat} : (OV.s i).get e = e[i]? := rfl
theorem OVget_t {t : T} : (OV.t t).get e = some t := rfl
theorem rd_sh {d : D} : (T.sh d).rd = some d := rfl
theorem sd_sh {d : D} : (T.sh d).sd = some d := rfl
theorem we_lit {d : D} : WE (evE X (.lit d)) e P ↔ P (.sh d) e := by simp only [evE, WE_ret]
theorem we_glb {j : Nat} : WE (evE X (.glb j)) e P ↔ ∃ d, X.gs[j]? = some d ∧ P (.sh d) e := by
  simp only [evE, WE_lift]
  cases X.gs[j]? <;> simp
theorem we_var {i : Nat} : WE (evE X (.var i)) e P ↔ ∃ d, (e[i]?).bind T.rd = some d ∧ P (.sh d) (e.set i (.sh d)) := by
  simp only [evE, rdVar, WE]
  cases (e[i]?).bind T.rd with
  | none => simp
  | some d =>
    constructor
    · rintro ⟨a, e', h, p⟩
      cases h
      exact ⟨d, rfl, p⟩
    · rintro ⟨a, h, p⟩
      cases h
      exact ⟨_, _, rfl, p⟩
theorem we_op2 {o : Op2} : WE (evE X (.op2 o a b)) e P ↔ WE (evO X a) e fun x e1 => WE (evO X b) e1 fun y e2 => ∃ t, ((x.sd e2).bind fun d => (y.sd e2).bind fun d' => pBin o d d') = some t ∧ P t e2 := by simp only [evE, WE_bd, WE_lift]
theorem we_b1 {f : B1} : WE (evE X (.b1 f a)) e P ↔ WE (evO X a) e fun x e1 => ∃ d, ((x.rd e1).bind fun d => pRd f d) = some d ∧ P (.sh d) e1 := by
  simp only [evE, WE_bd, WE_lift]
  constructor
  · refine fun h => WE_mono h fun x e1 ⟨t, h1, h2⟩ => ?_
    cases q : (x.rd e1).bind fun d => pRd f d with
    | none => rw [q] at h1; cases h1
    | some d => rw [q] at h1; cases h1; exact ⟨d, rfl, h2⟩
  · exact fun h => WE_mono h fun x e1 ⟨d, h1, h2⟩ => ⟨.sh d, by rw [h1]; rfl, h2⟩
theorem we_mk {f : B1} : WE (evE X (.mk f a)) e P ↔ WE (evO X a) e fun x e1 => ∃ t, ((x.sd e1).bind fun d => pMk f d) = some t ∧ P t e1 := by simp only [evE, WE_bd, WE_lift]
theorem we_cmp {o : Cm} : WE (evE X (.cmp o a b)) e P ↔ WE (evO X a) e fun x e1 => WE (evO X b) e1 fun y e2 => ∃ r, ((x.rd e2).bind fun d => (y.rd e2).bind fun d' => pCmp o d d') = some r ∧ P (.sh (.bl r)) e2 := by
  simp only [evE, WE_bd, WE_lift]
  constructor
  · refine fun h => WE_mono h fun x e1 h => WE_mono h fun y e2 ⟨t, h1, h2⟩ => ?_
    cases q : (x.rd e2).bind fun d => (y.rd e2).bind fun d' => pCmp o d d' with
    | none => rw [q] at h1; cases h1
    | some d => rw [q] at h1; cases h1; exact ⟨d, rfl, h2⟩
  · exact fun h => WE_mono h fun x e1 h => WE_mono h fun y e2 ⟨d, h1, h2⟩ => ⟨_, by rw [h1]; rfl, h2⟩
theorem wt_cmp {o : Cm} : WE (evT X (.cmp o a b)) e PB ↔ WE (evO X a) e fun x e1 => WE (evO X b) e1 fun y e2 => ∃ r, ((x.rd e2).bind fun d => (y.rd e2).bind fun d' => pCmp o d d') = some r ∧ PB r e2 := by simp only [evT, WE_bd, WE_lift]
theorem wt_val : WE (evT X (.val a)) e PB ↔ WE (evO X a) e fun x e1 => ∃ r, ((x.rd e1).bind pTru) = some r ∧ PB r e1 := by simp only [evT, WE_bd, WE_lift]
theorem wt_and {t u : CT} : WE (evT X (.andT t u)) e PB ↔ WE (evT X t) e fun r e1 => if r = true then WE (evT X u) e1 PB else PB false e1 := by simp only [evT, WE_bd, WE_ite, WE_ret]
theorem wt_or {t u : CT} : WE (evT X (.orT t u)) e PB ↔ WE (evT X t) e fun r e1 => if r = true then PB true e1 else WE (evT X u) e1 PB := by simp only [evT, WE_bd, WE_ite, WE_ret]
theorem wt_not {t : CT} : WE (evT X (.notT t)) e PB ↔ WE (evT X t) e fun r e1 => PB (!r) e1 := by simp only [evT, WE_bd, WE_ret]
theorem wts_nil : WE (evTs X .nil) e PB ↔ PB true e := by simp only [evTs, WE_ret]
theorem wts_cons {t : CT} {r : CTs} : WE (evTs X (.cons t r)) e PB ↔ WE (evT X t) e fun b e1 => if b = true then WE (evTs X r) e1 PB else PB false e1 := by simp only [evTs, WE_bd, WE_ite, WE_ret]
theorem wo_e {c : CE} : WE (evO X (.e c)) e PO ↔ WE (evE X c) e fun t e1 => PO (.t t) e1 := by simp only [evO, WE_bd, WE_ret]
theorem wo_v {i : Nat} : WE (evO X (.v i)) e PO ↔ ∃ t, e[i]? = some t ∧ t ≠ .un ∧ PO (.s i) e := by
  simp only [evO, WE_lift]
  cases e[i]? with
  | none => simp
  | some t => cases t <;> simp
theorem wos_nil {P : List OV → En → Prop} : WE (evOs X .nil) e P ↔ P [] e := by simp only [evOs, WE_ret]
theorem wos_cons {r : COs} {P : List OV → En → Prop} : WE (evOs X (.cons a r)) e P ↔ WE (evO X a) e fun o e1 => WE (evOs X r) e1 fun os e2 => P (o :: os) e2 := by simp only [evOs, WE_bd, WE_ret]
theorem wes_nil {P : List T → En → Prop} : WE (evEs X .nil) e P ↔ P [] e := by simp only [evEs, WE_ret]
theorem wes_cons {c : CE} {r : CEs} {P : List T → En → Prop} : WE (evEs X (.cons c r)) e P ↔ WE (evE X c) e fun t e1 => WE (evEs X r) e1 fun ts e2 => P (t :: ts) e2 := by simp only [evEs, WE_bd, WE_ret]
theorem we_lst {cs : CEs} : WE (evE X (.lst cs)) e P ↔ WE (evEs X cs) e fun ts e1 => ts.length ≤ sizeLine ∧ P (.ow .lst ts) e1 := by
  simp only [evE, WE_bd, WE_lift]
  constructor
  · refine fun h => WE_mono h fun ts e1 ⟨t, h1, h2⟩ => ?_
    split at h1
    · cases h1; exact ⟨by assumption, h2⟩
    · cases h1
  · exact fun h => WE_mono h fun ts e1 ⟨h1, h2⟩ => ⟨_, by rw [if_pos h1], h2⟩
theorem we_tup {cs : CEs} : WE (evE X (.tup cs)) e P ↔ WE (evEs X cs) e fun ts e1 => ts.length ≤ sizeLine ∧ P (.ow .tup ts) e1 := by
  simp only [evE, WE_bd, WE_lift]
  constructor
  · refine fun h => WE_mono h fun ts e1 ⟨t, h1, h2⟩ => ?_
    split at h1
    · cases h1; exact ⟨by assumption, h2⟩
    · cases h1
  · exact fun h => WE_mono h fun ts e1 ⟨h1, h2⟩ => ⟨_, by rw [if_pos h1], h2⟩
theorem we_dnl {t : Bool} : WE (evE X (.dnl t)) e P ↔ P (.ow (if t then .dt [] else .dk []) []) e := by simp only [evE, WE_ret]
theorem we_not : WE (evE X (.notE a)) e P ↔ WE (evO X a) e fun x e1 => ∃ r, ((x.rd e1).bind pTru) = some r ∧ P (.sh (.bl (!r))) e1 := by
  simp only [evE, WE_bd, WE_lift]
  constructor
  · refine fun h => WE_mono h fun x e1 ⟨t, h1, h2⟩ => ?_
    cases q : (x.rd e1).bind pTru with
    | none => rw [q] at h1; cases h1
    | some d => rw [q] at h1; cases h1; exact ⟨d, rfl, h2⟩
  · exact fun h => WE_mono h fun x e1 ⟨d, h1, h2⟩ => ⟨_, by rw [h1]; rfl, h2⟩
theorem we_isi {t : TyC} : WE (evE X (.isi a t)) e P ↔ WE (evO X a) e fun x e1 => ∃ r, ((x.rd e1).bind fun d => isTy d t) = some r ∧ P (.sh (.bl r)) e1 := by
  simp only [evE, WE_bd, WE_lift]
  constructor
  · refine fun h => WE_mono h fun x e1 ⟨t', h1, h2⟩ => ?_
    cases q : (x.rd e1).bind fun d => isTy d t with
    | none => rw [q] at h1; cases h1
    | some d => rw [q] at h1; cases h1; exact ⟨d, rfl, h2⟩
  · exact fun h => WE_mono h fun x e1 ⟨d, h1, h2⟩ => ⟨_, by rw [h1]; rfl, h2⟩
theorem we_and {a b : CE} (h : WE (evE X a) e fun x e1 => ∃ r, x = .sh (.bl r) ∧ if r = true then WE (evE X b) e1 P else P (.sh (.bl false)) e1) : WE (evE X (.andE a b)) e P := by
  simp only [evE, WE_bd]
  refine WE_mono h fun x e1 ⟨r, h1, h2⟩ => ?_
  subst h1
  cases r with
  | true => exact h2
  | false => exact WE_ret.mpr h2
theorem we_fld {c j : Nat} : WE (evE X (.fld c j a)) e P ↔ WE (evO X a) e fun x e1 => WE (kid x (fdSel c j)) e1 P := by simp only [evE, WE_bd]
theorem we_rev : WE (evE X (.rev a)) e P ↔ WE (evO X a) e fun x e1 => ∃ ds, x.sd e1 = some (.nd .lst ds) ∧ P (own .lst ds.reverse) e1 := by
  simp only [evE, WE_bd, WE_lift]
  constructor
  · refine fun h => WE_mono h fun x e1 ⟨t', h1, h2⟩ => ?_
    split at h1
    · cases h1; exact ⟨_, by assumption, h2⟩
    · cases h1
  · exact fun h => WE_mono h fun x e1 ⟨d, h1, h2⟩ => ⟨_, by rw [h1], h2⟩
theorem we_idx (h : WE (evO X a) e fun x e1 => WE (evO X b) e1 fun y e2 => ∃ i, y.rd e2 = some (.int i) ∧ WE (kid x (ixSel i)) e2 P) : WE (evE X (.idx a b)) e P := by
  simp only [evE, WE_bd]
  refine WE_mono h fun x e1 h => WE_mono h fun y e2 ⟨i, h1, h2⟩ => ?_
  unfold WE at h2 ⊢
  simp only [h1]
  exact h2
theorem we_didx (h : WE (evO X a) e fun x e1 => WE (evO X b) e1 fun y e2 => ∃ d, y.rd e2 = some d ∧ WE (kid x (dkSel d)) e2 P) : WE (evE X (.didx a b)) e P := by
  simp only [evE, WE_bd]
  refine WE_mono h fun x e1 h => WE_mono h fun y e2 ⟨i, h1, h2⟩ => ?_
  unfold WE at h2 ⊢
  simp only [h1]
  exact h2
theorem we_call {j : Nat} {as : COs} (f : FnS) (hf : X.fs[j]? = some f) : WE (evE X (.call j as)) e P ↔ WE (evOs X as) e fun os e1 => WE (callF f os) e1 P := by simp only [evE, WE_bd, hf]
theorem we_make {c j : Nat} {as : COs} (f : FnS) (hf : X.fs[j]? = some f) : WE (evE X (.make c j as)) e P ↔ WE (evOs X as) e fun os e1 => WE (makeF c f os) e1 P := by simp only [evE, WE_bd, hf]
/-! statements -/
theorem ws_nil : WS (evB X .nil) e PS ↔ PS .nx e := by simp only [evB, WS_nx]
theorem ws_cons {s : CS} {r : CB} : WS (evB X (.cons s r)) e PS ↔ WS (evS X s) e fun f e1 => match f with
    | .nx => WS (evB X r) e1 PS
    | f => PS f e1 := by
  simp only [evB]
  exact WS_sq
theorem ws_asg {g : CG} {c : CE} : WS (evS X (.asg g c)) e PS ↔ WE (evE X c) e fun t e1 => ∃ e2, gset g t e1 = some e2 ∧ PS .nx e2 := by simp only [evS, WS_bdS, WS_upS]
theorem ws_if {t : CT} {a b : CB} : WS (evS X (.ifS t a b)) e PS ↔ WE (evT X t) e fun r e1 => if r = true then WS (evB X a) e1 PS else WS (evB X b) e1 PS := by simp only [evS, WS_bdS, WS_ite]
theorem ws_for {g : CG} {it : CI} {b : CB} : WS (evS X (.forS g it b)) e PS ↔ WE (evI X it) e fun ds e1 => WS (forL g (evB X b) ds) e1 PS := by simp only [evS, WS_bdS]
theorem ws_retS {c : CE} : WS (evS X (.retS c)) e PS ↔ WE (evE X c) e fun t e1 => PS (.ret t) e1 := by simp only [evS, WS_bdS, WS_ret]
theorem ws_exp {c : CE} : WS (evS X (.exp c)) e PS ↔ WE (evE X c) e fun t e1 => PS .nx e1 := by
  simp only [evS, WS_bdS, WS_upS, Option.some.injEq, exists_eq_left']
theorem ws_app {i : Nat} {c : CE} {ts0 : List T} (h0 : e[i]? = some (.ow .lst ts0)) : WS (evS X (.app i c)) e PS ↔ WE (evE X c) e fun x e1 => ∃ ts, e1[i]? = some (.ow .lst ts) ∧ ts.length < sizeLine ∧ PS .nx (e1.set i (.ow .lst (ts ++ [x]))) := by
  have : WS (evS X (.app i c)) e PS ↔ WS (bdS (evE X c) fun x => upS fun e => match e[i]? with
    | some (.ow .lst ts) => if ts.length < sizeLine then some (e.set i (.ow .lst (ts ++ [x]))) else none
    | _ => none) e PS := by
    unfold WS
    simp only [evS, gdS, h0]
    try exact Iff.rfl
  rw [this]
  simp only [WS_bdS, WS_upS]
  constructor
  · refine fun h => WE_mono h fun x e1 ⟨e', h1, h2⟩ => ?_
    split at h1
    · split at h1
      · cases h1; exact ⟨_, by assumption, by assumption, h2⟩
      · cases h1
    · cases h1
  · exact fun h => WE_mono h fun x e1 ⟨ts, h1, h2, h3⟩ => ⟨_, by rw [h1]; dsimp only; rw [if_pos h2], h3⟩
theorem ws_rvs {i : Nat} {ts : List T} (h0 : e[i]? = some (.ow .lst ts)) : WS (evS X (.rvs i)) e PS ↔ PS .nx (e.set i (.ow .lst ts.reverse)) := by
  simp only [evS, WS_upS, h0, Option.some.injEq, exists_eq_left']
/-! iterables -/
theorem wi_scr {i : Nat} {ds : List D} {P : List D → En → Prop} (h : e[i]? = some (.sh (.nd .scr ds))) : WE (evI X (.scr i)) e P ↔ P ds e := by
  simp only [evI, WE_lift, h, Option.some.injEq, exists_eq_left']
theorem wi_rng1 {c : CE} {P : List D → En → Prop} (h : WE (evE X c) e fun t e1 => ∃ n, t = .sh (.int n) ∧ okRng n = true ∧ P (rngD 0 n.toNat) e1) : WE (evI X (.rng1 c)) e P := by
  simp only [evI, WE_bd, WE_lift]
  refine WE_mono h fun t e1 ⟨n, h1, h2, h3⟩ => ⟨rngD 0 n.toNat, ?_, h3⟩
  rw [h1]
  dsimp only
  rw [if_pos h2]
theorem wi_lst {c : CE} {P : List D → En → Prop} (h : WE (evE X c) e fun t e1 => ∃ ds, t.rd = some (.nd .lst ds) ∧ P ds e1) : WE (evI X (.lst c)) e P := by
  simp only [evI, WE_bd, WE_lift]
  refine WE_mono h fun t e1 ⟨n, h1, h3⟩ => ⟨n, ?_, h3⟩
  rw [h1]
/-! primitives -/
theorem bin_add {i j : Int} : pBin .add (.int i) (.int j) = some (.sh (.int (i + j))) := rfl
theorem bin_sub {i j : Int} : pBin .sub (.int i) (.int j) = some (.sh (.int (i - j))) := rfl
theorem bin_mul {i j : Int} (h : (-(2 ^ 64) < i ∧ i < 2 ^ 64) ∨ (-(2 ^ 64) < j ∧ j < 2 ^ 64)) : pBin .mul (.int i) (.int j) = some (.sh (.int (i * j))) := by
  show (if _ then _ else _) = _
  rw [if_pos h]
theorem bin_mod {i j : Int} (h : 0 < j) : pBin .mod (.int i) (.int j) = some (.sh (.int (i % j))) := by
  show (if _ then _ else _) = _
  rw [if_pos h]
theorem bin_fdv {i j : Int} (h : 0 < j ∧ j < 1073741824) : pBin .fdv (.int i) (.int j) = some (.sh (.int (i / j))) := by
  show (if _ then _ else _) = _
  rw [if_pos h]
theorem bin_pow {i j : Int} (h : 0 ≤ j ∧ j ≤ 1000000 ∧ i.natAbs < 2 ^ 64) : pBin .pow (.int i) (.int j) = some (.sh (.int (i ^ j.toNat))) := by
  show (if _ then _ else _) = _
  rw [if_pos h]
theorem rd_int {i : Int} : pRd .int (.int i) = some (.int i) := rfl
theorem rd_abs {i : Int} : pRd .abs (.int i) = some (.int (if i < 0 then -i else i)) := rfl
theorem cmp_lt {i j : Int} : pCmp .lt (.int i) (.int j) = some (decide (i < j)) := rfl
theorem cmp_gt {i j : Int} : pCmp .gt (.int i) (.int j) = some (decide (j < i)) := rfl
end
end BC
set_option Elab.async false
set_option linter.all false
set_option maxRecDepth 100000
set_option maxHeartbeats 4000000
/-! Lists of ints that are owned; more rules. -/
namespace BC
open PySem PySem.Spec PyProof.Rows L2
abbrev iT (i : Int) : T := .sh (.int i)
def liT (is : List Int) : T := .ow .lst (is.map iT)
section
variable {X : Ctx} {e : En} {P : T → En → Prop} {PO : OV → En → Prop} {PB : Bool → En → Prop} {PS : Fl → En → Prop} {is : List Int}
theorem rds_ints {is : List Int} : T.rds (is.map iT) = some (is.map D.int) := by
  induction is with
  | nil => rfl
  | cons i is ih => simp [T.rds, T.rd, ih]
theorem rd_li {is : List Int} : (liT is).rd = some (.nd .lst (is.map D.int)) := by
  unfold liT T.rd
  rw [rds_ints]
theorem unsh_ints {is : List Int} : unsh (is.map iT) = some (is.map D.int) := by
  induction is with
  | nil => rfl
  | cons i is ih => simp [unsh, ih]
theorem sd_li {is : List Int} : (liT is).sd = some (.nd .lst (is.map D.int)) := by
  show (match unsh (is.map iT) with
      | some ds => some (D.nd Kd.lst ds)
      | none => none) = _
  rw [unsh_ints]
theorem py_ints {is : List Int} {n : Nat} : D.pysN n (is.map D.int) = some (is.map PyData.int) := by
  induction is with
  | nil => rfl
  | cons i is ih => simp [D.pysN, D.pyN, ih]
theorem eq_nil_li {is : List Int} : pEq (.nd .lst (is.map D.int)) (.nd .lst []) = some is.isEmpty := by
  have h : ∀ n, D.pyN (n + 1) (.nd .lst (is.map D.int)) = some (.list (is.map PyData.int)) := fun n => by
    unfold D.pyN
    rw [py_ints]
  unfold pEq dkEq eqD D.py
  rw [h 39]
  cases is with
  | nil => rfl
  | cons i is => rfl
theorem cmp_eq_nil {is : List Int} : pCmp .eq (.nd .lst (is.map D.int)) (.nd .lst []) = some is.isEmpty := eq_nil_li
theorem fold_li {i : Int} : T.ow .lst (is.map iT ++ [.sh (.int i)]) = liT (is ++ [i]) := by simp [liT]
theorem nil_li : T.ow .lst [] = liT [] := rfl
theorem liT_un : (liT is = .un) = False := by simp [liT]
theorem sh_un {d : D} : (T.sh d = .un) = False := by simp
theorem liT_ow {ts : List T} : (liT is = .ow .lst ts) = (ts = is.map iT) := by
  simp only [liT, T.ow.injEq, true_and, eq_comm]
theorem rd_nil : (T.ow .lst []).rd = some (.nd .lst []) := rfl
theorem we_pop {j : Nat} : WE (evE X (.pop j [])) e P ↔ ∃ ts, e[j]? = some (.ow .lst ts) ∧ ∃ x, ts[ts.length - 1]? = some x ∧ P x (e.set j (.ow .lst ts.dropLast)) := by
  constructor
  · rintro ⟨x, e', h, p⟩
    simp only [evE] at h
    split at h
    · rename_i t q
      simp only [T.at_, T.set_] at h
      split at h
      · rename_i ts q2
        cases q2
        split at h
        · cases h
          exact ⟨_, q, _, by assumption, p⟩
        · cases h
      · cases h
    · cases h
  · rintro ⟨ts, h1, x, h2, p⟩
    refine ⟨x, _, ?_, p⟩
    simp only [evE, h1, T.at_, h2, T.set_]
theorem we_mv {j : Nat} : WE (evE X (.mv j)) e P ↔ (∃ d, e[j]? = some (.sh d) ∧ P (.sh d) e) ∨ ∃ k ts, e[j]? = some (.ow k ts) ∧ P (.ow k ts) (e.set j .un) := by
  constructor
  · rintro ⟨x, e', h, p⟩
    simp only [evE, mvVar] at h
    split at h
    · cases h; exact .inl ⟨_, by assumption, p⟩
    · cases h; exact .inr ⟨_, _, by assumption, p⟩
    · cases h
  · rintro (⟨d, h, p⟩ | ⟨k, ts, h, p⟩)
    · exact ⟨_, _, by simp only [evE, mvVar, h], p⟩
    · exact ⟨_, _, by simp only [evE, mvVar, h], p⟩
theorem ws_app' {i : Nat} {c : CE} : WS (evS X (.app i c)) e PS ↔ (∃ ts0, e[i]? = some (.ow .lst ts0)) ∧ WE (evE X c) e fun x e1 => ∃ ts, e1[i]? = some (.ow .lst ts) ∧ ts.length < sizeLine ∧ PS .nx (e1.set i (.ow .lst (ts ++ [x]))) := by
  constructor
  · intro h
    by_cases q : ∃ ts0, e[i]? = some (.ow .lst ts0)
    · exact ⟨q, (ws_app q.choose_spec).mp h⟩
    · obtain ⟨r, e', h, _⟩ := h
      simp only [evS, gdS] at h
      split at h
      · exact absurd ⟨_, by assumption⟩ q
      · cases h
  · rintro ⟨⟨ts0, q⟩, h⟩
    exact (ws_app q).mpr h
theorem ws_rvs' {i : Nat} : WS (evS X (.rvs i)) e PS ↔ ∃ ts, e[i]? = some (.ow .lst ts) ∧ PS .nx (e.set i (.ow .lst ts.reverse)) := by
  simp only [evS, WS_upS]
  constructor
  · rintro ⟨e', h, p⟩
    split at h
    · cases h; exact ⟨_, by assumption, p⟩
    · cases h
  · rintro ⟨ts, h, p⟩
    exact ⟨_, by rw [h], p⟩
theorem ex_eq {α : Type} {a : α} : (∃ x : α, a = x) = True := eq_true ⟨a, rfl⟩
theorem rev_li : T.ow .lst (is.map iT).reverse = liT is.reverse := by simp only [liT, List.map_reverse]
theorem dl_li : T.ow .lst (is.map iT).dropLast = liT is.dropLast := by simp only [liT, List.map_dropLast]
theorem fold0_li : T.ow .lst (is.map iT) = liT is := rfl
theorem liT_sh {d : D} : (liT is = .sh d) = False := by simp [liT]
theorem liT_ow2 {k : Kd} {ts : List T} : (liT is = .ow k ts) = (.lst = k ∧ is.map iT = ts) := by simp only [liT, T.ow.injEq]
theorem get_map {j : Nat} : (is.map iT)[j]? = (is[j]?).map iT := by simp
theorem wi_rngL {n : Int} {P : List D → En → Prop} (h : okRng n = true) : WE (evI X (.rng1 (.lit (.int n)))) e P ↔ P (rngD 0 n.toNat) e := by
  simp only [evI, WE_bd, WE_lift, we_lit, if_pos h, Option.some.injEq, exists_eq_left']
theorem rngD_ints (lo : Int) (n : Nat) : ∃ ks : List Int, rngD lo n = ks.map D.int ∧ ks.length = n := ⟨(List.range n).map fun (i : Nat) => lo + (i : Int), by simp [rngD], by simp⟩
theorem mul_l {i j : Int} (h : -(2 ^ 64) < j ∧ j < 2 ^ 64) : pBin .mul (.int i) (.int j) = some (.sh (.int (i * j))) := bin_mul (.inr h)
theorem mul_mm {a b : Int} : pBin .mul (.int (a % 2147483647)) (.int (b % 2147483647)) = some (.sh (.int ((a % 2147483647) * (b % 2147483647)))) := bin_mul (by omega)
theorem pow_18 : pBin .pow (.int 10) (.int 18) = some (.sh (.int 1000000000000000000)) := by rw [bin_pow (by decide)]; rfl
theorem pow_9 : pBin .pow (.int 10) (.int 9) = some (.sh (.int 1000000000)) := by rw [bin_pow (by decide)]; rfl
theorem pow_6 : pBin .pow (.int 10) (.int 6) = some (.sh (.int 1000000)) := by rw [bin_pow (by decide)]; rfl
theorem mod_l {i j : Int} (h : 0 < j) : pBin .mod (.int i) (.int j) = some (.sh (.int (i % j))) := bin_mod h
theorem fdv_l {i j : Int} (h : 0 < j) (h' : j < 1073741824) : pBin .fdv (.int i) (.int j) = some (.sh (.int (i / j))) := bin_fdv ⟨h, h'⟩
/-- a loop whose turns all end at their end -/
theorem WS_forN {g : CG} {b : MS} (I : List D → En → Prop) {ds : List D} (h : I ds e) (s : ∀ d r e, I (d :: r) e → ∃ e1, gset g (.sh d) e = some e1 ∧ WS b e1 fun fl e2 => fl = .nx ∧ I r e2) (f : ∀ e, I [] e → PS .nx e) : WS (forL g b ds) e PS :=
  WS_for I h (fun d r e i => by
    obtain ⟨e1, q, w⟩ := s d r e i
    refine ⟨e1, q, WS_mono w ?_⟩
    rintro fl e2 ⟨rfl, h⟩
    exact h) f
end
end BC
set_option Elab.async false
set_option linter.all false
set_option maxRecDepth 100000
set_option maxHeartbeats 4000000
/-! Dicts of ints, keyed by ints, as lists of pairs. -/
namespace BC
open PySem PySem.Spec PyProof.Rows L2
abbrev Al := List (Int × Int)
def gt : Al → Int → Option Int
  | [], _ => none
  | (j, v) :: A, k => if j = k then some v else gt A k
def put : Al → Int → Int → Al
  | [], k, v => [(k, v)]
  | (j, w) :: A, k, v => if j = k then (j, v) :: A else (j, w) :: put A k v
def kys (A : Al) : List Int := A.map (·.1)
def kK (A : Al) : List Key := A.map fun p => .inl p.1
def vT (A : Al) : List T := A.map fun p => iT p.2
def vD (A : Al) : List D := A.map fun p => .int p.2
def dT (A : Al) : T := .ow (.dk (kK A)) (vT A)
def dD (A : Al) : D := .nd (.dk (kK A)) (vD A)
def ND (A : Al) : Prop := (kys A).Nodup
theorem inl_inj {i j : Int} : ((Sum.inl i : Key) = .inl j) ↔ i = j := ⟨fun h => by cases h; rfl, fun h => by rw [h]⟩
theorem putL_al : ∀ (A : Al) (k v : Int), putL (kK A) (vT A) (.inl k) (iT v) = (kK (put A k v), vT (put A k v))
  | [], k, v => rfl
  | (j, w) :: A, k, v => by
    have ih := putL_al A k v
    by_cases h : j = k
    · simp [kK, vT, putL, put, h]
    · have h' : ¬ ((Sum.inl j : Key) = .inl k) := fun z => h (inl_inj.mp z)
      simp only [kK, vT, List.map_cons] at ih ⊢
      simp only [putL, put, if_neg h, if_neg h', ih, List.map_cons]
theorem getL_al : ∀ (A : Al) (k : Int), getL (kK A) (vD A) (.inl k) = (gt A k).map D.int
  | [], k => rfl
  | (j, w) :: A, k => by
    have ih := getL_al A k
    by_cases h : j = k
    · simp [kK, vD, getL, gt, h]
    · have h' : ¬ ((Sum.inl j : Key) = .inl k) := fun z => h (inl_inj.mp z)
      simp only [kK, vD, List.map_cons] at ih ⊢
      simp only [getL, gt, if_neg h, if_neg h', ih]
theorem getI_al : ∀ (A : Al) (k : Int), getL (kK A) (A.map (·.2)) (.inl k) = gt A k
  | [], k => rfl
  | (j, w) :: A, k => by
    have ih := getI_al A k
    by_cases h : j = k
    · simp [kK, getL, gt, h]
    · have h' : ¬ ((Sum.inl j : Key) = .inl k) := fun z => h (inl_inj.mp z)
      simp only [kK, List.map_cons] at ih ⊢
      simp only [getL, gt, if_neg h, if_neg h', ih]
theorem ix_al : ∀ (A : Al) (k v : Int), gt A k = some v → ∃ n, ixL (kK A) (.inl k) = some n ∧ (vT A)[n]? = some (iT v) ∧ (vD A)[n]? = some (.int v) ∧ n < A.length
  | [], k, v, h => by cases h
  | (j, w) :: A, k, v, h => by
    by_cases q : j = k
    · simp only [gt, if_pos q] at h
      cases h
      refine ⟨0, ?_, rfl, rfl, by simp⟩
      simp [kK, ixL, q]
    · simp only [gt, if_neg q] at h
      obtain ⟨n, h1, h2, h3, h4⟩ := ix_al A k v h
      have q' : ¬ ((Sum.inl j : Key) = .inl k) := fun z => q (inl_inj.mp z)
      refine ⟨n + 1, ?_, ?_, ?_, by simp; omega⟩
      · simp only [kK, List.map_cons] at h1 ⊢
        simp only [ixL, if_neg q', h1, Option.map_some]
      · simpa [vT] using h2
      · simpa [vD] using h3
theorem gt_put : ∀ (A : Al) (k v k' : Int), gt (put A k v) k' = if k = k' then some v else gt A k'
  | [], k, v, k' => rfl
  | (j, w) :: A, k, v, k' => by
    have ih := gt_put A k v k'
    by_cases h : j = k
    · subst h
      by_cases h2 : j = k' <;> simp [put, gt, h2]
    · by_cases h2 : j = k'
      · subst h2
        have : ¬ k = j := fun z => h z.symm
        simp [put, gt, h, this]
      · simp [put, gt, h, h2, ih]
theorem mem_kys_put : ∀ (A : Al) (k v x : Int), x ∈ kys (put A k v) ↔ x = k ∨ x ∈ kys A
  | [], k, v, x => by simp [put, kys]
  | (j, w) :: A, k, v, x => by
    have ih := mem_kys_put A k v x
    by_cases h : j = k
    · subst h
      simp [put, kys]
    · simp only [put, if_neg h, kys, List.map_cons, List.mem_cons] at ih ⊢
      rw [ih]
      constructor
      · rintro (h | h | h) <;> simp [h]
      · rintro (h | h | h) <;> simp [h]
theorem nd_put : ∀ {A : Al} (k v : Int), ND A → ND (put A k v)
  | [], k, v, _ => by simp [ND, put, kys]
  | (j, w) :: A, k, v, h => by
    unfold ND kys at h
    rw [List.map_cons, List.nodup_cons] at h
    by_cases q : j = k
    · subst q
      simp only [put, if_true, ND, kys, List.map_cons, List.nodup_cons]
      exact h
    · have ih := nd_put k v h.2
      simp only [put, if_neg q, ND, kys, List.map_cons, List.nodup_cons]
      refine ⟨fun z => ?_, ih⟩
      rcases (mem_kys_put A k v j).mp z with z | z
      · exact q z
      · exact h.1 z
theorem len_put : ∀ (A : Al) (k v : Int), (put A k v).length ≤ A.length + 1
  | [], k, v => by simp [put]
  | (j, w) :: A, k, v => by
    have ih := len_put A k v
    by_cases h : j = k <;> simp [put, h] <;> omega
theorem put_new : ∀ {A : Al} {k v : Int}, k ∉ kys A → put A k v = A ++ [(k, v)]
  | [], k, v, _ => rfl
  | (j, w) :: A, k, v, h => by
    simp only [kys, List.map_cons, List.mem_cons, not_or] at h
    have q : ¬ j = k := fun z => h.1 z.symm
    simp only [put, if_neg q, List.cons_append]
    rw [put_new h.2]
theorem gt_mem : ∀ {A : Al} {k v : Int}, gt A k = some v → (k, v) ∈ A
  | (j, w) :: A, k, v, h => by
    by_cases q : j = k
    · simp only [gt, if_pos q] at h
      cases h
      subst q
      exact List.mem_cons_self ..
    · simp only [gt, if_neg q] at h
      exact List.mem_cons_of_mem _ (gt_mem h)
theorem gt_of_mem : ∀ {A : Al} {k v : Int}, ND A → (k, v) ∈ A → gt A k = some v
  | (j, w) :: A, k, v, n, h => by
    unfold ND kys at n
    rw [List.map_cons, List.nodup_cons] at n
    rcases List.mem_cons.mp h with h | h
    · cases h
      simp [gt]
    · have q : ¬ j = k := fun z => n.1 (by subst z; exact List.mem_map.mpr ⟨_, h, rfl⟩)
      simp only [gt, if_neg q]
      exact gt_of_mem n.2 h
theorem gt_some_of {A : Al} {k : Int} (h : k ∈ kys A) : ∃ v, gt A k = some v := by
  induction A with
  | nil => simp [kys] at h
  | cons p A ih =>
    obtain ⟨j, w⟩ := p
    by_cases q : j = k
    · exact ⟨w, by simp [gt, q]⟩
    · simp only [kys, List.map_cons, List.mem_cons] at h
      rcases h with h | h
      · exact absurd h.symm q
      · obtain ⟨v, e⟩ := ih h
        exact ⟨v, by simp [gt, q, e]⟩
theorem gt_kys {A : Al} {k : Int} : (gt A k).isSome = true ↔ k ∈ kys A := by
  constructor
  · intro h
    cases q : gt A k with
    | none => rw [q] at h; cases h
    | some v => exact List.mem_map.mpr ⟨_, gt_mem q, rfl⟩
  · intro h
    obtain ⟨v, e⟩ := gt_some_of h
    rw [e]; rfl
theorem len_sub : ∀ {L M : List Int}, L.Nodup → (∀ x ∈ L, x ∈ M) → L.length ≤ M.length
  | [], M, _, _ => Nat.zero_le _
  | x :: L, M, n, s => by
    rw [List.nodup_cons] at n
    have h := len_sub (L := L) (M := M.erase x) n.2 fun y hy => by
      have : y ≠ x := fun z => n.1 (z ▸ hy)
      exact (List.mem_erase_of_ne this).mpr (s y (List.mem_cons_of_mem _ hy))
    have h2 := List.length_erase_of_mem (s x (List.mem_cons_self ..))
    have h3 : 0 < M.length := List.length_pos_of_mem (s x (List.mem_cons_self ..))
    simp only [List.length_cons]
    omega
theorem sub_back {L M : List Int} (n : L.Nodup) (s : ∀ x ∈ L, x ∈ M) (l : M.length ≤ L.length) (nm : M.Nodup) : ∀ x ∈ M, x ∈ L := by
  intro x hx
  by_cases h : x ∈ L
  · exact h
  · have := len_sub (L := L) (M := M.erase x) n fun y hy => (List.mem_erase_of_ne (a := y) (b := x) fun z => h (by subst z; exact hy)).mpr (s y hy)
    have h2 := List.length_erase_of_mem hx
    have h3 : 0 < M.length := List.length_pos_of_mem hx
    omega
theorem ints_vD : ∀ (A : Al), D.ints (vD A) = some (A.map (·.2))
  | [] => rfl
  | (j, w) :: A => by
    have ih := ints_vD A
    simp only [vD, List.map_cons, D.ints] at ih ⊢
    rw [ih]
theorem dHit_al (B : Al) : ∀ (A : Al), dHit (kK B) (B.map (·.2)) (kK A) (A.map (·.2)) = true ↔ ∀ p ∈ A, gt B p.1 = some p.2
  | [] => by simp [kK, dHit]
  | (j, w) :: A => by
    have ih := dHit_al B A
    simp only [kK, List.map_cons] at ih ⊢
    have g := getI_al B j
    simp only [kK] at g
    simp only [dHit, g, List.mem_cons, forall_eq_or_imp]
    cases q : gt B j with
    | none => simp
    | some v =>
      simp only [Bool.and_eq_true, decide_eq_true_eq, ih, Option.some.injEq]
      constructor <;> rintro ⟨h, h'⟩ <;> exact ⟨h.symm, h'⟩
theorem dkEq_al (A B : Al) : dkEq (dD A) (dD B) = some (decide (A.length = B.length) && dHit (kK B) (B.map (·.2)) (kK A) (A.map (·.2))) := by
  unfold dD dkEq
  dsimp only
  rw [ints_vD, ints_vD]
  simp [kK]
theorem eq_al {A B : Al} (nA : ND A) (nB : ND B) : (A.length = B.length ∧ ∀ p ∈ A, gt B p.1 = some p.2) ↔ ∀ k, gt A k = gt B k := by
  have lk : ∀ A : Al, (kys A).length = A.length := fun A => by simp [kys]
  constructor
  · rintro ⟨l, h⟩ k
    have s : ∀ x ∈ kys A, x ∈ kys B := fun x hx => by
      obtain ⟨v, e⟩ := gt_some_of hx
      rw [← gt_kys, h _ (gt_mem e)]; rfl
    have b := sub_back nA s (by rw [lk, lk]; omega) nB
    cases q : gt A k with
    | some v => exact (h _ (gt_mem q)).symm
    | none =>
      cases q2 : gt B k with
      | none => rfl
      | some v =>
        have : k ∈ kys A := b k (gt_kys.mp (by rw [q2]; rfl))
        rw [← gt_kys, q] at this
        cases this
  · intro h
    have m : ∀ x, x ∈ kys A ↔ x ∈ kys B := fun x => by rw [← gt_kys, ← gt_kys, h]
    refine ⟨?_, fun p hp => ?_⟩
    · have l1 := len_sub nA fun x hx => (m x).mp hx
      have l2 := len_sub nB fun x hx => (m x).mpr hx
      rw [lk, lk] at l1 l2
      omega
    · rw [← h]
      exact gt_of_mem nA hp
theorem cmp_eq_al {A B : Al} (nA : ND A) (nB : ND B) {b : Bool} (h : b = true ↔ ∀ k, gt A k = gt B k) : pCmp .eq (dD A) (dD B) = some b := by
  show pEq _ _ = _
  unfold pEq
  rw [dkEq_al]
  dsimp only
  rw [Option.some.injEq, Bool.eq_iff_iff, h, ← eq_al nA nB, Bool.and_eq_true, decide_eq_true_eq, dHit_al]
theorem cmp_ne_al {A B : Al} (nA : ND A) (nB : ND B) {b : Bool} (h : b = true ↔ ∀ k, gt A k = gt B k) : pCmp .ne (dD A) (dD B) = some !b := by
  have e := cmp_eq_al nA nB h
  have : pCmp .ne (dD A) (dD B) = (pCmp .eq (dD A) (dD B)).map (!·) := rfl
  rw [this, e]; rfl
/-- what is not zero -/
def nzA (A : Al) : Al := A.filter fun p => p.2 != 0
theorem nd_nz {A : Al} (h : ND A) : ND (nzA A) := List.Nodup.sublist (List.Sublist.map _ (List.filter_sublist ..)) h
theorem gt_nz {A : Al} (n : ND A) {k : Int} : gt (nzA A) k = (gt A k).filter (· != 0) := by
  cases q : gt (nzA A) k with
  | some v =>
    have := gt_mem q
    have h := List.mem_filter.mp this
    rw [gt_of_mem n h.1]
    have h2 := h.2
    dsimp only at h2
    simp [Option.filter, h2]
  | none =>
    cases q2 : gt A k with
    | none => rfl
    | some v =>
      by_cases z : (v != 0) = true
      · have := gt_of_mem (nd_nz n) (List.mem_filter.mpr ⟨gt_mem q2, z⟩)
        rw [nzA] at q
        unfold nzA at this
        rw [q] at this
        cases this
      · simp [Option.filter, z]
end BC
set_option Elab.async false
set_option linter.all false
set_option maxRecDepth 100000
set_option maxHeartbeats 4000000
/-! Calls; dicts of ints as values. -/
namespace BC
open PySem PySem.Spec PyProof.Rows L2
section
variable {X : Ctx} {e : En} {P : T → En → Prop} {PO : OV → En → Prop} {PB : Bool → En → Prop} {PS : Fl → En → Prop} {is : List Int} {f : FnS}
theorem we_call' {j : Nat} {as : COs} : WE (evE X (.call j as)) e P ↔ WE (evOs X as) e fun os e1 => ∃ f, X.fs[j]? = some f ∧ WE (callF f os) e1 P := by
  simp only [evE, WE_bd]
  cases X.fs[j]? with
  | none => simp [WE_no]
  | some f => simp
theorem we_make' {c j : Nat} {as : COs} : WE (evE X (.make c j as)) e P ↔ WE (evOs X as) e fun os e1 => ∃ f, X.fs[j]? = some f ∧ WE (makeF c f os) e1 P := by
  simp only [evE, WE_bd]
  cases X.fs[j]? with
  | none => simp [WE_no]
  | some f => simp
theorem wi_lst' {c : CE} {P : List D → En → Prop} : WE (evI X (.lst c)) e P ↔ WE (evE X c) e fun t e1 => ∃ ds, t.rd = some (.nd .lst ds) ∧ P ds e1 := by
  simp only [evI, WE_bd, WE_lift]
  constructor
  · refine fun h => WE_mono h fun t e1 ⟨ds, h1, h2⟩ => ?_
    split at h1
    · cases h1; exact ⟨_, by assumption, h2⟩
    · cases h1
  · exact fun h => WE_mono h fun t e1 ⟨ds, h1, h2⟩ => ⟨ds, by rw [h1], h2⟩
theorem wi_rng1' {c : CE} {P : List D → En → Prop} : WE (evI X (.rng1 c)) e P ↔ WE (evE X c) e fun t e1 => ∃ n, t = .sh (.int n) ∧ okRng n = true ∧ P (rngD 0 n.toNat) e1 := by
  simp only [evI, WE_bd, WE_lift]
  constructor
  · refine fun h => WE_mono h fun t e1 ⟨ds, h1, h2⟩ => ?_
    split at h1
    · split at h1
      · cases h1; exact ⟨_, rfl, by assumption, h2⟩
      · cases h1
    · cases h1
  · rintro h
    refine WE_mono h ?_
    rintro t e1 ⟨n, rfl, h1, h2⟩
    exact ⟨_, by dsimp only; rw [if_pos h1], h2⟩
theorem sh_inj {a b : D} : (T.sh a = T.sh b) = (a = b) := by simp
theorem int_inj {a b : Int} : (D.int a = D.int b) = (a = b) := by simp
theorem lst_inj {a b : List D} : (D.nd .lst a = D.nd .lst b) = (a = b) := by simp
theorem set_same {i : Nat} {t : T} (h : e[i]? = some t) : e.set i t = e := by
  apply List.ext_getElem?
  intro j
  by_cases q : i = j
  · subst q
    rw [List.getElem?_set_self', h]
    rfl
  · rw [List.getElem?_set_ne q]
theorem lend_s {i : Nat} {t : T} {r : List OV} (h : e[i]? = some t) (n : t ≠ .un) : lend (.s i :: r) e = (lend r (e.set i .un)).map fun p => (t :: p.1, p.2) := by
  conv => lhs; unfold lend
  rw [h]
  cases t with
  | un => exact absurd rfl n
  | _ =>
    dsimp only
    cases lend r (e.set i .un) <;> rfl
theorem call_s {i : Nat} {t r t' : T} {ts' : List T} (h : e[i]? = some t) (n : t ≠ .un) (hf : f [t] = some (.ret r, ts')) (ht : ts' = [t']) (p : P r (e.set i t')) : WE (callF f [.s i]) e P := by
  subst ht
  refine WE_call ⟨_, e.set i .un, r, _, ?_, hf, ?_⟩
  · rw [lend_s h n]; rfl
  · simpa [back] using p
theorem call_st {i : Nat} {t x r t' x' : T} {ts' : List T} (h : e[i]? = some t) (n : t ≠ .un) (hf : f [t, x] = some (.ret r, ts')) (ht : ts' = [t', x']) (p : P r (e.set i t')) : WE (callF f [.s i, .t x]) e P := by
  subst ht
  refine WE_call ⟨_, e.set i .un, r, _, ?_, hf, ?_⟩
  · rw [lend_s h n]; rfl
  · simpa [back] using p
theorem call_ss {i j : Nat} {t x r t' x' : T} {ts' : List T} (h : e[i]? = some t) (n : t ≠ .un) (hx : e[j]? = some x) (nx : x ≠ .un) (ij : i ≠ j) (hf : f [t, x] = some (.ret r, ts')) (ht : ts' = [t', x']) (p : P r ((e.set i t').set j x')) : WE (callF f [.s i, .s j]) e P := by
  subst ht
  refine WE_call ⟨_, (e.set i .un).set j .un, r, _, ?_, hf, ?_⟩
  · rw [lend_s h n, lend_s (by rw [List.getElem?_set_ne ij]; exact hx) nx]; rfl
  · have q : back [.s i, .s j] [t', x'] ((e.set i .un).set j .un) = (e.set i t').set j x' := by
      simp only [back]
      rw [List.set_comm .un t' (Ne.symm ij), List.set_set, List.set_set]
    rw [q]
    exact p
theorem unsh_al : ∀ (A : Al), unsh (vT A) = some (vD A)
  | [] => rfl
  | (j, w) :: A => by
    have ih := unsh_al A
    simp only [vT, vD, List.map_cons] at ih ⊢
    simp only [unsh, ih]
theorem rds_al : ∀ (A : Al), T.rds (vT A) = some (vD A)
  | [] => rfl
  | (j, w) :: A => by
    have ih := rds_al A
    simp only [vT, vD, List.map_cons] at ih ⊢
    simp only [T.rds, T.rd, ih]
theorem rd_al {A : Al} : (dT A).rd = some (dD A) := by
  unfold dT T.rd
  rw [rds_al]
  rfl
theorem sd_al {A : Al} : (dT A).sd = some (dD A) := by
  show (match unsh (vT A) with
      | some ds => some (D.nd (.dk (kK A)) ds)
      | none => none) = _
  rw [unsh_al]
  rfl
theorem own_al {A : Al} : own (.dk (kK A)) (vD A) = dT A := by simp [own, dT, vT, vD]
theorem mk_al {A : Al} : pMk .dict (dD A) = some (dT A) := by rw [← own_al]; rfl
theorem kK_nd {A : Al} (h : ND A) : (kK A).Nodup := by
  induction A with
  | nil => simp [kK]
  | cons p A ih =>
    unfold ND kys at h
    rw [List.map_cons, List.nodup_cons] at h
    simp only [kK, List.map_cons, List.nodup_cons]
    refine ⟨fun z => h.1 ?_, ih h.2⟩
    obtain ⟨q, h1, h2⟩ := List.mem_map.mp z
    exact List.mem_map.mpr ⟨q, h1, inl_inj.mp h2⟩
theorem nil_al : T.ow (.dk []) [] = dT [] := rfl
/-- d[k] = v -/
theorem ws_setd {i : Nat} {k c : CE} {A : Al} (h0 : e[i]? = some (dT A)) (h : WE (evE X c) e fun x e1 => ∃ A0, e1[i]? = some (dT A0) ∧ WE (evE X k) e1 fun y e2 => ∃ A kk v, e2[i]? = some (dT A) ∧ y = iT kk ∧ x = iT v ∧ ND A ∧ A.length < sizeLine ∧ PS .nx (e2.set i (dT (put A kk v)))) : WS (evS X (.setd i k c)) e PS := by
  simp only [evS]
  rw [WS_bdS]
  refine WE_mono h fun x e1 ⟨A0, g, h⟩ => ?_
  have : WS (bdS (evE X k) fun y => upS fun e => match e[i]?, y with
    | some (.ow (.dk ks) ts), .sh d => match d.key with
      | some key => if ks.length < sizeLine ∧ ks.Nodup then some (e.set i (.ow (.dk (putL ks ts key x).1) (putL ks ts key x).2)) else none
      | none => none
    | some (.ow (.dt ks) ts), .sh d => match d.keyT with
      | some key => if ks.length < sizeLine ∧ ks.Nodup then some (e.set i (.ow (.dt (putL ks ts key x).1) (putL ks ts key x).2)) else none
      | none => none
    | _, _ => none) e1 PS := by
    rw [WS_bdS]
    refine WE_mono h fun y e2 ⟨A, kk, v, h1, h2, h3, h4, h5, h6⟩ => ?_
    subst h2
    subst h3
    rw [WS_upS]
    refine ⟨_, ?_, h6⟩
    rw [h1]
    unfold dT
    dsimp only [D.key]
    rw [if_pos ⟨by simpa [kK] using h5, kK_nd h4⟩, putL_al]
  unfold WS at this ⊢
  simp only [gdT, g, dT]
  exact this
/-- a child of a dict of ints -/
theorem kid_alS {i : Nat} {A : Al} {k v : Int} (h : e[i]? = some (dT A)) (g : gt A k = some v) (p : P (iT v) e) : WE (kid (.s i) (dkSel (.int k))) e P := by
  obtain ⟨n, h1, h2, h3, h4⟩ := ix_al A k v g
  refine (WE_some (e' := e) ?_).mpr p
  unfold kid
  simp only [OV.get, h, dT, dkSel, D.key, h1, h2, Option.bind_some, T.rd]
  rw [show (vT A).set n (.sh (.int v)) = vT A from by
    apply List.ext_getElem?
    intro j
    by_cases q : n = j
    · subst q
      rw [List.getElem?_set_self', h2]
      rfl
    · rw [List.getElem?_set_ne q], set_same (by exact h)]
theorem kid_alD {A : Al} {k v : Int} (g : gt A k = some v) (p : P (iT v) e) : WE (kid (.t (.sh (dD A))) (dkSel (.int k))) e P := by
  obtain ⟨n, h1, h2, h3, h4⟩ := ix_al A k v g
  refine (WE_some (e' := e) ?_).mpr p
  unfold kid
  simp only [OV.get, dD, dkSel, D.key, h1, h3]
end
end BC
set_option Elab.async false
set_option linter.all false
set_option maxRecDepth 100000
set_option maxHeartbeats 4000000
/-! More rules: indices, fields, gets, instances. -/
namespace BC
open PySem PySem.Spec PyProof.Rows L2
section
variable {X : Ctx} {e : En} {P : T → En → Prop} {PO : OV → En → Prop} {PB : Bool → En → Prop} {PS : Fl → En → Prop} {is : List Int} {f : FnS} {a b : CO}
theorem WE_iff {α : Type} {m : M α} {P Q : α → En → Prop} (h : ∀ a e, P a e ↔ Q a e) : WE m e P ↔ WE m e Q := ⟨fun w => WE_mono w fun a e => (h a e).mp, fun w => WE_mono w fun a e => (h a e).mpr⟩
theorem WE_mrd {o : Option D} {m : D → M T} {e : En} {P : T → En → Prop} : WE (fun e' => match o with
    | some d => m d e'
    | none => none) e P ↔ ∃ d, o = some d ∧ WE (m d) e P := by
  cases o with
  | none =>
    constructor
    · rintro ⟨_, _, h, _⟩; cases h
    · rintro ⟨_, h, _⟩; cases h
  | some d =>
    constructor
    · rintro h; exact ⟨d, rfl, h⟩
    · rintro ⟨_, h, w⟩; cases h; exact w
theorem we_didx' : WE (evE X (.didx a b)) e P ↔ WE (evO X a) e fun x e1 => WE (evO X b) e1 fun y e2 => ∃ d, y.rd e2 = some d ∧ WE (kid x (dkSel d)) e2 P := by
  simp only [evE, WE_bd]
  refine WE_iff fun x e1 => WE_iff fun y e2 => ?_
  refine Iff.trans ?_ (WE_mrd (o := y.rd e2) (m := fun d => kid x (dkSel d)))
  unfold WE
  exact Iff.rfl
theorem we_idx' : WE (evE X (.idx a b)) e P ↔ WE (evO X a) e fun x e1 => WE (evO X b) e1 fun y e2 => ∃ i, y.rd e2 = some (.int i) ∧ WE (kid x (ixSel i)) e2 P := by
  simp only [evE, WE_bd]
  refine WE_iff fun x e1 => WE_iff fun y e2 => ?_
  unfold WE
  constructor
  · rintro ⟨t, e', h, p⟩
    dsimp only at h
    split at h
    · exact ⟨_, by assumption, t, e', h, p⟩
    · cases h
  · rintro ⟨i, h, t, e', q, p⟩
    exact ⟨t, e', by dsimp only; rw [h]; exact q, p⟩
theorem we_dget {k d : CO} : WE (evE X (.dget a k d)) e P ↔ WE (evO X a) e fun x e1 => isDk (x.get e1) = some () ∧ WE (evO X k) e1 fun y e2 => WE (evO X d) e2 fun z e3 => ∃ dd, z = .t (.sh dd) ∧ ∃ t, ((x.sd e3).bind fun d => (y.rd e3).bind fun kd => (getK d kd).map fun r => T.sh (r.getD dd)) = some t ∧ P t e3 := by
  simp only [evE, WE_bd, WE_lift]
  refine WE_iff fun x e1 => ?_
  constructor
  · rintro ⟨u, h, w⟩
    refine ⟨h, WE_mono w fun y e2 w => WE_mono w fun z e3 ⟨t, h, p⟩ => ?_⟩
    split at h
    · exact ⟨_, rfl, _, h, p⟩
    · cases h
  · rintro ⟨h, w⟩
    refine ⟨(), h, WE_mono w fun y e2 w => WE_mono w ?_⟩
    rintro z e3 ⟨dd, rfl, t, h, p⟩
    exact ⟨t, h, p⟩
theorem getK_al {A : Al} {k : Int} : getK (dD A) (.int k) = some ((gt A k).map D.int) := by
  unfold getK dD D.key
  dsimp only
  rw [Option.map_some, getL_al]
theorem ws_setf {i c j : Nat} {x : CE} : WS (evS X (.setf i c j x)) e PS ↔ WE (evE X x) e fun t e1 => ∃ e2, setF i c j t e1 = some e2 ∧ PS .nx e2 := by simp only [evS, WS_bdS, WS_upS]
theorem wi_keys {c : CE} {P : List D → En → Prop} : WE (evI X (.keys c)) e P ↔ WE (evE X c) e fun t e1 => ∃ ks ds, t.rd = some (.nd (.dk ks) ds) ∧ P (ks.map kD) e1 := by
  simp only [evI, WE_bd, WE_lift]
  refine WE_iff fun t e1 => ?_
  constructor
  · rintro ⟨ds, h, p⟩
    split at h
    · cases h; exact ⟨_, _, by assumption, p⟩
    · cases h
  · rintro ⟨ks, ds, h, p⟩
    exact ⟨_, by rw [h], p⟩
def stD (s : Int) (A : Al) : D := .nd (.ins 0) [.int s, dD A]
def stO (s : Int) (A : Al) : T := .ow (.ins 0) [iT s, dT A]
def StT (t : T) (s : Int) (A : Al) : Prop := t = .sh (stD s A) ∨ t = stO s A ∨ t = .ow (.ins 0) [iT s, .sh (dD A)]
theorem StT.ne {t : T} {s : Int} {A : Al} (h : StT t s A) : t ≠ .un := by rcases h with rfl | rfl | rfl <;> simp [stO]
theorem StT.rd {t : T} {s : Int} {A : Al} (h : StT t s A) : t.rd = some (stD s A) := by
  rcases h with rfl | rfl | rfl
  · rfl
  · simp only [stO, T.rd, T.rds, rd_al, stD]
  · rfl
theorem StT.o {s : Int} {A : Al} : StT (stO s A) s A := .inr (.inl rfl)
theorem StT.d {s : Int} {A : Al} : StT (.sh (stD s A)) s A := .inl rfl
theorem fld0 {i : Nat} {t : T} {s : Int} {A : Al} (h : e[i]? = some t) (w : StT t s A) (p : P (iT s) e) : WE (kid (.s i) (fdSel 0 0)) e P := by
  refine (WE_some (e' := e) ?_).mpr p
  unfold kid
  rcases w with rfl | rfl | rfl
  · simp [OV.get, h, stD, fdSel]
  · simp [OV.get, h, stO, fdSel, T.rd]
    exact set_same h
  · simp [OV.get, h, fdSel, T.rd]
    exact set_same h
theorem fld1 {i : Nat} {t : T} {s : Int} {A : Al} (h : e[i]? = some t) (w : StT t s A) (p : ∀ t', StT t' s A → P (.sh (dD A)) (e.set i t')) : WE (kid (.s i) (fdSel 0 1)) e P := by
  rcases w with rfl | rfl | rfl
  · refine (WE_some (e' := e) ?_).mpr (by have := p _ .d; rw [set_same h] at this; exact this)
    unfold kid
    simp [OV.get, h, stD, fdSel]
  · refine (WE_some ?_).mpr (p (.ow (.ins 0) [iT s, .sh (dD A)]) (.inr (.inr rfl)))
    unfold kid
    simp [OV.get, h, stO, fdSel, rd_al]
  · refine (WE_some ?_).mpr (p (.ow (.ins 0) [iT s, .sh (dD A)]) (.inr (.inr rfl)))
    unfold kid
    simp [OV.get, h, fdSel, T.rd]
theorem lend_t {t : T} {r : List OV} : lend (.t t :: r) e = (lend r e).map fun p => (t :: p.1, p.2) := by
  conv => lhs; unfold lend
  cases lend r e <;> rfl
theorem make_tt {c : Nat} {x y t : T} {ts' : List T} (hf : f [.ow (.ins c) [], x, y] = some (.ret (.sh .non), t :: ts')) (ht : ts' = [x, y]) (p : P t e) : WE (makeF c f [.t x, .t y]) e P := by
  subst ht
  refine WE_make ⟨[x, y], e, t, _, ?_, hf, ?_⟩
  · rw [lend_t, lend_t]; rfl
  · simpa [back] using p
theorem make_st {c i : Nat} {x y t : T} {ts' : List T} (h : e[i]? = some x) (n : x ≠ .un) (hf : f [.ow (.ins c) [], x, y] = some (.ret (.sh .non), t :: ts')) (ht : ts' = [x, y]) (p : P t e) : WE (makeF c f [.s i, .t y]) e P := by
  subst ht
  refine WE_make ⟨[x, y], e.set i .un, t, _, ?_, hf, ?_⟩
  · rw [lend_s h n, lend_t]; rfl
  · have : back [.s i, .t y] [x, y] (e.set i .un) = e := by
      simp only [back, List.set_set]
      exact set_same h
    rw [this]; exact p
theorem make_ss {c i j : Nat} {x y t : T} {ts' : List T} (h : e[i]? = some x) (n : x ≠ .un) (h2 : e[j]? = some y) (n2 : y ≠ .un) (ij : i ≠ j) (hf : f [.ow (.ins c) [], x, y] = some (.ret (.sh .non), t :: ts')) (ht : ts' = [x, y]) (p : P t e) : WE (makeF c f [.s i, .s j]) e P := by
  subst ht
  refine WE_make ⟨[x, y], (e.set i .un).set j .un, t, _, ?_, hf, ?_⟩
  · rw [lend_s h n, lend_s (by rw [List.getElem?_set_ne ij]; exact h2) n2]; rfl
  · have : back [.s i, .s j] [x, y] ((e.set i .un).set j .un) = e := by
      simp only [back]
      rw [List.set_comm .un x (Ne.symm ij), List.set_set, List.set_set, set_same h, set_same h2]
    rw [this]; exact p
theorem we_meth' {cj : List (Nat × Nat)} {as : COs} : WE (evE X (.meth cj a as)) e P ↔ WE (evO X a) e fun x e1 => ∃ j, pick cj x e1 = some j ∧ WE (evOs X as) e1 fun os e2 => pick cj x e2 = some j ∧ ∃ f, X.fs[j]? = some f ∧ WE (callF f (x :: os)) e2 P := by
  simp only [evE, WE_bd]
  refine WE_iff fun x e1 => ?_
  have go : ∀ j, pick cj x e1 = some j → (WE (fun e => match pick cj x e with
      | some j => bd (evOs X as) (fun os e => if pick cj x e = some j then match X.fs[j]? with
        | some f => callF f (x :: os) e
        | none => none else none) e
      | none => none) e1 P ↔ WE (evOs X as) e1 fun os e2 => pick cj x e2 = some j ∧ ∃ f, X.fs[j]? = some f ∧ WE (callF f (x :: os)) e2 P) := fun j hj => by
    have q : WE (fun e => match pick cj x e with
      | some j => bd (evOs X as) (fun os e => if pick cj x e = some j then match X.fs[j]? with
        | some f => callF f (x :: os) e
        | none => none else none) e
      | none => none) e1 P ↔ WE (bd (evOs X as) (fun os e => if pick cj x e = some j then match X.fs[j]? with
        | some f => callF f (x :: os) e
        | none => none else none)) e1 P := by
      unfold WE
      simp only [hj]
    rw [q, WE_bd]
    refine WE_iff fun os e2 => ?_
    constructor
    · rintro ⟨t, e', h, p⟩
      dsimp only at h
      split at h
      · split at h
        · exact ⟨by assumption, _, by assumption, t, e', h, p⟩
        · cases h
      · cases h
    · rintro ⟨h, f, hf, t, e', q, p⟩
      exact ⟨t, e', by dsimp only; rw [if_pos h, hf]; exact q, p⟩
  cases q : pick cj x e1 with
  | none =>
    constructor
    · rintro ⟨t, e', h, p⟩
      dsimp only at h
      rw [q] at h
      cases h
    · rintro ⟨j, h, _⟩
      cases h
  | some j =>
    refine Iff.trans (go j q) ?_
    constructor
    · exact fun h => ⟨j, rfl, h⟩
    · rintro ⟨j', h, w⟩
      cases h
      exact w
theorem pick_st {i j : Nat} {t : T} {s : Int} {A : Al} (h : e[i]? = some t) (w : StT t s A) : pick [(0, j)] (.s i) e = some j := by
  rcases w with rfl | rfl | rfl <;> simp [pick, OV.get, h, clsOf, stD, stO, List.lookup]
theorem tru_bl {b : Bool} : pTru (.bl b) = some b := rfl
theorem ins_st {i : Nat} {t : T} {s : Int} {A : Al} (h : e[i]? = some t) (w : StT t s A) : isIns (.s i) e = true := by
  rcases w with rfl | rfl | rfl <;> simp [isIns, OV.get, h, stD, stO]
theorem pick_stT {j : Nat} {t : T} {s : Int} {A : Al} (w : StT t s A) : pick [(0, j)] (.t t) e = some j := by
  rcases w with rfl | rfl | rfl <;> simp [pick, OV.get, clsOf, stD, stO, List.lookup]
theorem ins_stT {t : T} {s : Int} {A : Al} (w : StT t s A) : isIns (.t t) e = true := by
  rcases w with rfl | rfl | rfl <;> simp [isIns, OV.get, stD, stO]
/-- == of instances -/
theorem we_ocmp {cj : List (Nat × Nat)} (h : WE (evO X a) e fun x e1 => WE (evO X b) e1 fun y e2 => ∃ j f, pick cj x e2 = some j ∧ isIns x e2 = true ∧ isIns y e2 = true ∧ X.fs[j]? = some f ∧ WE (callF f [x, y]) e2 P) : WE (evE X (.ocmp cj a b)) e P := by
  simp only [evE, WE_bd]
  refine WE_mono h fun x e1 h => WE_mono h fun y e2 ⟨j, f, h1, h2, h3, h4, w⟩ => ?_
  obtain ⟨t, e', q, p⟩ := WE_noExc w
  exact ⟨t, e', by simp only [h1, h2, h3, h4, Bool.and_self]; exact q, p⟩
theorem we_ogi {cj : List (Nat × Nat)} (h : WE (evO X a) e fun x e1 => WE (evO X b) e1 fun y e2 => ∃ j f, pick cj x e2 = some j ∧ X.fs[j]? = some f ∧ WE (callF f [x, y]) e2 P) : WE (evE X (.ogi cj a b)) e P := by
  simp only [evE, WE_bd]
  refine WE_mono h fun x e1 h => WE_mono h fun y e2 ⟨j, f, h1, h4, w⟩ => ?_
  obtain ⟨t, e', q, p⟩ := WE_noExc w
  exact ⟨t, e', by simp only [h1, h4]; exact q, p⟩
end
end BC
set_option Elab.async false
set_option linter.all false
set_option maxRecDepth 100000
set_option maxHeartbeats 4000000
/-! Class methods. -/
namespace BC
open PySem PySem.Spec PyProof.Rows L2
section
variable {X : Ctx} {e : En} {P : T → En → Prop} {a : CO}
theorem we_clsm {c j : Nat} {as : COs} : WE (evE X (.clsm c j as)) e P ↔ WE (evOs X as) e fun os e1 => ∃ f, X.fs[j]? = some f ∧ WE (callF f (.t (.sh (.cl c)) :: os)) e1 P := by
  simp only [evE, WE_bd]
  cases X.fs[j]? with
  | none => simp [WE_no]
  | some f => simp
theorem we_insm0 {cj : List (Nat × Nat)} (h : WE (evO X a) e fun x e1 => ∃ j f c, pick cj x e1 = some j ∧ X.fs[j]? = some f ∧ clsO x e1 = some c ∧ WE (callF f [.t (.sh (.cl c))]) e1 P) : WE (evE X (.insm cj a .nil)) e P := by
  simp only [evE, WE_bd]
  refine WE_mono h fun x e1 ⟨j, f, c, h1, h2, h3, t, e', q, p⟩ => ⟨t, e', ?_, p⟩
  simp only [h1, h2, h3, evOs, bd, ret, if_true]
  exact q
theorem clsO_st {i : Nat} {t : T} {s : Int} {A : Al} (h : e[i]? = some t) (w : StT t s A) : clsO (.s i) e = some 0 := by
  rcases w with rfl | rfl | rfl <;> simp [clsO, OV.get, h, clsOf, stD, stO]
end
end BC
set_option Elab.async false
set_option linter.all false
set_option maxRecDepth 100000
set_option maxHeartbeats 4000000
/-! Calls by what is promised of them; children; more forms. -/
namespace BC
open PySem PySem.Spec PyProof.Rows L2
/-- a def returns, and so -/
def Sp (f : FnS) (ts : List T) (Q : T → List T → Prop) : Prop := ∃ t ts', f ts = some (.ret t, ts') ∧ Q t ts'
theorem Sp.mono {f : FnS} {ts : List T} {Q Q' : T → List T → Prop} (h : Sp f ts Q) (k : ∀ t ts', Q t ts' → Q' t ts') : Sp f ts Q' := by
  obtain ⟨t, ts', h1, h2⟩ := h
  exact ⟨t, ts', h1, k t ts' h2⟩
section
variable {X : Ctx} {e : En} {P : T → En → Prop} {PB : Bool → En → Prop} {PS : Fl → En → Prop} {f : FnS} {a b c : CO} {os : List OV}
/-- operands lent, and what follows -/
def Ln (os : List OV) (e : En) (Q : List T → En → Prop) : Prop := ∃ ts e1, lend os e = some (ts, e1) ∧ Q ts e1
theorem we_callF : WE (callF f os) e P ↔ Ln os e fun ts e1 => Sp f ts fun r ts' => P r (back os ts' e1) := by
  unfold WE callF Sp Ln
  constructor
  · rintro ⟨t, e', h, p⟩
    split at h
    · rename_i ts e1 q
      split at h
      · rename_i r ts' q2
        cases h
        exact ⟨ts, e1, q, t, ts', q2, p⟩
      · cases h
      · cases h
    · cases h
  · rintro ⟨ts, e1, q, t, ts', q2, p⟩
    exact ⟨t, _, by rw [q]; dsimp only; rw [q2], p⟩
/-- an __init__ ends, and so -/
def Mk (f : FnS) (c : Nat) (ts : List T) (Q : T → List T → Prop) : Prop := Sp f (.ow (.ins c) [] :: ts) fun r ts' => r = .sh .non ∧ ∃ t ts1, ts' = t :: ts1 ∧ Q t ts1
theorem we_makeF {c : Nat} : WE (makeF c f os) e P ↔ Ln os e fun ts e1 => Mk f c ts fun t ts1 => P t (back os ts1 e1) := by
  unfold Ln Mk Sp
  constructor
  · rintro ⟨t, e', h, p⟩
    unfold makeF at h
    split at h
    · rename_i ts e1 q
      split at h
      · rename_i u ts' q2
        cases h
        exact ⟨ts, e1, q, _, _, q2, rfl, _, _, rfl, p⟩
      · cases h
      · cases h
    · cases h
  · rintro ⟨ts, e1, q, t, ts', q2, rfl, u, ts1, rfl, p⟩
    exact ⟨u, _, by unfold makeF; rw [q]; dsimp only; rw [q2], p⟩
theorem ln_nil {Q : List T → En → Prop} : Ln [] e Q ↔ Q [] e := by
  unfold Ln
  constructor
  · rintro ⟨ts, e1, h, q⟩
    cases h
    exact q
  · exact fun q => ⟨[], e, rfl, q⟩
theorem ln_s {i : Nat} {Q : List T → En → Prop} : Ln (.s i :: os) e Q ↔ ∃ t, e[i]? = some t ∧ t ≠ .un ∧ Ln os (e.set i .un) fun ts e1 => Q (t :: ts) e1 := by
  constructor
  · rintro ⟨ts, e1, h, k⟩
    cases q : e[i]? with
    | none => simp [lend, q] at h
    | some t =>
      by_cases n : t = .un
      · subst n; simp [lend, q] at h
      · rw [lend_s q n] at h
        cases q2 : lend os (e.set i .un) with
        | none => rw [q2] at h; cases h
        | some p =>
          rw [q2] at h
          cases h
          exact ⟨t, rfl, n, p.1, p.2, q2, k⟩
  · rintro ⟨t, q, n, ts0, e1, h, k⟩
    exact ⟨_, e1, by rw [lend_s q n, h]; rfl, k⟩
theorem ln_t {t : T} {Q : List T → En → Prop} : Ln (.t t :: os) e Q ↔ Ln os e fun ts e1 => Q (t :: ts) e1 := by
  constructor
  · rintro ⟨ts, e1, h, k⟩
    rw [lend_t] at h
    cases q2 : lend os e with
    | none => rw [q2] at h; cases h
    | some p =>
      rw [q2] at h
      cases h
      exact ⟨p.1, p.2, q2, k⟩
  · rintro ⟨ts0, e1, h, k⟩
    exact ⟨_, e1, by rw [lend_t, h]; rfl, k⟩
theorem back_nil {e : En} {ts : List T} : back [] ts e = e := by cases ts <;> rfl
theorem back_s {i : Nat} {t : T} {ts : List T} : back (.s i :: os) (t :: ts) e = back os ts (e.set i t) := rfl
theorem back_t {t u : T} {ts : List T} : back (.t u :: os) (t :: ts) e = back os ts e := rfl
/-- a child of a tree, and the tree behind it -/
def Ko (t : T) (sel : Kd → Nat → Option Nat) (Q : D → T → Prop) : Prop := (∃ k ds, t = .sh (.nd k ds) ∧ ∃ n, sel k ds.length = some n ∧ ∃ d, ds[n]? = some d ∧ Q d t) ∨ ∃ k ts, t = .ow k ts ∧ ∃ n, sel k ts.length = some n ∧ ∃ d, (ts[n]?).bind T.rd = some d ∧ Q d (.ow k (ts.set n (.sh d)))
theorem rds_len : ∀ {ts : List T} {ds : List D}, T.rds ts = some ds → ts.length = ds.length
  | [], _, h => by cases h; rfl
  | t :: ts, _, h => by
    unfold T.rds at h
    split at h
    · rename_i d ds h1 h2
      cases h
      simp [rds_len h2]
    · cases h
theorem rds_get : ∀ {ts : List T} {ds : List D} {n : Nat}, T.rds ts = some ds → (ts[n]?).bind T.rd = ds[n]?
  | [], _, _, h => by cases h; rfl
  | t :: ts, _, n, h => by
    unfold T.rds at h
    split at h
    · rename_i d ds h1 h2
      cases h
      cases n with
      | zero => simpa using h1
      | succ n => simpa using rds_get (n := n) h2
    · cases h
theorem rds_set : ∀ {ts : List T} {ds : List D} {n : Nat} {d : D}, T.rds ts = some ds → ds[n]? = some d → T.rds (ts.set n (.sh d)) = some ds
  | [], _, _, _, h, g => by cases h; simp at g
  | t :: ts, _, n, d, h, g => by
    unfold T.rds at h
    split at h
    · rename_i d0 ds h1 h2
      cases h
      cases n with
      | zero =>
        have g : d0 = d := by simpa using g
        subst g
        simp [T.rds, T.rd, h2]
      | succ n =>
        have g : ds[n]? = some d := by simpa using g
        simp [T.rds, h1, rds_set h2 g]
    · cases h
/-- children where only the reading is known -/
theorem Ko.rd {t : T} {sel : Kd → Nat → Option Nat} {Q : D → T → Prop} {k : Kd} {ds : List D} {n : Nat} {d : D} (r : t.rd = some (.nd k ds)) (s : sel k ds.length = some n) (g : ds[n]? = some d) (p : ∀ t', t'.rd = some (.nd k ds) → Q d t') : Ko t sel Q := by
  cases t with
  | sh d0 =>
    have r : some d0 = some _ := r
    cases r
    exact .inl ⟨k, ds, rfl, n, s, d, g, p _ rfl⟩
  | ow k' ts =>
    have r' := r
    unfold T.rd at r
    split at r
    · rename_i ds' q
      cases r
      refine .inr ⟨_, ts, rfl, n, by rw [rds_len q]; exact s, d, by rw [rds_get q]; exact g, p _ ?_⟩
      unfold T.rd
      rw [rds_set q g]
    · cases r
  | _ => cases r
theorem ko_sh {k : Kd} {ds : List D} {sel : Kd → Nat → Option Nat} {Q : D → T → Prop} : Ko (.sh (.nd k ds)) sel Q ↔ ∃ n, sel k ds.length = some n ∧ ∃ d, ds[n]? = some d ∧ Q d (.sh (.nd k ds)) := by
  constructor
  · rintro (⟨k', ds', h, n, h2, d, h3, q⟩ | ⟨k', ts, h, _⟩)
    · cases h; exact ⟨n, h2, d, h3, q⟩
    · cases h
  · rintro ⟨n, h2, d, h3, q⟩
    exact .inl ⟨k, ds, rfl, n, h2, d, h3, q⟩
theorem ko_ow {k : Kd} {ts : List T} {sel : Kd → Nat → Option Nat} {Q : D → T → Prop} : Ko (.ow k ts) sel Q ↔ ∃ n, sel k ts.length = some n ∧ ∃ d, (ts[n]?).bind T.rd = some d ∧ Q d (.ow k (ts.set n (.sh d))) := by
  constructor
  · rintro (⟨k', ds', h, _⟩ | ⟨k', ts, h, n, h2, d, h3, q⟩)
    · cases h
    · cases h; exact ⟨n, h2, d, h3, q⟩
  · rintro ⟨n, h2, d, h3, q⟩
    exact .inr ⟨k, ts, rfl, n, h2, d, h3, q⟩
theorem kid_go {o : OV} {sel : Kd → Nat → Option Nat} : WE (kid o sel) e P ↔ ∃ t, o.get e = some t ∧ Ko t sel fun d t' => P (.sh d) (match o with
    | .s i => e.set i t'
    | .t _ => e) := by
  constructor
  · rintro ⟨x, e', h, p⟩
    unfold kid at h
    split at h
    · rename_i k ds q
      split at h
      · rename_i n q2
        split at h
        · rename_i d q3
          cases h
          refine ⟨_, q, .inl ⟨k, ds, rfl, n, q2, d, q3, ?_⟩⟩
          cases o with
          | s i =>
            dsimp only
            rw [set_same q]; exact p
          | t x => exact p
        · cases h
      · cases h
    · rename_i k ts q
      split at h
      · rename_i n q2
        split at h
        · rename_i d q3
          cases o with
          | s i => cases h; exact ⟨_, q, .inr ⟨k, ts, rfl, n, q2, d, q3, p⟩⟩
          | t x => cases h; exact ⟨_, q, .inr ⟨k, ts, rfl, n, q2, d, q3, p⟩⟩
        · cases h
      · cases h
    · cases h
  · rintro ⟨t, q, ⟨k, ds, rfl, n, h2, d, h3, p⟩ | ⟨k, ts, rfl, n, h2, d, h3, p⟩⟩
    · refine (WE_some (a := .sh d) (e' := e) ?_).mpr ?_
      · unfold kid; rw [q]; dsimp only; rw [h2]; dsimp only; rw [h3]
      · cases o with
        | s i =>
          dsimp only at p
          rw [set_same q] at p; exact p
        | t x => exact p
    · cases o with
      | s i =>
        refine (WE_some ?_).mpr p
        unfold kid; rw [q]; dsimp only; rw [h2]; dsimp only; rw [h3]
      | t x =>
        refine (WE_some ?_).mpr p
        unfold kid; rw [q]; dsimp only; rw [h2]; dsimp only; rw [h3]
theorem we_kid_s {i : Nat} {sel : Kd → Nat → Option Nat} : WE (kid (.s i) sel) e P ↔ ∃ t, e[i]? = some t ∧ Ko t sel fun d t' => P (.sh d) (e.set i t') := kid_go
theorem we_kid_t {t : T} {sel : Kd → Nat → Option Nat} : WE (kid (.t t) sel) e P ↔ Ko t sel fun d _ => P (.sh d) e := by
  rw [kid_go]
  simp only [OV.get, Option.some.injEq, exists_eq_left']
/-! more forms -/
theorem we_chn {o o' : Cm} : WE (evE X (.chn o o' a b c)) e P ↔ WE (evO X a) e fun x e1 => WE (evO X b) e1 fun y e2 => ∃ r, ((x.rd e2).bind fun d => (y.rd e2).bind fun d' => pCmp o d d') = some r ∧ if r = true then WE (evO X c) e2 fun z e3 => ∃ r', ((y.rd e3).bind fun d => (z.rd e3).bind fun d' => pCmp o' d d') = some r' ∧ P (.sh (.bl r')) e3 else P (.sh (.bl false)) e2 := by
  simp only [evE, WE_bd, WE_lift, WE_ite, WE_ret]
  refine WE_iff fun x e1 => WE_iff fun y e2 => ?_
  constructor
  · rintro ⟨r, h, w⟩
    refine ⟨r, h, ?_⟩
    cases r with
    | true =>
      rw [if_pos rfl] at w ⊢
      refine WE_mono w fun z e3 ⟨t, h1, p⟩ => ?_
      cases q : (y.rd e3).bind fun d => (z.rd e3).bind fun d' => pCmp o' d d' with
      | none => rw [q] at h1; cases h1
      | some d => rw [q] at h1; cases h1; exact ⟨_, rfl, p⟩
    | false => rw [if_neg Bool.false_ne_true] at w ⊢; exact w
  · rintro ⟨r, h, w⟩
    refine ⟨r, h, ?_⟩
    cases r with
    | true =>
      rw [if_pos rfl] at w ⊢
      exact WE_mono w fun z e3 ⟨t, h1, p⟩ => ⟨_, by rw [h1]; rfl, p⟩
    | false => rw [if_neg Bool.false_ne_true] at w ⊢; exact w
theorem wt_chn {o o' : Cm} : WE (evT X (.chn o o' a b c)) e PB ↔ WE (evO X a) e fun x e1 => WE (evO X b) e1 fun y e2 => ∃ r, ((x.rd e2).bind fun d => (y.rd e2).bind fun d' => pCmp o d d') = some r ∧ if r = true then WE (evO X c) e2 fun z e3 => ∃ r', ((y.rd e3).bind fun d => (z.rd e3).bind fun d' => pCmp o' d d') = some r' ∧ PB r' e3 else PB false e2 := by
  simp only [evT, WE_bd, WE_lift, WE_ite, WE_ret]
theorem we_and' {a b : CE} : WE (evE X (.andE a b)) e P ↔ WE (evE X a) e fun x e1 => ∃ r, x = .sh (.bl r) ∧ if r = true then WE (evE X b) e1 P else P (.sh (.bl false)) e1 := by
  refine ⟨fun h => ?_, we_and⟩
  simp only [evE, WE_bd] at h
  refine WE_mono h fun x e1 h => ?_
  split at h
  · exact ⟨true, rfl, by rw [if_pos rfl]; exact h⟩
  · exact ⟨false, rfl, by rw [if_neg Bool.false_ne_true]; exact WE_ret.mp h⟩
  · exact (WE_no.mp h).elim
theorem we_ite {t : CT} {a b : CE} : WE (evE X (.ite t a b)) e P ↔ WE (evT X t) e fun r e1 => if r = true then WE (evE X a) e1 P else WE (evE X b) e1 P := by simp only [evE, WE_bd, WE_ite]
theorem we_b2 {f : B2} : WE (evE X (.b2 f a b)) e P ↔ WE (evO X a) e fun x e1 => WE (evO X b) e1 fun y e2 => ∃ d, ((x.rd e2).bind fun d => (y.rd e2).bind fun d' => pB2 f d d') = some d ∧ P (.sh d) e2 := by
  simp only [evE, WE_bd, WE_lift]
  refine WE_iff fun x e1 => WE_iff fun y e2 => ?_
  constructor
  · rintro ⟨t, h1, h2⟩
    cases q : (x.rd e2).bind fun d => (y.rd e2).bind fun d' => pB2 f d d' with
    | none => rw [q] at h1; cases h1
    | some d => rw [q] at h1; cases h1; exact ⟨d, rfl, h2⟩
  · rintro ⟨d, h1, h2⟩
    exact ⟨_, by rw [h1]; rfl, h2⟩
theorem we_lc' {own : List Nat} {g : CG} {it : CI} {t : CTs} {c : CE} : WE (evE X (.lc own g it t c)) e P ↔ WE (evI X it) e fun ds e1 => ∃ ts e', lcLoop own g (evTs X t) (evE X c) ds [] (wipeE own e1) = some (ts, e') ∧ P (.ow .lst ts) e' := by
  refine ⟨fun h => ?_, WE_lc⟩
  simp only [evE, WE_bd] at h
  refine WE_mono h fun ds e1 ⟨x, e', h, p⟩ => ?_
  dsimp only at h
  split at h
  · rename_i ts e2 q
    cases h
    exact ⟨ts, _, q, p⟩
  · cases h
/-- a comprehension whose turns are told by a list -/
theorem lc_list {α : Type} {own : List Nat} {g : CG} {t : M Bool} {c : M T} {P : List T → En → Prop} (F : α → D) (I : List T → En → Prop) {xs : List α} {e : En} (h0 : I [] e) (hs : ∀ x ∈ xs, ∀ acc e, I acc e → acc.length < xs.length → ∃ e1, gset g (.sh (F x)) e = some e1 ∧ WE t e1 fun b e2 => b = true ∧ WE c e2 fun y e3 => acc.length < sizeLine ∧ I (acc ++ [y]) (wipeE own e3)) (hl : ∀ acc e, I acc e → acc.length = xs.length → P acc e) : ∃ ts e', lcLoop own g t c (xs.map F) [] e = some (ts, e') ∧ P ts e' := by
  refine lc_for (fun ds acc e => ∃ done r, xs = done ++ r ∧ ds = r.map F ∧ acc.length = done.length ∧ I acc e) ⟨[], xs, rfl, rfl, rfl, h0⟩ ?_ ?_
  · rintro d r acc e ⟨done, ys, h1, h2, h3, hI⟩
    cases ys with
    | nil => cases h2
    | cons y ys =>
      cases h2
      obtain ⟨e1, q, w⟩ := hs y (by rw [h1]; simp) acc e hI (by rw [h1]; simp; omega)
      refine ⟨e1, q, WE_mono w ?_⟩
      rintro b e2 ⟨rfl, w⟩
      rw [if_pos rfl]
      exact WE_mono w fun z e3 ⟨l, i⟩ => ⟨l, done ++ [y], ys, by simp [h1], rfl, by simp [h3], i⟩
  · rintro acc e ⟨done, ys, h1, h2, h3, hI⟩
    have : ys = [] := by simpa using h2.symm
    subst this
    rw [List.append_nil] at h1
    subst h1
    exact hl acc e hI h3
theorem lc_seq {α : Type} {own : List Nat} {g : CG} {t : M Bool} {c : M T} {P : List T → En → Prop} (F : α → D) (I : List α → List T → En → Prop) {xs : List α} {e : En} (h0 : I [] [] e) (hs : ∀ x done r, xs = done ++ x :: r → ∀ acc e, I done acc e → ∃ e1, gset g (.sh (F x)) e = some e1 ∧ WE t e1 fun b e2 => if b = true then WE c e2 fun y e3 => acc.length < sizeLine ∧ I (done ++ [x]) (acc ++ [y]) (wipeE own e3) else I (done ++ [x]) acc (wipeE own e2)) (hl : ∀ acc e, I xs acc e → P acc e) : ∃ ts e', lcLoop own g t c (xs.map F) [] e = some (ts, e') ∧ P ts e' := by
  refine lc_for (fun ds acc e => ∃ done r, xs = done ++ r ∧ ds = r.map F ∧ I done acc e) ⟨[], xs, rfl, rfl, h0⟩ ?_ ?_
  · rintro d r acc e ⟨done, ys, h1, h2, hI⟩
    cases ys with
    | nil => cases h2
    | cons y ys =>
      cases h2
      obtain ⟨e1, q, w⟩ := hs y done ys h1 acc e hI
      refine ⟨e1, q, WE_mono w ?_⟩
      rintro b e2 w
      cases b with
      | true =>
        rw [if_pos rfl] at w ⊢
        exact WE_mono w fun z e3 ⟨l, i⟩ => ⟨l, done ++ [y], ys, by simp [h1], rfl, i⟩
      | false =>
        rw [if_neg Bool.false_ne_true] at w ⊢
        exact ⟨done ++ [y], ys, by simp [h1], rfl, w⟩
  · rintro acc e ⟨done, ys, h1, h2, hI⟩
    have : ys = [] := by simpa using h2.symm
    subst this
    rw [List.append_nil] at h1
    subst h1
    exact hl acc e hI
/-- a loop whose turns are told by a list, which all end at their end -/
theorem for_list {α : Type} {g : CG} {b : MS} (F : α → D) (I : List α → En → Prop) {xs : List α} {e : En} (h0 : I [] e) (hs : ∀ x done r, xs = done ++ x :: r → ∀ e, I done e → ∃ e1, gset g (.sh (F x)) e = some e1 ∧ WS b e1 fun fl e2 => fl = .nx ∧ I (done ++ [x]) e2) (hl : ∀ e, I xs e → PS .nx e) : WS (forL g b (xs.map F)) e PS := by
  refine WS_forN (fun ds e => ∃ done r, xs = done ++ r ∧ ds = r.map F ∧ I done e) ⟨[], xs, rfl, rfl, h0⟩ ?_ ?_
  · rintro d r e ⟨done, ys, h1, h2, hI⟩
    cases ys with
    | nil => cases h2
    | cons y ys =>
      cases h2
      obtain ⟨e1, q, w⟩ := hs y done ys h1 e hI
      exact ⟨e1, q, WS_mono w fun fl e2 ⟨h, i⟩ => ⟨h, done ++ [y], ys, by simp [h1], rfl, i⟩⟩
  · rintro e ⟨done, ys, h1, h2, hI⟩
    have : ys = [] := by simpa using h2.symm
    subst this
    rw [List.append_nil] at h1
    subst h1
    exact hl e hI
theorem wi_enm {c : CE} {P : List D → En → Prop} : WE (evI X (.enm c)) e P ↔ WE (evE X c) e fun t e1 => ∃ ds, t.rd = some (.nd .lst ds) ∧ P (enmD ds) e1 := by
  simp only [evI, WE_bd, WE_lift]
  constructor
  · refine fun h => WE_mono h fun t e1 ⟨ds, h1, h2⟩ => ?_
    split at h1
    · cases h1; exact ⟨_, by assumption, h2⟩
    · cases h1
  · exact fun h => WE_mono h fun t e1 ⟨ds, h1, h2⟩ => ⟨_, by rw [h1], h2⟩
theorem we_pget {i : Nat} {p : List PSt} {k d : CO} {t : T} {ks : List Key} {ts : List T} (h : e[i]? = some t) (h2 : t.at_ p = some (.ow (.dk ks) ts)) (w : WE (evO X k) (e.set i .un) fun y e1 => WE (evO X d) e1 fun z e2 => ∃ dd kd key, z = .t (.sh dd) ∧ y.rd e2 = some kd ∧ kd.key = some key ∧ ((getL ks ts key = none ∧ P (.sh dd) (e2.set i t)) ∨ ∃ d, getL ks ts key = some (.sh d) ∧ P (.sh d) (e2.set i t))) : WE (evE X (.pget i p k d)) e P := by
  have q : WE (bd (evO X k) (fun y => bd (evO X d) fun z e' => match z, y.rd e' with
        | .t (.sh dd), some kd => match kd.key with
          | some key => match getL ks ts key with
            | some (.sh d) => some (Ex.ok (T.sh d), e'.set i t)
            | some _ => none
            | none => some (.ok (.sh dd), e'.set i t)
          | none => none
        | _, _ => none)) (e.set i .un) P := by
    simp only [WE_bd]
    refine WE_mono w fun y e1 w => WE_mono w ?_
    rintro z e2 ⟨dd, kd, key, rfl, h3, h4, h5⟩
    rcases h5 with ⟨h5, p⟩ | ⟨d, h5, p⟩
    · exact ⟨_, _, by dsimp only; rw [h3]; dsimp only; rw [h4]; dsimp only; rw [h5], p⟩
    · exact ⟨_, _, by dsimp only; rw [h3]; dsimp only; rw [h4]; dsimp only; rw [h5], p⟩
  obtain ⟨x, e', h6, p⟩ := q
  exact ⟨x, e', by simp only [evE, h, h2]; exact h6, p⟩
theorem ws_psetd {i : Nat} {p : List PSt} {k c : CE} (w : WE (evE X c) e fun x e1 => ∃ t ks ts, e1[i]? = some t ∧ t.at_ p = some (.ow (.dk ks) ts) ∧ WE (evE X k) (e1.set i .un) fun y e2 => ∃ d key, y = .sh d ∧ d.key = some key ∧ ks.length < sizeLine ∧ ks.Nodup ∧ PS .nx (e2.set i (t.set_ p (.ow (.dk (putL ks ts key x).1) (putL ks ts key x).2)))) : WS (evS X (.psetd i p k c)) e PS := by
  simp only [evS]
  rw [WS_bdS]
  refine WE_mono w ?_
  rintro x e1 ⟨t, ks, ts, h, h2, w⟩
  have q : WS (bdS (evE X k) (fun y => upS fun e2 => match y with
        | .sh d => match d.key with
          | some key => if ks.length < sizeLine ∧ ks.Nodup then some (e2.set i (t.set_ p (.ow (.dk (putL ks ts key x).1) (putL ks ts key x).2))) else none
          | none => none
        | _ => none)) (e1.set i .un) PS := by
    rw [WS_bdS]
    refine WE_mono w ?_
    rintro y e2 ⟨d, key, rfl, h3, h4, h5, p⟩
    rw [WS_upS]
    exact ⟨_, by dsimp only; rw [h3]; dsimp only; rw [if_pos ⟨h4, h5⟩], p⟩
  obtain ⟨r, e', h6, x0, p⟩ := q
  exact ⟨r, e', by dsimp only; rw [h]; dsimp only; rw [h2]; exact h6, x0, p⟩
theorem ws_al {r i : Nat} {a b k c : CE} {rest : CB} (g : ∃ ts0, e[i]? = some (.ow .lst ts0)) (w : WE (evE X a) e fun x e1 => ∃ ts xi n us, e1[i]? = some (.ow .lst ts) ∧ x = .sh (.int xi) ∧ ixN ts.length xi = some n ∧ ts[n]? = some (.ow .lst us) ∧ WE (evE X b) (e1.set i .un) fun y e2 => ∃ yi m ws, y = .sh (.int yi) ∧ ixN us.length yi = some m ∧ us[m]? = some (.ow .lst ws) ∧ (r ≠ i ∧ r < e2.length) ∧
    WE (evE X c) (e2.set r .un) fun z e3 => WE (evE X k) e3 fun w e4 => ∃ j q, w = .sh (.int j) ∧ ixN ws.length j = some q ∧ WS (evB X rest) (e4.set i (.ow .lst (ts.set n (.ow .lst (us.set m (.ow .lst (ws.set q z))))))) PS) : WS (evB X (.al r i a b k c rest)) e PS := by
  simp only [evB]
  rw [WS_sq]
  obtain ⟨ts0, g⟩ := g
  have main : WS (bdS (evE X a) fun x e => match e[i]?, x with
  | some (.ow .lst ts), .sh (.int xi) => match ixN ts.length xi with
    | some n => match ts[n]? with
      | some (.ow .lst us) => bdS (evE X b) (fun y e2 => match y with
        | .sh (.int yi) => match ixN us.length yi with
          | some m => match us[m]? with
            | some (.ow .lst ws) => if r ≠ i ∧ r < e2.length then bdS (evE X c) (fun z => bdS (evE X k) fun w => upS fun e3 => match w with
              | .sh (.int j) => match ixN ws.length j with
                | some q => some (e3.set i (.ow .lst (ts.set n (.ow .lst (us.set m (.ow .lst (ws.set q z)))))))
                | none => none
              | _ => none) (e2.set r .un) else none
            | _ => none
          | none => none
        | _ => none) (e.set i .un)
      | _ => none
    | none => none
  | _, _ => none) e fun fl e1 => match fl with
    | .nx => WS (evB X rest) e1 PS
    | r => PS r e1 := by
    rw [WS_bdS]
    refine WE_mono w ?_
    rintro x e1 ⟨ts, xi, n, us, h1, rfl, h2, h3, w⟩
    unfold WS
    simp only [h1, h2, h3]
    refine (WS_bdS (P := fun fl e1 => match fl with
      | .nx => WS (evB X rest) e1 PS
      | r => PS r e1)).mpr ?_
    refine WE_mono w ?_
    rintro y e2 ⟨yi, m, ws, rfl, h4, h5, h6, w⟩
    unfold WS
    simp only [h4, h5, if_pos h6]
    refine (WS_bdS (P := fun fl e1 => match fl with
      | .nx => WS (evB X rest) e1 PS
      | r => PS r e1)).mpr ?_
    refine WE_mono w fun z e3 w => ?_
    rw [WS_bdS]
    refine WE_mono w ?_
    rintro v e4 ⟨j, q, rfl, h7, w⟩
    rw [WS_upS]
    exact ⟨_, by dsimp only; rw [h7], w⟩
  obtain ⟨fl, e', h, x0, p⟩ := main
  exact ⟨fl, e', by unfold alM gdS; rw [g]; exact h, x0, p⟩
end
end BC
set_option Elab.async false
set_option linter.all false
set_option maxRecDepth 100000
set_option maxHeartbeats 4000000
/-! The rules where the slots are written out. -/
namespace BC
open PySem PySem.Spec PyProof.Rows L2
def c_we_lit (a : T) (l : En) := @we_lit (e := a :: l)
def c_we_glb (a : T) (l : En) := @we_glb (e := a :: l)
def c_we_var (a : T) (l : En) := @we_var (e := a :: l)
def c_we_op2 (a : T) (l : En) := @we_op2 (e := a :: l)
def c_we_b1 (a : T) (l : En) := @we_b1 (e := a :: l)
def c_we_mk (a : T) (l : En) := @we_mk (e := a :: l)
def c_we_cmp (a : T) (l : En) := @we_cmp (e := a :: l)
def c_wt_cmp (a : T) (l : En) := @wt_cmp (e := a :: l)
def c_wt_val (a : T) (l : En) := @wt_val (e := a :: l)
def c_wt_and (a : T) (l : En) := @wt_and (e := a :: l)
def c_wt_or (a : T) (l : En) := @wt_or (e := a :: l)
def c_wt_not (a : T) (l : En) := @wt_not (e := a :: l)
def c_wts_nil (a : T) (l : En) := @wts_nil (e := a :: l)
def c_wts_cons (a : T) (l : En) := @wts_cons (e := a :: l)
def c_wo_e (a : T) (l : En) := @wo_e (e := a :: l)
def c_wo_v (a : T) (l : En) := @wo_v (e := a :: l)
def c_wos_nil (a : T) (l : En) := @wos_nil (e := a :: l)
def c_wos_cons (a : T) (l : En) := @wos_cons (e := a :: l)
def c_wes_nil (a : T) (l : En) := @wes_nil (e := a :: l)
def c_wes_cons (a : T) (l : En) := @wes_cons (e := a :: l)
def c_we_lst (a : T) (l : En) := @we_lst (e := a :: l)
def c_we_tup (a : T) (l : En) := @we_tup (e := a :: l)
def c_we_dnl (a : T) (l : En) := @we_dnl (e := a :: l)
def c_we_not (a : T) (l : En) := @we_not (e := a :: l)
def c_we_isi (a : T) (l : En) := @we_isi (e := a :: l)
def c_we_fld (a : T) (l : En) := @we_fld (e := a :: l)
def c_we_rev (a : T) (l : En) := @we_rev (e := a :: l)
def c_ws_nil (a : T) (l : En) := @ws_nil (e := a :: l)
def c_ws_cons (a : T) (l : En) := @ws_cons (e := a :: l)
def c_ws_asg (a : T) (l : En) := @ws_asg (e := a :: l)
def c_ws_if (a : T) (l : En) := @ws_if (e := a :: l)
def c_ws_for (a : T) (l : En) := @ws_for (e := a :: l)
def c_ws_retS (a : T) (l : En) := @ws_retS (e := a :: l)
def c_ws_exp (a : T) (l : En) := @ws_exp (e := a :: l)
def c_we_pop (a : T) (l : En) := @we_pop (e := a :: l)
def c_we_mv (a : T) (l : En) := @we_mv (e := a :: l)
def c_ws_app' (a : T) (l : En) := @ws_app' (e := a :: l)
def c_ws_rvs' (a : T) (l : En) := @ws_rvs' (e := a :: l)
def c_wi_rngL (a : T) (l : En) := @wi_rngL (e := a :: l)
def c_wi_lst' (a : T) (l : En) := @wi_lst' (e := a :: l)
def c_wi_rng1' (a : T) (l : En) := @wi_rng1' (e := a :: l)
def c_we_didx' (a : T) (l : En) := @we_didx' (e := a :: l)
def c_we_idx' (a : T) (l : En) := @we_idx' (e := a :: l)
def c_we_dget (a : T) (l : En) := @we_dget (e := a :: l)
def c_ws_setf (a : T) (l : En) := @ws_setf (e := a :: l)
def c_wi_keys (a : T) (l : En) := @wi_keys (e := a :: l)
def c_we_call' (a : T) (l : En) := @we_call' (e := a :: l)
def c_we_make' (a : T) (l : En) := @we_make' (e := a :: l)
def c_we_callF (a : T) (l : En) := @we_callF (e := a :: l)
def c_we_makeF (a : T) (l : En) := @we_makeF (e := a :: l)
def c_ln_nil (a : T) (l : En) := @ln_nil (e := a :: l)
def c_ln_s (a : T) (l : En) := @ln_s (e := a :: l)
def c_ln_t (a : T) (l : En) := @ln_t (e := a :: l)
def c_we_kid_s (a : T) (l : En) := @we_kid_s (e := a :: l)
def c_we_kid_t (a : T) (l : En) := @we_kid_t (e := a :: l)
def c_we_chn (a : T) (l : En) := @we_chn (e := a :: l)
def c_wt_chn (a : T) (l : En) := @wt_chn (e := a :: l)
def c_we_and' (a : T) (l : En) := @we_and' (e := a :: l)
def c_we_ite (a : T) (l : En) := @we_ite (e := a :: l)
def c_we_b2 (a : T) (l : En) := @we_b2 (e := a :: l)
def c_we_lc' (a : T) (l : En) := @we_lc' (e := a :: l)
def c_we_meth' (a : T) (l : En) := @we_meth' (e := a :: l)
def c_wi_enm (a : T) (l : En) := @wi_enm (e := a :: l)
end BC
set_option Elab.async false
set_option linter.all false
set_option maxRecDepth 100000
set_option maxHeartbeats 4000000
/-! What a table's entries compute, one by one. -/
namespace BC
open PySem PySem.Spec PyProof.Rows L2
theorem evTab_pre : ∀ {ds : List DefC} {acc : List FnS} {i : Nat}, i < acc.length → (evTab ds acc)[i]? = acc[i]?
  | [], _, _, _ => rfl
  | d :: r, acc, i, h => by
    unfold evTab
    rw [evTab_pre (by simp; omega), List.getElem?_append_left h]
theorem evTab_step : ∀ {ds : List DefC} {acc : List FnS} {j : Nat} {d : DefC}, ds[j]? = some d → (∀ i ∈ d.cx, i < acc.length + j) → (evTab ds acc)[acc.length + j]? = some (evD ⟨d.cx.map (fun i => ((evTab ds acc)[i]?).getD fun _ => none), d.gs⟩ d.t)
  | [], _, _, _, h, _ => by simp at h
  | d0 :: r, acc, 0, d, h, hc => by
    have h : d0 = d := by simpa using h
    subst h
    unfold evTab
    rw [evTab_pre (by simp), List.getElem?_append_right (by simp)]
    simp only [Nat.add_zero, Nat.sub_self, List.getElem?_cons_zero, evStep]
    congr 3
    refine List.map_congr_left fun i hi => ?_
    have := hc i hi
    rw [evTab_pre (by simp; omega), List.getElem?_append_left (by omega)]
  | d0 :: r, acc, j + 1, d, h, hc => by
    unfold evTab
    have h : r[j]? = some d := by simpa using h
    have ih := evTab_step (acc := acc ++ [evStep d0 acc]) h (fun i hi => by have := hc i hi; simp; omega)
    have e : (acc ++ [evStep d0 acc]).length + j = acc.length + (j + 1) := by simp; omega
    rw [e] at ih
    exact ih
theorem lawF_eq {T : Tab} {j : Nat} {d : DefC} (h : T.ds[j]? = some d) (hc : ∀ i ∈ d.cx, i < j) : lawF T j = evD ⟨d.cx.map (lawF T), d.gs⟩ d.t := by
  have := evTab_step (acc := []) h (by simpa using hc)
  unfold lawF
  simp only [List.length_nil, Nat.zero_add] at this
  rw [this]
  rfl
end BC
set_option Elab.async false
set_option linter.all false
set_option maxRecDepth 100000
set_option maxHeartbeats 0
namespace BC
open PySem PySem.Spec PyProof.Rows L2
-- table of k04
def top (i : Nat) : Stmt := PySem.Challenge.pw_bulkcalls_k04_single_call.main.body.getD i (.Pass ⟨0, 0, 0, 0⟩)
/-- _law_pool -/
def t_law_pool : CDef := { n := 6, np := 1, asn := [1, 2, 3, 4, 5], body := (.cons (.asg (.nm 1) (.lst .nil)) (.cons (.forS (.nm 2) (.scr 0) (.cons (.asg (.nm 3) (.b1 .abs (.e (.b1 .int (.v 2))))) (.cons (.ifS (.cmp .lt (.v 3) (.e (.op2 .pow (.e (.lit (.int 10))) (.e (.lit (.int 18)))))) (.cons (.forS (.nm 4) (.rng1 (.lit (.int 48))) (.cons (.asg (.nm 5) (.op2 .mod (.e (.b1 .int (.e (.op2 .add (.e (.op2 .add (.e (.op2 .mul (.v 3) (.e (.lit (.int 48271))))) (.e (.op2 .mul (.v 4) (.e (.lit (.int 69621))))))) (.e (.lit (.int 7))))))) (.e (.lit (.int 2147483647))))) (.cons (.asg (.nm 5) (.op2 .mod (.e (.b1 .int (.e (.op2 .add (.e (.op2 .mul (.v 5) (.v 5))) (.e (.lit (.int 12345))))))) (.e (.lit (.int 998244353))))) (.cons (.app 1 (.op2 .mod (.e (.b1 .int (.e (.op2 .mul (.v 5) (.e (.lit (.int 16807))))))) (.e (.lit (.int 1000003))))) .nil)))) .nil) (.cons (.forS (.nm 4) (.rng1 (.lit (.int 60))) (.cons (.ifS (.cmp .gt (.v 3) (.e (.lit (.int 0)))) (.cons (.app 1 (.op2 .mod (.e (.b1 .int (.v 3))) (.e (.lit (.int 1000))))) .nil) .nil) (.cons (.asg (.nm 3) (.op2 .fdv (.v 3) (.e (.lit (.int 1000))))) .nil))) .nil)) .nil))) (.cons (.rvs 1) (.cons (.retS (.mv 1)) .nil)))) }
def d0 : DefC := { knd := 0, x := "_law_pool", m := "", name := "_law_pool", qual := "_law_pool", params := defArgs (top 22), body := defBody (top 22), scope := defScope (top 22), N := ["_law_script", "_law_pool_here", "_law_cell", "_law_number", "_law_k", "_law_mixed"], ps := ["_law_script"], t := t_law_pool, cn := [], cx := [], gn := [], gs := [], isc := [] }
/-- _law_take -/
def t_law_take : CDef := { n := 2, np := 2, asn := [], body := (.cons (.ifS (.cmp .eq (.v 0) (.e (.lst .nil))) (.cons (.retS (.lit (.int 0))) .nil) .nil) (.cons (.retS (.op2 .mod (.e (.b1 .int (.e (.pop 0 [])))) (.v 1))) .nil)) }
def d1 : DefC := { knd := 0, x := "_law_take", m := "", name := "_law_take", qual := "_law_take", params := defArgs (top 23), body := defBody (top 23), scope := defScope (top 23), N := ["_law_pool_here", "_law_menu"], ps := ["_law_pool_here", "_law_menu"], t := t_law_take, cn := [], cx := [], gn := [], gs := [], isc := [] }
/-- _law_free -/
def t_law_free : CDef := { n := 3, np := 2, asn := [2], body := (.cons (.asg (.nm 2) (.idx (.e (.lst (.cons (.lit (.int 0)) (.cons (.lit (.int 1)) (.cons (.b1 .neg (.e (.lit (.int 1)))) (.cons (.lit (.int 0)) (.cons (.b1 .neg (.e (.lit (.int 2)))) (.cons (.op2 .pow (.e (.lit (.int 10))) (.e (.lit (.int 9)))) (.cons (.b1 .neg (.e (.op2 .pow (.e (.lit (.int 10))) (.e (.lit (.int 9)))))) (.cons (.lit (.int 7)) .nil)))))))))) (.e (.call 0 (.cons (.v 0) (.cons (.e (.lit (.int 8))) .nil)))))) (.cons (.ifS (.cmp .eq (.v 2) (.e (.lit (.int 7)))) (.cons (.asg (.nm 2) (.op2 .add (.e (.op2 .add (.e (.op2 .mul (.e (.call 0 (.cons (.v 0) (.cons (.e (.lit (.int 1000))) .nil)))) (.e (.op2 .pow (.e (.lit (.int 10))) (.e (.lit (.int 6))))))) (.e (.op2 .mul (.e (.call 0 (.cons (.v 0) (.cons (.e (.lit (.int 1000))) .nil)))) (.e (.lit (.int 1000))))))) (.e (.call 0 (.cons (.v 0) (.cons (.e (.lit (.int 1000))) .nil)))))) (.cons (.asg (.nm 2) (.op2 .mul (.v 2) (.e (.idx (.e (.lst (.cons (.lit (.int 1)) (.cons (.b1 .neg (.e (.lit (.int 1)))) .nil)))) (.e (.call 0 (.cons (.v 0) (.cons (.e (.lit (.int 2))) .nil)))))))) .nil)) .nil) (.cons (.retS (.tup (.cons (.var 2) (.cons (.call 0 (.cons (.v 0) (.cons (.e (.idx (.v 1) (.e (.lit (.int 0))))) .nil))) (.cons (.call 0 (.cons (.v 0) (.cons (.e (.idx (.v 1) (.e (.lit (.int 1))))) .nil))) .nil))))) .nil))) }
def d2 : DefC := { knd := 0, x := "_law_free", m := "", name := "_law_free", qual := "_law_free", params := defArgs (top 24), body := defBody (top 24), scope := defScope (top 24), N := ["_law_pool_here", "_law_sizes", "_law_answer"], ps := ["_law_pool_here", "_law_sizes"], t := t_law_free, cn := [.fn "_law_take"], cx := [1], gn := [], gs := [], isc := [] }
/-- _law_entry -/
def t_law_entry : CDef := { n := 7, np := 4, asn := [4, 5, 6], body := (.cons (.asg (.nm 4) (.idx (.v 2) (.e (.lit (.int 0))))) (.cons (.asg (.nm 5) (.idx (.v 2) (.e (.lit (.int 1))))) (.cons (.asg (.nm 6) (.op2 .mod (.e (.b1 .int (.e (.idx (.v 2) (.e (.lit (.int 2))))))) (.e (.idx (.v 3) (.e (.lit (.int 1))))))) (.cons (.ifS (.cmp .eq (.v 1) (.e (.lit (.int 1)))) (.cons (.retS (.tup (.cons (.idx (.v 2) (.e (.lit (.int 2)))) (.cons (.var 4) (.cons (.var 6) .nil))))) .nil) .nil) (.cons (.ifS (.cmp .eq (.v 1) (.e (.lit (.int 2)))) (.cons (.retS (.tup (.cons (.lit (.int 0)) (.cons (.var 4) (.cons (.var 6) .nil))))) .nil) .nil) (.cons (.ifS (.cmp .eq (.v 1) (.e (.lit (.int 3)))) (.cons (.retS (.tup (.cons (.lit (.int 0)) (.cons (.op2 .mod (.e (.b1 .int (.e (.op2 .add (.v 4) (.e (.idx (.v 2) (.e (.lit (.int 2))))))))) (.e (.idx (.v 3) (.e (.lit (.int 0)))))) (.cons (.op2 .mod (.e (.b1 .int (.e (.op2 .add (.v 5) (.e (.lit (.int 1))))))) (.e (.idx (.v 3) (.e (.lit (.int 1)))))) .nil))))) .nil) .nil) (.cons (.ifS (.cmp .eq (.v 1) (.e (.lit (.int 4)))) (.cons (.retS (.tup (.cons (.op2 .sub (.e (.op2 .add (.e (.op2 .mul (.v 4) (.e (.lit (.int 3))))) (.v 5))) (.e (.lit (.int 2)))) (.cons (.var 4) (.cons (.var 5) .nil))))) .nil) .nil) (.cons (.ifS (.cmp .eq (.v 1) (.e (.lit (.int 5)))) (.cons (.retS (.tup (.cons (.idx (.e (.lst (.cons (.lit (.int 0)) (.cons (.b1 .neg (.e (.lit (.int 1)))) .nil)))) (.e (.op2 .mod (.e (.b1 .int (.v 4))) (.e (.lit (.int 2)))))) (.cons (.op2 .mod (.e (.b1 .int (.e (.op2 .add (.e (.op2 .add (.v 4) (.e (.lit (.int 1))))) (.e (.idx (.v 2) (.e (.lit (.int 2))))))))) (.e (.idx (.v 3) (.e (.lit (.int 0)))))) (.cons (.var 5) .nil))))) .nil) .nil) (.cons (.ifS (.cmp .eq (.v 1) (.e (.lit (.int 6)))) (.cons (.retS (.tup (.cons (.lit (.int 0)) (.cons (.var 4) (.cons (.b2 .max (.e (.b1 .int (.v 5))) (.e (.b1 .int (.v 6)))) .nil))))) .nil) .nil) (.cons (.ifS (.andT (.cmp .eq (.v 1) (.e (.lit (.int 7)))) (.cmp .gt (.v 5) (.e (.lit (.int 0))))) (.cons (.retS (.tup (.cons (.lit (.int 0)) (.cons (.var 4) (.cons (.var 5) .nil))))) .nil) .nil) (.cons (.ifS (.cmp .eq (.v 1) (.e (.lit (.int 7)))) (.cons (.retS (.tup (.cons (.lit (.int 0)) (.cons (.var 4) (.cons (.var 6) .nil))))) .nil) .nil) (.cons (.ifS (.cmp .eq (.v 1) (.e (.lit (.int 8)))) (.cons (.retS (.tup (.cons (.op2 .sub (.e (.call 0 (.cons (.v 0) (.cons (.e (.lit (.int 3))) .nil)))) (.e (.lit (.int 1)))) (.cons (.var 4) (.cons (.call 0 (.cons (.v 0) (.cons (.e (.idx (.v 3) (.e (.lit (.int 1))))) .nil))) .nil))))) .nil) .nil) (.cons (.retS (.call 1 (.cons (.v 0) (.cons (.v 3) .nil)))) .nil))))))))))))) }
def d3 : DefC := { knd := 0, x := "_law_entry", m := "", name := "_law_entry", qual := "_law_entry", params := defArgs (top 25), body := defBody (top 25), scope := defScope (top 25), N := ["_law_pool_here", "_law_way", "_law_at", "_law_sizes", "_law_shared", "_law_own", "_law_wish"], ps := ["_law_pool_here", "_law_way", "_law_at", "_law_sizes"], t := t_law_entry, cn := [.fn "_law_take", .fn "_law_free"], cx := [1, 2], gn := [], gs := [], isc := [] }
/-- _law_table -/
def t_law_table : CDef := { n := 11, np := 2, asn := [2, 3, 4, 5, 6, 7, 8, 9], body := (.cons (.asg (.nm 2) (.lst .nil)) (.cons (.forS (.nm 3) (.lst (.var 1)) (.cons (.ifS (.cmp .eq (.e (.call 0 (.cons (.v 0) (.cons (.e (.lit (.int 3))) .nil)))) (.e (.lit (.int 1)))) (.cons (.asg (.nm 3) (.op2 .add (.e (.lit (.int 1))) (.e (.call 0 (.cons (.v 0) (.cons (.v 3) .nil)))))) .nil) .nil) (.cons (.app 2 (.var 3)) .nil))) (.cons (.asg (.nm 4) (.call 0 (.cons (.v 0) (.cons (.e (.lit (.int 12))) .nil)))) (.cons (.asg (.nm 5) (.lst .nil)) (.cons (.forS (.nm 6) (.rng1 (.idx (.v 2) (.e (.lit (.int 0))))) (.cons (.asg (.nm 7) (.lst .nil)) (.cons (.forS (.nm 8) (.rng1 (.idx (.v 2) (.e (.lit (.int 1))))) (.cons (.app 7 (.lc [10] (.nm 10) (.rng1 (.idx (.v 2) (.e (.lit (.int 2))))) .nil (.call 1 (.cons (.v 0) (.cons (.v 4) (.cons (.e (.lst (.cons (.var 6) (.cons (.var 8) (.cons (.var 10) .nil))))) (.cons (.v 2) .nil))))))) .nil)) (.cons (.app 5 (.mv 7)) .nil)))) (.cons (.ifS (.cmp .eq (.e (.call 0 (.cons (.v 0) (.cons (.e (.lit (.int 3))) .nil)))) (.e (.lit (.int 1)))) (.al 9 5 (.call 0 (.cons (.v 0) (.cons (.e (.idx (.v 2) (.e (.lit (.int 0))))) .nil))) (.call 0 (.cons (.v 0) (.cons (.e (.idx (.v 2) (.e (.lit (.int 1))))) .nil))) (.call 0 (.cons (.v 0) (.cons (.e (.idx (.v 2) (.e (.lit (.int 2))))) .nil))) (.call 2 (.cons (.v 0) (.cons (.v 2) .nil))) .nil) .nil) (.cons (.retS (.mv 5)) .nil))))))) }
def d4 : DefC := { knd := 0, x := "_law_table", m := "", name := "_law_table", qual := "_law_table", params := defArgs (top 26), body := defBody (top 26), scope := defScope (top 26), N := ["_law_pool_here", "_law_most", "_law_sizes", "_law_span", "_law_way", "_law_table_here", "_law_shared", "_law_plane", "_law_own", "_law_row", "_law_action"], ps := ["_law_pool_here", "_law_most"], t := t_law_table, cn := [.fn "_law_take", .fn "_law_entry", .fn "_law_free"], cx := [1, 3, 2], gn := [], gs := [], isc := [] }
/-- check_lengths -/
def t_check_lengths : CDef := { n := 5, np := 1, asn := [1, 2, 3, 4], body := (.cons (.ifS (.notT (.chn .le .le (.e (.lit (.int 1))) (.e (.b1 .len (.v 0))) (.e (.glb 0)))) (.cons .nev .nil) .nil) (.cons (.asg (.nm 1) (.b1 .len (.e (.idx (.v 0) (.e (.lit (.int 0))))))) (.cons (.ifS (.notT (.chn .le .le (.e (.lit (.int 1))) (.v 1) (.e (.glb 1)))) (.cons .nev .nil) .nil) (.cons (.forS (.nm 2) (.lst (.var 0)) (.cons (.ifS (.cmp .ne (.e (.b1 .len (.v 2))) (.v 1)) (.cons .nev .nil) .nil) .nil)) (.cons (.asg (.nm 3) (.b1 .len (.e (.idx (.e (.idx (.v 0) (.e (.lit (.int 0))))) (.e (.lit (.int 0))))))) (.cons (.ifS (.notT (.chn .le .le (.e (.lit (.int 1))) (.v 3) (.e (.glb 2)))) (.cons .nev .nil) .nil) (.cons (.forS (.nm 2) (.lst (.var 0)) (.cons (.forS (.nm 4) (.lst (.var 2)) (.cons (.ifS (.cmp .ne (.e (.b1 .len (.v 4))) (.v 3)) (.cons .nev .nil) .nil) .nil)) .nil)) .nil))))))) }
def d5 : DefC := { knd := 0, x := "check_lengths", m := "", name := "check_lengths", qual := "check_lengths", params := defArgs (top 12), body := defBody (top 12), scope := defScope (top 12), N := ["table", "own_states", "plane", "actions", "row"], ps := ["table"], t := t_check_lengths, cn := [], cx := [], gn := ["MOST_SHARED", "MOST_OWN", "MOST_ACTIONS"], gs := [.int 4, .int 3, .int 3], isc := [] }
/-- Service.is_entry -/
def t_Service_is_entry : CDef := { n := 5, np := 2, asn := [2, 3, 4], body := (.cons (.asg (.tp (.cons (.nm 2) (.cons (.nm 3) (.cons (.nm 4) .nil)))) (.var 1)) (.cons (.ifS (.notT (.chn .le .le (.e (.b1 .neg (.e (.glb 0)))) (.v 2) (.e (.glb 0)))) (.cons (.retS (.lit (.bl false))) .nil) .nil) (.cons (.retS (.andE (.chn .le .lt (.e (.lit (.int 0))) (.v 3) (.e (.fld 1 0 (.v 0)))) (.chn .le .lt (.e (.lit (.int 0))) (.v 4) (.e (.fld 1 1 (.v 0)))))) .nil))) }
def d6 : DefC := { knd := 1, x := "Service", m := "is_entry", name := "is_entry", qual := "Service.is_entry", params := defArgs (inClass (top 13) 1), body := defBody (inClass (top 13) 1), scope := defScope (inClass (top 13) 1), N := ["self", "entry", "answer", "shared", "own"], ps := ["self", "entry"], t := t_Service_is_entry, cn := [], cx := [], gn := ["LARGEST_ANSWER"], gs := [.int 1000000000], isc := [] }
/-- Service.__init__ -/
def t_Service_init : CDef := { n := 7, np := 2, asn := [2, 3, 5], body := (.cons (.exp (.call 0 (.cons (.v 1) .nil))) (.cons (.setf 0 1 0 (.b1 .len (.v 1))) (.cons (.setf 0 1 1 (.b1 .len (.e (.idx (.v 1) (.e (.lit (.int 0))))))) (.cons (.setf 0 1 2 (.b1 .len (.e (.idx (.e (.idx (.v 1) (.e (.lit (.int 0))))) (.e (.lit (.int 0))))))) (.cons (.setf 0 1 3 (.lc [4] (.nm 4) (.lst (.var 1)) .nil (.lc [6] (.nm 6) (.lst (.var 4)) .nil (.mk .list (.v 6))))) (.cons (.forS (.nm 2) (.rng1 (.fld 1 0 (.v 0))) (.cons (.forS (.nm 3) (.rng1 (.fld 1 1 (.v 0))) (.cons (.forS (.nm 5) (.rng1 (.fld 1 2 (.v 0))) (.cons (.ifS (.notT (.val (.e (.meth [(1, 1)] (.v 0) (.cons (.e (.idx (.e (.idx (.e (.idx (.e (.fld 1 3 (.v 0))) (.v 2))) (.v 3))) (.v 5))) .nil))))) (.cons .nev .nil) .nil) .nil)) .nil)) .nil)) .nil)))))) }
def d7 : DefC := { knd := 1, x := "Service", m := "__init__", name := "__init__", qual := "Service.__init__", params := defArgs (inClass (top 13) 0), body := defBody (inClass (top 13) 0), scope := defScope (inClass (top 13) 0), N := ["self", "table", "shared", "own", "plane", "action", "row"], ps := ["self", "table"], t := t_Service_init, cn := [.fn "check_lengths", .me 1 "is_entry"], cx := [5, 6], gn := [], gs := [], isc := [] }
/-- _law_copied -/
def t_law_copied : CDef := { n := 3, np := 1, asn := [], body := (.cons (.retS (.lc [1] (.nm 1) (.lst (.var 0)) .nil (.lc [2] (.nm 2) (.lst (.var 1)) .nil (.mk .list (.v 2))))) .nil) }
def d8 : DefC := { knd := 0, x := "_law_copied", m := "", name := "_law_copied", qual := "_law_copied", params := defArgs (top 27), body := defBody (top 27), scope := defScope (top 27), N := ["_law_table_here", "_law_plane", "_law_row"], ps := ["_law_table_here"], t := t_law_copied, cn := [], cx := [], gn := [], gs := [], isc := [] }
/-- _law_keys -/
def t_law_keys : CDef := { n := 3, np := 1, asn := [1, 2], body := (.cons (.ifS (.cmp .lt (.e (.call 0 (.cons (.v 0) (.cons (.e (.lit (.int 3))) .nil)))) (.e (.lit (.int 2)))) (.cons (.retS (.lst (.cons (.lit (.int 0)) (.cons (.lit (.int 1)) (.cons (.lit (.int 2)) (.cons (.lit (.int 3)) .nil)))))) .nil) .nil) (.cons (.asg (.nm 1) (.lst (.cons (.op2 .pow (.e (.lit (.int 10))) (.e (.lit (.int 9)))) .nil))) (.cons (.forS (.nm 2) (.rng1 (.lit (.int 3))) (.cons (.app 1 (.op2 .add (.e (.op2 .add (.e (.op2 .mul (.e (.call 0 (.cons (.v 0) (.cons (.e (.lit (.int 1000))) .nil)))) (.e (.op2 .pow (.e (.lit (.int 10))) (.e (.lit (.int 6))))))) (.e (.op2 .mul (.e (.call 0 (.cons (.v 0) (.cons (.e (.lit (.int 1000))) .nil)))) (.e (.lit (.int 1000))))))) (.e (.call 0 (.cons (.v 0) (.cons (.e (.lit (.int 1000))) .nil)))))) .nil)) (.cons (.retS (.mv 1)) .nil)))) }
def d9 : DefC := { knd := 0, x := "_law_keys", m := "", name := "_law_keys", qual := "_law_keys", params := defArgs (top 28), body := defBody (top 28), scope := defScope (top 28), N := ["_law_pool_here", "_law_keys_here", "_law_k"], ps := ["_law_pool_here"], t := t_law_keys, cn := [.fn "_law_take"], cx := [1], gn := [], gs := [], isc := [] }
/-- _law_states -/
def t_law_states : CDef := { n := 5, np := 3, asn := [3, 4], body := (.cons (.asg (.nm 3) (.dnl false)) (.cons (.forS (.nm 4) (.lst (.var 1)) (.cons (.setd 3 (.var 4) (.call 0 (.cons (.v 0) (.cons (.v 2) .nil)))) .nil)) (.cons (.retS (.mv 3)) .nil))) }
def d10 : DefC := { knd := 0, x := "_law_states", m := "", name := "_law_states", qual := "_law_states", params := defArgs (top 29), body := defBody (top 29), scope := defScope (top 29), N := ["_law_pool_here", "_law_keys_here", "_law_many", "_law_states_here", "_law_key"], ps := ["_law_pool_here", "_law_keys_here", "_law_many"], t := t_law_states, cn := [.fn "_law_take"], cx := [1], gn := [], gs := [], isc := [] }
/-- _law_requests -/
def t_law_requests : CDef := { n := 5, np := 4, asn := [], body := (.cons (.retS (.lc [4] (.nm 4) (.rng1 (.var 3)) .nil (.tup (.cons (.idx (.v 1) (.e (.call 0 (.cons (.v 0) (.cons (.e (.b1 .len (.v 1))) .nil))))) (.cons (.call 0 (.cons (.v 0) (.cons (.v 2) .nil))) .nil))))) .nil) }
def d11 : DefC := { knd := 0, x := "_law_requests", m := "", name := "_law_requests", qual := "_law_requests", params := defArgs (top 31), body := defBody (top 31), scope := defScope (top 31), N := ["_law_pool_here", "_law_keys_here", "_law_actions", "_law_count", "_law_k"], ps := ["_law_pool_here", "_law_keys_here", "_law_actions", "_law_count"], t := t_law_requests, cn := [.fn "_law_take"], cx := [1], gn := [], gs := [], isc := [] }
/-- Store.__init__ -/
def t_Store_init : CDef := { n := 3, np := 3, asn := [], body := (.cons (.setf 0 0 0 (.var 1)) (.cons (.setf 0 0 1 (.mk .dict (.v 2))) .nil)) }
def d12 : DefC := { knd := 1, x := "Store", m := "__init__", name := "__init__", qual := "Store.__init__", params := defArgs (inClass (top 14) 0), body := defBody (inClass (top 14) 0), scope := defScope (inClass (top 14) 0), N := ["self", "shared", "states"], ps := ["self", "shared", "states"], t := t_Store_init, cn := [], cx := [], gn := [], gs := [], isc := [] }
/-- _law_bare -/
def t_law_bare : CDef := { n := 5, np := 3, asn := [3, 4], body := (.cons (.asg (.nm 3) (.dnl false)) (.cons (.forS (.nm 4) (.lst (.var 1)) (.cons (.ifS (.orT (.cmp .gt (.e (.didx (.v 2) (.v 4))) (.e (.lit (.int 0)))) (.cmp .eq (.e (.call 0 (.cons (.v 0) (.cons (.e (.lit (.int 2))) .nil)))) (.e (.lit (.int 1))))) (.cons (.setd 3 (.var 4) (.didx (.v 2) (.v 4))) .nil) .nil) .nil)) (.cons (.retS (.mv 3)) .nil))) }
def d13 : DefC := { knd := 0, x := "_law_bare", m := "", name := "_law_bare", qual := "_law_bare", params := defArgs (top 30), body := defBody (top 30), scope := defScope (top 30), N := ["_law_pool_here", "_law_keys_here", "_law_states_here", "_law_bare_here", "_law_key"], ps := ["_law_pool_here", "_law_keys_here", "_law_states_here"], t := t_law_bare, cn := [.fn "_law_take"], cx := [1], gn := [], gs := [], isc := [] }
/-- _law_singles -/
def t_law_singles : CDef := { n := 7, np := 3, asn := [3, 4, 5, 6], body := (.cons (.asg (.nm 3) (.lst (.cons (.idx (.v 1) (.e (.lit (.int 0)))) (.cons (.mk .dict (.e (.idx (.v 1) (.e (.lit (.int 1)))))) .nil)))) (.cons (.asg (.nm 4) (.lst .nil)) (.cons (.forS (.nm 5) (.lst (.var 2)) (.cons (.asg (.nm 6) (.idx (.e (.idx (.e (.idx (.v 0) (.e (.idx (.v 3) (.e (.lit (.int 0))))))) (.e (.pget 3 [.ix 1] (.e (.idx (.v 5) (.e (.lit (.int 0))))) (.e (.lit (.int 0))))))) (.e (.idx (.v 5) (.e (.lit (.int 1))))))) (.cons (.app 4 (.idx (.v 6) (.e (.lit (.int 0))))) (.cons (.ifS (.cmp .ge (.e (.idx (.v 6) (.e (.lit (.int 0))))) (.e (.lit (.int 0)))) (.cons (.seti 3 (.lit (.int 0)) (.idx (.v 6) (.e (.lit (.int 1))))) (.cons (.psetd 3 [.ix 1] (.idx (.v 5) (.e (.lit (.int 0)))) (.idx (.v 6) (.e (.lit (.int 2))))) .nil)) .nil) .nil)))) (.cons (.retS (.lst (.cons (.var 4) (.cons (.var 3) .nil)))) .nil)))) }
def d14 : DefC := { knd := 0, x := "_law_singles", m := "", name := "_law_singles", qual := "_law_singles", params := defArgs (top 32), body := defBody (top 32), scope := defScope (top 32), N := ["_law_table_here", "_law_start", "_law_requests_here", "_law_store", "_law_answers", "_law_request", "_law_entry_here"], ps := ["_law_table_here", "_law_start", "_law_requests_here"], t := t_law_singles, cn := [], cx := [], gn := [], gs := [], isc := [] }
/-- check_store -/
def t_check_store : CDef := { n := 3, np := 2, asn := [2], body := (.cons (.ifS (.notT (.chn .le .lt (.e (.lit (.int 0))) (.e (.fld 0 0 (.v 1))) (.e (.fld 1 0 (.v 0))))) (.cons .nev .nil) .nil) (.cons (.forS (.nm 2) (.lst (.mk .sorted (.e (.lc [2] (.nm 2) (.keys (.fld 0 1 (.v 1))) .nil (.b1 .int (.v 2)))))) (.cons (.ifS (.orT (.notT (.chn .le .le (.e (.lit (.int 0))) (.v 2) (.e (.glb 0)))) (.notT (.chn .le .lt (.e (.lit (.int 0))) (.e (.didx (.e (.fld 0 1 (.v 1))) (.v 2))) (.e (.fld 1 1 (.v 0)))))) (.cons .nev .nil) .nil) .nil)) .nil)) }
def d15 : DefC := { knd := 0, x := "check_store", m := "", name := "check_store", qual := "check_store", params := defArgs (top 15), body := defBody (top 15), scope := defScope (top 15), N := ["service", "store", "key"], ps := ["service", "store"], t := t_check_store, cn := [], cx := [], gn := ["LARGEST_KEY"], gs := [.int 1000000000], isc := [] }
/-- check_requests -/
def t_check_requests : CDef := { n := 5, np := 2, asn := [2, 3, 4], body := (.cons (.forS (.tp (.cons (.nm 2) (.cons (.tp (.cons (.nm 3) (.cons (.nm 4) .nil))) .nil))) (.enm (.var 1)) (.cons (.ifS (.orT (.notT (.chn .le .le (.e (.lit (.int 0))) (.v 3) (.e (.glb 0)))) (.notT (.chn .le .lt (.e (.lit (.int 0))) (.v 4) (.e (.fld 1 2 (.v 0)))))) (.cons .nev .nil) .nil) .nil)) .nil) }
def d16 : DefC := { knd := 0, x := "check_requests", m := "", name := "check_requests", qual := "check_requests", params := defArgs (top 16), body := defBody (top 16), scope := defScope (top 16), N := ["service", "requests", "place", "key", "action"], ps := ["service", "requests"], t := t_check_requests, cn := [], cx := [], gn := ["LARGEST_KEY"], gs := [.int 1000000000], isc := [] }
/-- Service.entry -/
def t_Service_entry : CDef := { n := 4, np := 4, asn := [], body := (.cons (.retS (.idx (.e (.idx (.e (.idx (.e (.fld 1 3 (.v 0))) (.v 1))) (.v 2))) (.v 3))) .nil) }
def d17 : DefC := { knd := 1, x := "Service", m := "entry", name := "entry", qual := "Service.entry", params := defArgs (inClass (top 13) 2), body := defBody (inClass (top 13) 2), scope := defScope (inClass (top 13) 2), N := ["self", "shared", "own", "action"], ps := ["self", "shared", "own", "action"], t := t_Service_entry, cn := [], cx := [], gn := [], gs := [], isc := [] }
/-- Store.__getitem__ -/
def t_Store_getitem : CDef := { n := 2, np := 2, asn := [], body := (.cons (.retS (.dget (.e (.fld 0 1 (.v 0))) (.v 1) (.e (.lit (.int 0))))) .nil) }
def d18 : DefC := { knd := 1, x := "Store", m := "__getitem__", name := "__getitem__", qual := "Store.__getitem__", params := defArgs (inClass (top 14) 2), body := defBody (inClass (top 14) 2), scope := defScope (inClass (top 14) 2), N := ["self", "key"], ps := ["self", "key"], t := t_Store_getitem, cn := [], cx := [], gn := [], gs := [], isc := [] }
/-- found_entry -/
def t_found_entry : CDef := { n := 5, np := 3, asn := [3, 4], body := (.cons (.asg (.tp (.cons (.nm 3) (.cons (.nm 4) .nil))) (.var 2)) (.cons (.retS (.meth [(1, 0)] (.v 0) (.cons (.e (.fld 0 0 (.v 1))) (.cons (.e (.ogi [(0, 1)] (.v 1) (.v 3))) (.cons (.v 4) .nil))))) .nil)) }
def d19 : DefC := { knd := 0, x := "found_entry", m := "", name := "found_entry", qual := "found_entry", params := defArgs (top 17), body := defBody (top 17), scope := defScope (top 17), N := ["service", "store", "request", "key", "action"], ps := ["service", "store", "request"], t := t_found_entry, cn := [.me 1 "entry", .op 0 "__getitem__"], cx := [17, 18], gn := [], gs := [], isc := [] }
/-- Store.moved -/
def t_Store_moved : CDef := { n := 5, np := 4, asn := [4], body := (.cons (.asg (.nm 4) (.mk .dict (.e (.fld 0 1 (.v 0))))) (.cons (.setd 4 (.var 2) (.var 3)) (.cons (.retS (.make 0 0 (.cons (.v 1) (.cons (.v 4) .nil)))) .nil))) }
def d20 : DefC := { knd := 1, x := "Store", m := "moved", name := "moved", qual := "Store.moved", params := defArgs (inClass (top 14) 6), body := defBody (inClass (top 14) 6), scope := defScope (inClass (top 14) 6), N := ["self", "shared", "key", "own", "states"], ps := ["self", "shared", "key", "own"], t := t_Store_moved, cn := [.mk 0 "Store"], cx := [12], gn := [], gs := [], isc := [] }
/-- step -/
def t_step : CDef := { n := 6, np := 3, asn := [3, 4, 5], body := (.cons (.asg (.tp (.cons (.nm 3) (.cons (.nm 4) (.cons (.nm 5) .nil)))) (.call 0 (.cons (.v 0) (.cons (.v 1) (.cons (.v 2) .nil))))) (.cons (.ifS (.cmp .lt (.v 3) (.e (.lit (.int 0)))) (.cons (.retS (.tup (.cons (.var 3) (.cons (.var 1) .nil)))) .nil) .nil) (.cons (.retS (.tup (.cons (.var 3) (.cons (.meth [(0, 1)] (.v 1) (.cons (.v 4) (.cons (.e (.idx (.v 2) (.e (.lit (.int 0))))) (.cons (.v 5) .nil)))) .nil)))) .nil))) }
def d21 : DefC := { knd := 0, x := "step", m := "", name := "step", qual := "step", params := defArgs (top 18), body := defBody (top 18), scope := defScope (top 18), N := ["service", "store", "request", "answer", "shared", "own"], ps := ["service", "store", "request"], t := t_step, cn := [.fn "found_entry", .me 0 "moved"], cx := [19, 20], gn := [], gs := [], isc := [] }
/-- single -/
def t_single : CDef := { n := 3, np := 3, asn := [], body := (.cons (.exp (.call 0 (.cons (.v 0) (.cons (.v 1) .nil)))) (.cons (.exp (.call 1 (.cons (.v 0) (.cons (.e (.lst (.cons (.var 2) .nil))) .nil)))) (.cons (.retS (.call 2 (.cons (.v 0) (.cons (.v 1) (.cons (.v 2) .nil))))) .nil))) }
def d22 : DefC := { knd := 0, x := "single", m := "", name := "single", qual := "single", params := defArgs (top 19), body := defBody (top 19), scope := defScope (top 19), N := ["service", "store", "request"], ps := ["service", "store", "request"], t := t_single, cn := [.fn "check_store", .fn "check_requests", .fn "step"], cx := [15, 16, 21], gn := [], gs := [], isc := [] }
/-- _law_is_int -/
def t_law_is_int : CDef := { n := 1, np := 1, asn := [], body := (.cons (.retS (.andE (.isi (.v 0) .int) (.notE (.e (.isi (.v 0) .bool))))) .nil) }
def d23 : DefC := { knd := 0, x := "_law_is_int", m := "", name := "_law_is_int", qual := "_law_is_int", params := defArgs (top 21), body := defBody (top 21), scope := defScope (top 21), N := ["_law_actual"], ps := ["_law_actual"], t := t_law_is_int, cn := [], cx := [], gn := [], gs := [], isc := [] }
/-- Store.not_zero -/
def t_Store_not_zero : CDef := { n := 2, np := 1, asn := [], body := (.cons (.retS (.dc false [1] (.nm 1) (.keys (.fld 0 1 (.v 0))) (.cons (.cmp .ne (.e (.didx (.e (.fld 0 1 (.v 0))) (.v 1))) (.e (.lit (.int 0)))) .nil) (.var 1) (.didx (.e (.fld 0 1 (.v 0))) (.v 1)))) .nil) }
def d24 : DefC := { knd := 1, x := "Store", m := "not_zero", name := "not_zero", qual := "Store.not_zero", params := defArgs (inClass (top 14) 5), body := defBody (inClass (top 14) 5), scope := defScope (inClass (top 14) 5), N := ["self", "key"], ps := ["self"], t := t_Store_not_zero, cn := [], cx := [], gn := [], gs := [], isc := [] }
/-- Store.__eq__ -/
def t_Store_eq : CDef := { n := 2, np := 2, asn := [], body := (.cons (.ifS (.notT (.val (.e (.isi (.v 1) (.cls 0))))) (.cons (.retS (.lit (.bl false))) .nil) .nil) (.cons (.retS (.andE (.cmp .eq (.e (.fld 0 0 (.v 0))) (.e (.fld 0 0 (.v 1)))) (.cmp .eq (.e (.meth [(0, 0)] (.v 0) .nil)) (.e (.meth [(0, 0)] (.v 1) .nil))))) .nil)) }
def d25 : DefC := { knd := 1, x := "Store", m := "__eq__", name := "__eq__", qual := "Store.__eq__", params := defArgs (inClass (top 14) 4), body := defBody (inClass (top 14) 4), scope := defScope (inClass (top 14) 4), N := ["self", "other"], ps := ["self", "other"], t := t_Store_eq, cn := [.me 0 "not_zero"], cx := [24], gn := [], gs := [], isc := [0] }
/-- _law_is_store -/
def t_law_is_store : CDef := { n := 4, np := 3, asn := [3], body := (.cons (.ifS (.orT (.notT (.val (.e (.isi (.v 0) (.cls 0))))) (.orT (.notT (.val (.e (.call 0 (.cons (.e (.fld 0 0 (.v 0))) .nil))))) (.cmp .ne (.e (.fld 0 0 (.v 0))) (.e (.idx (.v 1) (.e (.lit (.int 0)))))))) (.cons (.retS (.lit (.bl false))) .nil) .nil) (.cons (.forS (.nm 3) (.lst (.op2 .add (.v 2) (.e (.lst (.cons (.lit (.int 5)) (.cons (.lit (.int 123456789)) .nil)))))) (.cons (.ifS (.orT (.notT (.val (.e (.call 0 (.cons (.e (.ogi [(0, 1)] (.v 0) (.v 3))) .nil))))) (.cmp .ne (.e (.ogi [(0, 1)] (.v 0) (.v 3))) (.e (.dget (.e (.idx (.v 1) (.e (.lit (.int 1))))) (.v 3) (.e (.lit (.int 0))))))) (.cons (.retS (.lit (.bl false))) .nil) .nil) .nil)) (.cons (.retS (.cmp .is_ (.e (.ocmp [(0, 2)] (.v 0) (.e (.make 0 3 (.cons (.e (.idx (.v 1) (.e (.lit (.int 0))))) (.cons (.e (.mk .dict (.e (.idx (.v 1) (.e (.lit (.int 1))))))) .nil)))))) (.e (.lit (.bl true))))) .nil))) }
def d26 : DefC := { knd := 0, x := "_law_is_store", m := "", name := "_law_is_store", qual := "_law_is_store", params := defArgs (top 33), body := defBody (top 33), scope := defScope (top 33), N := ["_law_actual", "_law_store", "_law_keys_here", "_law_key"], ps := ["_law_actual", "_law_store", "_law_keys_here"], t := t_law_is_store, cn := [.fn "_law_is_int", .op 0 "__getitem__", .op 0 "__eq__", .mk 0 "Store"], cx := [23, 18, 25, 12], gn := [], gs := [], isc := [0] }
/-- law -/
def t_law : CDef := { n := 17, np := 1, asn := [1, 2, 3, 4, 5, 6, 7, 8, 9, 10, 11, 12, 13, 14], body := (.cons (.asg (.nm 1) (.call 0 (.cons (.v 0) .nil))) (.cons (.asg (.nm 2) (.call 1 (.cons (.v 1) (.cons (.e (.lst (.cons (.lit (.int 4)) (.cons (.lit (.int 3)) (.cons (.lit (.int 3)) .nil))))) .nil)))) (.cons (.asg (.nm 3) (.lc [15] (.nm 15) (.lst (.rev (.e (.var 2)))) .nil (.lc [16] (.nm 16) (.lst (.rev (.v 15))) .nil (.rev (.v 16))))) (.cons (.asg (.nm 4) (.lst (.cons (.make 1 2 (.cons (.e (.call 3 (.cons (.v 2) .nil))) .nil)) (.cons (.make 1 2 (.cons (.e (.call 3 (.cons (.v 3) .nil))) .nil)) .nil)))) (.cons (.asg (.nm 5) (.call 4 (.cons (.v 1) .nil))) (.cons (.asg (.nm 6) (.lst (.cons (.call 6 (.cons (.v 1) (.cons (.e (.b1 .len (.v 2))) .nil))) (.cons (.call 5 (.cons (.v 1) (.cons (.v 5) (.cons (.e (.b1 .len (.e (.idx (.v 2) (.e (.lit (.int 0))))))) .nil)))) .nil)))) (.cons (.asg (.nm 7) (.call 7 (.cons (.v 1) (.cons (.v 5) (.cons (.e (.b1 .len (.e (.idx (.e (.idx (.v 2) (.e (.lit (.int 0))))) (.e (.lit (.int 0))))))) (.cons (.e (.op2 .add (.e (.lit (.int 1))) (.e (.call 6 (.cons (.v 1) (.cons (.e (.lit (.int 12))) .nil)))))) .nil)))))) (.cons (.asg (.nm 8) (.make 0 8 (.cons (.e (.idx (.v 6) (.e (.lit (.int 0))))) (.cons (.e (.call 9 (.cons (.v 1) (.cons (.v 5) (.cons (.e (.idx (.v 6) (.e (.lit (.int 1))))) .nil))))) .nil)))) (.cons (.asg (.nm 9) (.lst (.cons (.lst (.cons (.var 8) (.cons (.var 6) .nil))) .nil))) (.cons (.forS (.nm 10) (.lst (.var 7)) (.cons (.asg (.nm 12) (.lst .nil)) (.cons (.asg (.nm 13) (.lit .non)) (.cons (.forS (.nm 14) (.lst (.lst (.cons (.lit (.int 0)) (.cons (.lit (.int 1)) (.cons (.lit (.int 0)) .nil))))) (.cons (.asg (.nm 12) (.call 10 (.cons (.e (.idx (.e (.lst (.cons (.var 2) (.cons (.var 3) .nil)))) (.v 14))) (.cons (.v 6) (.cons (.e (.lst (.cons (.var 10) .nil))) .nil))))) (.cons (.asg (.nm 13) (.call 11 (.cons (.e (.idx (.v 4) (.v 14))) (.cons (.v 8) (.cons (.v 10) .nil))))) (.cons (.ifS (.orT (.notT (.val (.e (.isi (.v 13) .tuple)))) (.cmp .ne (.e (.b1 .len (.v 13))) (.e (.lit (.int 2))))) (.cons (.retS (.lit (.bl false))) .nil) .nil) (.cons (.ifS (.orT (.notT (.val (.e (.call 13 (.cons (.e (.idx (.v 13) (.e (.lit (.int 0))))) .nil))))) (.orT (.cmp .ne (.e (.idx (.v 13) (.e (.lit (.int 0))))) (.e (.idx (.e (.idx (.v 12) (.e (.lit (.int 0))))) (.e (.lit (.int 0)))))) (.notT (.val (.e (.call 12 (.cons (.e (.idx (.v 13) (.e (.lit (.int 1))))) (.cons (.e (.idx (.v 12) (.e (.lit (.int 1))))) (.cons (.v 5) .nil))))))))) (.cons (.retS (.lit (.bl false))) .nil) .nil) (.cons (.ifS (.notT (.val (.e (.call 12 (.cons (.v 8) (.cons (.v 6) (.cons (.v 5) .nil))))))) (.cons (.retS (.lit (.bl false))) .nil) .nil) (.cons (.app 9 (.lst (.cons (.idx (.v 13) (.e (.lit (.int 1)))) (.cons (.idx (.v 12) (.e (.lit (.int 1)))) .nil)))) .nil))))))) (.cons (.asg (.nm 8) (.idx (.v 13) (.e (.lit (.int 1))))) (.cons (.asg (.nm 6) (.idx (.v 12) (.e (.lit (.int 1))))) .nil)))))) (.cons (.forS (.nm 11) (.lst (.var 9)) (.cons (.ifS (.notT (.val (.e (.call 12 (.cons (.e (.idx (.v 11) (.e (.lit (.int 0))))) (.cons (.e (.idx (.v 11) (.e (.lit (.int 1))))) (.cons (.v 5) .nil))))))) (.cons (.retS (.lit (.bl false))) .nil) .nil) .nil)) (.cons (.retS (.lit (.bl true))) .nil)))))))))))) }
def d27 : DefC := { knd := 0, x := "law", m := "", name := "law", qual := "law", params := defArgs (top 34), body := defBody (top 34), scope := defScope (top 34), N := ["_law_script", "_law_pool_here", "_law_table_here", "_law_other", "_law_services", "_law_keys_here", "_law_mine", "_law_rows", "_law_store", "_law_shown", "_law_request", "_law_pair", "_law_due", "_law_told", "_law_turn", "_law_plane", "_law_row"], ps := ["_law_script"], t := t_law, cn := [.fn "_law_pool", .fn "_law_table", .mk 1 "Service", .fn "_law_copied", .fn "_law_keys", .fn "_law_states", .fn "_law_take", .fn "_law_requests", .mk 0 "Store", .fn "_law_bare", .fn "_law_singles", .fn "single", .fn "_law_is_store", .fn "_law_is_int"], cx := [0, 4, 7, 8, 9, 10, 1, 11, 12, 13, 14, 22, 26, 23], gn := [], gs := [], isc := [] }
def tab : Tab := { cs := [⟨"Store", ["shared", "owned"]⟩, ⟨"Service", ["shared_states", "own_states", "actions", "planes"]⟩], ds := [d0, d1, d2, d3, d4, d5, d6, d7, d8, d9, d10, d11, d12, d13, d14, d15, d16, d17, d18, d19, d20, d21, d22, d23, d24, d25, d26, d27] }
theorem b0 : BindC d0 := fun _ _ _ _ _ _ us hl => match us, hl with | [_], _ => rfl
theorem b1 : BindC d1 := fun _ _ _ _ _ _ us hl => match us, hl with | [_, _], _ => rfl
theorem b2 : BindC d2 := fun _ _ _ _ _ _ us hl => match us, hl with | [_, _], _ => rfl
theorem b3 : BindC d3 := fun _ _ _ _ _ _ us hl => match us, hl with | [_, _, _, _], _ => rfl
theorem b4 : BindC d4 := fun _ _ _ _ _ _ us hl => match us, hl with | [_, _], _ => rfl
theorem b5 : BindC d5 := fun _ _ _ _ _ _ us hl => match us, hl with | [_], _ => rfl
theorem b6 : BindC d6 := fun _ _ _ _ _ _ us hl => match us, hl with | [_, _], _ => rfl
theorem b7 : BindC d7 := fun _ _ _ _ _ _ us hl => match us, hl with | [_, _], _ => rfl
theorem b8 : BindC d8 := fun _ _ _ _ _ _ us hl => match us, hl with | [_], _ => rfl
theorem b9 : BindC d9 := fun _ _ _ _ _ _ us hl => match us, hl with | [_], _ => rfl
theorem b10 : BindC d10 := fun _ _ _ _ _ _ us hl => match us, hl with | [_, _, _], _ => rfl
theorem b11 : BindC d11 := fun _ _ _ _ _ _ us hl => match us, hl with | [_, _, _, _], _ => rfl
theorem b12 : BindC d12 := fun _ _ _ _ _ _ us hl => match us, hl with | [_, _, _], _ => rfl
theorem b13 : BindC d13 := fun _ _ _ _ _ _ us hl => match us, hl with | [_, _, _], _ => rfl
theorem b14 : BindC d14 := fun _ _ _ _ _ _ us hl => match us, hl with | [_, _, _], _ => rfl
theorem b15 : BindC d15 := fun _ _ _ _ _ _ us hl => match us, hl with | [_, _], _ => rfl
theorem b16 : BindC d16 := fun _ _ _ _ _ _ us hl => match us, hl with | [_, _], _ => rfl
theorem b17 : BindC d17 := fun _ _ _ _ _ _ us hl => match us, hl with | [_, _, _, _], _ => rfl
theorem b18 : BindC d18 := fun _ _ _ _ _ _ us hl => match us, hl with | [_, _], _ => rfl
theorem b19 : BindC d19 := fun _ _ _ _ _ _ us hl => match us, hl with | [_, _, _], _ => rfl
theorem b20 : BindC d20 := fun _ _ _ _ _ _ us hl => match us, hl with | [_, _, _, _], _ => rfl
theorem b21 : BindC d21 := fun _ _ _ _ _ _ us hl => match us, hl with | [_, _, _], _ => rfl
theorem b22 : BindC d22 := fun _ _ _ _ _ _ us hl => match us, hl with | [_, _, _], _ => rfl
theorem b23 : BindC d23 := fun _ _ _ _ _ _ us hl => match us, hl with | [_], _ => rfl
theorem b24 : BindC d24 := fun _ _ _ _ _ _ us hl => match us, hl with | [_], _ => rfl
theorem b25 : BindC d25 := fun _ _ _ _ _ _ us hl => match us, hl with | [_, _], _ => rfl
theorem b26 : BindC d26 := fun _ _ _ _ _ _ us hl => match us, hl with | [_, _, _], _ => rfl
theorem b27 : BindC d27 := fun _ _ _ _ _ _ us hl => match us, hl with | [_], _ => rfl
def names0 : List Str := ["_wall", "BulkError", "BadTable", "BadStore", "BadRequest", "MOST_SHARED", "MOST_OWN", "MOST_ACTIONS", "LARGEST_ANSWER", "LARGEST_KEY", "check_lengths", "Service", "Store", "check_store", "check_requests", "found_entry", "step", "single", "_law_is_int", "_law_pool", "_law_take", "_law_free", "_law_entry", "_law_table", "_law_copied", "_law_keys", "_law_states", "_law_bare", "_law_requests", "_law_singles"]
def names1 : List Str := ["_law_is_store"]
def names : List Str := names0 ++ names1
-- LAWI 34 N 28 RW bulkcalls_k04_single_call LAWK 27
end BC
set_option Elab.async false
set_option linter.all false
set_option maxRecDepth 100000
set_option maxHeartbeats 4000000
namespace BC
open PySem PySem.Spec PyProof.Rows L2
theorem take_ok {X : Ctx} {is : List Int} {m : Int} (hm : 0 < m) : ∃ t ts', evD X t_law_take [liT is, iT m] = some (.ret t, ts') ∧ ∃ r is', t = iT r ∧ ts' = [liT is', iT m] ∧ 0 ≤ r ∧ r < m := by
  rcases List.eq_nil_or_concat is with rfl | ⟨js, i, rfl⟩
  · refine ⟨_, _, rfl, 0, [], rfl, rfl, by omega, hm⟩
  · apply evD_ret
    · rfl
    rw [List.concat_eq_append]
    unfold t_law_take
    simp only [we_lit, we_call', we_make', rd_al, sd_al, mk_al, we_glb, we_var, we_op2, we_b1, we_mk, we_cmp, wt_cmp, wt_val, wt_and, wt_or, wt_not, wts_nil, wts_cons, wo_e, wo_v, wos_nil, wos_cons, wes_nil, wes_cons, we_lst, we_tup, we_dnl, we_not, we_isi, we_fld, we_rev, ws_nil, ws_cons, ws_asg, ws_if, ws_for, ws_retS, ws_exp, we_pop, we_mv, ws_app', ws_rvs', rev_li, dl_li, fold0_li, liT_sh, liT_ow2, get_map, ex_eq, List.map_nil, wi_rngL, false_or, or_false, false_and, and_assoc, exists_and_left, exists_false, exists_eq, T.ow.injEq, exists_eq_right, cmp_eq_nil, liT_un, sh_un, rd_nil, mul_l, mul_mm, pow_18, pow_9, pow_6, mod_l, fdv_l, fold_li, nil_li, nil_al,  List.length_map, Int.reduceLT, Int.reduceNeg, Int.reducePow, Nat.lt_add_one, Nat.zero_lt_succ, Nat.reduceMul, Int.reduceToNat, okRng, Int.reduceLE, decide_true, and_self, bin_add, bin_sub, rd_int, rd_abs, cmp_lt, cmp_gt, OVrd_s, OVrd_t, OVsd_s, OVsd_t, OVget_s, OVget_t, rd_sh, sd_sh, rd_li, sd_li, gset, List.length_nil, List.length_cons, Nat.zero_le, if_true, if_false, ite_true, ite_false, Bool.false_eq_true, Nat.sub_self, List.append_nil, List.nil_append, List.cons_append, List.getElem?_cons_zero, List.getElem?_cons_succ, List.set_cons_zero, List.set_cons_succ, Option.some.injEq, exists_eq_left', exists_eq_left, Option.bind_some, Option.map_some, List.replicate_succ, List.replicate_zero, Nat.reduceSub, Nat.reduceLT, Nat.reduceAdd, reduceCtorEq, ne_eq, not_false_eq_true, true_and, and_true]
    have : (js ++ [i]).isEmpty = false := by simp
    have h2 : (js ++ [i])[(js ++ [i]).length - 1]? = some i := by simp
    simp only [this, h2, bin_mod hm, we_lit, we_call', we_make', rd_al, sd_al, mk_al, we_glb, we_var, we_op2, we_b1, we_mk, we_cmp, wt_cmp, wt_val, wt_and, wt_or, wt_not, wts_nil, wts_cons, wo_e, wo_v, wos_nil, wos_cons, wes_nil, wes_cons, we_lst, we_tup, we_dnl, we_not, we_isi, we_fld, we_rev, ws_nil, ws_cons, ws_asg, ws_if, ws_for, ws_retS, ws_exp, we_pop, we_mv, ws_app', ws_rvs', rev_li, dl_li, fold0_li, liT_sh, liT_ow2, get_map, ex_eq, List.map_nil, wi_rngL, false_or, or_false, false_and, and_assoc, exists_and_left, exists_false, exists_eq, T.ow.injEq, exists_eq_right, cmp_eq_nil, liT_un, sh_un, rd_nil, mul_l, mul_mm, pow_18, pow_9, pow_6, mod_l, fdv_l, fold_li, nil_li, nil_al,  List.length_map, Int.reduceLT, Int.reduceNeg, Int.reducePow, Nat.lt_add_one, Nat.zero_lt_succ, Nat.reduceMul, Int.reduceToNat, okRng, Int.reduceLE, decide_true, and_self, bin_add, bin_sub, rd_int, rd_abs, cmp_lt, cmp_gt, OVrd_s, OVrd_t, OVsd_s, OVsd_t, OVget_s, OVget_t, rd_sh, sd_sh, rd_li, sd_li, gset, List.length_nil, List.length_cons, Nat.zero_le, if_true, if_false, ite_true, ite_false, Bool.false_eq_true, Nat.sub_self, List.append_nil, List.nil_append, List.cons_append, List.getElem?_cons_zero, List.getElem?_cons_succ, List.set_cons_zero, List.set_cons_succ, Option.some.injEq, exists_eq_left', exists_eq_left, Option.bind_some, Option.map_some, List.replicate_succ, List.replicate_zero, Nat.reduceSub, Nat.reduceLT, Nat.reduceAdd, reduceCtorEq, ne_eq, not_false_eq_true, true_and, and_true]
    exact ⟨_, rfl, _, rfl, Int.emod_nonneg _ (by omega), Int.emod_lt_of_pos _ hm⟩
theorem pool_ok {X : Ctx} {ns : List Int} (hn : ns.length ≤ 63) : ∃ t ts', evD X t_law_pool [scrD ns] = some (.ret t, ts') ∧ ∃ is, t = liT is ∧ ts' = [scrD ns] := by
  apply evD_ret
  · rfl
  unfold t_law_pool
  simp only [we_lit, we_call', we_make', rd_al, sd_al, mk_al, we_glb, we_var, we_op2, we_b1, we_mk, we_cmp, wt_cmp, wt_val, wt_and, wt_or, wt_not, wts_nil, wts_cons, wo_e, wo_v, wos_nil, wos_cons, wes_nil, wes_cons, we_lst, we_tup, we_dnl, we_not, we_isi, we_fld, we_rev, ws_nil, ws_cons, ws_asg, ws_if, ws_for, ws_retS, ws_exp, we_pop, we_mv, ws_app', ws_rvs', rev_li, dl_li, fold0_li, liT_sh, liT_ow2, get_map, ex_eq, List.map_nil, wi_rngL, false_or, or_false, false_and, and_assoc, exists_and_left, exists_false, exists_eq, T.ow.injEq, exists_eq_right, cmp_eq_nil, liT_un, sh_un, rd_nil, mul_l, mul_mm, pow_18, pow_9, pow_6, mod_l, fdv_l, fold_li, nil_li, nil_al,  List.length_map, Int.reduceLT, Int.reduceNeg, Int.reducePow, Nat.lt_add_one, Nat.zero_lt_succ, Nat.reduceMul, Int.reduceToNat, okRng, Int.reduceLE, decide_true, and_self, bin_add, bin_sub, rd_int, rd_abs, cmp_lt, cmp_gt, OVrd_s, OVrd_t, OVsd_s, OVsd_t, OVget_s, OVget_t, rd_sh, sd_sh, rd_li, sd_li, gset, List.length_nil, List.length_cons, Nat.zero_le, if_true, if_false, ite_true, ite_false, Bool.false_eq_true, Nat.sub_self, List.append_nil, List.nil_append, List.cons_append, List.getElem?_cons_zero, List.getElem?_cons_succ, List.set_cons_zero, List.set_cons_succ, Option.some.injEq, exists_eq_left', exists_eq_left, Option.bind_some, Option.map_some, List.replicate_succ, List.replicate_zero, Nat.reduceSub, Nat.reduceLT, Nat.reduceAdd, reduceCtorEq, ne_eq, not_false_eq_true, true_and, and_true]
  rw [wi_scr (ds := ns.map D.int) rfl]
  refine WS_forN (fun ds e => ∃ ms is x2 x3 x4 x5, ds = List.map D.int ms ∧ e = [scrD ns, liT is, x2, x3, x4, x5] ∧ is.length + 60 * ms.length ≤ 3780) ?_ ?_ ?_
  · exact ⟨ns, [], _, _, _, _, rfl, rfl, by simp; omega⟩
  · rintro d r e ⟨ms, is, x2, x3, x4, x5, h1, rfl, hl⟩
    cases ms with
    | nil => cases h1
    | cons m ms =>
      cases h1
      refine ⟨_, rfl, ?_⟩
      simp only [we_lit, we_call', we_make', rd_al, sd_al, mk_al, we_glb, we_var, we_op2, we_b1, we_mk, we_cmp, wt_cmp, wt_val, wt_and, wt_or, wt_not, wts_nil, wts_cons, wo_e, wo_v, wos_nil, wos_cons, wes_nil, wes_cons, we_lst, we_tup, we_dnl, we_not, we_isi, we_fld, we_rev, ws_nil, ws_cons, ws_asg, ws_if, ws_for, ws_retS, ws_exp, we_pop, we_mv, ws_app', ws_rvs', rev_li, dl_li, fold0_li, liT_sh, liT_ow2, get_map, ex_eq, List.map_nil, wi_rngL, false_or, or_false, false_and, and_assoc, exists_and_left, exists_false, exists_eq, T.ow.injEq, exists_eq_right, cmp_eq_nil, liT_un, sh_un, rd_nil, mul_l, mul_mm, pow_18, pow_9, pow_6, mod_l, fdv_l, fold_li, nil_li, nil_al,  List.length_map, Int.reduceLT, Int.reduceNeg, Int.reducePow, Nat.lt_add_one, Nat.zero_lt_succ, Nat.reduceMul, Int.reduceToNat, okRng, Int.reduceLE, decide_true, and_self, bin_add, bin_sub, rd_int, rd_abs, cmp_lt, cmp_gt, OVrd_s, OVrd_t, OVsd_s, OVsd_t, OVget_s, OVget_t, rd_sh, sd_sh, rd_li, sd_li, gset, List.length_nil, List.length_cons, Nat.zero_le, if_true, if_false, ite_true, ite_false, Bool.false_eq_true, Nat.sub_self, List.append_nil, List.nil_append, List.cons_append, List.getElem?_cons_zero, List.getElem?_cons_succ, List.set_cons_zero, List.set_cons_succ, Option.some.injEq, exists_eq_left', exists_eq_left, Option.bind_some, Option.map_some, List.replicate_succ, List.replicate_zero, Nat.reduceSub, Nat.reduceLT, Nat.reduceAdd, reduceCtorEq, ne_eq, not_false_eq_true, true_and, and_true]
      generalize (if m < 0 then -m else m) = a
      simp only [List.length_cons] at hl
      split
      · obtain ⟨ks, hk, hkl⟩ := rngD_ints 0 48
        rw [hk]
        refine WS_forN (fun ds e => ∃ ms' is' x4 x5, ds = List.map D.int ms' ∧ e = [scrD ns, liT is', iT m, iT a, x4, x5] ∧ is'.length + ms'.length ≤ is.length + 48) ?_ ?_ ?_
        · exact ⟨ks, is, _, _, rfl, rfl, by omega⟩
        · rintro d r e ⟨ms', is', x4, x5, h1, rfl, hl2⟩
          cases ms' with
          | nil => cases h1
          | cons k ks =>
            cases h1
            simp only [List.length_cons] at hl2
            refine ⟨_, rfl, ?_⟩
            simp only [we_lit, we_call', we_make', rd_al, sd_al, mk_al, we_glb, we_var, we_op2, we_b1, we_mk, we_cmp, wt_cmp, wt_val, wt_and, wt_or, wt_not, wts_nil, wts_cons, wo_e, wo_v, wos_nil, wos_cons, wes_nil, wes_cons, we_lst, we_tup, we_dnl, we_not, we_isi, we_fld, we_rev, ws_nil, ws_cons, ws_asg, ws_if, ws_for, ws_retS, ws_exp, we_pop, we_mv, ws_app', ws_rvs', rev_li, dl_li, fold0_li, liT_sh, liT_ow2, get_map, ex_eq, List.map_nil, wi_rngL, false_or, or_false, false_and, and_assoc, exists_and_left, exists_false, exists_eq, T.ow.injEq, exists_eq_right, cmp_eq_nil, liT_un, sh_un, rd_nil, mul_l, mul_mm, pow_18, pow_9, pow_6, mod_l, fdv_l, fold_li, nil_li, nil_al,  List.length_map, Int.reduceLT, Int.reduceNeg, Int.reducePow, Nat.lt_add_one, Nat.zero_lt_succ, Nat.reduceMul, Int.reduceToNat, okRng, Int.reduceLE, decide_true, and_self, bin_add, bin_sub, rd_int, rd_abs, cmp_lt, cmp_gt, OVrd_s, OVrd_t, OVsd_s, OVsd_t, OVget_s, OVget_t, rd_sh, sd_sh, rd_li, sd_li, gset, List.length_nil, List.length_cons, Nat.zero_le, if_true, if_false, ite_true, ite_false, Bool.false_eq_true, Nat.sub_self, List.append_nil, List.nil_append, List.cons_append, List.getElem?_cons_zero, List.getElem?_cons_succ, List.set_cons_zero, List.set_cons_succ, Option.some.injEq, exists_eq_left', exists_eq_left, Option.bind_some, Option.map_some, List.replicate_succ, List.replicate_zero, Nat.reduceSub, Nat.reduceLT, Nat.reduceAdd, reduceCtorEq, ne_eq, not_false_eq_true, true_and, and_true]
            refine ⟨by rw [sizeLine_eq]; omega, ks, rfl, _, _, _, rfl, by simp; omega⟩
        · rintro e ⟨ms', is', x4, x5, h1, rfl, hl2⟩
          refine ⟨ms, rfl, is', _, _, _, _, rfl, ?_⟩
          have : ms' = [] := by simpa using h1.symm
          subst this
          simp at hl2
          omega
      · obtain ⟨ks, hk, hkl⟩ := rngD_ints 0 60
        rw [hk]
        refine WS_forN (fun ds e => ∃ ms' is' a x4 x5, ds = List.map D.int ms' ∧ e = [scrD ns, liT is', iT m, iT a, x4, x5] ∧ is'.length + ms'.length ≤ is.length + 60) ?_ ?_ ?_
        · exact ⟨ks, is, _, _, _, rfl, rfl, by omega⟩
        · rintro d r e ⟨ms', is', a, x4, x5, h1, rfl, hl2⟩
          cases ms' with
          | nil => cases h1
          | cons k ks =>
            cases h1
            simp only [List.length_cons] at hl2
            refine ⟨_, rfl, ?_⟩
            simp only [we_lit, we_call', we_make', rd_al, sd_al, mk_al, we_glb, we_var, we_op2, we_b1, we_mk, we_cmp, wt_cmp, wt_val, wt_and, wt_or, wt_not, wts_nil, wts_cons, wo_e, wo_v, wos_nil, wos_cons, wes_nil, wes_cons, we_lst, we_tup, we_dnl, we_not, we_isi, we_fld, we_rev, ws_nil, ws_cons, ws_asg, ws_if, ws_for, ws_retS, ws_exp, we_pop, we_mv, ws_app', ws_rvs', rev_li, dl_li, fold0_li, liT_sh, liT_ow2, get_map, ex_eq, List.map_nil, wi_rngL, false_or, or_false, false_and, and_assoc, exists_and_left, exists_false, exists_eq, T.ow.injEq, exists_eq_right, cmp_eq_nil, liT_un, sh_un, rd_nil, mul_l, mul_mm, pow_18, pow_9, pow_6, mod_l, fdv_l, fold_li, nil_li, nil_al,  List.length_map, Int.reduceLT, Int.reduceNeg, Int.reducePow, Nat.lt_add_one, Nat.zero_lt_succ, Nat.reduceMul, Int.reduceToNat, okRng, Int.reduceLE, decide_true, and_self, bin_add, bin_sub, rd_int, rd_abs, cmp_lt, cmp_gt, OVrd_s, OVrd_t, OVsd_s, OVsd_t, OVget_s, OVget_t, rd_sh, sd_sh, rd_li, sd_li, gset, List.length_nil, List.length_cons, Nat.zero_le, if_true, if_false, ite_true, ite_false, Bool.false_eq_true, Nat.sub_self, List.append_nil, List.nil_append, List.cons_append, List.getElem?_cons_zero, List.getElem?_cons_succ, List.set_cons_zero, List.set_cons_succ, Option.some.injEq, exists_eq_left', exists_eq_left, Option.bind_some, Option.map_some, List.replicate_succ, List.replicate_zero, Nat.reduceSub, Nat.reduceLT, Nat.reduceAdd, reduceCtorEq, ne_eq, not_false_eq_true, true_and, and_true]
            split
            · refine ⟨by rw [sizeLine_eq]; omega, ks, rfl, _, _, _, _, rfl, by simp; omega⟩
            · refine ⟨ks, rfl, _, _, _, _, rfl, by omega⟩
        · rintro e ⟨ms', is', a, x4, x5, h1, rfl, hl2⟩
          refine ⟨ms, rfl, is', _, _, _, _, rfl, ?_⟩
          have : ms' = [] := by simpa using h1.symm
          subst this
          simp at hl2
          omega
  · rintro e ⟨ms, is, x2, x3, x4, x5, h1, rfl, hl⟩
    simp only [we_lit, we_call', we_make', rd_al, sd_al, mk_al, we_glb, we_var, we_op2, we_b1, we_mk, we_cmp, wt_cmp, wt_val, wt_and, wt_or, wt_not, wts_nil, wts_cons, wo_e, wo_v, wos_nil, wos_cons, wes_nil, wes_cons, we_lst, we_tup, we_dnl, we_not, we_isi, we_fld, we_rev, ws_nil, ws_cons, ws_asg, ws_if, ws_for, ws_retS, ws_exp, we_pop, we_mv, ws_app', ws_rvs', rev_li, dl_li, fold0_li, liT_sh, liT_ow2, get_map, ex_eq, List.map_nil, wi_rngL, false_or, or_false, false_and, and_assoc, exists_and_left, exists_false, exists_eq, T.ow.injEq, exists_eq_right, cmp_eq_nil, liT_un, sh_un, rd_nil, mul_l, mul_mm, pow_18, pow_9, pow_6, mod_l, fdv_l, fold_li, nil_li, nil_al,  List.length_map, Int.reduceLT, Int.reduceNeg, Int.reducePow, Nat.lt_add_one, Nat.zero_lt_succ, Nat.reduceMul, Int.reduceToNat, okRng, Int.reduceLE, decide_true, and_self, bin_add, bin_sub, rd_int, rd_abs, cmp_lt, cmp_gt, OVrd_s, OVrd_t, OVsd_s, OVsd_t, OVget_s, OVget_t, rd_sh, sd_sh, rd_li, sd_li, gset, List.length_nil, List.length_cons, Nat.zero_le, if_true, if_false, ite_true, ite_false, Bool.false_eq_true, Nat.sub_self, List.append_nil, List.nil_append, List.cons_append, List.getElem?_cons_zero, List.getElem?_cons_succ, List.set_cons_zero, List.set_cons_succ, Option.some.injEq, exists_eq_left', exists_eq_left, Option.bind_some, Option.map_some, List.replicate_succ, List.replicate_zero, Nat.reduceSub, Nat.reduceLT, Nat.reduceAdd, reduceCtorEq, ne_eq, not_false_eq_true, true_and, and_true]
    exact ⟨_, rfl, rfl⟩
end BC
set_option Elab.async false
set_option linter.all false
set_option maxRecDepth 100000
set_option maxHeartbeats 4000000
namespace BC
open PySem PySem.Spec PyProof.Rows L2
def cPool : FnS := evD ⟨[], []⟩ t_law_pool
def cTake : FnS := evD ⟨[], []⟩ t_law_take
theorem liT_ne {is : List Int} : liT is ≠ .un := by simp [liT]
theorem take_call {e : En} {P : T → En → Prop} {i : Nat} {is : List Int} {m : Int} (h : e[i]? = some (liT is)) (hm : 0 < m) (p : ∀ r is', 0 ≤ r → r < m → P (iT r) (e.set i (liT is'))) : WE (callF cTake [.s i, .t (iT m)]) e P := by
  obtain ⟨t, ts', h1, r, is', h2, h3, h4, h5⟩ := take_ok (X := ⟨[], []⟩) (is := is) hm
  subst h2
  exact call_st h liT_ne h1 h3 (p r is' h4 h5)
theorem take_callS {e : En} {P : T → En → Prop} {i j : Nat} {is : List Int} {m : Int} (h : e[i]? = some (liT is)) (h2 : e[j]? = some (iT m)) (ij : i ≠ j) (hm : 0 < m) (p : ∀ r is', 0 ≤ r → r < m → P (iT r) ((e.set i (liT is')).set j (iT m))) : WE (callF cTake [.s i, .s j]) e P := by
  obtain ⟨t, ts', h1, r, is', q2, h3, h4, h5⟩ := take_ok (X := ⟨[], []⟩) (is := is) hm
  subst q2
  exact call_ss h liT_ne h2 (by simp) ij h1 h3 (p r is' h4 h5)
def cKeys : FnS := evD ⟨[cTake], []⟩ t_law_keys
theorem keys_ok {is : List Int} : ∃ t ts', cKeys [liT is] = some (.ret t, ts') ∧ ∃ ks is', t = liT ks ∧ ts' = [liT is'] ∧ ks.length = 4 ∧ ∀ k ∈ ks, 0 ≤ k ∧ k ≤ 1000000000 := by
  apply evD_ret
  · rfl
  unfold t_law_keys
  simp only [we_lit, we_call', we_make', rd_al, sd_al, mk_al, we_glb, we_var, we_op2, we_b1, we_mk, we_cmp, wt_cmp, wt_val, wt_and, wt_or, wt_not, wts_nil, wts_cons, wo_e, wo_v, wos_nil, wos_cons, wes_nil, wes_cons, we_lst, we_tup, we_dnl, we_not, we_isi, we_fld, we_rev, ws_nil, ws_cons, ws_asg, ws_if, ws_for, ws_retS, ws_exp, we_pop, we_mv, ws_app', ws_rvs', rev_li, dl_li, fold0_li, liT_sh, liT_ow2, get_map, ex_eq, List.map_nil, wi_rngL, false_or, or_false, false_and, and_assoc, exists_and_left, exists_false, exists_eq, T.ow.injEq, exists_eq_right, cmp_eq_nil, liT_un, sh_un, rd_nil, mul_l, mul_mm, pow_18, pow_9, pow_6, mod_l, fdv_l, fold_li, nil_li, nil_al,  List.length_map, Int.reduceLT, Int.reduceNeg, Int.reducePow, Nat.lt_add_one, Nat.zero_lt_succ, Nat.reduceMul, Int.reduceToNat, okRng, Int.reduceLE, decide_true, and_self, bin_add, bin_sub, rd_int, rd_abs, cmp_lt, cmp_gt, OVrd_s, OVrd_t, OVsd_s, OVsd_t, OVget_s, OVget_t, rd_sh, sd_sh, rd_li, sd_li, gset, List.length_nil, List.length_cons, Nat.zero_le, if_true, if_false, ite_true, ite_false, Bool.false_eq_true, Nat.sub_self, List.append_nil, List.nil_append, List.cons_append, List.getElem?_cons_zero, List.getElem?_cons_succ, List.set_cons_zero, List.set_cons_succ, Option.some.injEq, exists_eq_left', exists_eq_left, Option.bind_some, Option.map_some, List.replicate_succ, List.replicate_zero, Nat.reduceSub, Nat.reduceLT, Nat.reduceAdd, reduceCtorEq, ne_eq, not_false_eq_true, true_and, and_true, wi_lst', wi_rng1', sh_inj, int_inj, lst_inj]
  refine take_call rfl (by decide) fun r is1 h0 h1 => ?_
  simp only [we_lit, we_call', we_make', rd_al, sd_al, mk_al, we_glb, we_var, we_op2, we_b1, we_mk, we_cmp, wt_cmp, wt_val, wt_and, wt_or, wt_not, wts_nil, wts_cons, wo_e, wo_v, wos_nil, wos_cons, wes_nil, wes_cons, we_lst, we_tup, we_dnl, we_not, we_isi, we_fld, we_rev, ws_nil, ws_cons, ws_asg, ws_if, ws_for, ws_retS, ws_exp, we_pop, we_mv, ws_app', ws_rvs', rev_li, dl_li, fold0_li, liT_sh, liT_ow2, get_map, ex_eq, List.map_nil, wi_rngL, false_or, or_false, false_and, and_assoc, exists_and_left, exists_false, exists_eq, T.ow.injEq, exists_eq_right, cmp_eq_nil, liT_un, sh_un, rd_nil, mul_l, mul_mm, pow_18, pow_9, pow_6, mod_l, fdv_l, fold_li, nil_li, nil_al,  List.length_map, Int.reduceLT, Int.reduceNeg, Int.reducePow, Nat.lt_add_one, Nat.zero_lt_succ, Nat.reduceMul, Int.reduceToNat, okRng, Int.reduceLE, decide_true, and_self, bin_add, bin_sub, rd_int, rd_abs, cmp_lt, cmp_gt, OVrd_s, OVrd_t, OVsd_s, OVsd_t, OVget_s, OVget_t, rd_sh, sd_sh, rd_li, sd_li, gset, List.length_nil, List.length_cons, Nat.zero_le, if_true, if_false, ite_true, ite_false, Bool.false_eq_true, Nat.sub_self, List.append_nil, List.nil_append, List.cons_append, List.getElem?_cons_zero, List.getElem?_cons_succ, List.set_cons_zero, List.set_cons_succ, Option.some.injEq, exists_eq_left', exists_eq_left, Option.bind_some, Option.map_some, List.replicate_succ, List.replicate_zero, Nat.reduceSub, Nat.reduceLT, Nat.reduceAdd, reduceCtorEq, ne_eq, not_false_eq_true, true_and, and_true, wi_lst', wi_rng1', sh_inj, int_inj, lst_inj]
  by_cases hc : r < 2
  · simp only [hc, we_lit, we_call', we_make', rd_al, sd_al, mk_al, we_glb, we_var, we_op2, we_b1, we_mk, we_cmp, wt_cmp, wt_val, wt_and, wt_or, wt_not, wts_nil, wts_cons, wo_e, wo_v, wos_nil, wos_cons, wes_nil, wes_cons, we_lst, we_tup, we_dnl, we_not, we_isi, we_fld, we_rev, ws_nil, ws_cons, ws_asg, ws_if, ws_for, ws_retS, ws_exp, we_pop, we_mv, ws_app', ws_rvs', rev_li, dl_li, fold0_li, liT_sh, liT_ow2, get_map, ex_eq, List.map_nil, wi_rngL, false_or, or_false, false_and, and_assoc, exists_and_left, exists_false, exists_eq, T.ow.injEq, exists_eq_right, cmp_eq_nil, liT_un, sh_un, rd_nil, mul_l, mul_mm, pow_18, pow_9, pow_6, mod_l, fdv_l, fold_li, nil_li, nil_al,  List.length_map, Int.reduceLT, Int.reduceNeg, Int.reducePow, Nat.lt_add_one, Nat.zero_lt_succ, Nat.reduceMul, Int.reduceToNat, okRng, Int.reduceLE, decide_true, and_self, bin_add, bin_sub, rd_int, rd_abs, cmp_lt, cmp_gt, OVrd_s, OVrd_t, OVsd_s, OVsd_t, OVget_s, OVget_t, rd_sh, sd_sh, rd_li, sd_li, gset, List.length_nil, List.length_cons, Nat.zero_le, if_true, if_false, ite_true, ite_false, Bool.false_eq_true, Nat.sub_self, List.append_nil, List.nil_append, List.cons_append, List.getElem?_cons_zero, List.getElem?_cons_succ, List.set_cons_zero, List.set_cons_succ, Option.some.injEq, exists_eq_left', exists_eq_left, Option.bind_some, Option.map_some, List.replicate_succ, List.replicate_zero, Nat.reduceSub, Nat.reduceLT, Nat.reduceAdd, reduceCtorEq, ne_eq, not_false_eq_true, true_and, and_true, wi_lst', wi_rng1', sh_inj, int_inj, lst_inj]
    exact ⟨by rw [sizeLine_eq]; omega, [0, 1, 2, 3], rfl, is1, rfl, rfl, by decide⟩
  · simp only [hc, decide_false, we_lit, we_call', we_make', rd_al, sd_al, mk_al, we_glb, we_var, we_op2, we_b1, we_mk, we_cmp, wt_cmp, wt_val, wt_and, wt_or, wt_not, wts_nil, wts_cons, wo_e, wo_v, wos_nil, wos_cons, wes_nil, wes_cons, we_lst, we_tup, we_dnl, we_not, we_isi, we_fld, we_rev, ws_nil, ws_cons, ws_asg, ws_if, ws_for, ws_retS, ws_exp, we_pop, we_mv, ws_app', ws_rvs', rev_li, dl_li, fold0_li, liT_sh, liT_ow2, get_map, ex_eq, List.map_nil, wi_rngL, false_or, or_false, false_and, and_assoc, exists_and_left, exists_false, exists_eq, T.ow.injEq, exists_eq_right, cmp_eq_nil, liT_un, sh_un, rd_nil, mul_l, mul_mm, pow_18, pow_9, pow_6, mod_l, fdv_l, fold_li, nil_li, nil_al,  List.length_map, Int.reduceLT, Int.reduceNeg, Int.reducePow, Nat.lt_add_one, Nat.zero_lt_succ, Nat.reduceMul, Int.reduceToNat, okRng, Int.reduceLE, decide_true, and_self, bin_add, bin_sub, rd_int, rd_abs, cmp_lt, cmp_gt, OVrd_s, OVrd_t, OVsd_s, OVsd_t, OVget_s, OVget_t, rd_sh, sd_sh, rd_li, sd_li, gset, List.length_nil, List.length_cons, Nat.zero_le, if_true, if_false, ite_true, ite_false, Bool.false_eq_true, Nat.sub_self, List.append_nil, List.nil_append, List.cons_append, List.getElem?_cons_zero, List.getElem?_cons_succ, List.set_cons_zero, List.set_cons_succ, Option.some.injEq, exists_eq_left', exists_eq_left, Option.bind_some, Option.map_some, List.replicate_succ, List.replicate_zero, Nat.reduceSub, Nat.reduceLT, Nat.reduceAdd, reduceCtorEq, ne_eq, not_false_eq_true, true_and, and_true, wi_lst', wi_rng1', sh_inj, int_inj, lst_inj]
    refine ⟨by rw [sizeLine_eq]; omega, ?_⟩
    obtain ⟨ks, hk, hkl⟩ := rngD_ints 0 3
    rw [hk]
    refine WS_forN (fun ds e => ∃ ms acc is x2, ds = List.map D.int ms ∧ e = [liT is, liT acc, x2] ∧ acc.length + ms.length = 4 ∧ ∀ k ∈ acc, 0 ≤ k ∧ k ≤ 1000000000) ?_ ?_ ?_
    · exact ⟨ks, [1000000000], is1, _, rfl, rfl, by simp [hkl], by simp⟩
    · rintro d r e ⟨ms, acc, is, x2, h1, rfl, hl, hb⟩
      cases ms with
      | nil => cases h1
      | cons m ms =>
        cases h1
        simp only [List.length_cons] at hl
        refine ⟨_, rfl, ?_⟩
        simp only [we_lit, we_call', we_make', rd_al, sd_al, mk_al, we_glb, we_var, we_op2, we_b1, we_mk, we_cmp, wt_cmp, wt_val, wt_and, wt_or, wt_not, wts_nil, wts_cons, wo_e, wo_v, wos_nil, wos_cons, wes_nil, wes_cons, we_lst, we_tup, we_dnl, we_not, we_isi, we_fld, we_rev, ws_nil, ws_cons, ws_asg, ws_if, ws_for, ws_retS, ws_exp, we_pop, we_mv, ws_app', ws_rvs', rev_li, dl_li, fold0_li, liT_sh, liT_ow2, get_map, ex_eq, List.map_nil, wi_rngL, false_or, or_false, false_and, and_assoc, exists_and_left, exists_false, exists_eq, T.ow.injEq, exists_eq_right, cmp_eq_nil, liT_un, sh_un, rd_nil, mul_l, mul_mm, pow_18, pow_9, pow_6, mod_l, fdv_l, fold_li, nil_li, nil_al,  List.length_map, Int.reduceLT, Int.reduceNeg, Int.reducePow, Nat.lt_add_one, Nat.zero_lt_succ, Nat.reduceMul, Int.reduceToNat, okRng, Int.reduceLE, decide_true, and_self, bin_add, bin_sub, rd_int, rd_abs, cmp_lt, cmp_gt, OVrd_s, OVrd_t, OVsd_s, OVsd_t, OVget_s, OVget_t, rd_sh, sd_sh, rd_li, sd_li, gset, List.length_nil, List.length_cons, Nat.zero_le, if_true, if_false, ite_true, ite_false, Bool.false_eq_true, Nat.sub_self, List.append_nil, List.nil_append, List.cons_append, List.getElem?_cons_zero, List.getElem?_cons_succ, List.set_cons_zero, List.set_cons_succ, Option.some.injEq, exists_eq_left', exists_eq_left, Option.bind_some, Option.map_some, List.replicate_succ, List.replicate_zero, Nat.reduceSub, Nat.reduceLT, Nat.reduceAdd, reduceCtorEq, ne_eq, not_false_eq_true, true_and, and_true, wi_lst', wi_rng1', sh_inj, int_inj, lst_inj]
        refine take_call rfl (by decide) fun a is1 a0 a1 => ?_
        simp only [we_lit, we_call', we_make', rd_al, sd_al, mk_al, we_glb, we_var, we_op2, we_b1, we_mk, we_cmp, wt_cmp, wt_val, wt_and, wt_or, wt_not, wts_nil, wts_cons, wo_e, wo_v, wos_nil, wos_cons, wes_nil, wes_cons, we_lst, we_tup, we_dnl, we_not, we_isi, we_fld, we_rev, ws_nil, ws_cons, ws_asg, ws_if, ws_for, ws_retS, ws_exp, we_pop, we_mv, ws_app', ws_rvs', rev_li, dl_li, fold0_li, liT_sh, liT_ow2, get_map, ex_eq, List.map_nil, wi_rngL, false_or, or_false, false_and, and_assoc, exists_and_left, exists_false, exists_eq, T.ow.injEq, exists_eq_right, cmp_eq_nil, liT_un, sh_un, rd_nil, mul_l, mul_mm, pow_18, pow_9, pow_6, mod_l, fdv_l, fold_li, nil_li, nil_al,  List.length_map, Int.reduceLT, Int.reduceNeg, Int.reducePow, Nat.lt_add_one, Nat.zero_lt_succ, Nat.reduceMul, Int.reduceToNat, okRng, Int.reduceLE, decide_true, and_self, bin_add, bin_sub, rd_int, rd_abs, cmp_lt, cmp_gt, OVrd_s, OVrd_t, OVsd_s, OVsd_t, OVget_s, OVget_t, rd_sh, sd_sh, rd_li, sd_li, gset, List.length_nil, List.length_cons, Nat.zero_le, if_true, if_false, ite_true, ite_false, Bool.false_eq_true, Nat.sub_self, List.append_nil, List.nil_append, List.cons_append, List.getElem?_cons_zero, List.getElem?_cons_succ, List.set_cons_zero, List.set_cons_succ, Option.some.injEq, exists_eq_left', exists_eq_left, Option.bind_some, Option.map_some, List.replicate_succ, List.replicate_zero, Nat.reduceSub, Nat.reduceLT, Nat.reduceAdd, reduceCtorEq, ne_eq, not_false_eq_true, true_and, and_true, wi_lst', wi_rng1', sh_inj, int_inj, lst_inj]
        refine take_call rfl (by decide) fun b is2 b0 b1 => ?_
        simp only [we_lit, we_call', we_make', rd_al, sd_al, mk_al, we_glb, we_var, we_op2, we_b1, we_mk, we_cmp, wt_cmp, wt_val, wt_and, wt_or, wt_not, wts_nil, wts_cons, wo_e, wo_v, wos_nil, wos_cons, wes_nil, wes_cons, we_lst, we_tup, we_dnl, we_not, we_isi, we_fld, we_rev, ws_nil, ws_cons, ws_asg, ws_if, ws_for, ws_retS, ws_exp, we_pop, we_mv, ws_app', ws_rvs', rev_li, dl_li, fold0_li, liT_sh, liT_ow2, get_map, ex_eq, List.map_nil, wi_rngL, false_or, or_false, false_and, and_assoc, exists_and_left, exists_false, exists_eq, T.ow.injEq, exists_eq_right, cmp_eq_nil, liT_un, sh_un, rd_nil, mul_l, mul_mm, pow_18, pow_9, pow_6, mod_l, fdv_l, fold_li, nil_li, nil_al,  List.length_map, Int.reduceLT, Int.reduceNeg, Int.reducePow, Nat.lt_add_one, Nat.zero_lt_succ, Nat.reduceMul, Int.reduceToNat, okRng, Int.reduceLE, decide_true, and_self, bin_add, bin_sub, rd_int, rd_abs, cmp_lt, cmp_gt, OVrd_s, OVrd_t, OVsd_s, OVsd_t, OVget_s, OVget_t, rd_sh, sd_sh, rd_li, sd_li, gset, List.length_nil, List.length_cons, Nat.zero_le, if_true, if_false, ite_true, ite_false, Bool.false_eq_true, Nat.sub_self, List.append_nil, List.nil_append, List.cons_append, List.getElem?_cons_zero, List.getElem?_cons_succ, List.set_cons_zero, List.set_cons_succ, Option.some.injEq, exists_eq_left', exists_eq_left, Option.bind_some, Option.map_some, List.replicate_succ, List.replicate_zero, Nat.reduceSub, Nat.reduceLT, Nat.reduceAdd, reduceCtorEq, ne_eq, not_false_eq_true, true_and, and_true, wi_lst', wi_rng1', sh_inj, int_inj, lst_inj]
        refine take_call rfl (by decide) fun c is3 c0 c1 => ?_
        simp only [we_lit, we_call', we_make', rd_al, sd_al, mk_al, we_glb, we_var, we_op2, we_b1, we_mk, we_cmp, wt_cmp, wt_val, wt_and, wt_or, wt_not, wts_nil, wts_cons, wo_e, wo_v, wos_nil, wos_cons, wes_nil, wes_cons, we_lst, we_tup, we_dnl, we_not, we_isi, we_fld, we_rev, ws_nil, ws_cons, ws_asg, ws_if, ws_for, ws_retS, ws_exp, we_pop, we_mv, ws_app', ws_rvs', rev_li, dl_li, fold0_li, liT_sh, liT_ow2, get_map, ex_eq, List.map_nil, wi_rngL, false_or, or_false, false_and, and_assoc, exists_and_left, exists_false, exists_eq, T.ow.injEq, exists_eq_right, cmp_eq_nil, liT_un, sh_un, rd_nil, mul_l, mul_mm, pow_18, pow_9, pow_6, mod_l, fdv_l, fold_li, nil_li, nil_al,  List.length_map, Int.reduceLT, Int.reduceNeg, Int.reducePow, Nat.lt_add_one, Nat.zero_lt_succ, Nat.reduceMul, Int.reduceToNat, okRng, Int.reduceLE, decide_true, and_self, bin_add, bin_sub, rd_int, rd_abs, cmp_lt, cmp_gt, OVrd_s, OVrd_t, OVsd_s, OVsd_t, OVget_s, OVget_t, rd_sh, sd_sh, rd_li, sd_li, gset, List.length_nil, List.length_cons, Nat.zero_le, if_true, if_false, ite_true, ite_false, Bool.false_eq_true, Nat.sub_self, List.append_nil, List.nil_append, List.cons_append, List.getElem?_cons_zero, List.getElem?_cons_succ, List.set_cons_zero, List.set_cons_succ, Option.some.injEq, exists_eq_left', exists_eq_left, Option.bind_some, Option.map_some, List.replicate_succ, List.replicate_zero, Nat.reduceSub, Nat.reduceLT, Nat.reduceAdd, reduceCtorEq, ne_eq, not_false_eq_true, true_and, and_true, wi_lst', wi_rng1', sh_inj, int_inj, lst_inj]
        refine ⟨by rw [sizeLine_eq]; omega, ms, rfl, _, _, _, rfl, by simp; omega, fun k hk => ?_⟩
        rcases List.mem_append.mp hk with hk | hk
        · exact hb k hk
        · cases List.mem_singleton.mp hk
          omega
    · rintro e ⟨ms, acc, is, x2, h1, rfl, hl, hb⟩
      simp only [we_lit, we_call', we_make', rd_al, sd_al, mk_al, we_glb, we_var, we_op2, we_b1, we_mk, we_cmp, wt_cmp, wt_val, wt_and, wt_or, wt_not, wts_nil, wts_cons, wo_e, wo_v, wos_nil, wos_cons, wes_nil, wes_cons, we_lst, we_tup, we_dnl, we_not, we_isi, we_fld, we_rev, ws_nil, ws_cons, ws_asg, ws_if, ws_for, ws_retS, ws_exp, we_pop, we_mv, ws_app', ws_rvs', rev_li, dl_li, fold0_li, liT_sh, liT_ow2, get_map, ex_eq, List.map_nil, wi_rngL, false_or, or_false, false_and, and_assoc, exists_and_left, exists_false, exists_eq, T.ow.injEq, exists_eq_right, cmp_eq_nil, liT_un, sh_un, rd_nil, mul_l, mul_mm, pow_18, pow_9, pow_6, mod_l, fdv_l, fold_li, nil_li, nil_al,  List.length_map, Int.reduceLT, Int.reduceNeg, Int.reducePow, Nat.lt_add_one, Nat.zero_lt_succ, Nat.reduceMul, Int.reduceToNat, okRng, Int.reduceLE, decide_true, and_self, bin_add, bin_sub, rd_int, rd_abs, cmp_lt, cmp_gt, OVrd_s, OVrd_t, OVsd_s, OVsd_t, OVget_s, OVget_t, rd_sh, sd_sh, rd_li, sd_li, gset, List.length_nil, List.length_cons, Nat.zero_le, if_true, if_false, ite_true, ite_false, Bool.false_eq_true, Nat.sub_self, List.append_nil, List.nil_append, List.cons_append, List.getElem?_cons_zero, List.getElem?_cons_succ, List.set_cons_zero, List.set_cons_succ, Option.some.injEq, exists_eq_left', exists_eq_left, Option.bind_some, Option.map_some, List.replicate_succ, List.replicate_zero, Nat.reduceSub, Nat.reduceLT, Nat.reduceAdd, reduceCtorEq, ne_eq, not_false_eq_true, true_and, and_true, wi_lst', wi_rng1', sh_inj, int_inj, lst_inj]
      have : ms = [] := by simpa using h1.symm
      subst this
      exact ⟨_, rfl, _, rfl, hl, hb⟩
def cStates : FnS := evD ⟨[cTake], []⟩ t_law_states
/-- what states makes of the keys -/
theorem states_ok {is ks : List Int} {mm : Int} (hmm : 0 < mm) (hk : ks.length ≤ 100) : ∃ t ts', cStates [liT is, liT ks, iT mm] = some (.ret t, ts') ∧ ∃ A is', t = dT A ∧ ts' = [liT is', .sh (.nd .lst (ks.map D.int)), iT mm] ∧ ND A ∧ A.length ≤ ks.length ∧ (∀ k, k ∈ kys A ↔ k ∈ ks) ∧ ∀ k v, gt A k = some v → 0 ≤ v ∧ v < mm := by
  apply evD_ret
  · rfl
  unfold t_law_states
  simp only [we_lit, we_call', we_make', rd_al, sd_al, mk_al, we_glb, we_var, we_op2, we_b1, we_mk, we_cmp, wt_cmp, wt_val, wt_and, wt_or, wt_not, wts_nil, wts_cons, wo_e, wo_v, wos_nil, wos_cons, wes_nil, wes_cons, we_lst, we_tup, we_dnl, we_not, we_isi, we_fld, we_rev, ws_nil, ws_cons, ws_asg, ws_if, ws_for, ws_retS, ws_exp, we_pop, we_mv, ws_app', ws_rvs', rev_li, dl_li, fold0_li, liT_sh, liT_ow2, get_map, ex_eq, List.map_nil, wi_rngL, false_or, or_false, false_and, and_assoc, exists_and_left, exists_false, exists_eq, T.ow.injEq, exists_eq_right, cmp_eq_nil, liT_un, sh_un, rd_nil, mul_l, mul_mm, pow_18, pow_9, pow_6, mod_l, fdv_l, fold_li, nil_li, nil_al,  List.length_map, Int.reduceLT, Int.reduceNeg, Int.reducePow, Nat.lt_add_one, Nat.zero_lt_succ, Nat.reduceMul, Int.reduceToNat, okRng, Int.reduceLE, decide_true, and_self, bin_add, bin_sub, rd_int, rd_abs, cmp_lt, cmp_gt, OVrd_s, OVrd_t, OVsd_s, OVsd_t, OVget_s, OVget_t, rd_sh, sd_sh, rd_li, sd_li, gset, List.length_nil, List.length_cons, Nat.zero_le, if_true, if_false, ite_true, ite_false, Bool.false_eq_true, Nat.sub_self, List.append_nil, List.nil_append, List.cons_append, List.getElem?_cons_zero, List.getElem?_cons_succ, List.set_cons_zero, List.set_cons_succ, Option.some.injEq, exists_eq_left', exists_eq_left, Option.bind_some, Option.map_some, List.replicate_succ, List.replicate_zero, Nat.reduceSub, Nat.reduceLT, Nat.reduceAdd, reduceCtorEq, ne_eq, not_false_eq_true, true_and, and_true, wi_lst', wi_rng1', sh_inj, int_inj, lst_inj]
  refine WS_forN (fun ds e => ∃ done ms A is' x, ks = done ++ ms ∧ ds = List.map D.int ms ∧ e = [liT is', .sh (.nd .lst (ks.map D.int)), iT mm, dT A, x] ∧ ND A ∧ A.length ≤ done.length ∧ (∀ k, k ∈ kys A ↔ k ∈ done) ∧ ∀ k v, gt A k = some v → 0 ≤ v ∧ v < mm) ?_ ?_ ?_
  · exact ⟨[], ks, [], is, _, rfl, rfl, rfl, List.nodup_nil, Nat.le_refl _, fun k => Iff.rfl, fun k v h => by cases h⟩
  · rintro d r e ⟨done, ms, A, is', x, h0, h1, rfl, nd, hl, hm, hv⟩
    cases ms with
    | nil => cases h1
    | cons m ms =>
      cases h1
      refine ⟨_, rfl, ?_⟩
      simp only [we_lit, we_call', we_make', rd_al, sd_al, mk_al, we_glb, we_var, we_op2, we_b1, we_mk, we_cmp, wt_cmp, wt_val, wt_and, wt_or, wt_not, wts_nil, wts_cons, wo_e, wo_v, wos_nil, wos_cons, wes_nil, wes_cons, we_lst, we_tup, we_dnl, we_not, we_isi, we_fld, we_rev, ws_nil, ws_cons, ws_asg, ws_if, ws_for, ws_retS, ws_exp, we_pop, we_mv, ws_app', ws_rvs', rev_li, dl_li, fold0_li, liT_sh, liT_ow2, get_map, ex_eq, List.map_nil, wi_rngL, false_or, or_false, false_and, and_assoc, exists_and_left, exists_false, exists_eq, T.ow.injEq, exists_eq_right, cmp_eq_nil, liT_un, sh_un, rd_nil, mul_l, mul_mm, pow_18, pow_9, pow_6, mod_l, fdv_l, fold_li, nil_li, nil_al,  List.length_map, Int.reduceLT, Int.reduceNeg, Int.reducePow, Nat.lt_add_one, Nat.zero_lt_succ, Nat.reduceMul, Int.reduceToNat, okRng, Int.reduceLE, decide_true, and_self, bin_add, bin_sub, rd_int, rd_abs, cmp_lt, cmp_gt, OVrd_s, OVrd_t, OVsd_s, OVsd_t, OVget_s, OVget_t, rd_sh, sd_sh, rd_li, sd_li, gset, List.length_nil, List.length_cons, Nat.zero_le, if_true, if_false, ite_true, ite_false, Bool.false_eq_true, Nat.sub_self, List.append_nil, List.nil_append, List.cons_append, List.getElem?_cons_zero, List.getElem?_cons_succ, List.set_cons_zero, List.set_cons_succ, Option.some.injEq, exists_eq_left', exists_eq_left, Option.bind_some, Option.map_some, List.replicate_succ, List.replicate_zero, Nat.reduceSub, Nat.reduceLT, Nat.reduceAdd, reduceCtorEq, ne_eq, not_false_eq_true, true_and, and_true, wi_lst', wi_rng1', sh_inj, int_inj, lst_inj]
      refine ws_setd rfl ?_
      simp only [we_lit, we_call', we_make', rd_al, sd_al, mk_al, we_glb, we_var, we_op2, we_b1, we_mk, we_cmp, wt_cmp, wt_val, wt_and, wt_or, wt_not, wts_nil, wts_cons, wo_e, wo_v, wos_nil, wos_cons, wes_nil, wes_cons, we_lst, we_tup, we_dnl, we_not, we_isi, we_fld, we_rev, ws_nil, ws_cons, ws_asg, ws_if, ws_for, ws_retS, ws_exp, we_pop, we_mv, ws_app', ws_rvs', rev_li, dl_li, fold0_li, liT_sh, liT_ow2, get_map, ex_eq, List.map_nil, wi_rngL, false_or, or_false, false_and, and_assoc, exists_and_left, exists_false, exists_eq, T.ow.injEq, exists_eq_right, cmp_eq_nil, liT_un, sh_un, rd_nil, mul_l, mul_mm, pow_18, pow_9, pow_6, mod_l, fdv_l, fold_li, nil_li, nil_al,  List.length_map, Int.reduceLT, Int.reduceNeg, Int.reducePow, Nat.lt_add_one, Nat.zero_lt_succ, Nat.reduceMul, Int.reduceToNat, okRng, Int.reduceLE, decide_true, and_self, bin_add, bin_sub, rd_int, rd_abs, cmp_lt, cmp_gt, OVrd_s, OVrd_t, OVsd_s, OVsd_t, OVget_s, OVget_t, rd_sh, sd_sh, rd_li, sd_li, gset, List.length_nil, List.length_cons, Nat.zero_le, if_true, if_false, ite_true, ite_false, Bool.false_eq_true, Nat.sub_self, List.append_nil, List.nil_append, List.cons_append, List.getElem?_cons_zero, List.getElem?_cons_succ, List.set_cons_zero, List.set_cons_succ, Option.some.injEq, exists_eq_left', exists_eq_left, Option.bind_some, Option.map_some, List.replicate_succ, List.replicate_zero, Nat.reduceSub, Nat.reduceLT, Nat.reduceAdd, reduceCtorEq, ne_eq, not_false_eq_true, true_and, and_true, wi_lst', wi_rng1', sh_inj, int_inj, lst_inj]
      refine take_callS rfl rfl (by decide) hmm fun r is2 r0 r1 => ?_
      simp only [we_lit, we_call', we_make', rd_al, sd_al, mk_al, we_glb, we_var, we_op2, we_b1, we_mk, we_cmp, wt_cmp, wt_val, wt_and, wt_or, wt_not, wts_nil, wts_cons, wo_e, wo_v, wos_nil, wos_cons, wes_nil, wes_cons, we_lst, we_tup, we_dnl, we_not, we_isi, we_fld, we_rev, ws_nil, ws_cons, ws_asg, ws_if, ws_for, ws_retS, ws_exp, we_pop, we_mv, ws_app', ws_rvs', rev_li, dl_li, fold0_li, liT_sh, liT_ow2, get_map, ex_eq, List.map_nil, wi_rngL, false_or, or_false, false_and, and_assoc, exists_and_left, exists_false, exists_eq, T.ow.injEq, exists_eq_right, cmp_eq_nil, liT_un, sh_un, rd_nil, mul_l, mul_mm, pow_18, pow_9, pow_6, mod_l, fdv_l, fold_li, nil_li, nil_al,  List.length_map, Int.reduceLT, Int.reduceNeg, Int.reducePow, Nat.lt_add_one, Nat.zero_lt_succ, Nat.reduceMul, Int.reduceToNat, okRng, Int.reduceLE, decide_true, and_self, bin_add, bin_sub, rd_int, rd_abs, cmp_lt, cmp_gt, OVrd_s, OVrd_t, OVsd_s, OVsd_t, OVget_s, OVget_t, rd_sh, sd_sh, rd_li, sd_li, gset, List.length_nil, List.length_cons, Nat.zero_le, if_true, if_false, ite_true, ite_false, Bool.false_eq_true, Nat.sub_self, List.append_nil, List.nil_append, List.cons_append, List.getElem?_cons_zero, List.getElem?_cons_succ, List.set_cons_zero, List.set_cons_succ, Option.some.injEq, exists_eq_left', exists_eq_left, Option.bind_some, Option.map_some, List.replicate_succ, List.replicate_zero, Nat.reduceSub, Nat.reduceLT, Nat.reduceAdd, reduceCtorEq, ne_eq, not_false_eq_true, true_and, and_true, wi_lst', wi_rng1', sh_inj, int_inj, lst_inj]
      have hd : done.length ≤ 100 := by rw [h0] at hk; simp at hk; omega
      refine ⟨A, rfl, A, rfl, nd, by rw [sizeLine_eq]; omega, done ++ [m], ms, by simp [h0], rfl, put A m r, is2, _, rfl, nd_put _ _ nd, ?_, ?_, ?_⟩
      · have := len_put A m r
        simp
        omega
      · intro k
        rw [mem_kys_put, hm]
        simp [or_comm]
      · intro k v h
        rw [gt_put] at h
        split at h
        · cases h; exact ⟨r0, r1⟩
        · exact hv k v h
  · rintro e ⟨done, ms, A, is', x, h0, h1, rfl, nd, hl, hm, hv⟩
    simp only [we_lit, we_call', we_make', rd_al, sd_al, mk_al, we_glb, we_var, we_op2, we_b1, we_mk, we_cmp, wt_cmp, wt_val, wt_and, wt_or, wt_not, wts_nil, wts_cons, wo_e, wo_v, wos_nil, wos_cons, wes_nil, wes_cons, we_lst, we_tup, we_dnl, we_not, we_isi, we_fld, we_rev, ws_nil, ws_cons, ws_asg, ws_if, ws_for, ws_retS, ws_exp, we_pop, we_mv, ws_app', ws_rvs', rev_li, dl_li, fold0_li, liT_sh, liT_ow2, get_map, ex_eq, List.map_nil, wi_rngL, false_or, or_false, false_and, and_assoc, exists_and_left, exists_false, exists_eq, T.ow.injEq, exists_eq_right, cmp_eq_nil, liT_un, sh_un, rd_nil, mul_l, mul_mm, pow_18, pow_9, pow_6, mod_l, fdv_l, fold_li, nil_li, nil_al,  List.length_map, Int.reduceLT, Int.reduceNeg, Int.reducePow, Nat.lt_add_one, Nat.zero_lt_succ, Nat.reduceMul, Int.reduceToNat, okRng, Int.reduceLE, decide_true, and_self, bin_add, bin_sub, rd_int, rd_abs, cmp_lt, cmp_gt, OVrd_s, OVrd_t, OVsd_s, OVsd_t, OVget_s, OVget_t, rd_sh, sd_sh, rd_li, sd_li, gset, List.length_nil, List.length_cons, Nat.zero_le, if_true, if_false, ite_true, ite_false, Bool.false_eq_true, Nat.sub_self, List.append_nil, List.nil_append, List.cons_append, List.getElem?_cons_zero, List.getElem?_cons_succ, List.set_cons_zero, List.set_cons_succ, Option.some.injEq, exists_eq_left', exists_eq_left, Option.bind_some, Option.map_some, List.replicate_succ, List.replicate_zero, Nat.reduceSub, Nat.reduceLT, Nat.reduceAdd, reduceCtorEq, ne_eq, not_false_eq_true, true_and, and_true, wi_lst', wi_rng1', sh_inj, int_inj, lst_inj]
    have : ms = [] := by simpa using h1.symm
    subst this
    rw [List.append_nil] at h0
    subst h0
    exact .inr ⟨_, _, rfl, A, rfl, is', rfl, nd, hl, hm, hv⟩
end BC
set_option Elab.async false
set_option linter.all false
set_option maxRecDepth 100000
set_option maxHeartbeats 4000000
namespace BC
open PySem PySem.Spec PyProof.Rows L2
theorem cmp_eq_int {i j : Int} : pCmp .eq (.int i) (.int j) = some (decide (i = j)) := by
  have : PyData.eqv (.int i) (.int j) = decide (i = j) := by
    by_cases h : i = j <;> simp [PyData.eqv, h]
  show some (PyData.eqv (.int i) (.int j)) = _
  rw [this]
theorem cmp_ne_int {i j : Int} : pCmp .ne (.int i) (.int j) = some (!decide (i = j)) := by
  have e := cmp_eq_int (i := i) (j := j)
  have : pCmp .ne (.int i) (.int j) = (pCmp .eq (.int i) (.int j)).map (!·) := rfl
  rw [this, e]; rfl
theorem nz_app {A B : Al} : nzA (A ++ B) = nzA A ++ nzA B := by simp [nzA]
theorem kys_nz_sub {A : Al} {k : Int} (h : k ∈ kys (nzA A)) : k ∈ kys A := by
  obtain ⟨p, h1, h2⟩ := List.mem_map.mp h
  exact List.mem_map.mpr ⟨p, (List.mem_filter.mp h1).1, h2⟩
def cInit : FnS := evD ⟨[], []⟩ t_Store_init
theorem init_ok {s : Int} {A : Al} {x : T} (h : x = dT A ∨ x = .sh (dD A)) : ∃ t ts', cInit [.ow (.ins 0) [], iT s, x] = some (.ret t, ts') ∧ t = .sh .non ∧ ts' = [stO s A, iT s, x] := by
  apply evD_ret
  · rfl
  unfold t_Store_init
  have n : x ≠ .un := by rcases h with rfl | rfl <;> simp [dT]
  have sd : x.sd = some (dD A) := by
    rcases h with rfl | rfl
    · exact sd_al
    · rfl
  simp only [we_lit, we_call', we_make', rd_al, sd_al, mk_al, we_glb, we_var, we_op2, we_b1, we_mk, we_cmp, wt_cmp, wt_val, wt_and, wt_or, wt_not, wts_nil, wts_cons, wo_e, wo_v, wos_nil, wos_cons, wes_nil, wes_cons, we_lst, we_tup, we_dnl, we_not, we_isi, we_fld, we_rev, ws_nil, ws_cons, ws_asg, ws_if, ws_for, ws_retS, ws_exp, we_pop, we_mv, ws_app', ws_rvs', rev_li, dl_li, fold0_li, liT_sh, liT_ow2, get_map, ex_eq, List.map_nil, wi_rngL, false_or, or_false, false_and, and_assoc, exists_and_left, exists_false, exists_eq, T.ow.injEq, exists_eq_right, cmp_eq_nil, liT_un, sh_un, rd_nil, mul_l, mul_mm, pow_18, pow_9, pow_6, mod_l, fdv_l, fold_li, nil_li, nil_al,  List.length_map, Int.reduceLT, Int.reduceNeg, Int.reducePow, Nat.lt_add_one, Nat.zero_lt_succ, Nat.reduceMul, Int.reduceToNat, okRng, Int.reduceLE, decide_true, and_self, bin_add, bin_sub, rd_int, rd_abs, cmp_lt, cmp_gt, OVrd_s, OVrd_t, OVsd_s, OVsd_t, OVget_s, OVget_t, rd_sh, sd_sh, rd_li, sd_li, gset, List.length_nil, List.length_cons, Nat.zero_le, if_true, if_false, ite_true, ite_false, Bool.false_eq_true, Nat.sub_self, List.append_nil, List.nil_append, List.cons_append, List.getElem?_cons_zero, List.getElem?_cons_succ, List.set_cons_zero, List.set_cons_succ, Option.some.injEq, exists_eq_left', exists_eq_left, Option.bind_some, Option.map_some, List.replicate_succ, List.replicate_zero, Nat.reduceSub, Nat.reduceLT, Nat.reduceAdd, reduceCtorEq, ne_eq, not_false_eq_true, true_and, and_true, wi_lst', wi_rng1', sh_inj, int_inj, lst_inj, we_didx', we_idx', we_dget, getK_al, ws_setf, wi_keys, setF, sd, n]
  rfl
def cIsInt : FnS := evD ⟨[], []⟩ t_law_is_int
theorem isint_ok {i : Int} : cIsInt [iT i] = some (.ret (.sh (.bl true)), [iT i]) := rfl
def cGet : FnS := evD ⟨[], []⟩ t_Store_getitem
theorem get_ok {s k : Int} {A : Al} {t : T} (w : StT t s A) : ∃ r ts', cGet [t, iT k] = some (.ret r, ts') ∧ ∃ t', r = iT ((gt A k).getD 0) ∧ ts' = [t', iT k] ∧ StT t' s A := by
  apply evD_ret
  · rfl
  unfold t_Store_getitem
  have n := w.ne
  simp only [we_lit, we_call', we_make', rd_al, sd_al, mk_al, we_glb, we_var, we_op2, we_b1, we_mk, we_cmp, wt_cmp, wt_val, wt_and, wt_or, wt_not, wts_nil, wts_cons, wo_e, wo_v, wos_nil, wos_cons, wes_nil, wes_cons, we_lst, we_tup, we_dnl, we_not, we_isi, we_fld, we_rev, ws_nil, ws_cons, ws_asg, ws_if, ws_for, ws_retS, ws_exp, we_pop, we_mv, ws_app', ws_rvs', rev_li, dl_li, fold0_li, liT_sh, liT_ow2, get_map, ex_eq, List.map_nil, wi_rngL, false_or, or_false, false_and, and_assoc, exists_and_left, exists_false, exists_eq, T.ow.injEq, exists_eq_right, cmp_eq_nil, liT_un, sh_un, rd_nil, mul_l, mul_mm, pow_18, pow_9, pow_6, mod_l, fdv_l, fold_li, nil_li, nil_al,  List.length_map, Int.reduceLT, Int.reduceNeg, Int.reducePow, Nat.lt_add_one, Nat.zero_lt_succ, Nat.reduceMul, Int.reduceToNat, okRng, Int.reduceLE, decide_true, and_self, bin_add, bin_sub, rd_int, rd_abs, cmp_lt, cmp_gt, OVrd_s, OVrd_t, OVsd_s, OVsd_t, OVget_s, OVget_t, rd_sh, sd_sh, rd_li, sd_li, gset, List.length_nil, List.length_cons, Nat.zero_le, if_true, if_false, ite_true, ite_false, Bool.false_eq_true, Nat.sub_self, List.append_nil, List.nil_append, List.cons_append, List.getElem?_cons_zero, List.getElem?_cons_succ, List.set_cons_zero, List.set_cons_succ, Option.some.injEq, exists_eq_left', exists_eq_left, Option.bind_some, Option.map_some, List.replicate_succ, List.replicate_zero, Nat.reduceSub, Nat.reduceLT, Nat.reduceAdd, reduceCtorEq, ne_eq, not_false_eq_true, true_and, and_true, wi_lst', wi_rng1', sh_inj, int_inj, lst_inj, we_didx', we_idx', we_dget, getK_al, ws_setf, wi_keys, n, we_fld]
  refine fld1 rfl w fun t' w' => ?_
  simp only [we_lit, we_call', we_make', rd_al, sd_al, mk_al, we_glb, we_var, we_op2, we_b1, we_mk, we_cmp, wt_cmp, wt_val, wt_and, wt_or, wt_not, wts_nil, wts_cons, wo_e, wo_v, wos_nil, wos_cons, wes_nil, wes_cons, we_lst, we_tup, we_dnl, we_not, we_isi, we_fld, we_rev, ws_nil, ws_cons, ws_asg, ws_if, ws_for, ws_retS, ws_exp, we_pop, we_mv, ws_app', ws_rvs', rev_li, dl_li, fold0_li, liT_sh, liT_ow2, get_map, ex_eq, List.map_nil, wi_rngL, false_or, or_false, false_and, and_assoc, exists_and_left, exists_false, exists_eq, T.ow.injEq, exists_eq_right, cmp_eq_nil, liT_un, sh_un, rd_nil, mul_l, mul_mm, pow_18, pow_9, pow_6, mod_l, fdv_l, fold_li, nil_li, nil_al,  List.length_map, Int.reduceLT, Int.reduceNeg, Int.reducePow, Nat.lt_add_one, Nat.zero_lt_succ, Nat.reduceMul, Int.reduceToNat, okRng, Int.reduceLE, decide_true, and_self, bin_add, bin_sub, rd_int, rd_abs, cmp_lt, cmp_gt, OVrd_s, OVrd_t, OVsd_s, OVsd_t, OVget_s, OVget_t, rd_sh, sd_sh, rd_li, sd_li, gset, List.length_nil, List.length_cons, Nat.zero_le, if_true, if_false, ite_true, ite_false, Bool.false_eq_true, Nat.sub_self, List.append_nil, List.nil_append, List.cons_append, List.getElem?_cons_zero, List.getElem?_cons_succ, List.set_cons_zero, List.set_cons_succ, Option.some.injEq, exists_eq_left', exists_eq_left, Option.bind_some, Option.map_some, List.replicate_succ, List.replicate_zero, Nat.reduceSub, Nat.reduceLT, Nat.reduceAdd, reduceCtorEq, ne_eq, not_false_eq_true, true_and, and_true, wi_lst', wi_rng1', sh_inj, int_inj, lst_inj, we_didx', we_idx', we_dget, getK_al, ws_setf, wi_keys]
  refine ⟨rfl, _, rfl, ?_, _, rfl, w'⟩
  cases gt A k <;> rfl
def cNz : FnS := evD ⟨[], []⟩ t_Store_not_zero
theorem nz_ok {s : Int} {A : Al} {t : T} (w : StT t s A) (nd : ND A) (hl : A.length ≤ 1000) : ∃ r ts', cNz [t] = some (.ret r, ts') ∧ ∃ t', r = dT (nzA A) ∧ ts' = [t'] ∧ StT t' s A := by
  apply evD_ret
  · rfl
  unfold t_Store_not_zero
  have n := w.ne
  simp only [we_lit, we_call', we_make', rd_al, sd_al, mk_al, we_glb, we_var, we_op2, we_b1, we_mk, we_cmp, wt_cmp, wt_val, wt_and, wt_or, wt_not, wts_nil, wts_cons, wo_e, wo_v, wos_nil, wos_cons, wes_nil, wes_cons, we_lst, we_tup, we_dnl, we_not, we_isi, we_fld, we_rev, ws_nil, ws_cons, ws_asg, ws_if, ws_for, ws_retS, ws_exp, we_pop, we_mv, ws_app', ws_rvs', rev_li, dl_li, fold0_li, liT_sh, liT_ow2, get_map, ex_eq, List.map_nil, wi_rngL, false_or, or_false, false_and, and_assoc, exists_and_left, exists_false, exists_eq, T.ow.injEq, exists_eq_right, cmp_eq_nil, liT_un, sh_un, rd_nil, mul_l, mul_mm, pow_18, pow_9, pow_6, mod_l, fdv_l, fold_li, nil_li, nil_al,  List.length_map, Int.reduceLT, Int.reduceNeg, Int.reducePow, Nat.lt_add_one, Nat.zero_lt_succ, Nat.reduceMul, Int.reduceToNat, okRng, Int.reduceLE, decide_true, and_self, bin_add, bin_sub, rd_int, rd_abs, cmp_lt, cmp_gt, OVrd_s, OVrd_t, OVsd_s, OVsd_t, OVget_s, OVget_t, rd_sh, sd_sh, rd_li, sd_li, gset, List.length_nil, List.length_cons, Nat.zero_le, if_true, if_false, ite_true, ite_false, Bool.false_eq_true, Nat.sub_self, List.append_nil, List.nil_append, List.cons_append, List.getElem?_cons_zero, List.getElem?_cons_succ, List.set_cons_zero, List.set_cons_succ, Option.some.injEq, exists_eq_left', exists_eq_left, Option.bind_some, Option.map_some, List.replicate_succ, List.replicate_zero, Nat.reduceSub, Nat.reduceLT, Nat.reduceAdd, reduceCtorEq, ne_eq, not_false_eq_true, true_and, and_true, wi_lst', wi_rng1', sh_inj, int_inj, lst_inj, we_didx', we_idx', we_dget, getK_al, ws_setf, wi_keys]
  refine WE_dc ?_
  simp only [we_lit, we_call', we_make', rd_al, sd_al, mk_al, we_glb, we_var, we_op2, we_b1, we_mk, we_cmp, wt_cmp, wt_val, wt_and, wt_or, wt_not, wts_nil, wts_cons, wo_e, wo_v, wos_nil, wos_cons, wes_nil, wes_cons, we_lst, we_tup, we_dnl, we_not, we_isi, we_fld, we_rev, ws_nil, ws_cons, ws_asg, ws_if, ws_for, ws_retS, ws_exp, we_pop, we_mv, ws_app', ws_rvs', rev_li, dl_li, fold0_li, liT_sh, liT_ow2, get_map, ex_eq, List.map_nil, wi_rngL, false_or, or_false, false_and, and_assoc, exists_and_left, exists_false, exists_eq, T.ow.injEq, exists_eq_right, cmp_eq_nil, liT_un, sh_un, rd_nil, mul_l, mul_mm, pow_18, pow_9, pow_6, mod_l, fdv_l, fold_li, nil_li, nil_al,  List.length_map, Int.reduceLT, Int.reduceNeg, Int.reducePow, Nat.lt_add_one, Nat.zero_lt_succ, Nat.reduceMul, Int.reduceToNat, okRng, Int.reduceLE, decide_true, and_self, bin_add, bin_sub, rd_int, rd_abs, cmp_lt, cmp_gt, OVrd_s, OVrd_t, OVsd_s, OVsd_t, OVget_s, OVget_t, rd_sh, sd_sh, rd_li, sd_li, gset, List.length_nil, List.length_cons, Nat.zero_le, if_true, if_false, ite_true, ite_false, Bool.false_eq_true, Nat.sub_self, List.append_nil, List.nil_append, List.cons_append, List.getElem?_cons_zero, List.getElem?_cons_succ, List.set_cons_zero, List.set_cons_succ, Option.some.injEq, exists_eq_left', exists_eq_left, Option.bind_some, Option.map_some, List.replicate_succ, List.replicate_zero, Nat.reduceSub, Nat.reduceLT, Nat.reduceAdd, reduceCtorEq, ne_eq, not_false_eq_true, true_and, and_true, wi_lst', wi_rng1', sh_inj, int_inj, lst_inj, we_didx', we_idx', we_dget, getK_al, ws_setf, wi_keys, n, we_fld]
  refine fld1 rfl w fun t' w' => ?_
  simp only [we_lit, we_call', we_make', rd_al, sd_al, mk_al, we_glb, we_var, we_op2, we_b1, we_mk, we_cmp, wt_cmp, wt_val, wt_and, wt_or, wt_not, wts_nil, wts_cons, wo_e, wo_v, wos_nil, wos_cons, wes_nil, wes_cons, we_lst, we_tup, we_dnl, we_not, we_isi, we_fld, we_rev, ws_nil, ws_cons, ws_asg, ws_if, ws_for, ws_retS, ws_exp, we_pop, we_mv, ws_app', ws_rvs', rev_li, dl_li, fold0_li, liT_sh, liT_ow2, get_map, ex_eq, List.map_nil, wi_rngL, false_or, or_false, false_and, and_assoc, exists_and_left, exists_false, exists_eq, T.ow.injEq, exists_eq_right, cmp_eq_nil, liT_un, sh_un, rd_nil, mul_l, mul_mm, pow_18, pow_9, pow_6, mod_l, fdv_l, fold_li, nil_li, nil_al,  List.length_map, Int.reduceLT, Int.reduceNeg, Int.reducePow, Nat.lt_add_one, Nat.zero_lt_succ, Nat.reduceMul, Int.reduceToNat, okRng, Int.reduceLE, decide_true, and_self, bin_add, bin_sub, rd_int, rd_abs, cmp_lt, cmp_gt, OVrd_s, OVrd_t, OVsd_s, OVsd_t, OVget_s, OVget_t, rd_sh, sd_sh, rd_li, sd_li, gset, List.length_nil, List.length_cons, Nat.zero_le, if_true, if_false, ite_true, ite_false, Bool.false_eq_true, Nat.sub_self, List.append_nil, List.nil_append, List.cons_append, List.getElem?_cons_zero, List.getElem?_cons_succ, List.set_cons_zero, List.set_cons_succ, Option.some.injEq, exists_eq_left', exists_eq_left, Option.bind_some, Option.map_some, List.replicate_succ, List.replicate_zero, Nat.reduceSub, Nat.reduceLT, Nat.reduceAdd, reduceCtorEq, ne_eq, not_false_eq_true, true_and, and_true, wi_lst', wi_rng1', sh_inj, int_inj, lst_inj, we_didx', we_idx', we_dget, getK_al, ws_setf, wi_keys]
  refine ⟨_, _, rfl, ?_⟩
  simp only [wipeE, we_lit, we_call', we_make', rd_al, sd_al, mk_al, we_glb, we_var, we_op2, we_b1, we_mk, we_cmp, wt_cmp, wt_val, wt_and, wt_or, wt_not, wts_nil, wts_cons, wo_e, wo_v, wos_nil, wos_cons, wes_nil, wes_cons, we_lst, we_tup, we_dnl, we_not, we_isi, we_fld, we_rev, ws_nil, ws_cons, ws_asg, ws_if, ws_for, ws_retS, ws_exp, we_pop, we_mv, ws_app', ws_rvs', rev_li, dl_li, fold0_li, liT_sh, liT_ow2, get_map, ex_eq, List.map_nil, wi_rngL, false_or, or_false, false_and, and_assoc, exists_and_left, exists_false, exists_eq, T.ow.injEq, exists_eq_right, cmp_eq_nil, liT_un, sh_un, rd_nil, mul_l, mul_mm, pow_18, pow_9, pow_6, mod_l, fdv_l, fold_li, nil_li, nil_al,  List.length_map, Int.reduceLT, Int.reduceNeg, Int.reducePow, Nat.lt_add_one, Nat.zero_lt_succ, Nat.reduceMul, Int.reduceToNat, okRng, Int.reduceLE, decide_true, and_self, bin_add, bin_sub, rd_int, rd_abs, cmp_lt, cmp_gt, OVrd_s, OVrd_t, OVsd_s, OVsd_t, OVget_s, OVget_t, rd_sh, sd_sh, rd_li, sd_li, gset, List.length_nil, List.length_cons, Nat.zero_le, if_true, if_false, ite_true, ite_false, Bool.false_eq_true, Nat.sub_self, List.append_nil, List.nil_append, List.cons_append, List.getElem?_cons_zero, List.getElem?_cons_succ, List.set_cons_zero, List.set_cons_succ, Option.some.injEq, exists_eq_left', exists_eq_left, Option.bind_some, Option.map_some, List.replicate_succ, List.replicate_zero, Nat.reduceSub, Nat.reduceLT, Nat.reduceAdd, reduceCtorEq, ne_eq, not_false_eq_true, true_and, and_true, wi_lst', wi_rng1', sh_inj, int_inj, lst_inj, we_didx', we_idx', we_dget, getK_al, ws_setf, wi_keys]
  refine dc_for (fun ds ks acc e => ∃ pre suf t, A = pre ++ suf ∧ ds = (kys suf).map D.int ∧ ks = kK (nzA pre) ∧ acc = vT (nzA pre) ∧ e = [t, .un] ∧ StT t s A) ?_ ?_ ?_
  · refine ⟨[], A, t', rfl, ?_, rfl, rfl, rfl, w'⟩
    simp [kK, kys, kD]
  · rintro d r ks acc e ⟨pre, suf, t, h1, h2, rfl, rfl, rfl, w⟩
    cases suf with
    | nil => cases h2
    | cons p suf =>
      obtain ⟨k, v⟩ := p
      cases h2
      refine ⟨_, rfl, ?_⟩
      have n := w.ne
      have g : gt A k = some v := gt_of_mem nd (by rw [h1]; simp)
      simp only [we_lit, we_call', we_make', rd_al, sd_al, mk_al, we_glb, we_var, we_op2, we_b1, we_mk, we_cmp, wt_cmp, wt_val, wt_and, wt_or, wt_not, wts_nil, wts_cons, wo_e, wo_v, wos_nil, wos_cons, wes_nil, wes_cons, we_lst, we_tup, we_dnl, we_not, we_isi, we_fld, we_rev, ws_nil, ws_cons, ws_asg, ws_if, ws_for, ws_retS, ws_exp, we_pop, we_mv, ws_app', ws_rvs', rev_li, dl_li, fold0_li, liT_sh, liT_ow2, get_map, ex_eq, List.map_nil, wi_rngL, false_or, or_false, false_and, and_assoc, exists_and_left, exists_false, exists_eq, T.ow.injEq, exists_eq_right, cmp_eq_nil, liT_un, sh_un, rd_nil, mul_l, mul_mm, pow_18, pow_9, pow_6, mod_l, fdv_l, fold_li, nil_li, nil_al,  List.length_map, Int.reduceLT, Int.reduceNeg, Int.reducePow, Nat.lt_add_one, Nat.zero_lt_succ, Nat.reduceMul, Int.reduceToNat, okRng, Int.reduceLE, decide_true, and_self, bin_add, bin_sub, rd_int, rd_abs, cmp_lt, cmp_gt, OVrd_s, OVrd_t, OVsd_s, OVsd_t, OVget_s, OVget_t, rd_sh, sd_sh, rd_li, sd_li, gset, List.length_nil, List.length_cons, Nat.zero_le, if_true, if_false, ite_true, ite_false, Bool.false_eq_true, Nat.sub_self, List.append_nil, List.nil_append, List.cons_append, List.getElem?_cons_zero, List.getElem?_cons_succ, List.set_cons_zero, List.set_cons_succ, Option.some.injEq, exists_eq_left', exists_eq_left, Option.bind_some, Option.map_some, List.replicate_succ, List.replicate_zero, Nat.reduceSub, Nat.reduceLT, Nat.reduceAdd, reduceCtorEq, ne_eq, not_false_eq_true, true_and, and_true, wi_lst', wi_rng1', sh_inj, int_inj, lst_inj, we_didx', we_idx', we_dget, getK_al, ws_setf, wi_keys, n, we_fld]
      refine fld1 rfl w fun t1 w1 => ?_
      simp only [we_lit, we_call', we_make', rd_al, sd_al, mk_al, we_glb, we_var, we_op2, we_b1, we_mk, we_cmp, wt_cmp, wt_val, wt_and, wt_or, wt_not, wts_nil, wts_cons, wo_e, wo_v, wos_nil, wos_cons, wes_nil, wes_cons, we_lst, we_tup, we_dnl, we_not, we_isi, we_fld, we_rev, ws_nil, ws_cons, ws_asg, ws_if, ws_for, ws_retS, ws_exp, we_pop, we_mv, ws_app', ws_rvs', rev_li, dl_li, fold0_li, liT_sh, liT_ow2, get_map, ex_eq, List.map_nil, wi_rngL, false_or, or_false, false_and, and_assoc, exists_and_left, exists_false, exists_eq, T.ow.injEq, exists_eq_right, cmp_eq_nil, liT_un, sh_un, rd_nil, mul_l, mul_mm, pow_18, pow_9, pow_6, mod_l, fdv_l, fold_li, nil_li, nil_al,  List.length_map, Int.reduceLT, Int.reduceNeg, Int.reducePow, Nat.lt_add_one, Nat.zero_lt_succ, Nat.reduceMul, Int.reduceToNat, okRng, Int.reduceLE, decide_true, and_self, bin_add, bin_sub, rd_int, rd_abs, cmp_lt, cmp_gt, OVrd_s, OVrd_t, OVsd_s, OVsd_t, OVget_s, OVget_t, rd_sh, sd_sh, rd_li, sd_li, gset, List.length_nil, List.length_cons, Nat.zero_le, if_true, if_false, ite_true, ite_false, Bool.false_eq_true, Nat.sub_self, List.append_nil, List.nil_append, List.cons_append, List.getElem?_cons_zero, List.getElem?_cons_succ, List.set_cons_zero, List.set_cons_succ, Option.some.injEq, exists_eq_left', exists_eq_left, Option.bind_some, Option.map_some, List.replicate_succ, List.replicate_zero, Nat.reduceSub, Nat.reduceLT, Nat.reduceAdd, reduceCtorEq, ne_eq, not_false_eq_true, true_and, and_true, wi_lst', wi_rng1', sh_inj, int_inj, lst_inj, we_didx', we_idx', we_dget, getK_al, ws_setf, wi_keys]
      refine kid_alD g ?_
      simp only [we_lit, we_call', we_make', rd_al, sd_al, mk_al, we_glb, we_var, we_op2, we_b1, we_mk, we_cmp, wt_cmp, wt_val, wt_and, wt_or, wt_not, wts_nil, wts_cons, wo_e, wo_v, wos_nil, wos_cons, wes_nil, wes_cons, we_lst, we_tup, we_dnl, we_not, we_isi, we_fld, we_rev, ws_nil, ws_cons, ws_asg, ws_if, ws_for, ws_retS, ws_exp, we_pop, we_mv, ws_app', ws_rvs', rev_li, dl_li, fold0_li, liT_sh, liT_ow2, get_map, ex_eq, List.map_nil, wi_rngL, false_or, or_false, false_and, and_assoc, exists_and_left, exists_false, exists_eq, T.ow.injEq, exists_eq_right, cmp_eq_nil, liT_un, sh_un, rd_nil, mul_l, mul_mm, pow_18, pow_9, pow_6, mod_l, fdv_l, fold_li, nil_li, nil_al,  List.length_map, Int.reduceLT, Int.reduceNeg, Int.reducePow, Nat.lt_add_one, Nat.zero_lt_succ, Nat.reduceMul, Int.reduceToNat, okRng, Int.reduceLE, decide_true, and_self, bin_add, bin_sub, rd_int, rd_abs, cmp_lt, cmp_gt, OVrd_s, OVrd_t, OVsd_s, OVsd_t, OVget_s, OVget_t, rd_sh, sd_sh, rd_li, sd_li, gset, List.length_nil, List.length_cons, Nat.zero_le, if_true, if_false, ite_true, ite_false, Bool.false_eq_true, Nat.sub_self, List.append_nil, List.nil_append, List.cons_append, List.getElem?_cons_zero, List.getElem?_cons_succ, List.set_cons_zero, List.set_cons_succ, Option.some.injEq, exists_eq_left', exists_eq_left, Option.bind_some, Option.map_some, List.replicate_succ, List.replicate_zero, Nat.reduceSub, Nat.reduceLT, Nat.reduceAdd, reduceCtorEq, ne_eq, not_false_eq_true, true_and, and_true, wi_lst', wi_rng1', sh_inj, int_inj, lst_inj, we_didx', we_idx', we_dget, getK_al, ws_setf, wi_keys, cmp_ne_int]
      have nk : k ∉ kys (nzA pre) := fun z => by
        have z := kys_nz_sub z
        unfold ND at nd
        rw [h1, kys, List.map_append, List.map_cons, List.nodup_append] at nd
        exact nd.2.2 k z k (List.mem_cons_self ..) rfl
      have n1 := w1.ne
      by_cases hv : v = 0
      · subst hv
        simp only [decide_true, Bool.not_true, we_lit, we_call', we_make', rd_al, sd_al, mk_al, we_glb, we_var, we_op2, we_b1, we_mk, we_cmp, wt_cmp, wt_val, wt_and, wt_or, wt_not, wts_nil, wts_cons, wo_e, wo_v, wos_nil, wos_cons, wes_nil, wes_cons, we_lst, we_tup, we_dnl, we_not, we_isi, we_fld, we_rev, ws_nil, ws_cons, ws_asg, ws_if, ws_for, ws_retS, ws_exp, we_pop, we_mv, ws_app', ws_rvs', rev_li, dl_li, fold0_li, liT_sh, liT_ow2, get_map, ex_eq, List.map_nil, wi_rngL, false_or, or_false, false_and, and_assoc, exists_and_left, exists_false, exists_eq, T.ow.injEq, exists_eq_right, cmp_eq_nil, liT_un, sh_un, rd_nil, mul_l, mul_mm, pow_18, pow_9, pow_6, mod_l, fdv_l, fold_li, nil_li, nil_al,  List.length_map, Int.reduceLT, Int.reduceNeg, Int.reducePow, Nat.lt_add_one, Nat.zero_lt_succ, Nat.reduceMul, Int.reduceToNat, okRng, Int.reduceLE, decide_true, and_self, bin_add, bin_sub, rd_int, rd_abs, cmp_lt, cmp_gt, OVrd_s, OVrd_t, OVsd_s, OVsd_t, OVget_s, OVget_t, rd_sh, sd_sh, rd_li, sd_li, gset, List.length_nil, List.length_cons, Nat.zero_le, if_true, if_false, ite_true, ite_false, Bool.false_eq_true, Nat.sub_self, List.append_nil, List.nil_append, List.cons_append, List.getElem?_cons_zero, List.getElem?_cons_succ, List.set_cons_zero, List.set_cons_succ, Option.some.injEq, exists_eq_left', exists_eq_left, Option.bind_some, Option.map_some, List.replicate_succ, List.replicate_zero, Nat.reduceSub, Nat.reduceLT, Nat.reduceAdd, reduceCtorEq, ne_eq, not_false_eq_true, true_and, and_true, wi_lst', wi_rng1', sh_inj, int_inj, lst_inj, we_didx', we_idx', we_dget, getK_al, ws_setf, wi_keys]
        exact ⟨pre ++ [(k, 0)], suf, by simp [h1], rfl, by simp [nz_app, nzA], by simp [nz_app, nzA], t1, rfl, w1⟩
      · simp only [hv, decide_false, Bool.not_false, we_lit, we_call', we_make', rd_al, sd_al, mk_al, we_glb, we_var, we_op2, we_b1, we_mk, we_cmp, wt_cmp, wt_val, wt_and, wt_or, wt_not, wts_nil, wts_cons, wo_e, wo_v, wos_nil, wos_cons, wes_nil, wes_cons, we_lst, we_tup, we_dnl, we_not, we_isi, we_fld, we_rev, ws_nil, ws_cons, ws_asg, ws_if, ws_for, ws_retS, ws_exp, we_pop, we_mv, ws_app', ws_rvs', rev_li, dl_li, fold0_li, liT_sh, liT_ow2, get_map, ex_eq, List.map_nil, wi_rngL, false_or, or_false, false_and, and_assoc, exists_and_left, exists_false, exists_eq, T.ow.injEq, exists_eq_right, cmp_eq_nil, liT_un, sh_un, rd_nil, mul_l, mul_mm, pow_18, pow_9, pow_6, mod_l, fdv_l, fold_li, nil_li, nil_al,  List.length_map, Int.reduceLT, Int.reduceNeg, Int.reducePow, Nat.lt_add_one, Nat.zero_lt_succ, Nat.reduceMul, Int.reduceToNat, okRng, Int.reduceLE, decide_true, and_self, bin_add, bin_sub, rd_int, rd_abs, cmp_lt, cmp_gt, OVrd_s, OVrd_t, OVsd_s, OVsd_t, OVget_s, OVget_t, rd_sh, sd_sh, rd_li, sd_li, gset, List.length_nil, List.length_cons, Nat.zero_le, if_true, if_false, ite_true, ite_false, Bool.false_eq_true, Nat.sub_self, List.append_nil, List.nil_append, List.cons_append, List.getElem?_cons_zero, List.getElem?_cons_succ, List.set_cons_zero, List.set_cons_succ, Option.some.injEq, exists_eq_left', exists_eq_left, Option.bind_some, Option.map_some, List.replicate_succ, List.replicate_zero, Nat.reduceSub, Nat.reduceLT, Nat.reduceAdd, reduceCtorEq, ne_eq, not_false_eq_true, true_and, and_true, wi_lst', wi_rng1', sh_inj, int_inj, lst_inj, we_didx', we_idx', we_dget, getK_al, ws_setf, wi_keys, n1]
        refine ⟨.inl k, rfl, ?_⟩
        refine fld1 rfl w1 fun t2 w2 => ?_
        simp only [we_lit, we_call', we_make', rd_al, sd_al, mk_al, we_glb, we_var, we_op2, we_b1, we_mk, we_cmp, wt_cmp, wt_val, wt_and, wt_or, wt_not, wts_nil, wts_cons, wo_e, wo_v, wos_nil, wos_cons, wes_nil, wes_cons, we_lst, we_tup, we_dnl, we_not, we_isi, we_fld, we_rev, ws_nil, ws_cons, ws_asg, ws_if, ws_for, ws_retS, ws_exp, we_pop, we_mv, ws_app', ws_rvs', rev_li, dl_li, fold0_li, liT_sh, liT_ow2, get_map, ex_eq, List.map_nil, wi_rngL, false_or, or_false, false_and, and_assoc, exists_and_left, exists_false, exists_eq, T.ow.injEq, exists_eq_right, cmp_eq_nil, liT_un, sh_un, rd_nil, mul_l, mul_mm, pow_18, pow_9, pow_6, mod_l, fdv_l, fold_li, nil_li, nil_al,  List.length_map, Int.reduceLT, Int.reduceNeg, Int.reducePow, Nat.lt_add_one, Nat.zero_lt_succ, Nat.reduceMul, Int.reduceToNat, okRng, Int.reduceLE, decide_true, and_self, bin_add, bin_sub, rd_int, rd_abs, cmp_lt, cmp_gt, OVrd_s, OVrd_t, OVsd_s, OVsd_t, OVget_s, OVget_t, rd_sh, sd_sh, rd_li, sd_li, gset, List.length_nil, List.length_cons, Nat.zero_le, if_true, if_false, ite_true, ite_false, Bool.false_eq_true, Nat.sub_self, List.append_nil, List.nil_append, List.cons_append, List.getElem?_cons_zero, List.getElem?_cons_succ, List.set_cons_zero, List.set_cons_succ, Option.some.injEq, exists_eq_left', exists_eq_left, Option.bind_some, Option.map_some, List.replicate_succ, List.replicate_zero, Nat.reduceSub, Nat.reduceLT, Nat.reduceAdd, reduceCtorEq, ne_eq, not_false_eq_true, true_and, and_true, wi_lst', wi_rng1', sh_inj, int_inj, lst_inj, we_didx', we_idx', we_dget, getK_al, ws_setf, wi_keys]
        refine kid_alD g ?_
        rw [putL_al, put_new nk]
        have hp : nzA (pre ++ [(k, v)]) = nzA pre ++ [(k, v)] := by simp [nz_app, nzA, hv]
        refine ⟨?_, pre ++ [(k, v)], suf, by simp [h1], rfl, by rw [hp], by rw [hp], t2, rfl, w2⟩
        rw [sizeLine_eq]
        have l1 : (nzA pre).length ≤ pre.length := List.length_filter_le ..
        rw [h1] at hl
        simp [kK] at hl ⊢
        omega
  · rintro ks acc e ⟨pre, suf, t, h1, h2, rfl, rfl, rfl, w⟩
    have : suf = [] := by simpa [kys] using h2.symm
    subst this
    rw [List.append_nil] at h1
    subst h1
    exact ⟨rfl, t, rfl, w⟩
def cEq : FnS := evD ⟨[cNz], []⟩ t_Store_eq
theorem eq_ok {s s' : Int} {A B : Al} {t u : T} (w : StT t s A) (w' : StT u s' B) (nA : ND A) (nB : ND B) (lA : A.length ≤ 1000) (lB : B.length ≤ 1000) : ∃ r ts', cEq [t, u] = some (.ret r, ts') ∧ ∃ b t' u', r = .sh (.bl b) ∧ ts' = [t', u'] ∧ StT t' s A ∧ StT u' s' B ∧ (b = true ↔ s = s' ∧ ∀ k, gt (nzA A) k = gt (nzA B) k) := by
  apply evD_ret
  · rfl
  unfold t_Store_eq
  have n := w.ne
  have n' := w'.ne
  have ty : isTy (stD s' B) (.cls 0) = some true := rfl
  simp only [we_lit, we_call', we_make', rd_al, sd_al, mk_al, we_glb, we_var, we_op2, we_b1, we_mk, we_cmp, wt_cmp, wt_val, wt_and, wt_or, wt_not, wts_nil, wts_cons, wo_e, wo_v, wos_nil, wos_cons, wes_nil, wes_cons, we_lst, we_tup, we_dnl, we_not, we_isi, we_fld, we_rev, ws_nil, ws_cons, ws_asg, ws_if, ws_for, ws_retS, ws_exp, we_pop, we_mv, ws_app', ws_rvs', rev_li, dl_li, fold0_li, liT_sh, liT_ow2, get_map, ex_eq, List.map_nil, wi_rngL, false_or, or_false, false_and, and_assoc, exists_and_left, exists_false, exists_eq, T.ow.injEq, exists_eq_right, cmp_eq_nil, liT_un, sh_un, rd_nil, mul_l, mul_mm, pow_18, pow_9, pow_6, mod_l, fdv_l, fold_li, nil_li, nil_al,  List.length_map, Int.reduceLT, Int.reduceNeg, Int.reducePow, Nat.lt_add_one, Nat.zero_lt_succ, Nat.reduceMul, Int.reduceToNat, okRng, Int.reduceLE, decide_true, and_self, bin_add, bin_sub, rd_int, rd_abs, cmp_lt, cmp_gt, OVrd_s, OVrd_t, OVsd_s, OVsd_t, OVget_s, OVget_t, rd_sh, sd_sh, rd_li, sd_li, gset, List.length_nil, List.length_cons, Nat.zero_le, if_true, if_false, ite_true, ite_false, Bool.false_eq_true, Nat.sub_self, List.append_nil, List.nil_append, List.cons_append, List.getElem?_cons_zero, List.getElem?_cons_succ, List.set_cons_zero, List.set_cons_succ, Option.some.injEq, exists_eq_left', exists_eq_left, Option.bind_some, Option.map_some, List.replicate_succ, List.replicate_zero, Nat.reduceSub, Nat.reduceLT, Nat.reduceAdd, reduceCtorEq, ne_eq, not_false_eq_true, true_and, and_true, wi_lst', wi_rng1', sh_inj, int_inj, lst_inj, we_didx', we_idx', we_dget, getK_al, ws_setf, wi_keys, n, n', w'.rd, ty, tru_bl, Bool.not_true]
  refine we_and ?_
  simp only [we_lit, we_call', we_make', rd_al, sd_al, mk_al, we_glb, we_var, we_op2, we_b1, we_mk, we_cmp, wt_cmp, wt_val, wt_and, wt_or, wt_not, wts_nil, wts_cons, wo_e, wo_v, wos_nil, wos_cons, wes_nil, wes_cons, we_lst, we_tup, we_dnl, we_not, we_isi, we_fld, we_rev, ws_nil, ws_cons, ws_asg, ws_if, ws_for, ws_retS, ws_exp, we_pop, we_mv, ws_app', ws_rvs', rev_li, dl_li, fold0_li, liT_sh, liT_ow2, get_map, ex_eq, List.map_nil, wi_rngL, false_or, or_false, false_and, and_assoc, exists_and_left, exists_false, exists_eq, T.ow.injEq, exists_eq_right, cmp_eq_nil, liT_un, sh_un, rd_nil, mul_l, mul_mm, pow_18, pow_9, pow_6, mod_l, fdv_l, fold_li, nil_li, nil_al,  List.length_map, Int.reduceLT, Int.reduceNeg, Int.reducePow, Nat.lt_add_one, Nat.zero_lt_succ, Nat.reduceMul, Int.reduceToNat, okRng, Int.reduceLE, decide_true, and_self, bin_add, bin_sub, rd_int, rd_abs, cmp_lt, cmp_gt, OVrd_s, OVrd_t, OVsd_s, OVsd_t, OVget_s, OVget_t, rd_sh, sd_sh, rd_li, sd_li, gset, List.length_nil, List.length_cons, Nat.zero_le, if_true, if_false, ite_true, ite_false, Bool.false_eq_true, Nat.sub_self, List.append_nil, List.nil_append, List.cons_append, List.getElem?_cons_zero, List.getElem?_cons_succ, List.set_cons_zero, List.set_cons_succ, Option.some.injEq, exists_eq_left', exists_eq_left, Option.bind_some, Option.map_some, List.replicate_succ, List.replicate_zero, Nat.reduceSub, Nat.reduceLT, Nat.reduceAdd, reduceCtorEq, ne_eq, not_false_eq_true, true_and, and_true, wi_lst', wi_rng1', sh_inj, int_inj, lst_inj, we_didx', we_idx', we_dget, getK_al, ws_setf, wi_keys, n, n', we_fld]
  refine fld0 rfl w ?_
  simp only [we_lit, we_call', we_make', rd_al, sd_al, mk_al, we_glb, we_var, we_op2, we_b1, we_mk, we_cmp, wt_cmp, wt_val, wt_and, wt_or, wt_not, wts_nil, wts_cons, wo_e, wo_v, wos_nil, wos_cons, wes_nil, wes_cons, we_lst, we_tup, we_dnl, we_not, we_isi, we_fld, we_rev, ws_nil, ws_cons, ws_asg, ws_if, ws_for, ws_retS, ws_exp, we_pop, we_mv, ws_app', ws_rvs', rev_li, dl_li, fold0_li, liT_sh, liT_ow2, get_map, ex_eq, List.map_nil, wi_rngL, false_or, or_false, false_and, and_assoc, exists_and_left, exists_false, exists_eq, T.ow.injEq, exists_eq_right, cmp_eq_nil, liT_un, sh_un, rd_nil, mul_l, mul_mm, pow_18, pow_9, pow_6, mod_l, fdv_l, fold_li, nil_li, nil_al,  List.length_map, Int.reduceLT, Int.reduceNeg, Int.reducePow, Nat.lt_add_one, Nat.zero_lt_succ, Nat.reduceMul, Int.reduceToNat, okRng, Int.reduceLE, decide_true, and_self, bin_add, bin_sub, rd_int, rd_abs, cmp_lt, cmp_gt, OVrd_s, OVrd_t, OVsd_s, OVsd_t, OVget_s, OVget_t, rd_sh, sd_sh, rd_li, sd_li, gset, List.length_nil, List.length_cons, Nat.zero_le, if_true, if_false, ite_true, ite_false, Bool.false_eq_true, Nat.sub_self, List.append_nil, List.nil_append, List.cons_append, List.getElem?_cons_zero, List.getElem?_cons_succ, List.set_cons_zero, List.set_cons_succ, Option.some.injEq, exists_eq_left', exists_eq_left, Option.bind_some, Option.map_some, List.replicate_succ, List.replicate_zero, Nat.reduceSub, Nat.reduceLT, Nat.reduceAdd, reduceCtorEq, ne_eq, not_false_eq_true, true_and, and_true, wi_lst', wi_rng1', sh_inj, int_inj, lst_inj, we_didx', we_idx', we_dget, getK_al, ws_setf, wi_keys, n, n', we_fld]
  refine fld0 rfl w' ?_
  simp only [we_lit, we_call', we_make', rd_al, sd_al, mk_al, we_glb, we_var, we_op2, we_b1, we_mk, we_cmp, wt_cmp, wt_val, wt_and, wt_or, wt_not, wts_nil, wts_cons, wo_e, wo_v, wos_nil, wos_cons, wes_nil, wes_cons, we_lst, we_tup, we_dnl, we_not, we_isi, we_fld, we_rev, ws_nil, ws_cons, ws_asg, ws_if, ws_for, ws_retS, ws_exp, we_pop, we_mv, ws_app', ws_rvs', rev_li, dl_li, fold0_li, liT_sh, liT_ow2, get_map, ex_eq, List.map_nil, wi_rngL, false_or, or_false, false_and, and_assoc, exists_and_left, exists_false, exists_eq, T.ow.injEq, exists_eq_right, cmp_eq_nil, liT_un, sh_un, rd_nil, mul_l, mul_mm, pow_18, pow_9, pow_6, mod_l, fdv_l, fold_li, nil_li, nil_al,  List.length_map, Int.reduceLT, Int.reduceNeg, Int.reducePow, Nat.lt_add_one, Nat.zero_lt_succ, Nat.reduceMul, Int.reduceToNat, okRng, Int.reduceLE, decide_true, and_self, bin_add, bin_sub, rd_int, rd_abs, cmp_lt, cmp_gt, OVrd_s, OVrd_t, OVsd_s, OVsd_t, OVget_s, OVget_t, rd_sh, sd_sh, rd_li, sd_li, gset, List.length_nil, List.length_cons, Nat.zero_le, if_true, if_false, ite_true, ite_false, Bool.false_eq_true, Nat.sub_self, List.append_nil, List.nil_append, List.cons_append, List.getElem?_cons_zero, List.getElem?_cons_succ, List.set_cons_zero, List.set_cons_succ, Option.some.injEq, exists_eq_left', exists_eq_left, Option.bind_some, Option.map_some, List.replicate_succ, List.replicate_zero, Nat.reduceSub, Nat.reduceLT, Nat.reduceAdd, reduceCtorEq, ne_eq, not_false_eq_true, true_and, and_true, wi_lst', wi_rng1', sh_inj, int_inj, lst_inj, we_didx', we_idx', we_dget, getK_al, ws_setf, wi_keys, cmp_eq_int]
  refine ⟨_, rfl, ?_⟩
  by_cases hs : s = s'
  · subst hs
    simp only [decide_true, we_lit, we_call', we_make', rd_al, sd_al, mk_al, we_glb, we_var, we_op2, we_b1, we_mk, we_cmp, wt_cmp, wt_val, wt_and, wt_or, wt_not, wts_nil, wts_cons, wo_e, wo_v, wos_nil, wos_cons, wes_nil, wes_cons, we_lst, we_tup, we_dnl, we_not, we_isi, we_fld, we_rev, ws_nil, ws_cons, ws_asg, ws_if, ws_for, ws_retS, ws_exp, we_pop, we_mv, ws_app', ws_rvs', rev_li, dl_li, fold0_li, liT_sh, liT_ow2, get_map, ex_eq, List.map_nil, wi_rngL, false_or, or_false, false_and, and_assoc, exists_and_left, exists_false, exists_eq, T.ow.injEq, exists_eq_right, cmp_eq_nil, liT_un, sh_un, rd_nil, mul_l, mul_mm, pow_18, pow_9, pow_6, mod_l, fdv_l, fold_li, nil_li, nil_al,  List.length_map, Int.reduceLT, Int.reduceNeg, Int.reducePow, Nat.lt_add_one, Nat.zero_lt_succ, Nat.reduceMul, Int.reduceToNat, okRng, Int.reduceLE, decide_true, and_self, bin_add, bin_sub, rd_int, rd_abs, cmp_lt, cmp_gt, OVrd_s, OVrd_t, OVsd_s, OVsd_t, OVget_s, OVget_t, rd_sh, sd_sh, rd_li, sd_li, gset, List.length_nil, List.length_cons, Nat.zero_le, if_true, if_false, ite_true, ite_false, Bool.false_eq_true, Nat.sub_self, List.append_nil, List.nil_append, List.cons_append, List.getElem?_cons_zero, List.getElem?_cons_succ, List.set_cons_zero, List.set_cons_succ, Option.some.injEq, exists_eq_left', exists_eq_left, Option.bind_some, Option.map_some, List.replicate_succ, List.replicate_zero, Nat.reduceSub, Nat.reduceLT, Nat.reduceAdd, reduceCtorEq, ne_eq, not_false_eq_true, true_and, and_true, wi_lst', wi_rng1', sh_inj, int_inj, lst_inj, we_didx', we_idx', we_dget, getK_al, ws_setf, wi_keys, n, we_meth', pick_st (i := 0) (e := [t, u]) rfl w]
    obtain ⟨r1, ts1, h1, t1, h2, h3, w1⟩ := nz_ok w nA lA
    refine call_s rfl n h1 h3 ?_
    subst h2
    simp only [we_lit, we_call', we_make', rd_al, sd_al, mk_al, we_glb, we_var, we_op2, we_b1, we_mk, we_cmp, wt_cmp, wt_val, wt_and, wt_or, wt_not, wts_nil, wts_cons, wo_e, wo_v, wos_nil, wos_cons, wes_nil, wes_cons, we_lst, we_tup, we_dnl, we_not, we_isi, we_fld, we_rev, ws_nil, ws_cons, ws_asg, ws_if, ws_for, ws_retS, ws_exp, we_pop, we_mv, ws_app', ws_rvs', rev_li, dl_li, fold0_li, liT_sh, liT_ow2, get_map, ex_eq, List.map_nil, wi_rngL, false_or, or_false, false_and, and_assoc, exists_and_left, exists_false, exists_eq, T.ow.injEq, exists_eq_right, cmp_eq_nil, liT_un, sh_un, rd_nil, mul_l, mul_mm, pow_18, pow_9, pow_6, mod_l, fdv_l, fold_li, nil_li, nil_al,  List.length_map, Int.reduceLT, Int.reduceNeg, Int.reducePow, Nat.lt_add_one, Nat.zero_lt_succ, Nat.reduceMul, Int.reduceToNat, okRng, Int.reduceLE, decide_true, and_self, bin_add, bin_sub, rd_int, rd_abs, cmp_lt, cmp_gt, OVrd_s, OVrd_t, OVsd_s, OVsd_t, OVget_s, OVget_t, rd_sh, sd_sh, rd_li, sd_li, gset, List.length_nil, List.length_cons, Nat.zero_le, if_true, if_false, ite_true, ite_false, Bool.false_eq_true, Nat.sub_self, List.append_nil, List.nil_append, List.cons_append, List.getElem?_cons_zero, List.getElem?_cons_succ, List.set_cons_zero, List.set_cons_succ, Option.some.injEq, exists_eq_left', exists_eq_left, Option.bind_some, Option.map_some, List.replicate_succ, List.replicate_zero, Nat.reduceSub, Nat.reduceLT, Nat.reduceAdd, reduceCtorEq, ne_eq, not_false_eq_true, true_and, and_true, wi_lst', wi_rng1', sh_inj, int_inj, lst_inj, we_didx', we_idx', we_dget, getK_al, ws_setf, wi_keys, n', we_meth', pick_st (i := 1) (e := [t1, u]) rfl w']
    obtain ⟨r2, ts2, h4, u1, h5, h6, w2⟩ := nz_ok w' nB lB
    refine call_s rfl n' h4 h6 ?_
    subst h5
    simp only [we_lit, we_call', we_make', rd_al, sd_al, mk_al, we_glb, we_var, we_op2, we_b1, we_mk, we_cmp, wt_cmp, wt_val, wt_and, wt_or, wt_not, wts_nil, wts_cons, wo_e, wo_v, wos_nil, wos_cons, wes_nil, wes_cons, we_lst, we_tup, we_dnl, we_not, we_isi, we_fld, we_rev, ws_nil, ws_cons, ws_asg, ws_if, ws_for, ws_retS, ws_exp, we_pop, we_mv, ws_app', ws_rvs', rev_li, dl_li, fold0_li, liT_sh, liT_ow2, get_map, ex_eq, List.map_nil, wi_rngL, false_or, or_false, false_and, and_assoc, exists_and_left, exists_false, exists_eq, T.ow.injEq, exists_eq_right, cmp_eq_nil, liT_un, sh_un, rd_nil, mul_l, mul_mm, pow_18, pow_9, pow_6, mod_l, fdv_l, fold_li, nil_li, nil_al,  List.length_map, Int.reduceLT, Int.reduceNeg, Int.reducePow, Nat.lt_add_one, Nat.zero_lt_succ, Nat.reduceMul, Int.reduceToNat, okRng, Int.reduceLE, decide_true, and_self, bin_add, bin_sub, rd_int, rd_abs, cmp_lt, cmp_gt, OVrd_s, OVrd_t, OVsd_s, OVsd_t, OVget_s, OVget_t, rd_sh, sd_sh, rd_li, sd_li, gset, List.length_nil, List.length_cons, Nat.zero_le, if_true, if_false, ite_true, ite_false, Bool.false_eq_true, Nat.sub_self, List.append_nil, List.nil_append, List.cons_append, List.getElem?_cons_zero, List.getElem?_cons_succ, List.set_cons_zero, List.set_cons_succ, Option.some.injEq, exists_eq_left', exists_eq_left, Option.bind_some, Option.map_some, List.replicate_succ, List.replicate_zero, Nat.reduceSub, Nat.reduceLT, Nat.reduceAdd, reduceCtorEq, ne_eq, not_false_eq_true, true_and, and_true, wi_lst', wi_rng1', sh_inj, int_inj, lst_inj, we_didx', we_idx', we_dget, getK_al, ws_setf, wi_keys]
    have dd : ∃ b : Bool, (b = true ↔ ∀ k, gt (nzA A) k = gt (nzA B) k) := by
      by_cases h : ∀ k, gt (nzA A) k = gt (nzA B) k
      · exact ⟨true, by simp [h]⟩
      · exact ⟨false, by simp [h]⟩
    obtain ⟨b, hb⟩ := dd
    rw [cmp_eq_al (nd_nz nA) (nd_nz nB) hb]
    exact ⟨b, rfl, b, rfl, t1, u1, rfl, w1, w2, hb⟩
  · simp only [hs, decide_false, we_lit, we_call', we_make', rd_al, sd_al, mk_al, we_glb, we_var, we_op2, we_b1, we_mk, we_cmp, wt_cmp, wt_val, wt_and, wt_or, wt_not, wts_nil, wts_cons, wo_e, wo_v, wos_nil, wos_cons, wes_nil, wes_cons, we_lst, we_tup, we_dnl, we_not, we_isi, we_fld, we_rev, ws_nil, ws_cons, ws_asg, ws_if, ws_for, ws_retS, ws_exp, we_pop, we_mv, ws_app', ws_rvs', rev_li, dl_li, fold0_li, liT_sh, liT_ow2, get_map, ex_eq, List.map_nil, wi_rngL, false_or, or_false, false_and, and_assoc, exists_and_left, exists_false, exists_eq, T.ow.injEq, exists_eq_right, cmp_eq_nil, liT_un, sh_un, rd_nil, mul_l, mul_mm, pow_18, pow_9, pow_6, mod_l, fdv_l, fold_li, nil_li, nil_al,  List.length_map, Int.reduceLT, Int.reduceNeg, Int.reducePow, Nat.lt_add_one, Nat.zero_lt_succ, Nat.reduceMul, Int.reduceToNat, okRng, Int.reduceLE, decide_true, and_self, bin_add, bin_sub, rd_int, rd_abs, cmp_lt, cmp_gt, OVrd_s, OVrd_t, OVsd_s, OVsd_t, OVget_s, OVget_t, rd_sh, sd_sh, rd_li, sd_li, gset, List.length_nil, List.length_cons, Nat.zero_le, if_true, if_false, ite_true, ite_false, Bool.false_eq_true, Nat.sub_self, List.append_nil, List.nil_append, List.cons_append, List.getElem?_cons_zero, List.getElem?_cons_succ, List.set_cons_zero, List.set_cons_succ, Option.some.injEq, exists_eq_left', exists_eq_left, Option.bind_some, Option.map_some, List.replicate_succ, List.replicate_zero, Nat.reduceSub, Nat.reduceLT, Nat.reduceAdd, reduceCtorEq, ne_eq, not_false_eq_true, true_and, and_true, wi_lst', wi_rng1', sh_inj, int_inj, lst_inj, we_didx', we_idx', we_dget, getK_al, ws_setf, wi_keys]
    exact ⟨false, rfl, t, u, rfl, w, w', by simp⟩
theorem st_ne0 {s : Int} {A : Al} : (stO s A = .un) = False := by simp [stO]
theorem init_call_tt {e : En} {P : T → En → Prop} {s : Int} {A : Al} {x : T} (h : x = dT A ∨ x = .sh (dD A)) (p : P (stO s A) e) : WE (makeF 0 cInit [.t (iT s), .t x]) e P := by
  obtain ⟨t, ts', h1, h2, h3⟩ := init_ok (s := s) h
  subst h2
  subst h3
  exact make_tt h1 rfl p
theorem init_call_st {e : En} {P : T → En → Prop} {i : Nat} {s : Int} {A : Al} {x : T} (g : e[i]? = some (iT s)) (h : x = dT A ∨ x = .sh (dD A)) (p : P (stO s A) e) : WE (makeF 0 cInit [.s i, .t x]) e P := by
  obtain ⟨t, ts', h1, h2, h3⟩ := init_ok (s := s) h
  subst h2
  subst h3
  exact make_st g (by simp) h1 rfl p
theorem init_call_ss {e : En} {P : T → En → Prop} {i j : Nat} {s : Int} {A : Al} {x : T} (g : e[i]? = some (iT s)) (g2 : e[j]? = some x) (ij : i ≠ j) (h : x = dT A ∨ x = .sh (dD A)) (p : P (stO s A) e) : WE (makeF 0 cInit [.s i, .s j]) e P := by
  obtain ⟨t, ts', h1, h2, h3⟩ := init_ok (s := s) h
  subst h2
  subst h3
  exact make_ss g (by simp) g2 (by rcases h with rfl | rfl <;> simp [dT]) ij h1 rfl p
def cIsSt : FnS := evD ⟨[cIsInt, cGet, cEq, cInit], []⟩ t_law_is_store
/-- the pair that a store is compared with -/
def PrT (t : T) (s : Int) (B : Al) : Prop := t = .ow .lst [iT s, dT B] ∨ t = .ow .lst [iT s, .sh (dD B)] ∨ t = .sh (.nd .lst [.int s, dD B])
theorem PrT.ne {t : T} {s : Int} {B : Al} (h : PrT t s B) : t ≠ .un := by rcases h with rfl | rfl | rfl <;> simp
theorem ix0 {e : En} {P : T → En → Prop} {i : Nat} {t : T} {s : Int} {A : Al} (h : e[i]? = some t) (w : PrT t s A) (p : P (iT s) e) : WE (kid (.s i) (ixSel 0)) e P := by
  refine (WE_some (e' := e) ?_).mpr p
  unfold kid
  have q : ixN 2 0 = some 0 := rfl
  rcases w with rfl | rfl | rfl
  · simp [OV.get, h, ixSel, T.rd, q]
    exact set_same h
  · simp [OV.get, h, ixSel, T.rd, q]
    exact set_same h
  · simp [OV.get, h, ixSel, q]
theorem ix1 {e : En} {P : T → En → Prop} {i : Nat} {t : T} {s : Int} {A : Al} (h : e[i]? = some t) (w : PrT t s A) (p : ∀ t', PrT t' s A → P (.sh (dD A)) (e.set i t')) : WE (kid (.s i) (ixSel 1)) e P := by
  have q : ixN 2 1 = some 1 := rfl
  rcases w with rfl | rfl | rfl
  · refine (WE_some ?_).mpr (p (.ow .lst [iT s, .sh (dD A)]) (.inr (.inl rfl)))
    unfold kid
    simp [OV.get, h, ixSel, rd_al, q]
  · refine (WE_some ?_).mpr (p (.ow .lst [iT s, .sh (dD A)]) (.inr (.inl rfl)))
    unfold kid
    simp [OV.get, h, ixSel, T.rd, q]
  · refine (WE_some (e' := e) ?_).mpr (by have := p _ (.inr (.inr rfl)); rw [set_same h] at this; exact this)
    unfold kid
    simp [OV.get, h, ixSel, q]
theorem call_t {e : En} {P : T → En → Prop} {f : FnS} {x r x' : T} (hf : f [x] = some (.ret r, [x'])) (p : P r e) : WE (callF f [.t x]) e P :=
  WE_call ⟨[x], e, r, _, rfl, hf, by simpa [back] using p⟩
theorem get_call {e : En} {P : T → En → Prop} {i j : Nat} {t : T} {s k : Int} {A : Al} (h : e[i]? = some t) (w : StT t s A) (h2 : e[j]? = some (iT k)) (ij : i ≠ j) (p : ∀ t', StT t' s A → P (iT ((gt A k).getD 0)) ((e.set i t').set j (iT k))) : WE (callF cGet [.s i, .s j]) e P := by
  obtain ⟨r, ts', h3, t', h4, h5, w'⟩ := get_ok (k := k) w
  subst h4
  exact call_ss h w.ne h2 (by simp) ij h3 h5 (p t' w')
abbrev EqS (s s' : Int) (A B : Al) : Prop := s = s' ∧ ∀ k, gt (nzA A) k = gt (nzA B) k
theorem eq_call_st {e : En} {P : T → En → Prop} {i : Nat} {t u : T} {s s' : Int} {A B : Al} (h : e[i]? = some t) (w : StT t s A) (w' : StT u s' B) (nA : ND A) (nB : ND B) (lA : A.length ≤ 1000) (lB : B.length ≤ 1000) (p : ∀ b t', StT t' s A → (b = true ↔ EqS s s' A B) → P (.sh (.bl b)) (e.set i t')) : WE (callF cEq [.s i, .t u]) e P := by
  obtain ⟨r, ts', h1, b, t', u', h2, h3, w1, w2, hb⟩ := eq_ok w w' nA nB lA lB
  subst h2
  exact call_st h w.ne h1 h3 (p b t' w1 hb)
theorem eq_call_ss {e : En} {P : T → En → Prop} {i j : Nat} {t u : T} {s s' : Int} {A B : Al} (h : e[i]? = some t) (h2 : e[j]? = some u) (ij : i ≠ j) (w : StT t s A) (w' : StT u s' B) (nA : ND A) (nB : ND B) (lA : A.length ≤ 1000) (lB : B.length ≤ 1000) (p : ∀ b t' u', StT t' s A → StT u' s' B → (b = true ↔ EqS s s' A B) → P (.sh (.bl b)) ((e.set i t').set j u')) : WE (callF cEq [.s i, .s j]) e P := by
  obtain ⟨r, ts', h1, b, t', u', q2, h3, w1, w2, hb⟩ := eq_ok w w' nA nB lA lB
  subst q2
  exact call_ss h w.ne h2 w'.ne ij h1 h3 (p b t' u' w1 w2 hb)
theorem cmp_is {b c : Bool} : pCmp .is_ (.bl b) (.bl c) = some (decide (b = c)) := rfl
theorem cmp_isn {b c : Bool} : pCmp .isn (.bl b) (.bl c) = some (!decide (b = c)) := rfl
theorem filt_eq {o o' : Option Int} (h : o.getD 0 = o'.getD 0) : o.filter (· != 0) = o'.filter (· != 0) := by
  cases o <;> cases o' <;> simp [Option.filter] at h ⊢
  · exact h.symm
  · exact h
  · simp [h]
theorem li_app {a b : List Int} : (a.map D.int ++ b.map D.int) = (a ++ b).map D.int := by simp
theorem isst_ok {s : Int} {A B : Al} {t p l : T} {ks : List Int} (w : StT t s A) (wp : PrT p s B) (hl : l = liT ks ∨ l = .sh (.nd .lst (ks.map D.int))) (nA : ND A) (nB : ND B) (lA : A.length ≤ 1000) (lB : B.length ≤ 1000) (lk : ks.length ≤ 1000) (eq : ∀ k, (gt A k).getD 0 = (gt B k).getD 0) :
    ∃ r ts', cIsSt [t, p, l] = some (.ret r, ts') ∧ ∃ t' p', r = .sh (.bl true) ∧ ts' = [t', p', l] ∧ StT t' s A ∧ PrT p' s B := by
  have nl : l ≠ .un := by rcases hl with rfl | rfl <;> simp [liT]
  have sl : l.sd = some (.nd .lst (ks.map D.int)) := by
    rcases hl with rfl | rfl
    · exact sd_li
    · rfl
  apply evD_ret
  · rfl
  unfold t_law_is_store
  have n := w.ne
  have np := wp.ne
  have ty : isTy (stD s A) (.cls 0) = some true := rfl
  simp only [we_lit, we_call', we_make', rd_al, sd_al, mk_al, we_glb, we_var, we_op2, we_b1, we_mk, we_cmp, wt_cmp, wt_val, wt_and, wt_or, wt_not, wts_nil, wts_cons, wo_e, wo_v, wos_nil, wos_cons, wes_nil, wes_cons, we_lst, we_tup, we_dnl, we_not, we_isi, we_fld, we_rev, ws_nil, ws_cons, ws_asg, ws_if, ws_for, ws_retS, ws_exp, we_pop, we_mv, ws_app', ws_rvs', rev_li, dl_li, fold0_li, liT_sh, liT_ow2, get_map, ex_eq, List.map_nil, wi_rngL, false_or, or_false, false_and, and_assoc, exists_and_left, exists_false, exists_eq, T.ow.injEq, exists_eq_right, cmp_eq_nil, liT_un, sh_un, rd_nil, mul_l, mul_mm, pow_18, pow_9, pow_6, mod_l, fdv_l, fold_li, nil_li, nil_al,  List.length_map, Int.reduceLT, Int.reduceNeg, Int.reducePow, Nat.lt_add_one, Nat.zero_lt_succ, Nat.reduceMul, Int.reduceToNat, okRng, Int.reduceLE, decide_true, and_self, bin_add, bin_sub, rd_int, rd_abs, cmp_lt, cmp_gt, OVrd_s, OVrd_t, OVsd_s, OVsd_t, OVget_s, OVget_t, rd_sh, sd_sh, rd_li, sd_li, gset, List.length_nil, List.length_cons, Nat.zero_le, if_true, if_false, ite_true, ite_false, Bool.false_eq_true, Nat.sub_self, List.append_nil, List.nil_append, List.cons_append, List.getElem?_cons_zero, List.getElem?_cons_succ, List.set_cons_zero, List.set_cons_succ, Option.some.injEq, exists_eq_left', exists_eq_left, Option.bind_some, Option.map_some, List.replicate_succ, List.replicate_zero, Nat.reduceSub, Nat.reduceLT, Nat.reduceAdd, reduceCtorEq, ne_eq, not_false_eq_true, true_and, and_true, wi_lst', wi_rng1', sh_inj, int_inj, lst_inj, we_didx', we_idx', we_dget, getK_al, ws_setf, wi_keys, n, np, nl, w.rd, ty, tru_bl, Bool.not_true, we_fld]
  refine fld0 rfl w ?_
  refine call_t isint_ok ?_
  simp only [we_lit, we_call', we_make', rd_al, sd_al, mk_al, we_glb, we_var, we_op2, we_b1, we_mk, we_cmp, wt_cmp, wt_val, wt_and, wt_or, wt_not, wts_nil, wts_cons, wo_e, wo_v, wos_nil, wos_cons, wes_nil, wes_cons, we_lst, we_tup, we_dnl, we_not, we_isi, we_fld, we_rev, ws_nil, ws_cons, ws_asg, ws_if, ws_for, ws_retS, ws_exp, we_pop, we_mv, ws_app', ws_rvs', rev_li, dl_li, fold0_li, liT_sh, liT_ow2, get_map, ex_eq, List.map_nil, wi_rngL, false_or, or_false, false_and, and_assoc, exists_and_left, exists_false, exists_eq, T.ow.injEq, exists_eq_right, cmp_eq_nil, liT_un, sh_un, rd_nil, mul_l, mul_mm, pow_18, pow_9, pow_6, mod_l, fdv_l, fold_li, nil_li, nil_al,  List.length_map, Int.reduceLT, Int.reduceNeg, Int.reducePow, Nat.lt_add_one, Nat.zero_lt_succ, Nat.reduceMul, Int.reduceToNat, okRng, Int.reduceLE, decide_true, and_self, bin_add, bin_sub, rd_int, rd_abs, cmp_lt, cmp_gt, OVrd_s, OVrd_t, OVsd_s, OVsd_t, OVget_s, OVget_t, rd_sh, sd_sh, rd_li, sd_li, gset, List.length_nil, List.length_cons, Nat.zero_le, if_true, if_false, ite_true, ite_false, Bool.false_eq_true, Nat.sub_self, List.append_nil, List.nil_append, List.cons_append, List.getElem?_cons_zero, List.getElem?_cons_succ, List.set_cons_zero, List.set_cons_succ, Option.some.injEq, exists_eq_left', exists_eq_left, Option.bind_some, Option.map_some, List.replicate_succ, List.replicate_zero, Nat.reduceSub, Nat.reduceLT, Nat.reduceAdd, reduceCtorEq, ne_eq, not_false_eq_true, true_and, and_true, wi_lst', wi_rng1', sh_inj, int_inj, lst_inj, we_didx', we_idx', we_dget, getK_al, ws_setf, wi_keys, n, np, nl, tru_bl, Bool.not_true]
  refine fld0 rfl w ?_
  simp only [we_lit, we_call', we_make', rd_al, sd_al, mk_al, we_glb, we_var, we_op2, we_b1, we_mk, we_cmp, wt_cmp, wt_val, wt_and, wt_or, wt_not, wts_nil, wts_cons, wo_e, wo_v, wos_nil, wos_cons, wes_nil, wes_cons, we_lst, we_tup, we_dnl, we_not, we_isi, we_fld, we_rev, ws_nil, ws_cons, ws_asg, ws_if, ws_for, ws_retS, ws_exp, we_pop, we_mv, ws_app', ws_rvs', rev_li, dl_li, fold0_li, liT_sh, liT_ow2, get_map, ex_eq, List.map_nil, wi_rngL, false_or, or_false, false_and, and_assoc, exists_and_left, exists_false, exists_eq, T.ow.injEq, exists_eq_right, cmp_eq_nil, liT_un, sh_un, rd_nil, mul_l, mul_mm, pow_18, pow_9, pow_6, mod_l, fdv_l, fold_li, nil_li, nil_al,  List.length_map, Int.reduceLT, Int.reduceNeg, Int.reducePow, Nat.lt_add_one, Nat.zero_lt_succ, Nat.reduceMul, Int.reduceToNat, okRng, Int.reduceLE, decide_true, and_self, bin_add, bin_sub, rd_int, rd_abs, cmp_lt, cmp_gt, OVrd_s, OVrd_t, OVsd_s, OVsd_t, OVget_s, OVget_t, rd_sh, sd_sh, rd_li, sd_li, gset, List.length_nil, List.length_cons, Nat.zero_le, if_true, if_false, ite_true, ite_false, Bool.false_eq_true, Nat.sub_self, List.append_nil, List.nil_append, List.cons_append, List.getElem?_cons_zero, List.getElem?_cons_succ, List.set_cons_zero, List.set_cons_succ, Option.some.injEq, exists_eq_left', exists_eq_left, Option.bind_some, Option.map_some, List.replicate_succ, List.replicate_zero, Nat.reduceSub, Nat.reduceLT, Nat.reduceAdd, reduceCtorEq, ne_eq, not_false_eq_true, true_and, and_true, wi_lst', wi_rng1', sh_inj, int_inj, lst_inj, we_didx', we_idx', we_dget, getK_al, ws_setf, wi_keys, n, np, nl]
  refine ix0 rfl wp ?_
  simp only [we_lit, we_call', we_make', rd_al, sd_al, mk_al, we_glb, we_var, we_op2, we_b1, we_mk, we_cmp, wt_cmp, wt_val, wt_and, wt_or, wt_not, wts_nil, wts_cons, wo_e, wo_v, wos_nil, wos_cons, wes_nil, wes_cons, we_lst, we_tup, we_dnl, we_not, we_isi, we_fld, we_rev, ws_nil, ws_cons, ws_asg, ws_if, ws_for, ws_retS, ws_exp, we_pop, we_mv, ws_app', ws_rvs', rev_li, dl_li, fold0_li, liT_sh, liT_ow2, get_map, ex_eq, List.map_nil, wi_rngL, false_or, or_false, false_and, and_assoc, exists_and_left, exists_false, exists_eq, T.ow.injEq, exists_eq_right, cmp_eq_nil, liT_un, sh_un, rd_nil, mul_l, mul_mm, pow_18, pow_9, pow_6, mod_l, fdv_l, fold_li, nil_li, nil_al,  List.length_map, Int.reduceLT, Int.reduceNeg, Int.reducePow, Nat.lt_add_one, Nat.zero_lt_succ, Nat.reduceMul, Int.reduceToNat, okRng, Int.reduceLE, decide_true, and_self, bin_add, bin_sub, rd_int, rd_abs, cmp_lt, cmp_gt, OVrd_s, OVrd_t, OVsd_s, OVsd_t, OVget_s, OVget_t, rd_sh, sd_sh, rd_li, sd_li, gset, List.length_nil, List.length_cons, Nat.zero_le, if_true, if_false, ite_true, ite_false, Bool.false_eq_true, Nat.sub_self, List.append_nil, List.nil_append, List.cons_append, List.getElem?_cons_zero, List.getElem?_cons_succ, List.set_cons_zero, List.set_cons_succ, Option.some.injEq, exists_eq_left', exists_eq_left, Option.bind_some, Option.map_some, List.replicate_succ, List.replicate_zero, Nat.reduceSub, Nat.reduceLT, Nat.reduceAdd, reduceCtorEq, ne_eq, not_false_eq_true, true_and, and_true, wi_lst', wi_rng1', sh_inj, int_inj, lst_inj, we_didx', we_idx', we_dget, getK_al, ws_setf, wi_keys, nl, sl, cmp_ne_int, decide_true, Bool.not_true]
  have add : pBin .add (.nd .lst (ks.map D.int)) (.nd .lst [.int 5, .int 123456789]) = some (own .lst ((ks ++ [5, 123456789]).map D.int)) := by
    show (if _ then _ else _) = _
    rw [if_pos (by rw [sizeLine_eq]; simp; omega)]
    simp
  have s2 : (T.ow Kd.lst [T.sh (D.int 5), T.sh (D.int 123456789)]).sd = some (.nd .lst [.int 5, .int 123456789]) := rfl
  have ow : ∀ js : List Int, own .lst (js.map D.int) = liT js := fun js => by simp [own, liT]
  simp only [s2, sl, nl, add, ow, we_lit, we_call', we_make', rd_al, sd_al, mk_al, we_glb, we_var, we_op2, we_b1, we_mk, we_cmp, wt_cmp, wt_val, wt_and, wt_or, wt_not, wts_nil, wts_cons, wo_e, wo_v, wos_nil, wos_cons, wes_nil, wes_cons, we_lst, we_tup, we_dnl, we_not, we_isi, we_fld, we_rev, ws_nil, ws_cons, ws_asg, ws_if, ws_for, ws_retS, ws_exp, we_pop, we_mv, ws_app', ws_rvs', rev_li, dl_li, fold0_li, liT_sh, liT_ow2, get_map, ex_eq, List.map_nil, wi_rngL, false_or, or_false, false_and, and_assoc, exists_and_left, exists_false, exists_eq, T.ow.injEq, exists_eq_right, cmp_eq_nil, liT_un, sh_un, rd_nil, mul_l, mul_mm, pow_18, pow_9, pow_6, mod_l, fdv_l, fold_li, nil_li, nil_al,  List.length_map, Int.reduceLT, Int.reduceNeg, Int.reducePow, Nat.lt_add_one, Nat.zero_lt_succ, Nat.reduceMul, Int.reduceToNat, okRng, Int.reduceLE, decide_true, and_self, bin_add, bin_sub, rd_int, rd_abs, cmp_lt, cmp_gt, OVrd_s, OVrd_t, OVsd_s, OVsd_t, OVget_s, OVget_t, rd_sh, sd_sh, rd_li, sd_li, gset, List.length_nil, List.length_cons, Nat.zero_le, if_true, if_false, ite_true, ite_false, Bool.false_eq_true, Nat.sub_self, List.append_nil, List.nil_append, List.cons_append, List.getElem?_cons_zero, List.getElem?_cons_succ, List.set_cons_zero, List.set_cons_succ, Option.some.injEq, exists_eq_left', exists_eq_left, Option.bind_some, Option.map_some, List.replicate_succ, List.replicate_zero, Nat.reduceSub, Nat.reduceLT, Nat.reduceAdd, reduceCtorEq, ne_eq, not_false_eq_true, true_and, and_true, wi_lst', wi_rng1', sh_inj, int_inj, lst_inj, we_didx', we_idx', we_dget, getK_al, ws_setf, wi_keys]
  refine ⟨by rw [sizeLine_eq]; omega, ?_⟩
  refine WS_forN (fun ds e => ∃ ms t p x, ds = List.map D.int ms ∧ e = [t, p, l, x] ∧ StT t s A ∧ PrT p s B) ?_ ?_ ?_
  · exact ⟨_, t, p, _, rfl, rfl, w, wp⟩
  · rintro d r e ⟨ms, t, p, x, h1, rfl, w, wp⟩
    cases ms with
    | nil => cases h1
    | cons m ms =>
      cases h1
      refine ⟨_, rfl, ?_⟩
      simp only [we_lit, we_call', we_make', rd_al, sd_al, mk_al, we_glb, we_var, we_op2, we_b1, we_mk, we_cmp, wt_cmp, wt_val, wt_and, wt_or, wt_not, wts_nil, wts_cons, wo_e, wo_v, wos_nil, wos_cons, wes_nil, wes_cons, we_lst, we_tup, we_dnl, we_not, we_isi, we_fld, we_rev, ws_nil, ws_cons, ws_asg, ws_if, ws_for, ws_retS, ws_exp, we_pop, we_mv, ws_app', ws_rvs', rev_li, dl_li, fold0_li, liT_sh, liT_ow2, get_map, ex_eq, List.map_nil, wi_rngL, false_or, or_false, false_and, and_assoc, exists_and_left, exists_false, exists_eq, T.ow.injEq, exists_eq_right, cmp_eq_nil, liT_un, sh_un, rd_nil, mul_l, mul_mm, pow_18, pow_9, pow_6, mod_l, fdv_l, fold_li, nil_li, nil_al,  List.length_map, Int.reduceLT, Int.reduceNeg, Int.reducePow, Nat.lt_add_one, Nat.zero_lt_succ, Nat.reduceMul, Int.reduceToNat, okRng, Int.reduceLE, decide_true, and_self, bin_add, bin_sub, rd_int, rd_abs, cmp_lt, cmp_gt, OVrd_s, OVrd_t, OVsd_s, OVsd_t, OVget_s, OVget_t, rd_sh, sd_sh, rd_li, sd_li, gset, List.length_nil, List.length_cons, Nat.zero_le, if_true, if_false, ite_true, ite_false, Bool.false_eq_true, Nat.sub_self, List.append_nil, List.nil_append, List.cons_append, List.getElem?_cons_zero, List.getElem?_cons_succ, List.set_cons_zero, List.set_cons_succ, Option.some.injEq, exists_eq_left', exists_eq_left, Option.bind_some, Option.map_some, List.replicate_succ, List.replicate_zero, Nat.reduceSub, Nat.reduceLT, Nat.reduceAdd, reduceCtorEq, ne_eq, not_false_eq_true, true_and, and_true, wi_lst', wi_rng1', sh_inj, int_inj, lst_inj, we_didx', we_idx', we_dget, getK_al, ws_setf, wi_keys]
      refine we_ogi ?_
      simp only [we_lit, we_call', we_make', rd_al, sd_al, mk_al, we_glb, we_var, we_op2, we_b1, we_mk, we_cmp, wt_cmp, wt_val, wt_and, wt_or, wt_not, wts_nil, wts_cons, wo_e, wo_v, wos_nil, wos_cons, wes_nil, wes_cons, we_lst, we_tup, we_dnl, we_not, we_isi, we_fld, we_rev, ws_nil, ws_cons, ws_asg, ws_if, ws_for, ws_retS, ws_exp, we_pop, we_mv, ws_app', ws_rvs', rev_li, dl_li, fold0_li, liT_sh, liT_ow2, get_map, ex_eq, List.map_nil, wi_rngL, false_or, or_false, false_and, and_assoc, exists_and_left, exists_false, exists_eq, T.ow.injEq, exists_eq_right, cmp_eq_nil, liT_un, sh_un, rd_nil, mul_l, mul_mm, pow_18, pow_9, pow_6, mod_l, fdv_l, fold_li, nil_li, nil_al,  List.length_map, Int.reduceLT, Int.reduceNeg, Int.reducePow, Nat.lt_add_one, Nat.zero_lt_succ, Nat.reduceMul, Int.reduceToNat, okRng, Int.reduceLE, decide_true, and_self, bin_add, bin_sub, rd_int, rd_abs, cmp_lt, cmp_gt, OVrd_s, OVrd_t, OVsd_s, OVsd_t, OVget_s, OVget_t, rd_sh, sd_sh, rd_li, sd_li, gset, List.length_nil, List.length_cons, Nat.zero_le, if_true, if_false, ite_true, ite_false, Bool.false_eq_true, Nat.sub_self, List.append_nil, List.nil_append, List.cons_append, List.getElem?_cons_zero, List.getElem?_cons_succ, List.set_cons_zero, List.set_cons_succ, Option.some.injEq, exists_eq_left', exists_eq_left, Option.bind_some, Option.map_some, List.replicate_succ, List.replicate_zero, Nat.reduceSub, Nat.reduceLT, Nat.reduceAdd, reduceCtorEq, ne_eq, not_false_eq_true, true_and, and_true, wi_lst', wi_rng1', sh_inj, int_inj, lst_inj, we_didx', we_idx', we_dget, getK_al, ws_setf, wi_keys, w.ne, pick_st (i := 0) (e := [t, p, l, T.sh (.int m)]) rfl w]
      refine get_call rfl w rfl (by decide) fun t1 w1 => ?_
      simp only [we_lit, we_call', we_make', rd_al, sd_al, mk_al, we_glb, we_var, we_op2, we_b1, we_mk, we_cmp, wt_cmp, wt_val, wt_and, wt_or, wt_not, wts_nil, wts_cons, wo_e, wo_v, wos_nil, wos_cons, wes_nil, wes_cons, we_lst, we_tup, we_dnl, we_not, we_isi, we_fld, we_rev, ws_nil, ws_cons, ws_asg, ws_if, ws_for, ws_retS, ws_exp, we_pop, we_mv, ws_app', ws_rvs', rev_li, dl_li, fold0_li, liT_sh, liT_ow2, get_map, ex_eq, List.map_nil, wi_rngL, false_or, or_false, false_and, and_assoc, exists_and_left, exists_false, exists_eq, T.ow.injEq, exists_eq_right, cmp_eq_nil, liT_un, sh_un, rd_nil, mul_l, mul_mm, pow_18, pow_9, pow_6, mod_l, fdv_l, fold_li, nil_li, nil_al,  List.length_map, Int.reduceLT, Int.reduceNeg, Int.reducePow, Nat.lt_add_one, Nat.zero_lt_succ, Nat.reduceMul, Int.reduceToNat, okRng, Int.reduceLE, decide_true, and_self, bin_add, bin_sub, rd_int, rd_abs, cmp_lt, cmp_gt, OVrd_s, OVrd_t, OVsd_s, OVsd_t, OVget_s, OVget_t, rd_sh, sd_sh, rd_li, sd_li, gset, List.length_nil, List.length_cons, Nat.zero_le, if_true, if_false, ite_true, ite_false, Bool.false_eq_true, Nat.sub_self, List.append_nil, List.nil_append, List.cons_append, List.getElem?_cons_zero, List.getElem?_cons_succ, List.set_cons_zero, List.set_cons_succ, Option.some.injEq, exists_eq_left', exists_eq_left, Option.bind_some, Option.map_some, List.replicate_succ, List.replicate_zero, Nat.reduceSub, Nat.reduceLT, Nat.reduceAdd, reduceCtorEq, ne_eq, not_false_eq_true, true_and, and_true, wi_lst', wi_rng1', sh_inj, int_inj, lst_inj, we_didx', we_idx', we_dget, getK_al, ws_setf, wi_keys]
      refine call_t isint_ok ?_
      simp only [we_lit, we_call', we_make', rd_al, sd_al, mk_al, we_glb, we_var, we_op2, we_b1, we_mk, we_cmp, wt_cmp, wt_val, wt_and, wt_or, wt_not, wts_nil, wts_cons, wo_e, wo_v, wos_nil, wos_cons, wes_nil, wes_cons, we_lst, we_tup, we_dnl, we_not, we_isi, we_fld, we_rev, ws_nil, ws_cons, ws_asg, ws_if, ws_for, ws_retS, ws_exp, we_pop, we_mv, ws_app', ws_rvs', rev_li, dl_li, fold0_li, liT_sh, liT_ow2, get_map, ex_eq, List.map_nil, wi_rngL, false_or, or_false, false_and, and_assoc, exists_and_left, exists_false, exists_eq, T.ow.injEq, exists_eq_right, cmp_eq_nil, liT_un, sh_un, rd_nil, mul_l, mul_mm, pow_18, pow_9, pow_6, mod_l, fdv_l, fold_li, nil_li, nil_al,  List.length_map, Int.reduceLT, Int.reduceNeg, Int.reducePow, Nat.lt_add_one, Nat.zero_lt_succ, Nat.reduceMul, Int.reduceToNat, okRng, Int.reduceLE, decide_true, and_self, bin_add, bin_sub, rd_int, rd_abs, cmp_lt, cmp_gt, OVrd_s, OVrd_t, OVsd_s, OVsd_t, OVget_s, OVget_t, rd_sh, sd_sh, rd_li, sd_li, gset, List.length_nil, List.length_cons, Nat.zero_le, if_true, if_false, ite_true, ite_false, Bool.false_eq_true, Nat.sub_self, List.append_nil, List.nil_append, List.cons_append, List.getElem?_cons_zero, List.getElem?_cons_succ, List.set_cons_zero, List.set_cons_succ, Option.some.injEq, exists_eq_left', exists_eq_left, Option.bind_some, Option.map_some, List.replicate_succ, List.replicate_zero, Nat.reduceSub, Nat.reduceLT, Nat.reduceAdd, reduceCtorEq, ne_eq, not_false_eq_true, true_and, and_true, wi_lst', wi_rng1', sh_inj, int_inj, lst_inj, we_didx', we_idx', we_dget, getK_al, ws_setf, wi_keys, tru_bl, Bool.not_true]
      refine we_ogi ?_
      simp only [we_lit, we_call', we_make', rd_al, sd_al, mk_al, we_glb, we_var, we_op2, we_b1, we_mk, we_cmp, wt_cmp, wt_val, wt_and, wt_or, wt_not, wts_nil, wts_cons, wo_e, wo_v, wos_nil, wos_cons, wes_nil, wes_cons, we_lst, we_tup, we_dnl, we_not, we_isi, we_fld, we_rev, ws_nil, ws_cons, ws_asg, ws_if, ws_for, ws_retS, ws_exp, we_pop, we_mv, ws_app', ws_rvs', rev_li, dl_li, fold0_li, liT_sh, liT_ow2, get_map, ex_eq, List.map_nil, wi_rngL, false_or, or_false, false_and, and_assoc, exists_and_left, exists_false, exists_eq, T.ow.injEq, exists_eq_right, cmp_eq_nil, liT_un, sh_un, rd_nil, mul_l, mul_mm, pow_18, pow_9, pow_6, mod_l, fdv_l, fold_li, nil_li, nil_al,  List.length_map, Int.reduceLT, Int.reduceNeg, Int.reducePow, Nat.lt_add_one, Nat.zero_lt_succ, Nat.reduceMul, Int.reduceToNat, okRng, Int.reduceLE, decide_true, and_self, bin_add, bin_sub, rd_int, rd_abs, cmp_lt, cmp_gt, OVrd_s, OVrd_t, OVsd_s, OVsd_t, OVget_s, OVget_t, rd_sh, sd_sh, rd_li, sd_li, gset, List.length_nil, List.length_cons, Nat.zero_le, if_true, if_false, ite_true, ite_false, Bool.false_eq_true, Nat.sub_self, List.append_nil, List.nil_append, List.cons_append, List.getElem?_cons_zero, List.getElem?_cons_succ, List.set_cons_zero, List.set_cons_succ, Option.some.injEq, exists_eq_left', exists_eq_left, Option.bind_some, Option.map_some, List.replicate_succ, List.replicate_zero, Nat.reduceSub, Nat.reduceLT, Nat.reduceAdd, reduceCtorEq, ne_eq, not_false_eq_true, true_and, and_true, wi_lst', wi_rng1', sh_inj, int_inj, lst_inj, we_didx', we_idx', we_dget, getK_al, ws_setf, wi_keys, w1.ne, pick_st (i := 0) (e := [t1, p, l, T.sh (.int m)]) rfl w1]
      refine get_call rfl w1 rfl (by decide) fun t2 w2 => ?_
      simp only [we_lit, we_call', we_make', rd_al, sd_al, mk_al, we_glb, we_var, we_op2, we_b1, we_mk, we_cmp, wt_cmp, wt_val, wt_and, wt_or, wt_not, wts_nil, wts_cons, wo_e, wo_v, wos_nil, wos_cons, wes_nil, wes_cons, we_lst, we_tup, we_dnl, we_not, we_isi, we_fld, we_rev, ws_nil, ws_cons, ws_asg, ws_if, ws_for, ws_retS, ws_exp, we_pop, we_mv, ws_app', ws_rvs', rev_li, dl_li, fold0_li, liT_sh, liT_ow2, get_map, ex_eq, List.map_nil, wi_rngL, false_or, or_false, false_and, and_assoc, exists_and_left, exists_false, exists_eq, T.ow.injEq, exists_eq_right, cmp_eq_nil, liT_un, sh_un, rd_nil, mul_l, mul_mm, pow_18, pow_9, pow_6, mod_l, fdv_l, fold_li, nil_li, nil_al,  List.length_map, Int.reduceLT, Int.reduceNeg, Int.reducePow, Nat.lt_add_one, Nat.zero_lt_succ, Nat.reduceMul, Int.reduceToNat, okRng, Int.reduceLE, decide_true, and_self, bin_add, bin_sub, rd_int, rd_abs, cmp_lt, cmp_gt, OVrd_s, OVrd_t, OVsd_s, OVsd_t, OVget_s, OVget_t, rd_sh, sd_sh, rd_li, sd_li, gset, List.length_nil, List.length_cons, Nat.zero_le, if_true, if_false, ite_true, ite_false, Bool.false_eq_true, Nat.sub_self, List.append_nil, List.nil_append, List.cons_append, List.getElem?_cons_zero, List.getElem?_cons_succ, List.set_cons_zero, List.set_cons_succ, Option.some.injEq, exists_eq_left', exists_eq_left, Option.bind_some, Option.map_some, List.replicate_succ, List.replicate_zero, Nat.reduceSub, Nat.reduceLT, Nat.reduceAdd, reduceCtorEq, ne_eq, not_false_eq_true, true_and, and_true, wi_lst', wi_rng1', sh_inj, int_inj, lst_inj, we_didx', we_idx', we_dget, getK_al, ws_setf, wi_keys, wp.ne]
      refine ix1 rfl wp fun p1 wp1 => ?_
      simp only [we_lit, we_call', we_make', rd_al, sd_al, mk_al, we_glb, we_var, we_op2, we_b1, we_mk, we_cmp, wt_cmp, wt_val, wt_and, wt_or, wt_not, wts_nil, wts_cons, wo_e, wo_v, wos_nil, wos_cons, wes_nil, wes_cons, we_lst, we_tup, we_dnl, we_not, we_isi, we_fld, we_rev, ws_nil, ws_cons, ws_asg, ws_if, ws_for, ws_retS, ws_exp, we_pop, we_mv, ws_app', ws_rvs', rev_li, dl_li, fold0_li, liT_sh, liT_ow2, get_map, ex_eq, List.map_nil, wi_rngL, false_or, or_false, false_and, and_assoc, exists_and_left, exists_false, exists_eq, T.ow.injEq, exists_eq_right, cmp_eq_nil, liT_un, sh_un, rd_nil, mul_l, mul_mm, pow_18, pow_9, pow_6, mod_l, fdv_l, fold_li, nil_li, nil_al,  List.length_map, Int.reduceLT, Int.reduceNeg, Int.reducePow, Nat.lt_add_one, Nat.zero_lt_succ, Nat.reduceMul, Int.reduceToNat, okRng, Int.reduceLE, decide_true, and_self, bin_add, bin_sub, rd_int, rd_abs, cmp_lt, cmp_gt, OVrd_s, OVrd_t, OVsd_s, OVsd_t, OVget_s, OVget_t, rd_sh, sd_sh, rd_li, sd_li, gset, List.length_nil, List.length_cons, Nat.zero_le, if_true, if_false, ite_true, ite_false, Bool.false_eq_true, Nat.sub_self, List.append_nil, List.nil_append, List.cons_append, List.getElem?_cons_zero, List.getElem?_cons_succ, List.set_cons_zero, List.set_cons_succ, Option.some.injEq, exists_eq_left', exists_eq_left, Option.bind_some, Option.map_some, List.replicate_succ, List.replicate_zero, Nat.reduceSub, Nat.reduceLT, Nat.reduceAdd, reduceCtorEq, ne_eq, not_false_eq_true, true_and, and_true, wi_lst', wi_rng1', sh_inj, int_inj, lst_inj, we_didx', we_idx', we_dget, getK_al, ws_setf, wi_keys]
      refine ⟨rfl, .int 0, rfl, ?_⟩
      have g : (Option.map D.int (gt B m)).getD (.int 0) = .int ((gt B m).getD 0) := by cases gt B m <;> rfl
      simp only [g, cmp_ne_int, eq m, decide_true, Bool.not_true, we_lit, we_call', we_make', rd_al, sd_al, mk_al, we_glb, we_var, we_op2, we_b1, we_mk, we_cmp, wt_cmp, wt_val, wt_and, wt_or, wt_not, wts_nil, wts_cons, wo_e, wo_v, wos_nil, wos_cons, wes_nil, wes_cons, we_lst, we_tup, we_dnl, we_not, we_isi, we_fld, we_rev, ws_nil, ws_cons, ws_asg, ws_if, ws_for, ws_retS, ws_exp, we_pop, we_mv, ws_app', ws_rvs', rev_li, dl_li, fold0_li, liT_sh, liT_ow2, get_map, ex_eq, List.map_nil, wi_rngL, false_or, or_false, false_and, and_assoc, exists_and_left, exists_false, exists_eq, T.ow.injEq, exists_eq_right, cmp_eq_nil, liT_un, sh_un, rd_nil, mul_l, mul_mm, pow_18, pow_9, pow_6, mod_l, fdv_l, fold_li, nil_li, nil_al,  List.length_map, Int.reduceLT, Int.reduceNeg, Int.reducePow, Nat.lt_add_one, Nat.zero_lt_succ, Nat.reduceMul, Int.reduceToNat, okRng, Int.reduceLE, decide_true, and_self, bin_add, bin_sub, rd_int, rd_abs, cmp_lt, cmp_gt, OVrd_s, OVrd_t, OVsd_s, OVsd_t, OVget_s, OVget_t, rd_sh, sd_sh, rd_li, sd_li, gset, List.length_nil, List.length_cons, Nat.zero_le, if_true, if_false, ite_true, ite_false, Bool.false_eq_true, Nat.sub_self, List.append_nil, List.nil_append, List.cons_append, List.getElem?_cons_zero, List.getElem?_cons_succ, List.set_cons_zero, List.set_cons_succ, Option.some.injEq, exists_eq_left', exists_eq_left, Option.bind_some, Option.map_some, List.replicate_succ, List.replicate_zero, Nat.reduceSub, Nat.reduceLT, Nat.reduceAdd, reduceCtorEq, ne_eq, not_false_eq_true, true_and, and_true, wi_lst', wi_rng1', sh_inj, int_inj, lst_inj, we_didx', we_idx', we_dget, getK_al, ws_setf, wi_keys]
      exact ⟨ms, rfl, t2, p1, _, rfl, w2, wp1⟩
  · rintro e ⟨ms, t, p, x, h1, rfl, w, wp⟩
    simp only [we_lit, we_call', we_make', rd_al, sd_al, mk_al, we_glb, we_var, we_op2, we_b1, we_mk, we_cmp, wt_cmp, wt_val, wt_and, wt_or, wt_not, wts_nil, wts_cons, wo_e, wo_v, wos_nil, wos_cons, wes_nil, wes_cons, we_lst, we_tup, we_dnl, we_not, we_isi, we_fld, we_rev, ws_nil, ws_cons, ws_asg, ws_if, ws_for, ws_retS, ws_exp, we_pop, we_mv, ws_app', ws_rvs', rev_li, dl_li, fold0_li, liT_sh, liT_ow2, get_map, ex_eq, List.map_nil, wi_rngL, false_or, or_false, false_and, and_assoc, exists_and_left, exists_false, exists_eq, T.ow.injEq, exists_eq_right, cmp_eq_nil, liT_un, sh_un, rd_nil, mul_l, mul_mm, pow_18, pow_9, pow_6, mod_l, fdv_l, fold_li, nil_li, nil_al,  List.length_map, Int.reduceLT, Int.reduceNeg, Int.reducePow, Nat.lt_add_one, Nat.zero_lt_succ, Nat.reduceMul, Int.reduceToNat, okRng, Int.reduceLE, decide_true, and_self, bin_add, bin_sub, rd_int, rd_abs, cmp_lt, cmp_gt, OVrd_s, OVrd_t, OVsd_s, OVsd_t, OVget_s, OVget_t, rd_sh, sd_sh, rd_li, sd_li, gset, List.length_nil, List.length_cons, Nat.zero_le, if_true, if_false, ite_true, ite_false, Bool.false_eq_true, Nat.sub_self, List.append_nil, List.nil_append, List.cons_append, List.getElem?_cons_zero, List.getElem?_cons_succ, List.set_cons_zero, List.set_cons_succ, Option.some.injEq, exists_eq_left', exists_eq_left, Option.bind_some, Option.map_some, List.replicate_succ, List.replicate_zero, Nat.reduceSub, Nat.reduceLT, Nat.reduceAdd, reduceCtorEq, ne_eq, not_false_eq_true, true_and, and_true, wi_lst', wi_rng1', sh_inj, int_inj, lst_inj, we_didx', we_idx', we_dget, getK_al, ws_setf, wi_keys]
    refine we_ocmp ?_
    simp only [we_lit, we_call', we_make', rd_al, sd_al, mk_al, we_glb, we_var, we_op2, we_b1, we_mk, we_cmp, wt_cmp, wt_val, wt_and, wt_or, wt_not, wts_nil, wts_cons, wo_e, wo_v, wos_nil, wos_cons, wes_nil, wes_cons, we_lst, we_tup, we_dnl, we_not, we_isi, we_fld, we_rev, ws_nil, ws_cons, ws_asg, ws_if, ws_for, ws_retS, ws_exp, we_pop, we_mv, ws_app', ws_rvs', rev_li, dl_li, fold0_li, liT_sh, liT_ow2, get_map, ex_eq, List.map_nil, wi_rngL, false_or, or_false, false_and, and_assoc, exists_and_left, exists_false, exists_eq, T.ow.injEq, exists_eq_right, cmp_eq_nil, liT_un, sh_un, rd_nil, mul_l, mul_mm, pow_18, pow_9, pow_6, mod_l, fdv_l, fold_li, nil_li, nil_al,  List.length_map, Int.reduceLT, Int.reduceNeg, Int.reducePow, Nat.lt_add_one, Nat.zero_lt_succ, Nat.reduceMul, Int.reduceToNat, okRng, Int.reduceLE, decide_true, and_self, bin_add, bin_sub, rd_int, rd_abs, cmp_lt, cmp_gt, OVrd_s, OVrd_t, OVsd_s, OVsd_t, OVget_s, OVget_t, rd_sh, sd_sh, rd_li, sd_li, gset, List.length_nil, List.length_cons, Nat.zero_le, if_true, if_false, ite_true, ite_false, Bool.false_eq_true, Nat.sub_self, List.append_nil, List.nil_append, List.cons_append, List.getElem?_cons_zero, List.getElem?_cons_succ, List.set_cons_zero, List.set_cons_succ, Option.some.injEq, exists_eq_left', exists_eq_left, Option.bind_some, Option.map_some, List.replicate_succ, List.replicate_zero, Nat.reduceSub, Nat.reduceLT, Nat.reduceAdd, reduceCtorEq, ne_eq, not_false_eq_true, true_and, and_true, wi_lst', wi_rng1', sh_inj, int_inj, lst_inj, we_didx', we_idx', we_dget, getK_al, ws_setf, wi_keys, w.ne, wp.ne]
    refine ix0 rfl wp ?_
    simp only [we_lit, we_call', we_make', rd_al, sd_al, mk_al, we_glb, we_var, we_op2, we_b1, we_mk, we_cmp, wt_cmp, wt_val, wt_and, wt_or, wt_not, wts_nil, wts_cons, wo_e, wo_v, wos_nil, wos_cons, wes_nil, wes_cons, we_lst, we_tup, we_dnl, we_not, we_isi, we_fld, we_rev, ws_nil, ws_cons, ws_asg, ws_if, ws_for, ws_retS, ws_exp, we_pop, we_mv, ws_app', ws_rvs', rev_li, dl_li, fold0_li, liT_sh, liT_ow2, get_map, ex_eq, List.map_nil, wi_rngL, false_or, or_false, false_and, and_assoc, exists_and_left, exists_false, exists_eq, T.ow.injEq, exists_eq_right, cmp_eq_nil, liT_un, sh_un, rd_nil, mul_l, mul_mm, pow_18, pow_9, pow_6, mod_l, fdv_l, fold_li, nil_li, nil_al,  List.length_map, Int.reduceLT, Int.reduceNeg, Int.reducePow, Nat.lt_add_one, Nat.zero_lt_succ, Nat.reduceMul, Int.reduceToNat, okRng, Int.reduceLE, decide_true, and_self, bin_add, bin_sub, rd_int, rd_abs, cmp_lt, cmp_gt, OVrd_s, OVrd_t, OVsd_s, OVsd_t, OVget_s, OVget_t, rd_sh, sd_sh, rd_li, sd_li, gset, List.length_nil, List.length_cons, Nat.zero_le, if_true, if_false, ite_true, ite_false, Bool.false_eq_true, Nat.sub_self, List.append_nil, List.nil_append, List.cons_append, List.getElem?_cons_zero, List.getElem?_cons_succ, List.set_cons_zero, List.set_cons_succ, Option.some.injEq, exists_eq_left', exists_eq_left, Option.bind_some, Option.map_some, List.replicate_succ, List.replicate_zero, Nat.reduceSub, Nat.reduceLT, Nat.reduceAdd, reduceCtorEq, ne_eq, not_false_eq_true, true_and, and_true, wi_lst', wi_rng1', sh_inj, int_inj, lst_inj, we_didx', we_idx', we_dget, getK_al, ws_setf, wi_keys, wp.ne]
    refine ix1 rfl wp fun p1 wp1 => ?_
    simp only [we_lit, we_call', we_make', rd_al, sd_al, mk_al, we_glb, we_var, we_op2, we_b1, we_mk, we_cmp, wt_cmp, wt_val, wt_and, wt_or, wt_not, wts_nil, wts_cons, wo_e, wo_v, wos_nil, wos_cons, wes_nil, wes_cons, we_lst, we_tup, we_dnl, we_not, we_isi, we_fld, we_rev, ws_nil, ws_cons, ws_asg, ws_if, ws_for, ws_retS, ws_exp, we_pop, we_mv, ws_app', ws_rvs', rev_li, dl_li, fold0_li, liT_sh, liT_ow2, get_map, ex_eq, List.map_nil, wi_rngL, false_or, or_false, false_and, and_assoc, exists_and_left, exists_false, exists_eq, T.ow.injEq, exists_eq_right, cmp_eq_nil, liT_un, sh_un, rd_nil, mul_l, mul_mm, pow_18, pow_9, pow_6, mod_l, fdv_l, fold_li, nil_li, nil_al,  List.length_map, Int.reduceLT, Int.reduceNeg, Int.reducePow, Nat.lt_add_one, Nat.zero_lt_succ, Nat.reduceMul, Int.reduceToNat, okRng, Int.reduceLE, decide_true, and_self, bin_add, bin_sub, rd_int, rd_abs, cmp_lt, cmp_gt, OVrd_s, OVrd_t, OVsd_s, OVsd_t, OVget_s, OVget_t, rd_sh, sd_sh, rd_li, sd_li, gset, List.length_nil, List.length_cons, Nat.zero_le, if_true, if_false, ite_true, ite_false, Bool.false_eq_true, Nat.sub_self, List.append_nil, List.nil_append, List.cons_append, List.getElem?_cons_zero, List.getElem?_cons_succ, List.set_cons_zero, List.set_cons_succ, Option.some.injEq, exists_eq_left', exists_eq_left, Option.bind_some, Option.map_some, List.replicate_succ, List.replicate_zero, Nat.reduceSub, Nat.reduceLT, Nat.reduceAdd, reduceCtorEq, ne_eq, not_false_eq_true, true_and, and_true, wi_lst', wi_rng1', sh_inj, int_inj, lst_inj, we_didx', we_idx', we_dget, getK_al, ws_setf, wi_keys]
    refine init_call_tt (A := B) (.inl rfl) ?_
    refine ⟨2, pick_st (i := 0) rfl w, ins_st rfl w, ins_stT .o, cEq, rfl, ?_⟩
    refine eq_call_st rfl w .o nA nB lA lB fun b t1 w1 hb => ?_
    have hbt : b = true := hb.mpr ⟨rfl, fun k => by rw [gt_nz nA, gt_nz nB]; exact filt_eq (eq k)⟩
    subst hbt
    simp only [we_lit, we_call', we_make', rd_al, sd_al, mk_al, we_glb, we_var, we_op2, we_b1, we_mk, we_cmp, wt_cmp, wt_val, wt_and, wt_or, wt_not, wts_nil, wts_cons, wo_e, wo_v, wos_nil, wos_cons, wes_nil, wes_cons, we_lst, we_tup, we_dnl, we_not, we_isi, we_fld, we_rev, ws_nil, ws_cons, ws_asg, ws_if, ws_for, ws_retS, ws_exp, we_pop, we_mv, ws_app', ws_rvs', rev_li, dl_li, fold0_li, liT_sh, liT_ow2, get_map, ex_eq, List.map_nil, wi_rngL, false_or, or_false, false_and, and_assoc, exists_and_left, exists_false, exists_eq, T.ow.injEq, exists_eq_right, cmp_eq_nil, liT_un, sh_un, rd_nil, mul_l, mul_mm, pow_18, pow_9, pow_6, mod_l, fdv_l, fold_li, nil_li, nil_al,  List.length_map, Int.reduceLT, Int.reduceNeg, Int.reducePow, Nat.lt_add_one, Nat.zero_lt_succ, Nat.reduceMul, Int.reduceToNat, okRng, Int.reduceLE, decide_true, and_self, bin_add, bin_sub, rd_int, rd_abs, cmp_lt, cmp_gt, OVrd_s, OVrd_t, OVsd_s, OVsd_t, OVget_s, OVget_t, rd_sh, sd_sh, rd_li, sd_li, gset, List.length_nil, List.length_cons, Nat.zero_le, if_true, if_false, ite_true, ite_false, Bool.false_eq_true, Nat.sub_self, List.append_nil, List.nil_append, List.cons_append, List.getElem?_cons_zero, List.getElem?_cons_succ, List.set_cons_zero, List.set_cons_succ, Option.some.injEq, exists_eq_left', exists_eq_left, Option.bind_some, Option.map_some, List.replicate_succ, List.replicate_zero, Nat.reduceSub, Nat.reduceLT, Nat.reduceAdd, reduceCtorEq, ne_eq, not_false_eq_true, true_and, and_true, wi_lst', wi_rng1', sh_inj, int_inj, lst_inj, we_didx', we_idx', we_dget, getK_al, ws_setf, wi_keys, cmp_is, decide_true]
    exact ⟨t1, p1, rfl, w1, wp1⟩
end BC
set_option Elab.async false
set_option linter.all false
set_option maxRecDepth 100000
set_option maxHeartbeats 4000000
namespace BC
open PySem PySem.Spec PyProof.Rows L2
theorem ixl_1_0 : ixN 1 (0) = some 0 := rfl
theorem ixl_2_0 : ixN 2 (0) = some 0 := rfl
theorem ixl_2_1 : ixN 2 (1) = some 1 := rfl
theorem ixl_3_0 : ixN 3 (0) = some 0 := rfl
theorem ixl_3_1 : ixN 3 (1) = some 1 := rfl
theorem ixl_3_2 : ixN 3 (2) = some 2 := rfl
theorem ixl_4_0 : ixN 4 (0) = some 0 := rfl
theorem ixl_4_1 : ixN 4 (1) = some 1 := rfl
theorem ixl_4_2 : ixN 4 (2) = some 2 := rfl
theorem ixl_4_3 : ixN 4 (3) = some 3 := rfl
theorem ixl_5_0 : ixN 5 (0) = some 0 := rfl
theorem ixl_5_1 : ixN 5 (1) = some 1 := rfl
theorem ixl_5_2 : ixN 5 (2) = some 2 := rfl
theorem ixl_5_3 : ixN 5 (3) = some 3 := rfl
theorem ixl_5_4 : ixN 5 (4) = some 4 := rfl
theorem ixl_6_0 : ixN 6 (0) = some 0 := rfl
theorem ixl_6_1 : ixN 6 (1) = some 1 := rfl
theorem ixl_6_2 : ixN 6 (2) = some 2 := rfl
theorem ixl_6_3 : ixN 6 (3) = some 3 := rfl
theorem ixl_6_4 : ixN 6 (4) = some 4 := rfl
theorem ixl_6_5 : ixN 6 (5) = some 5 := rfl
theorem ixl_1_m : ixN 1 (-1) = some 0 := rfl
theorem ixl_2_m : ixN 2 (-1) = some 1 := rfl
theorem ixl_3_m : ixN 3 (-1) = some 2 := rfl
theorem dT_un {A : Al} : (dT A = .un) = False := by simp [dT]
theorem own_li {is : List Int} : own .lst (is.map D.int) = liT is := by simp [own, liT]
theorem pk_s {cj : List (Nat × Nat)} {i : Nat} {e : En} : pick cj (.s i) e = ((e[i]?).bind clsOf).bind fun c => cj.lookup c := by
  show (match e[i]? with
    | some t => match clsOf t with
      | some c => cj.lookup c
      | none => none
    | none => none) = _
  cases e[i]? with
  | none => rfl
  | some t =>
    dsimp only [Option.bind_some]
    cases clsOf t <;> rfl
theorem pk_t {cj : List (Nat × Nat)} {t : T} {e : En} : pick cj (.t t) e = (clsOf t).bind fun c => cj.lookup c := by
  show (match clsOf t with
      | some c => cj.lookup c
      | none => none) = _
  cases clsOf t <;> rfl
theorem cls_ow {c : Nat} {ts : List T} : clsOf (.ow (.ins c) ts) = some c := rfl
theorem cls_sh {c : Nat} {ds : List D} : clsOf (.sh (.nd (.ins c) ds)) = some c := rfl
theorem lk1 {a b : Nat} {l : List (Nat × Nat)} : List.lookup a ((a, b) :: l) = some b := by simp
theorem len_l {ds : List D} : pRd .len (.nd .lst ds) = some (.int ds.length) := rfl
theorem len_t {ds : List D} : pRd .len (.nd .tup ds) = some (.int ds.length) := rfl
theorem StT.cls {t : T} {s : Int} {A : Al} (w : StT t s A) : clsOf t = some 0 := by rcases w with rfl | rfl | rfl <;> rfl
theorem rd_neg {i : Int} : pRd .neg (.int i) = some (.int (-i)) := rfl
theorem mx_int {i j : Int} : pB2 .max (.int i) (.int j) = some (.int (if j > i then j else i)) := rfl
theorem bl_inj {a b : Bool} : (D.bl a = D.bl b) = (a = b) := by simp
theorem ixS_l {i : Int} {n : Nat} : ixSel i .lst n = ixN n i := rfl
theorem ixS_t {i : Int} {n : Nat} : ixSel i .tup n = ixN n i := rfl
theorem ixS_k {i : Int} {n : Nat} : ixSel i .ktp n = ixN n i := rfl
theorem fd_s {c j n : Nat} : fdSel c j (.ins c) n = if j < n then some j else none := by simp [fdSel]
theorem cmp_le {i j : Int} : pCmp .le (.int i) (.int j) = some (decide (i ≤ j)) := rfl
theorem cmp_ge {i j : Int} : pCmp .ge (.int i) (.int j) = some (decide (j ≤ i)) := rfl
theorem ixN_in {n : Nat} {i : Int} (h0 : 0 ≤ i) (h1 : i < n) : ixN n i = some i.toNat := by
  unfold ixN
  rw [if_pos h0, if_pos h1]
section
variable {t : T} {s : Int} {A : Al} {Q : D → T → Prop}
theorem ko_fld0 (w : StT t s A) (q : Q (.int s) t) : Ko t (fdSel 0 0) Q := by
  rcases w with rfl | rfl | rfl
  · exact ko_sh.mpr ⟨0, rfl, _, rfl, q⟩
  · exact ko_ow.mpr ⟨0, rfl, _, rfl, q⟩
  · exact ko_ow.mpr ⟨0, rfl, _, rfl, q⟩
theorem ko_fld1 (w : StT t s A) (q : ∀ t', StT t' s A → Q (dD A) t') : Ko t (fdSel 0 1) Q := by
  rcases w with rfl | rfl | rfl
  · exact ko_sh.mpr ⟨1, rfl, _, rfl, q _ .d⟩
  · exact ko_ow.mpr ⟨1, rfl, _, rd_al, q _ (.inr (.inr rfl))⟩
  · exact ko_ow.mpr ⟨1, rfl, _, rfl, q _ (.inr (.inr rfl))⟩
theorem ko_ix0 (w : PrT t s A) (q : Q (.int s) t) : Ko t (ixSel 0) Q := by
  rcases w with rfl | rfl | rfl
  · exact ko_ow.mpr ⟨0, rfl, _, rfl, q⟩
  · exact ko_ow.mpr ⟨0, rfl, _, rfl, q⟩
  · exact ko_sh.mpr ⟨0, rfl, _, rfl, q⟩
theorem ko_ix1 (w : PrT t s A) (q : ∀ t', PrT t' s A → Q (dD A) t') : Ko t (ixSel 1) Q := by
  rcases w with rfl | rfl | rfl
  · exact ko_ow.mpr ⟨1, rfl, _, rd_al, q _ (.inr (.inl rfl))⟩
  · exact ko_ow.mpr ⟨1, rfl, _, rfl, q _ (.inr (.inl rfl))⟩
  · exact ko_sh.mpr ⟨1, rfl, _, rfl, q _ (.inr (.inr rfl))⟩
theorem ko_alS {k v : Int} (g : gt A k = some v) (q : Q (.int v) (dT A)) : Ko (dT A) (dkSel (.int k)) Q := by
  obtain ⟨n, h1, h2, h3, h4⟩ := ix_al A k v g
  refine ko_ow.mpr ⟨n, h1, _, by rw [h2]; rfl, ?_⟩
  rw [show (vT A).set n (.sh (.int v)) = vT A from by
    apply List.ext_getElem?
    intro j
    by_cases q : n = j
    · subst q
      rw [List.getElem?_set_self', h2]
      rfl
    · rw [List.getElem?_set_ne q]]
  exact q
theorem ko_alD {k v : Int} (g : gt A k = some v) (q : Q (.int v) (.sh (dD A))) : Ko (.sh (dD A)) (dkSel (.int k)) Q := by
  obtain ⟨n, h1, h2, h3, h4⟩ := ix_al A k v g
  exact ko_sh.mpr ⟨n, h1, _, h3, q⟩
theorem take_sp {is : List Int} {m : Int} (hm : 0 < m) : Sp cTake [liT is, iT m] fun t ts' => ∃ r is', t = iT r ∧ ts' = [liT is', iT m] ∧ 0 ≤ r ∧ r < m := take_ok hm
/-- take, with the goal that follows -/
theorem take_go {is : List Int} {m : Int} {Q : T → List T → Prop} (hm : 0 < m) (q : ∀ r is', 0 ≤ r → r < m → Q (iT r) [liT is', iT m]) : Sp cTake [liT is, iT m] Q :=
  (take_sp hm).mono fun t ts' ⟨r, is', h1, h2, h3, h4⟩ => by subst h1; subst h2; exact q r is' h3 h4
end
end BC
set_option Elab.async false
set_option linter.all false
set_option maxRecDepth 100000
set_option maxHeartbeats 4000000
namespace BC
open PySem PySem.Spec PyProof.Rows L2
local macro_rules
  | `(tactic| push_cast) => `(tactic| simp only [c_we_lit, c_we_call', c_we_make', rd_al, sd_al, mk_al, c_we_glb, c_we_var, c_we_op2, c_we_b1, c_we_mk, c_we_cmp, c_wt_cmp, c_wt_val, c_wt_and, c_wt_or, c_wt_not, c_wts_nil, c_wts_cons, c_wo_e, c_wo_v, c_wos_nil, c_wos_cons, c_wes_nil, c_wes_cons, c_we_lst, c_we_tup, c_we_dnl, c_we_not, c_we_isi, c_we_fld, c_we_rev, c_ws_nil, c_ws_cons, c_ws_asg, c_ws_if, c_ws_for, c_ws_retS, c_ws_exp, c_we_pop, c_we_mv, c_ws_app', c_ws_rvs', rev_li, dl_li, fold0_li, liT_sh, liT_ow2, get_map, ex_eq, List.map_nil, c_wi_rngL, false_or, or_false, false_and, and_assoc, exists_and_left, exists_false, exists_eq, T.ow.injEq, exists_eq_right, cmp_eq_nil, liT_un, sh_un, rd_nil, mul_l, mul_mm, pow_18, pow_9, pow_6, mod_l, fdv_l, fold_li, nil_li, nil_al,  List.length_map, Int.reduceLT, Int.reduceNeg, Int.reducePow, Nat.lt_add_one, Nat.zero_lt_succ, Nat.reduceMul, Int.reduceToNat, okRng, Int.reduceLE, decide_true, and_self, bin_add, bin_sub, rd_int, rd_abs, cmp_lt, cmp_gt, OVrd_s, OVrd_t, OVsd_s, OVsd_t, OVget_s, OVget_t, rd_sh, sd_sh, rd_li, sd_li, gset, List.length_nil, List.length_cons, Nat.zero_le, if_true, if_false, ite_true, ite_false, Bool.false_eq_true, Nat.sub_self, List.append_nil, List.nil_append, List.cons_append, List.getElem?_cons_zero, List.getElem?_cons_succ, List.set_cons_zero, List.set_cons_succ, Option.some.injEq, exists_eq_left', exists_eq_left, Option.bind_some, Option.map_some, List.replicate_succ, List.replicate_zero, Nat.reduceSub, Nat.reduceLT, Nat.reduceAdd, reduceCtorEq, ne_eq, not_false_eq_true, true_and, and_true, c_wi_lst', c_wi_rng1', sh_inj, int_inj, lst_inj, c_we_didx', c_we_idx', c_we_dget, getK_al, c_ws_setf, c_wi_keys, dT_un, st_ne0, own_li, c_we_callF, c_we_makeF, c_ln_nil, c_ln_s, c_ln_t, back_nil, back_s, back_t, c_we_kid_s, c_we_kid_t, ko_sh, ko_ow, c_we_chn, c_wt_chn, c_we_and', c_we_ite, c_we_b2, c_we_lc', c_we_meth', gsets, List.map_cons, tru_bl, Bool.not_true, Bool.not_false, cmp_eq_int, cmp_ne_int, cmp_le, cmp_ge, ixS_l, ixS_t, ixS_k, fd_s, decide_false, sizeLine_eq, Nat.reduceEqDiff, Nat.reduceLeDiff, c_wi_enm, rd_neg, mx_int, bl_inj, cmp_lt, wipeE, pk_s, pk_t, cls_ow, cls_sh, lk1, Option.bind_none, len_l, len_t, ixl_1_0, ixl_2_0, ixl_2_1, ixl_3_0, ixl_3_1, ixl_3_2, ixl_4_0, ixl_4_1, ixl_4_2, ixl_4_3, ixl_5_0, ixl_5_1, ixl_5_2, ixl_5_3, ixl_5_4, ixl_6_0, ixl_6_1, ixl_6_2, ixl_6_3, ixl_6_4, ixl_6_5, ixl_1_m, ixl_2_m, ixl_3_m])
  | `(tactic| push_cast [$ls,*]) => `(tactic| simp only [c_we_lit, c_we_call', c_we_make', rd_al, sd_al, mk_al, c_we_glb, c_we_var, c_we_op2, c_we_b1, c_we_mk, c_we_cmp, c_wt_cmp, c_wt_val, c_wt_and, c_wt_or, c_wt_not, c_wts_nil, c_wts_cons, c_wo_e, c_wo_v, c_wos_nil, c_wos_cons, c_wes_nil, c_wes_cons, c_we_lst, c_we_tup, c_we_dnl, c_we_not, c_we_isi, c_we_fld, c_we_rev, c_ws_nil, c_ws_cons, c_ws_asg, c_ws_if, c_ws_for, c_ws_retS, c_ws_exp, c_we_pop, c_we_mv, c_ws_app', c_ws_rvs', rev_li, dl_li, fold0_li, liT_sh, liT_ow2, get_map, ex_eq, List.map_nil, c_wi_rngL, false_or, or_false, false_and, and_assoc, exists_and_left, exists_false, exists_eq, T.ow.injEq, exists_eq_right, cmp_eq_nil, liT_un, sh_un, rd_nil, mul_l, mul_mm, pow_18, pow_9, pow_6, mod_l, fdv_l, fold_li, nil_li, nil_al,  List.length_map, Int.reduceLT, Int.reduceNeg, Int.reducePow, Nat.lt_add_one, Nat.zero_lt_succ, Nat.reduceMul, Int.reduceToNat, okRng, Int.reduceLE, decide_true, and_self, bin_add, bin_sub, rd_int, rd_abs, cmp_lt, cmp_gt, OVrd_s, OVrd_t, OVsd_s, OVsd_t, OVget_s, OVget_t, rd_sh, sd_sh, rd_li, sd_li, gset, List.length_nil, List.length_cons, Nat.zero_le, if_true, if_false, ite_true, ite_false, Bool.false_eq_true, Nat.sub_self, List.append_nil, List.nil_append, List.cons_append, List.getElem?_cons_zero, List.getElem?_cons_succ, List.set_cons_zero, List.set_cons_succ, Option.some.injEq, exists_eq_left', exists_eq_left, Option.bind_some, Option.map_some, List.replicate_succ, List.replicate_zero, Nat.reduceSub, Nat.reduceLT, Nat.reduceAdd, reduceCtorEq, ne_eq, not_false_eq_true, true_and, and_true, c_wi_lst', c_wi_rng1', sh_inj, int_inj, lst_inj, c_we_didx', c_we_idx', c_we_dget, getK_al, c_ws_setf, c_wi_keys, dT_un, st_ne0, own_li, c_we_callF, c_we_makeF, c_ln_nil, c_ln_s, c_ln_t, back_nil, back_s, back_t, c_we_kid_s, c_we_kid_t, ko_sh, ko_ow, c_we_chn, c_wt_chn, c_we_and', c_we_ite, c_we_b2, c_we_lc', c_we_meth', gsets, List.map_cons, tru_bl, Bool.not_true, Bool.not_false, cmp_eq_int, cmp_ne_int, cmp_le, cmp_ge, ixS_l, ixS_t, ixS_k, fd_s, decide_false, sizeLine_eq, Nat.reduceEqDiff, Nat.reduceLeDiff, c_wi_enm, rd_neg, mx_int, bl_inj, cmp_lt, wipeE, pk_s, pk_t, cls_ow, cls_sh, lk1, Option.bind_none, len_l, len_t, ixl_1_0, ixl_2_0, ixl_2_1, ixl_3_0, ixl_3_1, ixl_3_2, ixl_4_0, ixl_4_1, ixl_4_2, ixl_4_3, ixl_5_0, ixl_5_1, ixl_5_2, ixl_5_3, ixl_5_4, ixl_6_0, ixl_6_1, ixl_6_2, ixl_6_3, ixl_6_4, ixl_6_5, ixl_1_m, ixl_2_m, ixl_3_m, $ls,*])
theorem ko_li {is : List Int} {i : Int} {Q : D → T → Prop} : Ko (liT is) (ixSel i) Q ↔ ∃ n, ixN is.length i = some n ∧ ∃ j, is[n]? = some j ∧ Q (.int j) (liT is) := by
  unfold liT
  rw [ko_ow]
  simp only [List.length_map, ixS_l]
  refine ⟨fun ⟨n, h, d, g, q⟩ => ?_, fun ⟨n, h, j, g, q⟩ => ⟨n, h, .int j, by simp [g, T.rd], ?_⟩⟩
  · cases e : is[n]? with
    | none => simp [e] at g
    | some j =>
      have : d = .int j := by simpa [e, T.rd, eq_comm] using g
      subst this
      refine ⟨n, h, j, e, ?_⟩
      rwa [show (is.map iT).set n (.sh (.int j)) = is.map iT from set_same (by simp [e])] at q
  · rw [show (is.map iT).set n (.sh (.int j)) = is.map iT from set_same (by simp [g])]
    exact q
theorem ko_li_in {is : List Int} {i : Int} {Q : D → T → Prop} (h0 : 0 ≤ i) (h1 : i < is.length) (q : ∀ j, j ∈ is → Q (.int j) (liT is)) : Ko (liT is) (ixSel i) Q := by
  have hj : i.toNat < is.length := by omega
  exact ko_li.mpr ⟨i.toNat, ixN_in h0 h1, is[i.toNat], List.getElem?_eq_getElem hj, q _ (List.getElem_mem hj)⟩
/-- an item of a written list -/
theorem il_in {vs : List Int} {r : Int} {Q : D → Prop} (h0 : 0 ≤ r) (h1 : r < vs.length) (q : ∀ j, j ∈ vs → Q (.int j)) : ∃ n, ixN vs.length r = some n ∧ ∃ d, ((vs.map iT)[n]?).bind T.rd = some d ∧ Q d := by
  have hj : r.toNat < vs.length := by omega
  exact ⟨r.toNat, ixN_in h0 h1, .int vs[r.toNat], by simp [List.getElem?_eq_getElem hj, T.rd], q _ (List.getElem_mem hj)⟩
abbrev Ent := Int × Int × Int
def entD (e : Ent) : D := .nd .tup [.int e.1, .int e.2.1, .int e.2.2]
def enT (e : Ent) : T := .ow .tup [iT e.1, iT e.2.1, iT e.2.2]
def EntOk (S O : Int) (e : Ent) : Prop := -1000000000 ≤ e.1 ∧ e.1 ≤ 1000000000 ∧ 0 ≤ e.2.1 ∧ e.2.1 < S ∧ 0 ≤ e.2.2 ∧ e.2.2 < O
def cFree : FnS := evD ⟨[cTake], []⟩ t_law_free
theorem free_go {is : List Int} {S O A : Int} {Q : T → List T → Prop} (hS : 0 < S) (hO : 0 < O) (q : ∀ en is', EntOk S O en → Q (enT en) [liT is', liT [S, O, A]]) : Sp cFree [liT is, liT [S, O, A]] Q := by
  apply evD_ret
  · rfl
  unfold t_law_free
  push_cast
  refine take_go (by decide) fun r is1 r0 r1 => ?_
  push_cast
  refine il_in (vs := [0, 1, -1, 0, -2, 1000000000, -1000000000, 7]) r0 r1 fun j hj => ?_
  have jb : -1000000000 ≤ j ∧ j ≤ 1000000000 := by simp at hj; omega
  push_cast
  by_cases h7 : j = 7
  · push_cast [h7]
    refine take_go (by decide) fun a is2 a0 a1 => ?_
    push_cast
    refine take_go (by decide) fun b is3 b0 b1 => ?_
    push_cast
    refine take_go (by decide) fun c is4 c0 c1 => ?_
    push_cast
    refine take_go (by decide) fun d is5 d0 d1 => ?_
    push_cast
    refine il_in (vs := [1, -1]) d0 d1 fun s hs => ?_
    have hs : s = 1 ∨ s = -1 := by simpa using hs
    have mu : pBin .mul (.int (a * 1000000 + b * 1000 + c)) (.int s) = some (iT ((a * 1000000 + b * 1000 + c) * s)) := bin_mul (.inr (by rcases hs with rfl | rfl <;> decide))
    push_cast [mu]
    push_cast [ko_li]
    refine take_go hS fun x is6 x0 x1 => ?_
    push_cast [ko_li]
    refine take_go hO fun y is7 y0 y1 => ?_
    push_cast
    exact q ((a * 1000000 + b * 1000 + c) * s, x, y) is7 ⟨by rcases hs with rfl | rfl <;> simp <;> omega, by rcases hs with rfl | rfl <;> simp <;> omega, x0, x1, y0, y1⟩
  · push_cast [h7]
    push_cast [ko_li]
    refine take_go hS fun x is6 x0 x1 => ?_
    push_cast [ko_li]
    refine take_go hO fun y is7 y0 y1 => ?_
    push_cast
    exact q (j, x, y) is7 ⟨jb.1, jb.2, x0, x1, y0, y1⟩
def cEntry : FnS := evD ⟨[cTake, cFree], []⟩ t_law_entry
theorem entry_go {is : List Int} {w s o a S O A : Int} {Q : T → List T → Prop} (hS : 0 < S ∧ S ≤ 4) (hO : 0 < O ∧ O ≤ 3) (hs : 0 ≤ s ∧ s < S) (ho : 0 ≤ o ∧ o < O) (ha : 0 ≤ a ∧ a < 3) (q : ∀ en is', EntOk S O en → Q (enT en) [liT is', iT w, liT [s, o, a], liT [S, O, A]]) : Sp cEntry [liT is, iT w, liT [s, o, a], liT [S, O, A]] Q := by
  apply evD_ret
  · rfl
  unfold t_law_entry
  have m1 : ∀ i, pBin .mod (.int i) (.int O) = some (iT (i % O)) := fun i => bin_mod hO.1
  have m2 : ∀ i, pBin .mod (.int i) (.int S) = some (iT (i % S)) := fun i => bin_mod hS.1
  have b1 : ∀ i : Int, 0 ≤ i % O ∧ i % O < O := fun i => ⟨Int.emod_nonneg _ (by omega), Int.emod_lt_of_pos _ hO.1⟩
  have b2 : ∀ i : Int, 0 ≤ i % S ∧ i % S < S := fun i => ⟨Int.emod_nonneg _ (by omega), Int.emod_lt_of_pos _ hS.1⟩
  have ba := b1 a
  push_cast [ko_li, m1]
  have fin : ∀ en, EntOk S O en → ∀ is', Q (enT en) [liT is', iT w, liT [s, o, a], liT [S, O, A]] := fun en ok is' => q en is' ok
  by_cases h1 : w = 1
  · push_cast [h1, ko_li]
    subst h1
    exact fin (a, s, a % O) ⟨by simp; omega, by simp; omega, hs.1, hs.2, ba.1, ba.2⟩ is
  push_cast [h1]
  by_cases h2 : w = 2
  · push_cast [h2, ko_li]
    subst h2
    exact fin (0, s, a % O) ⟨by simp, by simp, hs.1, hs.2, ba.1, ba.2⟩ is
  push_cast [h2]
  by_cases h3 : w = 3
  · push_cast [h3, ko_li, m1, m2]
    subst h3
    exact fin (0, (s + a) % S, (o + 1) % O) ⟨by simp, by simp, (b2 _).1, (b2 _).2, (b1 _).1, (b1 _).2⟩ is
  push_cast [h3]
  by_cases h4 : w = 4
  · push_cast [h4, ko_li]
    subst h4
    exact fin (s * 3 + o - 2, s, o) ⟨by simp; omega, by simp; omega, hs.1, hs.2, ho.1, ho.2⟩ is
  push_cast [h4]
  by_cases h5 : w = 5
  · push_cast [h5, ko_li, m2]
    subst h5
    refine il_in (vs := [0, -1]) (r := s % 2) (by omega) (by simp; omega) fun j hj => ?_
    have hj : j = 0 ∨ j = -1 := by simpa using hj
    push_cast [ko_li, m2]
    exact fin (j, (s + 1 + a) % S, o) ⟨by rcases hj with rfl | rfl <;> simp, by rcases hj with rfl | rfl <;> simp, (b2 _).1, (b2 _).2, ho.1, ho.2⟩ is
  push_cast [h5]
  by_cases h6 : w = 6
  · push_cast [h6, ko_li]
    subst h6
    exact fin (0, s, if a % O > o then a % O else o) ⟨by simp, by simp, hs.1, hs.2, by simp only; split <;> omega, by simp only; split <;> omega⟩ is
  push_cast [h6]
  by_cases h7 : w = 7
  · subst h7
    by_cases h8 : 0 < o
    · push_cast [ko_li, h8]
      exact fin (0, s, o) ⟨by simp, by simp, hs.1, hs.2, ho.1, ho.2⟩ is
    · push_cast [ko_li, h8]
      exact fin (0, s, a % O) ⟨by simp, by simp, hs.1, hs.2, ba.1, ba.2⟩ is
  push_cast [h7]
  by_cases h8 : w = 8
  · push_cast [h8]
    subst h8
    refine take_go (by decide) fun c is4 c0 c1 => ?_
    push_cast [ko_li]
    refine take_go hO.1 fun d is5 d0 d1 => ?_
    push_cast
    exact fin (c - 1, s, d) ⟨by simp; omega, by simp; omega, hs.1, hs.2, d0, d1⟩ is5
  push_cast [h8]
  refine free_go hS.1 hO.1 fun en is' ok => ?_
  push_cast
  exact fin en ok is'
end BC
set_option Elab.async false
set_option linter.all false
set_option maxRecDepth 100000
set_option maxHeartbeats 4000000
namespace BC
open PySem PySem.Spec PyProof.Rows L2
local macro_rules
  | `(tactic| push_cast) => `(tactic| simp only [c_we_lit, c_we_call', c_we_make', rd_al, sd_al, mk_al, c_we_glb, c_we_var, c_we_op2, c_we_b1, c_we_mk, c_we_cmp, c_wt_cmp, c_wt_val, c_wt_and, c_wt_or, c_wt_not, c_wts_nil, c_wts_cons, c_wo_e, c_wo_v, c_wos_nil, c_wos_cons, c_wes_nil, c_wes_cons, c_we_lst, c_we_tup, c_we_dnl, c_we_not, c_we_isi, c_we_fld, c_we_rev, c_ws_nil, c_ws_cons, c_ws_asg, c_ws_if, c_ws_for, c_ws_retS, c_ws_exp, c_we_pop, c_we_mv, c_ws_app', c_ws_rvs', rev_li, dl_li, fold0_li, liT_sh, liT_ow2, get_map, ex_eq, List.map_nil, c_wi_rngL, false_or, or_false, false_and, and_assoc, exists_and_left, exists_false, exists_eq, T.ow.injEq, exists_eq_right, cmp_eq_nil, liT_un, sh_un, rd_nil, mul_l, mul_mm, pow_18, pow_9, pow_6, mod_l, fdv_l, fold_li, nil_li, nil_al,  List.length_map, Int.reduceLT, Int.reduceNeg, Int.reducePow, Nat.lt_add_one, Nat.zero_lt_succ, Nat.reduceMul, Int.reduceToNat, okRng, Int.reduceLE, decide_true, and_self, bin_add, bin_sub, rd_int, rd_abs, cmp_lt, cmp_gt, OVrd_s, OVrd_t, OVsd_s, OVsd_t, OVget_s, OVget_t, rd_sh, sd_sh, rd_li, sd_li, gset, List.length_nil, List.length_cons, Nat.zero_le, if_true, if_false, ite_true, ite_false, Bool.false_eq_true, Nat.sub_self, List.append_nil, List.nil_append, List.cons_append, List.getElem?_cons_zero, List.getElem?_cons_succ, List.set_cons_zero, List.set_cons_succ, Option.some.injEq, exists_eq_left', exists_eq_left, Option.bind_some, Option.map_some, List.replicate_succ, List.replicate_zero, Nat.reduceSub, Nat.reduceLT, Nat.reduceAdd, reduceCtorEq, ne_eq, not_false_eq_true, true_and, and_true, c_wi_lst', c_wi_rng1', sh_inj, int_inj, lst_inj, c_we_didx', c_we_idx', c_we_dget, getK_al, c_ws_setf, c_wi_keys, dT_un, st_ne0, own_li, c_we_callF, c_we_makeF, c_ln_nil, c_ln_s, c_ln_t, back_nil, back_s, back_t, c_we_kid_s, c_we_kid_t, ko_sh, ko_ow, c_we_chn, c_wt_chn, c_we_and', c_we_ite, c_we_b2, c_we_lc', c_we_meth', gsets, List.map_cons, tru_bl, Bool.not_true, Bool.not_false, cmp_eq_int, cmp_ne_int, cmp_le, cmp_ge, ixS_l, ixS_t, ixS_k, fd_s, decide_false, sizeLine_eq, Nat.reduceEqDiff, Nat.reduceLeDiff, c_wi_enm, rd_neg, mx_int, bl_inj, cmp_lt, wipeE, pk_s, pk_t, cls_ow, cls_sh, lk1, Option.bind_none, len_l, len_t, ixl_1_0, ixl_2_0, ixl_2_1, ixl_3_0, ixl_3_1, ixl_3_2, ixl_4_0, ixl_4_1, ixl_4_2, ixl_4_3, ixl_5_0, ixl_5_1, ixl_5_2, ixl_5_3, ixl_5_4, ixl_6_0, ixl_6_1, ixl_6_2, ixl_6_3, ixl_6_4, ixl_6_5, ixl_1_m, ixl_2_m, ixl_3_m])
  | `(tactic| push_cast [$ls,*]) => `(tactic| simp only [c_we_lit, c_we_call', c_we_make', rd_al, sd_al, mk_al, c_we_glb, c_we_var, c_we_op2, c_we_b1, c_we_mk, c_we_cmp, c_wt_cmp, c_wt_val, c_wt_and, c_wt_or, c_wt_not, c_wts_nil, c_wts_cons, c_wo_e, c_wo_v, c_wos_nil, c_wos_cons, c_wes_nil, c_wes_cons, c_we_lst, c_we_tup, c_we_dnl, c_we_not, c_we_isi, c_we_fld, c_we_rev, c_ws_nil, c_ws_cons, c_ws_asg, c_ws_if, c_ws_for, c_ws_retS, c_ws_exp, c_we_pop, c_we_mv, c_ws_app', c_ws_rvs', rev_li, dl_li, fold0_li, liT_sh, liT_ow2, get_map, ex_eq, List.map_nil, c_wi_rngL, false_or, or_false, false_and, and_assoc, exists_and_left, exists_false, exists_eq, T.ow.injEq, exists_eq_right, cmp_eq_nil, liT_un, sh_un, rd_nil, mul_l, mul_mm, pow_18, pow_9, pow_6, mod_l, fdv_l, fold_li, nil_li, nil_al,  List.length_map, Int.reduceLT, Int.reduceNeg, Int.reducePow, Nat.lt_add_one, Nat.zero_lt_succ, Nat.reduceMul, Int.reduceToNat, okRng, Int.reduceLE, decide_true, and_self, bin_add, bin_sub, rd_int, rd_abs, cmp_lt, cmp_gt, OVrd_s, OVrd_t, OVsd_s, OVsd_t, OVget_s, OVget_t, rd_sh, sd_sh, rd_li, sd_li, gset, List.length_nil, List.length_cons, Nat.zero_le, if_true, if_false, ite_true, ite_false, Bool.false_eq_true, Nat.sub_self, List.append_nil, List.nil_append, List.cons_append, List.getElem?_cons_zero, List.getElem?_cons_succ, List.set_cons_zero, List.set_cons_succ, Option.some.injEq, exists_eq_left', exists_eq_left, Option.bind_some, Option.map_some, List.replicate_succ, List.replicate_zero, Nat.reduceSub, Nat.reduceLT, Nat.reduceAdd, reduceCtorEq, ne_eq, not_false_eq_true, true_and, and_true, c_wi_lst', c_wi_rng1', sh_inj, int_inj, lst_inj, c_we_didx', c_we_idx', c_we_dget, getK_al, c_ws_setf, c_wi_keys, dT_un, st_ne0, own_li, c_we_callF, c_we_makeF, c_ln_nil, c_ln_s, c_ln_t, back_nil, back_s, back_t, c_we_kid_s, c_we_kid_t, ko_sh, ko_ow, c_we_chn, c_wt_chn, c_we_and', c_we_ite, c_we_b2, c_we_lc', c_we_meth', gsets, List.map_cons, tru_bl, Bool.not_true, Bool.not_false, cmp_eq_int, cmp_ne_int, cmp_le, cmp_ge, ixS_l, ixS_t, ixS_k, fd_s, decide_false, sizeLine_eq, Nat.reduceEqDiff, Nat.reduceLeDiff, c_wi_enm, rd_neg, mx_int, bl_inj, cmp_lt, wipeE, pk_s, pk_t, cls_ow, cls_sh, lk1, Option.bind_none, len_l, len_t, ixl_1_0, ixl_2_0, ixl_2_1, ixl_3_0, ixl_3_1, ixl_3_2, ixl_4_0, ixl_4_1, ixl_4_2, ixl_4_3, ixl_5_0, ixl_5_1, ixl_5_2, ixl_5_3, ixl_5_4, ixl_6_0, ixl_6_1, ixl_6_2, ixl_6_3, ixl_6_4, ixl_6_5, ixl_1_m, ixl_2_m, ixl_3_m, $ls,*])
abbrev Tbl := List (List (List Ent))
def rowT (r : List Ent) : T := .ow .lst (r.map enT)
def plT (p : List (List Ent)) : T := .ow .lst (p.map rowT)
def tbT (t : Tbl) : T := .ow .lst (t.map plT)
def rowD (r : List Ent) : D := .nd .lst (r.map entD)
def plD (p : List (List Ent)) : D := .nd .lst (p.map rowD)
def tbD (t : Tbl) : D := .nd .lst (t.map plD)
theorem rds_map {α : Type} {f : α → T} {g : α → D} (h : ∀ x, (f x).rd = some (g x)) : ∀ (xs : List α), T.rds (xs.map f) = some (xs.map g)
  | [] => rfl
  | x :: xs => by simp only [List.map_cons, T.rds, h x, rds_map h xs]
theorem rd_en {e : Ent} : (enT e).rd = some (entD e) := rfl
theorem rd_row {r : List Ent} : (rowT r).rd = some (rowD r) := by
  unfold rowT T.rd
  rw [rds_map fun _ => rd_en]
  rfl
theorem rd_pl {p : List (List Ent)} : (plT p).rd = some (plD p) := by
  unfold plT T.rd
  rw [rds_map fun _ => rd_row]
  rfl
theorem rd_tb {t : Tbl} : (tbT t).rd = some (tbD t) := by
  unfold tbT T.rd
  rw [rds_map fun _ => rd_pl]
  rfl
structure TabOk (S O A : Nat) (t : Tbl) : Prop where
  s0 : 1 ≤ S
  s1 : S ≤ 4
  o0 : 1 ≤ O
  o1 : O ≤ 3
  a0 : 1 ≤ A
  a1 : A ≤ 3
  ls : t.length = S
  lo : ∀ p ∈ t, p.length = O
  la : ∀ p ∈ t, ∀ r ∈ p, r.length = A
  en : ∀ p ∈ t, ∀ r ∈ p, ∀ e ∈ r, EntOk S O e
theorem range_at {n x : Nat} {done r : List Nat} (h : List.range n = done ++ x :: r) : x = done.length ∧ x < n := by
  have h1 : (List.range n)[done.length]? = some x := by rw [h]; simp
  have hl : done.length < n := by
    have := congrArg List.length h
    simp at this
    omega
  rw [List.getElem?_range hl] at h1
  have h1 : done.length = x := by simpa using h1
  omega
theorem tb_set {t : Tbl} {p : List (List Ent)} {r : List Ent} {en : Ent} {n m q : Nat} : T.ow .lst ((t.map plT).set n (.ow .lst ((p.map rowT).set m (.ow .lst ((r.map enT).set q (enT en)))))) = tbT (t.set n (p.set m (r.set q en))) := by
  simp only [tbT, plT, rowT, List.map_set]
theorem TabOk.set {S O A n m q : Nat} {t : Tbl} {p : List (List Ent)} {r : List Ent} {en : Ent} (h : TabOk S O A t) (hp : t[n]? = some p) (hr : p[m]? = some r) (he : EntOk S O en) : TabOk S O A (t.set n (p.set m (r.set q en))) := by
  have mp := List.mem_of_getElem? hp
  have mr := List.mem_of_getElem? hr
  refine ⟨h.s0, h.s1, h.o0, h.o1, h.a0, h.a1, by rw [List.length_set]; exact h.ls, fun x hx => ?_, fun x hx y hy => ?_, fun x hx y hy e he' => ?_⟩
  · rcases List.mem_or_eq_of_mem_set hx with hx | rfl
    · exact h.lo x hx
    · rw [List.length_set]; exact h.lo p mp
  · rcases List.mem_or_eq_of_mem_set hx with hx | rfl
    · exact h.la x hx y hy
    · rcases List.mem_or_eq_of_mem_set hy with hy | rfl
      · exact h.la p mp y hy
      · rw [List.length_set]; exact h.la p mp r mr
  · rcases List.mem_or_eq_of_mem_set hx with hx | rfl
    · exact h.en x hx y hy e he'
    · rcases List.mem_or_eq_of_mem_set hy with hy | rfl
      · exact h.en p mp y hy e he'
      · rcases List.mem_or_eq_of_mem_set he' with he' | rfl
        · exact h.en p mp r mr e he'
        · exact he
def cTable : FnS := evD ⟨[cTake, cEntry, cFree], []⟩ t_law_table
theorem map_app {α : Type} {f : α → T} {xs : List α} {x : α} : xs.map f ++ [f x] = (xs ++ [x]).map f := by simp
theorem table_go {is : List Int} {m0 m1 m2 : Int} {Q : T → List T → Prop} (h0 : 1 ≤ m0 ∧ m0 ≤ 4) (h1 : 1 ≤ m1 ∧ m1 ≤ 3) (h2 : 1 ≤ m2 ∧ m2 ≤ 3) (q : ∀ S O A t is', TabOk S O A t → Q (tbT t) [liT is', .sh (.nd .lst [.int m0, .int m1, .int m2])]) : Sp cTable [liT is, .ow .lst [iT m0, iT m1, iT m2]] Q := by
  apply evD_ret
  · rfl
  unfold t_law_table
  push_cast [T.rd, T.rds]
  refine for_list (xs := [m0, m1, m2]) D.int (fun done e => ∃ is zs x, e = [liT is, .sh (.nd .lst [.int m0, .int m1, .int m2]), liT zs, x, .un, .un, .un, .un, .un, .un, .un] ∧ zs.length = done.length ∧ ∀ (i : Nat) (z m : Int), zs[i]? = some z → done[i]? = some m → 1 ≤ z ∧ z ≤ m) ?_ ?_ ?_
  · exact ⟨is, [], _, rfl, rfl, fun i z m h => by simp at h⟩
  · rintro m done r hx e ⟨is, zs, x, rfl, hl, hz⟩
    have hm : 1 ≤ m := by
      have : m ∈ [m0, m1, m2] := by rw [hx]; simp
      simp at this
      omega
    have hd : done.length ≤ 3 := by have := congrArg List.length hx; simp at this; omega
    refine ⟨_, rfl, ?_⟩
    have stp : ∀ v : Int, 1 ≤ v → v ≤ m → ∀ (i : Nat) (z m' : Int), (zs ++ [v])[i]? = some z → (done ++ [m])[i]? = some m' → 1 ≤ z ∧ z ≤ m' := by
      intro v v0 v1 i z m' g1 g2
      by_cases hi : i < zs.length
      · rw [List.getElem?_append_left hi] at g1
        rw [List.getElem?_append_left (by omega)] at g2
        exact hz i z m' g1 g2
      · have hi2 := (List.getElem?_eq_some_iff.mp g1).1
        simp at hi2
        have : i = zs.length := by omega
        subst this
        rw [List.getElem?_append_right (Nat.le_refl _)] at g1
        rw [hl, List.getElem?_append_right (Nat.le_refl _)] at g2
        simp at g1 g2
        omega
    push_cast
    refine take_go (by decide) fun r1 is1 r0 r1' => ?_
    push_cast
    by_cases c : r1 = 1
    · push_cast [c]
      refine take_go (by omega) fun v is2 v0 v1 => ?_
      push_cast
      exact ⟨by omega, is2, zs ++ [1 + v], _, rfl, by simp [hl], stp _ (by omega) (by omega)⟩
    · push_cast [c]
      exact ⟨by omega, is1, zs ++ [m], _, rfl, by simp [hl], stp m hm (by omega)⟩
  rintro e ⟨is, zs, x, rfl, hl, hz⟩
  obtain ⟨S, O, A, rfl⟩ : ∃ S O A : Nat, zs = [(S : Int), (O : Int), (A : Int)] := by
    match zs, hl with
    | [a, b, c], _ =>
      have g0 := hz 0 a m0 rfl rfl
      have g1 := hz 1 b m1 rfl rfl
      have g2 := hz 2 c m2 rfl rfl
      refine ⟨a.toNat, b.toNat, c.toNat, ?_⟩
      rw [Int.toNat_of_nonneg (by omega), Int.toNat_of_nonneg (by omega), Int.toNat_of_nonneg (by omega)]
  have gS := hz 0 S m0 rfl rfl
  have gO := hz 1 O m1 rfl rfl
  have gA := hz 2 A m2 rfl rfl
  clear hz hl
  push_cast
  refine take_go (by decide) fun w is1 w0 w1 => ?_
  push_cast [ko_li]
  refine ⟨by simp [okRng]; omega, ?_⟩
  refine for_list (xs := List.range S) (fun (i : Nat) => D.int (0 + (i : Int))) (fun done e => ∃ (is : List Int) (t : Tbl) (x6 x7 x8 : T), e = [liT is, .sh (.nd .lst [.int m0, .int m1, .int m2]), liT [(S : Int), O, A], x, iT w, tbT t, x6, x7, x8, .un, .un] ∧ t.length = done.length ∧ (∀ p ∈ t, p.length = O) ∧ (∀ p ∈ t, ∀ r ∈ p, r.length = A) ∧ ∀ p ∈ t, ∀ r ∈ p, ∀ e ∈ r, EntOk S O e) ?_ ?_ ?_
  · exact ⟨is1, [], _, _, _, rfl, rfl, by simp, by simp, by simp⟩
  · rintro i done r hx e ⟨is, t, x6, x7, x8, rfl, tl, lo, la, en⟩
    obtain ⟨hi, hiS⟩ := range_at hx
    refine ⟨_, rfl, ?_⟩
    push_cast [ko_li]
    refine ⟨by simp [okRng]; omega, ?_⟩
    refine for_list (xs := List.range O) (fun (i : Nat) => D.int (0 + (i : Int))) (fun done e => ∃ (is : List Int) (p : List (List Ent)) (x8 : T), e = [liT is, .sh (.nd .lst [.int m0, .int m1, .int m2]), liT [(S : Int), O, A], x, iT w, tbT t, iT (0 + (i : Int)), plT p, x8, .un, .un] ∧ p.length = done.length ∧ (∀ r ∈ p, r.length = A) ∧ ∀ r ∈ p, ∀ e ∈ r, EntOk S O e) ?_ ?_ ?_
    · exact ⟨is, [], _, rfl, rfl, by simp, by simp⟩
    · rintro j done2 r2 hx2 e ⟨is, p, x8, rfl, pl, pa, pe⟩
      obtain ⟨hj, hjO⟩ := range_at hx2
      refine ⟨_, rfl, ?_⟩
      push_cast [ko_li]
      refine ⟨⟨_, rfl⟩, by simp [okRng]; omega, ?_⟩
      refine lc_list (xs := List.range A) (fun (i : Nat) => D.int (0 + (i : Int))) (fun acc e => ∃ (is : List Int) (row : List Ent), acc = row.map enT ∧ e = [liT is, .sh (.nd .lst [.int m0, .int m1, .int m2]), liT [(S : Int), O, A], x, iT w, tbT t, iT (0 + (i : Int)), plT p, iT (0 + (j : Int)), .un, .un] ∧ ∀ e ∈ row, EntOk S O e) ?_ ?_ ?_
      · exact ⟨is, [], rfl, rfl, by simp⟩
      · rintro a ha acc e ⟨is, row, rfl, rfl, ro⟩ hlt
        have haA := List.mem_range.mp ha
        refine ⟨_, rfl, ?_⟩
        push_cast
        refine entry_go (by omega) (by omega) (by omega) (by omega) (by omega) fun en is2 ok => ?_
        push_cast
        have : (List.map enT row).length < 100 := by simp at hlt ⊢; omega
        simp at this
        refine ⟨by omega, is2, row ++ [en], by simp, rfl, fun e he => ?_⟩
        rcases List.mem_append.mp he with he | he
        · exact ro e he
        · cases List.mem_singleton.mp he
          exact ok
      · rintro acc e ⟨is, row, rfl, rfl, ro⟩ hlen
        push_cast
        refine ⟨p.map rowT, rfl, ?_⟩
        have : p.length < 100 := by omega
        refine ⟨by simp; omega, is, p ++ [row], iT (0 + (j : Int)), ?_, by simp [pl], fun r hr => ?_, fun r hr => ?_⟩
        · simp [plT, rowT]
        · rcases List.mem_append.mp hr with hr | hr
          · exact pa r hr
          · cases List.mem_singleton.mp hr
            simpa using hlen
        · rcases List.mem_append.mp hr with hr | hr
          · exact pe r hr
          · cases List.mem_singleton.mp hr
            exact ro
    · rintro e ⟨is, p, x8, rfl, pl, pa, pe⟩
      push_cast
      have : t.length < 100 := by omega
      refine ⟨⟨_, rfl⟩, .inr ⟨_, _, rfl, _, rfl, by simp; omega, is, t ++ [p], iT (0 + (i : Int)), .un, x8, ?_, by simp [tl], fun r hr => ?_, fun r hr => ?_, fun r hr => ?_⟩⟩
      · simp [tbT, plT]
      · rcases List.mem_append.mp hr with hr | hr
        · exact lo r hr
        · cases List.mem_singleton.mp hr
          simpa using pl
      · rcases List.mem_append.mp hr with hr | hr
        · exact la r hr
        · cases List.mem_singleton.mp hr
          exact pa
      · rcases List.mem_append.mp hr with hr | hr
        · exact en r hr
        · cases List.mem_singleton.mp hr
          exact pe
  · rintro e ⟨is, t, x6, x7, x8, rfl, tl, lo, la, en⟩
    have ok : TabOk S O A t := ⟨by omega, by omega, by omega, by omega, by omega, by omega, by simpa using tl, lo, la, en⟩
    push_cast
    refine take_go (by decide) fun c is1 c0 c1 => ?_
    push_cast
    by_cases h : c = 1
    · push_cast [h]
      refine ws_al ⟨_, rfl⟩ ?_
      push_cast [ko_li]
      refine take_go (by omega) fun n is2 n0 n1 => ?_
      have hn : n.toNat < t.length := by have := ok.ls; omega
      have mp := List.getElem_mem hn
      have gp := List.getElem?_eq_getElem hn
      generalize t[n.toNat] = p at mp gp
      refine ⟨t.map plT, rfl, n, rfl, n.toNat, ixN_in n0 (by have := ok.ls; simp; omega), p.map rowT, by rw [List.getElem?_map, gp]; rfl, ?_⟩
      push_cast [ko_li]
      refine take_go (by omega) fun m is3 n2 n3 => ?_
      have hm : m.toNat < p.length := by have := lo p mp; omega
      have mr := List.getElem_mem hm
      have gr := List.getElem?_eq_getElem hm
      generalize p[m.toNat] = r at mr gr
      refine ⟨m, rfl, m.toNat, ixN_in n2 (by have := lo p mp; simp; omega), r.map enT, by rw [List.getElem?_map, gr]; rfl, ?_⟩
      push_cast
      refine free_go (by omega) (by omega) fun en1 is4 ok1 => ?_
      push_cast [ko_li]
      refine take_go (by omega) fun k is5 k0 k1 => ?_
      push_cast
      refine ⟨k.toNat, ixN_in k0 (by have := la p mp r mr; simp; omega), ?_⟩
      rw [tb_set]
      exact q S O A _ is5 (ok.set gp gr ok1)
    · push_cast [h]
      exact .inr ⟨_, _, rfl, q S O A _ is1 ok⟩
def cCopied : FnS := evD ⟨[], []⟩ t_law_copied
def cpR (r : List Ent) : T := .ow .lst (r.map fun e => .sh (entD e))
def cpP (p : List (List Ent)) : T := .ow .lst (p.map cpR)
def cpT (t : Tbl) : T := .ow .lst (t.map cpP)
theorem rd_cpT {t : Tbl} : (cpT t).rd = some (tbD t) := by
  have h1 : ∀ r, (cpR r).rd = some (rowD r) := fun r => by
    unfold cpR T.rd
    rw [rds_map fun _ => rfl]
    rfl
  have h2 : ∀ p, (cpP p).rd = some (plD p) := fun p => by
    unfold cpP T.rd
    rw [rds_map h1]
    rfl
  unfold cpT T.rd
  rw [rds_map h2]
  rfl
theorem sd_nd {k : Kd} {ds : List D} : (T.sh (.nd k ds)).sd = some (.nd k ds) := rfl
/-- the rows of a plane, as new lists -/
theorem rows_go {X : Ctx} {i j : Nat} {p : List (List Ent)} {P : T → En → Prop} {e : En} (hp : p.length ≤ 1000) (hi : e[i]? = some (.sh (plD p))) (hj : j < e.length) (hu : e[j]? = some .un) (q : P (cpP p) e) : WE (evE X (.lc [j] (.nm j) (.lst (.var i)) .nil (.mk .list (.v j)))) e P := by
  have ij : i ≠ j := fun z => by subst z; rw [hi] at hu; cases hu
  rw [we_lc', wi_lst', we_var]
  refine ⟨plD p, by rw [hi]; rfl, _, rfl, ?_⟩
  rw [set_same hi]
  simp only [wipeE]
  rw [set_same hu]
  refine lc_seq rowD (fun done acc e1 => acc = done.map cpR ∧ e1 = e) ⟨rfl, rfl⟩ ?_ ?_
  · rintro r done rs hx acc e1 ⟨rfl, rfl⟩
    have hrD : (T.sh (rowD r)).sd = some (.nd .lst (r.map entD)) := rfl
    have hl : done.length < 1000 := by have := congrArg List.length hx; simp at this; omega
    refine ⟨e1.set j (.sh (rowD r)), by simp only [gset, if_pos hj], ?_⟩
    rw [wts_nil]
    rw [if_pos rfl, we_mk, wo_v]
    have g : (e1.set j (.sh (rowD r)))[j]? = some (.sh (rowD r)) := List.getElem?_set_self hj
    refine ⟨_, g, by simp, own .lst (r.map entD), by simp only [OVsd_s, g, Option.bind_some, hrD]; rfl, by rw [sizeLine_eq]; simp; omega, by simp [own, cpR], ?_⟩
    simp only [wipeE, List.set_set]
    exact set_same hu
  · rintro acc e1 ⟨rfl, rfl⟩
    exact q
theorem TabOk.few {S O A : Nat} {t : Tbl} (h : TabOk S O A t) : t.length ≤ 4 ∧ ∀ p ∈ t, p.length ≤ 3 := ⟨by have := h.ls; have := h.s1; omega, fun p hp => by have := h.lo p hp; have := h.o1; omega⟩
theorem copied_go {t : Tbl} {x : T} {Q : T → List T → Prop} (hx : x.rd = some (tbD t)) (h4 : t.length ≤ 1000) (h3 : ∀ p ∈ t, p.length ≤ 1000) (q : Q (cpT t) [.sh (tbD t)]) : Sp cCopied [x] Q := by
  apply evD_ret
  · rfl
  unfold t_law_copied
  push_cast [hx]
  refine ⟨_, rfl, ?_⟩
  refine lc_seq plD (fun done acc e1 => acc = done.map cpP ∧ e1 = [.sh (tbD t), .un, .un]) ⟨rfl, rfl⟩ ?_ ?_
  · rintro p done rs hx acc e1 ⟨rfl, rfl⟩
    have hl : done.length < 1000 := by have := congrArg List.length hx; simp at this; omega
    refine ⟨_, rfl, ?_⟩
    simp only [wts_nil, if_true]
    refine rows_go (h3 p (by rw [hx]; simp)) rfl (by simp) rfl ?_
    refine ⟨by rw [sizeLine_eq]; simp; omega, by simp, ?_⟩
    simp only [wipeE]
    rfl
  · rintro acc e1 ⟨rfl, rfl⟩
    push_cast
    exact q
theorem len_tb {t : Tbl} : pRd .len (tbD t) = some (.int t.length) := by simp [tbD, len_l]
theorem len_pl {p : List (List Ent)} : pRd .len (plD p) = some (.int p.length) := by simp [plD, len_l]
theorem len_row {p : List Ent} : pRd .len (rowD p) = some (.int p.length) := by simp [rowD, len_l]
theorem ko_pl {t : T} {tb : Tbl} {p : List (List Ent)} {i : Int} {n : Nat} {Q : D → T → Prop} (r : t.rd = some (tbD tb)) (h : i = n) (g : tb[n]? = some p) (q : ∀ t', t'.rd = some (tbD tb) → Q (plD p) t') : Ko t (ixSel i) Q := by
  subst h
  have := (List.getElem?_eq_some_iff.mp g).1
  exact Ko.rd r (show ixN _ _ = some n by rw [ixN_in (by omega) (by simp; omega)]; simp) (by rw [List.getElem?_map, g]; rfl) q
theorem ko_row {p : List (List Ent)} {r : List Ent} {i : Int} {n : Nat} {Q : D → T → Prop} (h : i = n) (g : p[n]? = some r) (q : Q (rowD r) (.sh (plD p))) : Ko (.sh (plD p)) (ixSel i) Q := by
  subst h
  have := (List.getElem?_eq_some_iff.mp g).1
  exact ko_sh.mpr ⟨n, show ixN _ _ = some n by rw [ixN_in (by omega) (by simp; omega)]; simp, rowD r, by rw [List.getElem?_map, g]; rfl, q⟩
theorem ko_ent {r : List Ent} {en : Ent} {i : Int} {n : Nat} {Q : D → T → Prop} (h : i = n) (g : r[n]? = some en) (q : Q (entD en) (.sh (rowD r))) : Ko (.sh (rowD r)) (ixSel i) Q := by
  subst h
  have := (List.getElem?_eq_some_iff.mp g).1
  exact ko_sh.mpr ⟨n, show ixN _ _ = some n by rw [ixN_in (by omega) (by simp; omega)]; simp, entD en, by rw [List.getElem?_map, g]; rfl, q⟩
def cLens : FnS := evD ⟨[], [.int 4, .int 3, .int 3]⟩ t_check_lengths
theorem lens_go {S O A : Nat} {t : Tbl} {x : T} {Q : T → List T → Prop} (ok : TabOk S O A t) (hx : x.rd = some (tbD t)) (q : Q (.sh .non) [.sh (tbD t)]) : Sp cLens [x] Q := by
  apply evD_ret
  · rfl
  unfold t_check_lengths
  have nx : (x = .un) = False := eq_false fun z => by subst z; cases hx
  have hx' : x.rd = some (.nd .lst (t.map plD)) := hx
  have ls := ok.ls
  have s0 : (1 : Int) ≤ S := by have := ok.s0; omega
  have s1 : (S : Int) ≤ 4 := by have := ok.s1; omega
  have o0 : (1 : Int) ≤ O := by have := ok.o0; omega
  have o1 : (O : Int) ≤ 3 := by have := ok.o1; omega
  have a0 : (1 : Int) ≤ A := by have := ok.a0; omega
  have a1 : (A : Int) ≤ 3 := by have := ok.a1; omega
  have ht : 0 < t.length := by omega
  have m0 := List.getElem_mem ht
  have g0 := List.getElem?_eq_getElem ht
  generalize t[0] = p0 at m0 g0
  have l0 := ok.lo p0 m0
  have hp : 0 < p0.length := by omega
  have m1 := List.getElem_mem hp
  have g1 := List.getElem?_eq_getElem hp
  generalize p0[0] = r0 at m1 g1
  have l1 := ok.la p0 m0 r0 m1
  have hxt := len_tb (t := t)
  push_cast [nx, hx, len_tb, ls, s0, s1]
  refine ko_pl hx rfl g0 fun x1 hx1 => ?_
  have nx1 : (x1 = .un) = False := eq_false fun z => by subst z; cases hx1
  push_cast [len_pl, l0, o0, o1, nx1, hx1]
  refine ⟨_, rfl, ?_⟩
  refine for_list plD (fun _ e => ∃ y, e = [.sh (tbD t), iT O, y, .un, .un]) ⟨_, rfl⟩ ?_ ?_
  · rintro p done r hd e ⟨y, rfl⟩
    have hp := ok.lo p (by rw [hd]; simp)
    refine ⟨_, rfl, ?_⟩
    push_cast [len_pl, hp, decide_true]
    exact ⟨_, rfl⟩
  rintro e ⟨y, rfl⟩
  push_cast
  refine ko_pl rfl rfl g0 fun x2 hx2 => ?_
  push_cast
  refine ko_row rfl g1 ?_
  have nx2 : (x2 = .un) = False := eq_false fun z => by subst z; cases hx2
  push_cast [len_row, l1, a0, a1, nx2, hx2]
  refine ⟨_, rfl, ?_⟩
  refine for_list plD (fun _ e => ∃ y z, e = [.sh (tbD t), iT O, y, iT A, z]) ⟨_, _, rfl⟩ ?_ ?_
  · rintro p done r hd e ⟨y, z, rfl⟩
    have mp : p ∈ t := by rw [hd]; simp
    refine ⟨_, rfl, ?_⟩
    push_cast
    refine ⟨_, rfl, ?_⟩
    refine for_list rowD (fun _ e => ∃ z, e = [.sh (tbD t), iT O, .sh (plD p), iT A, z]) ⟨_, rfl⟩ ?_ ?_
    · rintro w done2 r2 hd2 e ⟨z, rfl⟩
      have hw := ok.la p mp w (by rw [hd2]; simp)
      refine ⟨_, rfl, ?_⟩
      push_cast [len_row, hw, decide_true]
      exact ⟨_, rfl⟩
    · rintro e ⟨z, rfl⟩
      push_cast
      exact ⟨_, _, rfl⟩
  rintro e ⟨y, z, rfl⟩
  push_cast
  exact q
def cIsEnt : FnS := evD ⟨[], [.int 1000000000]⟩ t_Service_is_entry
theorem isent_go {S O A : Nat} {en : Ent} {x : T} {Q : T → List T → Prop} (ok : EntOk S O en) (q : Q (.sh (.bl true)) [.ow (.ins 1) [iT S, iT O, iT A, x], .sh (entD en)]) : Sp cIsEnt [.ow (.ins 1) [iT S, iT O, iT A, x], .sh (entD en)] Q := by
  apply evD_ret
  · rfl
  unfold t_Service_is_entry
  obtain ⟨a0, a1, s0, s1, o0, o1⟩ := ok
  push_cast [entD, a0, a1, s0, s1, o0, o1, cmp_lt, decide_true]
  exact q
end BC
set_option Elab.async false
set_option linter.all false
set_option maxRecDepth 100000
set_option maxHeartbeats 4000000
namespace BC
open PySem PySem.Spec PyProof.Rows L2
local macro_rules
  | `(tactic| push_cast) => `(tactic| simp only [c_we_lit, c_we_call', c_we_make', rd_al, sd_al, mk_al, c_we_glb, c_we_var, c_we_op2, c_we_b1, c_we_mk, c_we_cmp, c_wt_cmp, c_wt_val, c_wt_and, c_wt_or, c_wt_not, c_wts_nil, c_wts_cons, c_wo_e, c_wo_v, c_wos_nil, c_wos_cons, c_wes_nil, c_wes_cons, c_we_lst, c_we_tup, c_we_dnl, c_we_not, c_we_isi, c_we_fld, c_we_rev, c_ws_nil, c_ws_cons, c_ws_asg, c_ws_if, c_ws_for, c_ws_retS, c_ws_exp, c_we_pop, c_we_mv, c_ws_app', c_ws_rvs', rev_li, dl_li, fold0_li, liT_sh, liT_ow2, get_map, ex_eq, List.map_nil, c_wi_rngL, false_or, or_false, false_and, and_assoc, exists_and_left, exists_false, exists_eq, T.ow.injEq, exists_eq_right, cmp_eq_nil, liT_un, sh_un, rd_nil, mul_l, mul_mm, pow_18, pow_9, pow_6, mod_l, fdv_l, fold_li, nil_li, nil_al,  List.length_map, Int.reduceLT, Int.reduceNeg, Int.reducePow, Nat.lt_add_one, Nat.zero_lt_succ, Nat.reduceMul, Int.reduceToNat, okRng, Int.reduceLE, decide_true, and_self, bin_add, bin_sub, rd_int, rd_abs, cmp_lt, cmp_gt, OVrd_s, OVrd_t, OVsd_s, OVsd_t, OVget_s, OVget_t, rd_sh, sd_sh, rd_li, sd_li, gset, List.length_nil, List.length_cons, Nat.zero_le, if_true, if_false, ite_true, ite_false, Bool.false_eq_true, Nat.sub_self, List.append_nil, List.nil_append, List.cons_append, List.getElem?_cons_zero, List.getElem?_cons_succ, List.set_cons_zero, List.set_cons_succ, Option.some.injEq, exists_eq_left', exists_eq_left, Option.bind_some, Option.map_some, List.replicate_succ, List.replicate_zero, Nat.reduceSub, Nat.reduceLT, Nat.reduceAdd, reduceCtorEq, ne_eq, not_false_eq_true, true_and, and_true, c_wi_lst', c_wi_rng1', sh_inj, int_inj, lst_inj, c_we_didx', c_we_idx', c_we_dget, getK_al, c_ws_setf, c_wi_keys, dT_un, st_ne0, own_li, c_we_callF, c_we_makeF, c_ln_nil, c_ln_s, c_ln_t, back_nil, back_s, back_t, c_we_kid_s, c_we_kid_t, ko_sh, ko_ow, c_we_chn, c_wt_chn, c_we_and', c_we_ite, c_we_b2, c_we_lc', c_we_meth', gsets, List.map_cons, tru_bl, Bool.not_true, Bool.not_false, cmp_eq_int, cmp_ne_int, cmp_le, cmp_ge, ixS_l, ixS_t, ixS_k, fd_s, decide_false, sizeLine_eq, Nat.reduceEqDiff, Nat.reduceLeDiff, c_wi_enm, rd_neg, mx_int, bl_inj, cmp_lt, wipeE, pk_s, pk_t, cls_ow, cls_sh, lk1, Option.bind_none, len_l, len_t, ixl_1_0, ixl_2_0, ixl_2_1, ixl_3_0, ixl_3_1, ixl_3_2, ixl_4_0, ixl_4_1, ixl_4_2, ixl_4_3, ixl_5_0, ixl_5_1, ixl_5_2, ixl_5_3, ixl_5_4, ixl_6_0, ixl_6_1, ixl_6_2, ixl_6_3, ixl_6_4, ixl_6_5, ixl_1_m, ixl_2_m, ixl_3_m])
  | `(tactic| push_cast [$ls,*]) => `(tactic| simp only [c_we_lit, c_we_call', c_we_make', rd_al, sd_al, mk_al, c_we_glb, c_we_var, c_we_op2, c_we_b1, c_we_mk, c_we_cmp, c_wt_cmp, c_wt_val, c_wt_and, c_wt_or, c_wt_not, c_wts_nil, c_wts_cons, c_wo_e, c_wo_v, c_wos_nil, c_wos_cons, c_wes_nil, c_wes_cons, c_we_lst, c_we_tup, c_we_dnl, c_we_not, c_we_isi, c_we_fld, c_we_rev, c_ws_nil, c_ws_cons, c_ws_asg, c_ws_if, c_ws_for, c_ws_retS, c_ws_exp, c_we_pop, c_we_mv, c_ws_app', c_ws_rvs', rev_li, dl_li, fold0_li, liT_sh, liT_ow2, get_map, ex_eq, List.map_nil, c_wi_rngL, false_or, or_false, false_and, and_assoc, exists_and_left, exists_false, exists_eq, T.ow.injEq, exists_eq_right, cmp_eq_nil, liT_un, sh_un, rd_nil, mul_l, mul_mm, pow_18, pow_9, pow_6, mod_l, fdv_l, fold_li, nil_li, nil_al,  List.length_map, Int.reduceLT, Int.reduceNeg, Int.reducePow, Nat.lt_add_one, Nat.zero_lt_succ, Nat.reduceMul, Int.reduceToNat, okRng, Int.reduceLE, decide_true, and_self, bin_add, bin_sub, rd_int, rd_abs, cmp_lt, cmp_gt, OVrd_s, OVrd_t, OVsd_s, OVsd_t, OVget_s, OVget_t, rd_sh, sd_sh, rd_li, sd_li, gset, List.length_nil, List.length_cons, Nat.zero_le, if_true, if_false, ite_true, ite_false, Bool.false_eq_true, Nat.sub_self, List.append_nil, List.nil_append, List.cons_append, List.getElem?_cons_zero, List.getElem?_cons_succ, List.set_cons_zero, List.set_cons_succ, Option.some.injEq, exists_eq_left', exists_eq_left, Option.bind_some, Option.map_some, List.replicate_succ, List.replicate_zero, Nat.reduceSub, Nat.reduceLT, Nat.reduceAdd, reduceCtorEq, ne_eq, not_false_eq_true, true_and, and_true, c_wi_lst', c_wi_rng1', sh_inj, int_inj, lst_inj, c_we_didx', c_we_idx', c_we_dget, getK_al, c_ws_setf, c_wi_keys, dT_un, st_ne0, own_li, c_we_callF, c_we_makeF, c_ln_nil, c_ln_s, c_ln_t, back_nil, back_s, back_t, c_we_kid_s, c_we_kid_t, ko_sh, ko_ow, c_we_chn, c_wt_chn, c_we_and', c_we_ite, c_we_b2, c_we_lc', c_we_meth', gsets, List.map_cons, tru_bl, Bool.not_true, Bool.not_false, cmp_eq_int, cmp_ne_int, cmp_le, cmp_ge, ixS_l, ixS_t, ixS_k, fd_s, decide_false, sizeLine_eq, Nat.reduceEqDiff, Nat.reduceLeDiff, c_wi_enm, rd_neg, mx_int, bl_inj, cmp_lt, wipeE, pk_s, pk_t, cls_ow, cls_sh, lk1, Option.bind_none, len_l, len_t, ixl_1_0, ixl_2_0, ixl_2_1, ixl_3_0, ixl_3_1, ixl_3_2, ixl_4_0, ixl_4_1, ixl_4_2, ixl_4_3, ixl_5_0, ixl_5_1, ixl_5_2, ixl_5_3, ixl_5_4, ixl_6_0, ixl_6_1, ixl_6_2, ixl_6_3, ixl_6_4, ixl_6_5, ixl_1_m, ixl_2_m, ixl_3_m, $ls,*])
def svD (S O A : Nat) (t : Tbl) : D := .nd (.ins 1) [.int S, .int O, .int A, tbD t]
def cSvInit : FnS := evD ⟨[cLens, cIsEnt], []⟩ t_Service_init
theorem svinit_go {S O A : Nat} {t : Tbl} {x : T} {Q : T → List T → Prop} (ok : TabOk S O A t) (hx : x.rd = some (tbD t)) (q : ∀ y, y.rd = some (svD S O A t) → Q y [.sh (tbD t)]) : Mk cSvInit 1 [x] Q := by
  unfold Mk
  apply evD_ret
  · rfl
  unfold t_Service_init
  have nx : (x = .un) = False := eq_false fun z => by subst z; cases hx
  have nt : (T.sh (tbD t)).rd = some (tbD t) := rfl
  have ls := ok.ls
  have s0 := ok.s0
  have s1 := ok.s1
  have o0 := ok.o0
  have o1 := ok.o1
  have a0 := ok.a0
  have a1 := ok.a1
  obtain ⟨p0, g0⟩ : ∃ p0, t[0]? = some p0 := ⟨_, List.getElem?_eq_getElem (by omega : 0 < t.length)⟩
  have mp := List.mem_of_getElem? g0
  have l0 := ok.lo p0 mp
  obtain ⟨r0, g1⟩ : ∃ r0, p0[0]? = some r0 := ⟨_, List.getElem?_eq_getElem (by omega : 0 < p0.length)⟩
  have l1 := ok.la p0 mp r0 (List.mem_of_getElem? g1)
  push_cast [nx]
  refine lens_go ok hx ?_
  push_cast [len_tb, ls, setF]
  refine ko_pl rfl rfl g0 fun x1 hx1 => ?_
  have nx1 : (x1 = .un) = False := eq_false fun z => by subst z; cases hx1
  push_cast [len_pl, l0, nx1, setF]
  refine ko_pl hx1 rfl g0 fun x2 hx2 => ?_
  have nx2 : (x2 = .un) = False := eq_false fun z => by subst z; cases hx2
  push_cast [nx2]
  refine ko_row rfl g1 ?_
  push_cast [len_row, l1, nx2, setF, hx2]
  refine ⟨_, rfl, ?_⟩
  refine lc_seq plD (fun done acc e1 => acc = done.map cpP ∧ e1 = [.ow (.ins 1) [iT S, iT O, iT A], .sh (tbD t), .un, .un, .un, .un, .un]) ⟨rfl, rfl⟩ ?_ ?_
  · rintro p done rs hd acc e1 ⟨rfl, rfl⟩
    have hl : done.length < 1000 := by have := congrArg List.length hd; simp at this; omega
    refine ⟨_, rfl, ?_⟩
    simp only [wts_nil, if_true]
    refine rows_go (by have := ok.lo p (by rw [hd]; simp); omega) rfl (by simp) rfl ?_
    refine ⟨by rw [sizeLine_eq]; simp; omega, by simp, ?_⟩
    simp only [wipeE]
    rfl
  rintro acc e1 ⟨rfl, rfl⟩
  push_cast [setF, okRng]
  refine ⟨by simp; omega, ?_⟩
  refine for_list (xs := List.range S) (fun (i : Nat) => D.int (0 + (i : Int))) (fun done e => ∃ pl x2 x3 x5, pl.rd = some (tbD t) ∧ e = [.ow (.ins 1) [iT S, iT O, iT A, pl], .sh (tbD t), x2, x3, .un, x5, .un]) ⟨cpT t, _, _, _, rd_cpT, rfl⟩ ?_ ?_
  · rintro i done r hd e ⟨pl, x2, x3, x5, hpl, rfl⟩
    obtain ⟨hi, hiS⟩ := range_at hd
    obtain ⟨p, gp⟩ : ∃ p, t[i]? = some p := ⟨_, List.getElem?_eq_getElem (by omega : i < t.length)⟩
    have mp := List.mem_of_getElem? gp
    have lp := ok.lo p mp
    refine ⟨_, rfl, ?_⟩
    push_cast [okRng]
    refine ⟨by simp; omega, ?_⟩
    refine for_list (xs := List.range O) (fun (i : Nat) => D.int (0 + (i : Int))) (fun done e => ∃ pl x3 x5, pl.rd = some (tbD t) ∧ e = [.ow (.ins 1) [iT S, iT O, iT A, pl], .sh (tbD t), iT (0 + (i : Int)), x3, .un, x5, .un]) ⟨pl, _, _, hpl, rfl⟩ ?_ ?_
    · rintro j done2 r2 hd2 e ⟨pl, x3, x5, hpl, rfl⟩
      obtain ⟨hj, hjO⟩ := range_at hd2
      obtain ⟨w, gw⟩ : ∃ w, p[j]? = some w := ⟨_, List.getElem?_eq_getElem (by omega : j < p.length)⟩
      have mw := List.mem_of_getElem? gw
      have lw := ok.la p mp w mw
      refine ⟨_, rfl, ?_⟩
      push_cast [okRng]
      refine ⟨by simp; omega, ?_⟩
      refine for_list (xs := List.range A) (fun (i : Nat) => D.int (0 + (i : Int))) (fun done e => ∃ pl x5, pl.rd = some (tbD t) ∧ e = [.ow (.ins 1) [iT S, iT O, iT A, pl], .sh (tbD t), iT (0 + (i : Int)), iT (0 + (j : Int)), .un, x5, .un]) ⟨pl, _, hpl, rfl⟩ ?_ ?_
      · rintro k done3 r3 hd3 e ⟨pl, x5, hpl, rfl⟩
        obtain ⟨hk, hkA⟩ := range_at hd3
        obtain ⟨en, ge⟩ : ∃ en, w[k]? = some en := ⟨_, List.getElem?_eq_getElem (by omega : k < w.length)⟩
        refine ⟨_, rfl, ?_⟩
        push_cast [hpl]
        refine ko_pl rfl (by omega) gp fun _ _ => ?_
        push_cast
        refine ko_row (by omega) gw ?_
        push_cast
        refine ko_ent (by omega) ge ?_
        push_cast
        refine isent_go (ok.en p mp w mw en (List.mem_of_getElem? ge)) ?_
        push_cast
        exact ⟨_, rfl, _, rfl⟩
      · rintro e ⟨pl, x5, hpl, rfl⟩
        push_cast
        exact ⟨_, hpl, _, _, rfl⟩
    · rintro e ⟨pl, x3, x5, hpl, rfl⟩
      push_cast
      exact ⟨_, hpl, _, _, _, rfl⟩
  rintro e ⟨pl, x2, x3, x5, hpl, rfl⟩
  push_cast
  refine ⟨.ow (.ins 1) [iT S, iT O, iT A, pl], [.sh (tbD t)], rfl, q _ ?_⟩
  simp only [T.rd, T.rds, hpl, svD]
end BC
set_option Elab.async false
set_option linter.all false
set_option maxRecDepth 100000
set_option maxHeartbeats 4000000
namespace BC
open PySem PySem.Spec PyProof.Rows L2
local macro_rules
  | `(tactic| push_cast) => `(tactic| simp only [c_we_lit, c_we_call', c_we_make', rd_al, sd_al, mk_al, c_we_glb, c_we_var, c_we_op2, c_we_b1, c_we_mk, c_we_cmp, c_wt_cmp, c_wt_val, c_wt_and, c_wt_or, c_wt_not, c_wts_nil, c_wts_cons, c_wo_e, c_wo_v, c_wos_nil, c_wos_cons, c_wes_nil, c_wes_cons, c_we_lst, c_we_tup, c_we_dnl, c_we_not, c_we_isi, c_we_fld, c_we_rev, c_ws_nil, c_ws_cons, c_ws_asg, c_ws_if, c_ws_for, c_ws_retS, c_ws_exp, c_we_pop, c_we_mv, c_ws_app', c_ws_rvs', rev_li, dl_li, fold0_li, liT_sh, liT_ow2, get_map, ex_eq, List.map_nil, c_wi_rngL, false_or, or_false, false_and, and_assoc, exists_and_left, exists_false, exists_eq, T.ow.injEq, exists_eq_right, cmp_eq_nil, liT_un, sh_un, rd_nil, mul_l, mul_mm, pow_18, pow_9, pow_6, mod_l, fdv_l, fold_li, nil_li, nil_al,  List.length_map, Int.reduceLT, Int.reduceNeg, Int.reducePow, Nat.lt_add_one, Nat.zero_lt_succ, Nat.reduceMul, Int.reduceToNat, okRng, Int.reduceLE, decide_true, and_self, bin_add, bin_sub, rd_int, rd_abs, cmp_lt, cmp_gt, OVrd_s, OVrd_t, OVsd_s, OVsd_t, OVget_s, OVget_t, rd_sh, sd_sh, rd_li, sd_li, gset, List.length_nil, List.length_cons, Nat.zero_le, if_true, if_false, ite_true, ite_false, Bool.false_eq_true, Nat.sub_self, List.append_nil, List.nil_append, List.cons_append, List.getElem?_cons_zero, List.getElem?_cons_succ, List.set_cons_zero, List.set_cons_succ, Option.some.injEq, exists_eq_left', exists_eq_left, Option.bind_some, Option.map_some, List.replicate_succ, List.replicate_zero, Nat.reduceSub, Nat.reduceLT, Nat.reduceAdd, reduceCtorEq, ne_eq, not_false_eq_true, true_and, and_true, c_wi_lst', c_wi_rng1', sh_inj, int_inj, lst_inj, c_we_didx', c_we_idx', c_we_dget, getK_al, c_ws_setf, c_wi_keys, dT_un, st_ne0, own_li, c_we_callF, c_we_makeF, c_ln_nil, c_ln_s, c_ln_t, back_nil, back_s, back_t, c_we_kid_s, c_we_kid_t, ko_sh, ko_ow, c_we_chn, c_wt_chn, c_we_and', c_we_ite, c_we_b2, c_we_lc', c_we_meth', gsets, List.map_cons, tru_bl, Bool.not_true, Bool.not_false, cmp_eq_int, cmp_ne_int, cmp_le, cmp_ge, ixS_l, ixS_t, ixS_k, fd_s, decide_false, sizeLine_eq, Nat.reduceEqDiff, Nat.reduceLeDiff, c_wi_enm, rd_neg, mx_int, bl_inj, cmp_lt, wipeE, pk_s, pk_t, cls_ow, cls_sh, lk1, Option.bind_none, len_l, len_t, ixl_1_0, ixl_2_0, ixl_2_1, ixl_3_0, ixl_3_1, ixl_3_2, ixl_4_0, ixl_4_1, ixl_4_2, ixl_4_3, ixl_5_0, ixl_5_1, ixl_5_2, ixl_5_3, ixl_5_4, ixl_6_0, ixl_6_1, ixl_6_2, ixl_6_3, ixl_6_4, ixl_6_5, ixl_1_m, ixl_2_m, ixl_3_m])
  | `(tactic| push_cast [$ls,*]) => `(tactic| simp only [c_we_lit, c_we_call', c_we_make', rd_al, sd_al, mk_al, c_we_glb, c_we_var, c_we_op2, c_we_b1, c_we_mk, c_we_cmp, c_wt_cmp, c_wt_val, c_wt_and, c_wt_or, c_wt_not, c_wts_nil, c_wts_cons, c_wo_e, c_wo_v, c_wos_nil, c_wos_cons, c_wes_nil, c_wes_cons, c_we_lst, c_we_tup, c_we_dnl, c_we_not, c_we_isi, c_we_fld, c_we_rev, c_ws_nil, c_ws_cons, c_ws_asg, c_ws_if, c_ws_for, c_ws_retS, c_ws_exp, c_we_pop, c_we_mv, c_ws_app', c_ws_rvs', rev_li, dl_li, fold0_li, liT_sh, liT_ow2, get_map, ex_eq, List.map_nil, c_wi_rngL, false_or, or_false, false_and, and_assoc, exists_and_left, exists_false, exists_eq, T.ow.injEq, exists_eq_right, cmp_eq_nil, liT_un, sh_un, rd_nil, mul_l, mul_mm, pow_18, pow_9, pow_6, mod_l, fdv_l, fold_li, nil_li, nil_al,  List.length_map, Int.reduceLT, Int.reduceNeg, Int.reducePow, Nat.lt_add_one, Nat.zero_lt_succ, Nat.reduceMul, Int.reduceToNat, okRng, Int.reduceLE, decide_true, and_self, bin_add, bin_sub, rd_int, rd_abs, cmp_lt, cmp_gt, OVrd_s, OVrd_t, OVsd_s, OVsd_t, OVget_s, OVget_t, rd_sh, sd_sh, rd_li, sd_li, gset, List.length_nil, List.length_cons, Nat.zero_le, if_true, if_false, ite_true, ite_false, Bool.false_eq_true, Nat.sub_self, List.append_nil, List.nil_append, List.cons_append, List.getElem?_cons_zero, List.getElem?_cons_succ, List.set_cons_zero, List.set_cons_succ, Option.some.injEq, exists_eq_left', exists_eq_left, Option.bind_some, Option.map_some, List.replicate_succ, List.replicate_zero, Nat.reduceSub, Nat.reduceLT, Nat.reduceAdd, reduceCtorEq, ne_eq, not_false_eq_true, true_and, and_true, c_wi_lst', c_wi_rng1', sh_inj, int_inj, lst_inj, c_we_didx', c_we_idx', c_we_dget, getK_al, c_ws_setf, c_wi_keys, dT_un, st_ne0, own_li, c_we_callF, c_we_makeF, c_ln_nil, c_ln_s, c_ln_t, back_nil, back_s, back_t, c_we_kid_s, c_we_kid_t, ko_sh, ko_ow, c_we_chn, c_wt_chn, c_we_and', c_we_ite, c_we_b2, c_we_lc', c_we_meth', gsets, List.map_cons, tru_bl, Bool.not_true, Bool.not_false, cmp_eq_int, cmp_ne_int, cmp_le, cmp_ge, ixS_l, ixS_t, ixS_k, fd_s, decide_false, sizeLine_eq, Nat.reduceEqDiff, Nat.reduceLeDiff, c_wi_enm, rd_neg, mx_int, bl_inj, cmp_lt, wipeE, pk_s, pk_t, cls_ow, cls_sh, lk1, Option.bind_none, len_l, len_t, ixl_1_0, ixl_2_0, ixl_2_1, ixl_3_0, ixl_3_1, ixl_3_2, ixl_4_0, ixl_4_1, ixl_4_2, ixl_4_3, ixl_5_0, ixl_5_1, ixl_5_2, ixl_5_3, ixl_5_4, ixl_6_0, ixl_6_1, ixl_6_2, ixl_6_3, ixl_6_4, ixl_6_5, ixl_1_m, ixl_2_m, ixl_3_m, $ls,*])
abbrev Rq := Int × Int
def rqD (r : Rq) : D := .nd .tup [.int r.1, .int r.2]
def rqT (r : Rq) : T := .ow .tup [iT r.1, iT r.2]
def lsD (ks : List Int) : D := .nd .lst (ks.map D.int)
theorem ko_ls_in {ks : List Int} {i : Int} {Q : D → T → Prop} (h0 : 0 ≤ i) (h1 : i < ks.length) (q : ∀ j, j ∈ ks → Q (.int j) (.sh (lsD ks))) : Ko (.sh (lsD ks)) (ixSel i) Q := by
  have hj : i.toNat < ks.length := by omega
  exact ko_sh.mpr ⟨i.toNat, show ixN _ _ = _ by rw [ixN_in h0 (by simpa using h1)], .int ks[i.toNat], by simp [List.getElem?_eq_getElem hj], q _ (List.getElem_mem hj)⟩
theorem len_ls {ks : List Int} : pRd .len (lsD ks) = some (.int ks.length) := by simp [lsD, len_l]
def cReqs : FnS := evD ⟨[cTake], []⟩ t_law_requests
theorem reqs_go {is ks : List Int} {A n : Int} {Q : T → List T → Prop} (hA : 0 < A) (hn : 0 ≤ n ∧ n ≤ 1000) (hk : 0 < ks.length) (q : ∀ (rs : List Rq) is', rs.length = n.toNat → (∀ r ∈ rs, r.1 ∈ ks ∧ 0 ≤ r.2 ∧ r.2 < A) → Q (.ow .lst (rs.map rqT)) [liT is', .sh (lsD ks), iT A, iT n]) : Sp cReqs [liT is, .sh (lsD ks), iT A, iT n] Q := by
  apply evD_ret
  · rfl
  unfold t_law_requests
  push_cast
  refine ⟨by simp [okRng]; omega, ?_⟩
  refine lc_seq (xs := List.range n.toNat) (fun (i : Nat) => D.int (0 + (i : Int))) (fun done acc e => ∃ (is : List Int) (rs : List Rq), acc = rs.map rqT ∧ rs.length = done.length ∧ (∀ r ∈ rs, r.1 ∈ ks ∧ 0 ≤ r.2 ∧ r.2 < A) ∧ e = [liT is, .sh (lsD ks), iT A, iT n, .un]) ⟨is, [], rfl, rfl, by simp, rfl⟩ ?_ ?_
  · rintro i done r hd acc e ⟨is, rs, rfl, hl, hr, rfl⟩
    obtain ⟨hi, hin⟩ := range_at hd
    refine ⟨_, rfl, ?_⟩
    push_cast [len_ls]
    refine take_go (by omega) fun x is1 x0 x1 => ?_
    push_cast
    refine ko_ls_in x0 x1 fun k hk => ?_
    push_cast
    refine take_go hA fun y is2 y0 y1 => ?_
    push_cast
    refine ⟨by omega, is2, rs ++ [(k, y)], by simp [rqT], by simp [hl], fun r hr' => ?_, rfl⟩
    rcases List.mem_append.mp hr' with h | h
    · exact hr r h
    · cases List.mem_singleton.mp h
      exact ⟨hk, y0, y1⟩
  · rintro acc e ⟨is, rs, rfl, hl, hr, rfl⟩
    push_cast
    exact q rs is (by simpa using hl) hr
def cBare : FnS := evD ⟨[cTake], []⟩ t_law_bare
theorem bare_go {is ks : List Int} {A : Al} {Q : T → List T → Prop} (hks : ks.length ≤ 100) (hA : ∀ k, k ∈ kys A ↔ k ∈ ks) (hv : ∀ k v, gt A k = some v → 0 ≤ v) (q : ∀ B is', ND B → B.length ≤ ks.length → (∀ k v, gt B k = some v → gt A k = some v) → (∀ k, (gt B k).getD 0 = (gt A k).getD 0) → Q (dT B) [liT is', .sh (lsD ks), .sh (dD A)]) : Sp cBare [liT is, .sh (lsD ks), .sh (dD A)] Q := by
  apply evD_ret
  · rfl
  unfold t_law_bare
  push_cast
  refine ⟨_, rfl, ?_⟩
  refine for_list D.int (fun done e => ∃ is B x, e = [liT is, .sh (lsD ks), .sh (dD A), dT B, x] ∧ ND B ∧ B.length ≤ done.length ∧ (∀ k v, gt B k = some v → gt A k = some v) ∧ ∀ k ∈ done, (gt B k).getD 0 = (gt A k).getD 0) ⟨is, [], _, rfl, List.nodup_nil, Nat.le_refl _, fun k v h => (by cases h), fun k h => (by cases h)⟩ ?_ ?_
  · rintro k done r hd e ⟨is, B, x, rfl, nB, lB, hB, hb⟩
    have hl : done.length ≤ 100 := by have := congrArg List.length hd; simp at this; omega
    obtain ⟨v, g⟩ := gt_some_of ((hA k).mpr (by rw [hd]; simp))
    have v0 := hv k v g
    refine ⟨_, rfl, ?_⟩
    push_cast
    refine ko_alD g ?_
    push_cast
    have yes : ∀ is, WS (evS ⟨[cTake], []⟩ (.setd 3 (.var 4) (.didx (.v 2) (.v 4)))) [liT is, .sh (lsD ks), .sh (dD A), dT B, iT k] fun f e2 => f = .nx ∧ ∃ is B x, e2 = [liT is, .sh (lsD ks), .sh (dD A), dT B, x] ∧ ND B ∧ B.length ≤ (done ++ [k]).length ∧ (∀ k v, gt B k = some v → gt A k = some v) ∧ ∀ j ∈ done ++ [k], (gt B j).getD 0 = (gt A j).getD 0 := fun is => by
      refine ws_setd rfl ?_
      push_cast
      refine ko_alD g ?_
      push_cast
      refine ⟨B, rfl, B, rfl, nB, by omega, is, put B k v, _, rfl, nd_put _ _ nB, ?_, fun j w h => ?_, fun j hj => ?_⟩
      · have := len_put B k v
        simp
        omega
      · rw [gt_put] at h
        split at h
        · rename_i e; subst e; cases h; exact g
        · exact hB j w h
      · rw [gt_put]
        split
        · rename_i e; subst e; rw [g]
        · rcases List.mem_append.mp hj with h | h
          · exact hb j h
          · cases List.mem_singleton.mp h
            rename_i e
            exact absurd rfl e
    by_cases hv0 : 0 < v
    · push_cast [hv0]
      exact WS_mono (yes is) fun f e2 ⟨h, is', B', x', he, k⟩ => by subst h; subst he; push_cast; exact ⟨is', B', x', rfl, k⟩
    · have vz : v = 0 := by omega
      subst vz
      push_cast
      refine take_go (by decide) fun c is1 c0 c1 => ?_
      push_cast
      by_cases hc : c = 1
      · push_cast [hc]
        exact WS_mono (yes is1) fun f e2 ⟨h, is', B', x', he, k⟩ => by subst h; subst he; push_cast; exact ⟨is', B', x', rfl, k⟩
      · push_cast [hc]
        refine ⟨is1, B, _, rfl, nB, by simp; omega, hB, fun j hj => ?_⟩
        rcases List.mem_append.mp hj with h | h
        · exact hb j h
        · cases List.mem_singleton.mp h
          rw [g]
          cases gb : gt B k with
          | none => rfl
          | some w => rw [hB k w gb] at g; cases g; rfl
  · rintro e ⟨is, B, x, rfl, nB, lB, hB, hb⟩
    push_cast
    refine .inr ⟨_, _, rfl, q B is nB lB hB fun k => ?_⟩
    by_cases hk : k ∈ ks
    · exact hb k hk
    · cases gb : gt B k with
      | none =>
        cases ga : gt A k with
        | none => rfl
        | some v => exact absurd ((hA k).mp (gt_kys.mp (by rw [ga]; rfl))) hk
      | some w => rw [hB k w gb]
end BC
set_option Elab.async false
set_option linter.all false
set_option maxRecDepth 100000
set_option maxHeartbeats 4000000
namespace BC
open PySem PySem.Spec PyProof.Rows L2
local macro_rules
  | `(tactic| push_cast) => `(tactic| simp only [c_we_lit, c_we_call', c_we_make', rd_al, sd_al, mk_al, c_we_glb, c_we_var, c_we_op2, c_we_b1, c_we_mk, c_we_cmp, c_wt_cmp, c_wt_val, c_wt_and, c_wt_or, c_wt_not, c_wts_nil, c_wts_cons, c_wo_e, c_wo_v, c_wos_nil, c_wos_cons, c_wes_nil, c_wes_cons, c_we_lst, c_we_tup, c_we_dnl, c_we_not, c_we_isi, c_we_fld, c_we_rev, c_ws_nil, c_ws_cons, c_ws_asg, c_ws_if, c_ws_for, c_ws_retS, c_ws_exp, c_we_pop, c_we_mv, c_ws_app', c_ws_rvs', rev_li, dl_li, fold0_li, liT_sh, liT_ow2, get_map, ex_eq, List.map_nil, c_wi_rngL, false_or, or_false, false_and, and_assoc, exists_and_left, exists_false, exists_eq, T.ow.injEq, exists_eq_right, cmp_eq_nil, liT_un, sh_un, rd_nil, mul_l, mul_mm, pow_18, pow_9, pow_6, mod_l, fdv_l, fold_li, nil_li, nil_al,  List.length_map, Int.reduceLT, Int.reduceNeg, Int.reducePow, Nat.lt_add_one, Nat.zero_lt_succ, Nat.reduceMul, Int.reduceToNat, okRng, Int.reduceLE, decide_true, and_self, bin_add, bin_sub, rd_int, rd_abs, cmp_lt, cmp_gt, OVrd_s, OVrd_t, OVsd_s, OVsd_t, OVget_s, OVget_t, rd_sh, sd_sh, rd_li, sd_li, gset, List.length_nil, List.length_cons, Nat.zero_le, if_true, if_false, ite_true, ite_false, Bool.false_eq_true, Nat.sub_self, List.append_nil, List.nil_append, List.cons_append, List.getElem?_cons_zero, List.getElem?_cons_succ, List.set_cons_zero, List.set_cons_succ, Option.some.injEq, exists_eq_left', exists_eq_left, Option.bind_some, Option.map_some, List.replicate_succ, List.replicate_zero, Nat.reduceSub, Nat.reduceLT, Nat.reduceAdd, reduceCtorEq, ne_eq, not_false_eq_true, true_and, and_true, c_wi_lst', c_wi_rng1', sh_inj, int_inj, lst_inj, c_we_didx', c_we_idx', c_we_dget, getK_al, c_ws_setf, c_wi_keys, dT_un, st_ne0, own_li, c_we_callF, c_we_makeF, c_ln_nil, c_ln_s, c_ln_t, back_nil, back_s, back_t, c_we_kid_s, c_we_kid_t, ko_sh, ko_ow, c_we_chn, c_wt_chn, c_we_and', c_we_ite, c_we_b2, c_we_lc', c_we_meth', gsets, List.map_cons, tru_bl, Bool.not_true, Bool.not_false, cmp_eq_int, cmp_ne_int, cmp_le, cmp_ge, ixS_l, ixS_t, ixS_k, fd_s, decide_false, sizeLine_eq, Nat.reduceEqDiff, Nat.reduceLeDiff, c_wi_enm, rd_neg, mx_int, bl_inj, cmp_lt, wipeE, pk_s, pk_t, cls_ow, cls_sh, lk1, Option.bind_none, len_l, len_t, ixl_1_0, ixl_2_0, ixl_2_1, ixl_3_0, ixl_3_1, ixl_3_2, ixl_4_0, ixl_4_1, ixl_4_2, ixl_4_3, ixl_5_0, ixl_5_1, ixl_5_2, ixl_5_3, ixl_5_4, ixl_6_0, ixl_6_1, ixl_6_2, ixl_6_3, ixl_6_4, ixl_6_5, ixl_1_m, ixl_2_m, ixl_3_m])
  | `(tactic| push_cast [$ls,*]) => `(tactic| simp only [c_we_lit, c_we_call', c_we_make', rd_al, sd_al, mk_al, c_we_glb, c_we_var, c_we_op2, c_we_b1, c_we_mk, c_we_cmp, c_wt_cmp, c_wt_val, c_wt_and, c_wt_or, c_wt_not, c_wts_nil, c_wts_cons, c_wo_e, c_wo_v, c_wos_nil, c_wos_cons, c_wes_nil, c_wes_cons, c_we_lst, c_we_tup, c_we_dnl, c_we_not, c_we_isi, c_we_fld, c_we_rev, c_ws_nil, c_ws_cons, c_ws_asg, c_ws_if, c_ws_for, c_ws_retS, c_ws_exp, c_we_pop, c_we_mv, c_ws_app', c_ws_rvs', rev_li, dl_li, fold0_li, liT_sh, liT_ow2, get_map, ex_eq, List.map_nil, c_wi_rngL, false_or, or_false, false_and, and_assoc, exists_and_left, exists_false, exists_eq, T.ow.injEq, exists_eq_right, cmp_eq_nil, liT_un, sh_un, rd_nil, mul_l, mul_mm, pow_18, pow_9, pow_6, mod_l, fdv_l, fold_li, nil_li, nil_al,  List.length_map, Int.reduceLT, Int.reduceNeg, Int.reducePow, Nat.lt_add_one, Nat.zero_lt_succ, Nat.reduceMul, Int.reduceToNat, okRng, Int.reduceLE, decide_true, and_self, bin_add, bin_sub, rd_int, rd_abs, cmp_lt, cmp_gt, OVrd_s, OVrd_t, OVsd_s, OVsd_t, OVget_s, OVget_t, rd_sh, sd_sh, rd_li, sd_li, gset, List.length_nil, List.length_cons, Nat.zero_le, if_true, if_false, ite_true, ite_false, Bool.false_eq_true, Nat.sub_self, List.append_nil, List.nil_append, List.cons_append, List.getElem?_cons_zero, List.getElem?_cons_succ, List.set_cons_zero, List.set_cons_succ, Option.some.injEq, exists_eq_left', exists_eq_left, Option.bind_some, Option.map_some, List.replicate_succ, List.replicate_zero, Nat.reduceSub, Nat.reduceLT, Nat.reduceAdd, reduceCtorEq, ne_eq, not_false_eq_true, true_and, and_true, c_wi_lst', c_wi_rng1', sh_inj, int_inj, lst_inj, c_we_didx', c_we_idx', c_we_dget, getK_al, c_ws_setf, c_wi_keys, dT_un, st_ne0, own_li, c_we_callF, c_we_makeF, c_ln_nil, c_ln_s, c_ln_t, back_nil, back_s, back_t, c_we_kid_s, c_we_kid_t, ko_sh, ko_ow, c_we_chn, c_wt_chn, c_we_and', c_we_ite, c_we_b2, c_we_lc', c_we_meth', gsets, List.map_cons, tru_bl, Bool.not_true, Bool.not_false, cmp_eq_int, cmp_ne_int, cmp_le, cmp_ge, ixS_l, ixS_t, ixS_k, fd_s, decide_false, sizeLine_eq, Nat.reduceEqDiff, Nat.reduceLeDiff, c_wi_enm, rd_neg, mx_int, bl_inj, cmp_lt, wipeE, pk_s, pk_t, cls_ow, cls_sh, lk1, Option.bind_none, len_l, len_t, ixl_1_0, ixl_2_0, ixl_2_1, ixl_3_0, ixl_3_1, ixl_3_2, ixl_4_0, ixl_4_1, ixl_4_2, ixl_4_3, ixl_5_0, ixl_5_1, ixl_5_2, ixl_5_3, ixl_5_4, ixl_6_0, ixl_6_1, ixl_6_2, ixl_6_3, ixl_6_4, ixl_6_5, ixl_1_m, ixl_2_m, ixl_3_m, $ls,*])
/-- the entry of a request -/
def look (t : Tbl) (s o a : Int) (en : Ent) : Prop := ∃ p r, 0 ≤ s ∧ 0 ≤ o ∧ 0 ≤ a ∧ t[s.toNat]? = some p ∧ p[o.toNat]? = some r ∧ r[a.toNat]? = some en
theorem TabOk.look {S O A : Nat} {t : Tbl} {s o a : Int} (h : TabOk S O A t) (hs : 0 ≤ s ∧ s < S) (ho : 0 ≤ o ∧ o < O) (ha : 0 ≤ a ∧ a < A) : ∃ en, look t s o a en ∧ EntOk S O en := by
  have h1 : s.toNat < t.length := by have := h.ls; omega
  have m1 := List.getElem_mem h1
  have h2 : o.toNat < t[s.toNat].length := by have := h.lo _ m1; omega
  have m2 := List.getElem_mem h2
  have h3 : a.toNat < t[s.toNat][o.toNat].length := by have := h.la _ m1 _ m2; omega
  exact ⟨_, ⟨_, _, hs.1, ho.1, ha.1, List.getElem?_eq_getElem h1, List.getElem?_eq_getElem h2, List.getElem?_eq_getElem h3⟩, h.en _ m1 _ m2 _ (List.getElem_mem h3)⟩
/-- what a call leaves -/
def nxS (s : Int) (en : Ent) : Int := if en.1 < 0 then s else en.2.1
def nxA (A : Al) (k : Int) (en : Ent) : Al := if en.1 < 0 then A else put A k en.2.2
def mnD (s : Int) (A : Al) : D := .nd .lst [.int s, dD A]
theorem getL_alT : ∀ (A : Al) (k : Int), getL (kK A) (vT A) (.inl k) = (gt A k).map iT
  | [], _ => rfl
  | (j, w) :: A, k => by
    have ih := getL_alT A k
    simp only [kK, vT, List.map_cons, getL, gt] at ih ⊢
    by_cases h : j = k
    · subst h; simp
    · have : ¬ ((Sum.inl j : Key) = .inl k) := fun z => h (inl_inj.mp z)
      rw [if_neg this, if_neg h, ih]
theorem ko_plS {tb : Tbl} {p : List (List Ent)} {i : Int} {n : Nat} {Q : D → T → Prop} (h : i = n) (g : tb[n]? = some p) (q : Q (plD p) (.sh (tbD tb))) : Ko (.sh (tbD tb)) (ixSel i) Q := by
  subst h
  have := (List.getElem?_eq_some_iff.mp g).1
  exact ko_sh.mpr ⟨n, show ixN _ _ = some n by rw [ixN_in (by omega) (by simp; omega)]; simp, plD p, by rw [List.getElem?_map, g]; rfl, q⟩
section
variable {X : Ctx} {e : En} {P : T → En → Prop} {PS : Fl → En → Prop}
theorem we_pget_al {i : Nat} {p : List PSt} {k d : CO} {t : T} {A : Al} (h : e[i]? = some t) (h2 : t.at_ p = some (dT A)) (w : WE (evO X k) (e.set i .un) fun y e1 => WE (evO X d) e1 fun z e2 => ∃ kk dd, z = .t (iT dd) ∧ y.rd e2 = some (.int kk) ∧ P (iT ((gt A kk).getD dd)) (e2.set i t)) : WE (evE X (.pget i p k d)) e P := by
  refine we_pget h h2 (WE_mono w fun y e1 w => WE_mono w ?_)
  rintro z e2 ⟨kk, dd, rfl, h3, p⟩
  refine ⟨_, _, _, rfl, h3, rfl, ?_⟩
  rw [getL_alT]
  cases g : gt A kk with
  | none => rw [g] at p; exact .inl ⟨rfl, p⟩
  | some v => rw [g] at p; exact .inr ⟨_, rfl, p⟩
theorem ws_seti {i : Nat} {k c : CE} (w : WE (evE X c) e fun x e1 => (∃ kd ts0, e1[i]? = some (.ow kd ts0)) ∧ WE (evE X k) e1 fun y e2 => ∃ ts j n, e2[i]? = some (.ow .lst ts) ∧ y = iT j ∧ ixN ts.length j = some n ∧ PS .nx (e2.set i (.ow .lst (ts.set n x)))) : WS (evS X (.seti i k c)) e PS := by
  simp only [evS]
  rw [WS_bdS]
  refine WE_mono w ?_
  rintro x e1 ⟨⟨kd, ts0, g⟩, w⟩
  have q : WS (bdS (evE X k) fun y => upS fun e => match e[i]?, y with
    | some (.ow .lst ts), .sh (.int j) => match ixN ts.length j with
      | some n => some (e.set i (.ow .lst (ts.set n x)))
      | none => none
    | _, _ => none) e1 PS := by
    rw [WS_bdS]
    refine WE_mono w ?_
    rintro y e2 ⟨ts, j, n, h1, rfl, h2, p⟩
    rw [WS_upS]
    exact ⟨_, by rw [h1]; dsimp only; rw [h2], p⟩
  unfold WS at q ⊢
  simp only [gdT, g]
  exact q
end
theorem put_set {A : Al} {k v : Int} : T.ow (.dk (putL (kK A) (vT A) (.inl k) (iT v)).1) (putL (kK A) (vT A) (.inl k) (iT v)).2 = dT (put A k v) := by rw [putL_al]; rfl
def cSing : FnS := evD ⟨[], []⟩ t_law_singles
theorem singles_go {t : Tbl} {s k a : Int} {A : Al} {en : Ent} {Q : T → List T → Prop} (nA : ND A) (lA : A.length ≤ 1000) (hl : look t s ((gt A k).getD 0) a en) (q : ∀ x, Q (.ow .lst [.sh (.nd .lst [.int en.1]), .sh (mnD (nxS s en) (nxA A k en))]) [.sh (tbD t), .sh (mnD s A), x]) : Sp cSing [.sh (tbD t), .sh (mnD s A), .ow .lst [.sh (rqD (k, a))]] Q := by
  apply evD_ret
  · rfl
  unfold t_law_singles
  obtain ⟨p, r, s0, o0, a0, g1, g2, g3⟩ := hl
  have sdA : (T.sh (dD A)).sd = some (dD A) := rfl
  push_cast [mnD, mk_al, T.rd, T.rds]
  refine for_list (xs := [(k, a)]) rqD (fun done e => (done = [] → e = [.sh (tbD t), .sh (mnD s A), .sh (.nd .lst [rqD (k, a)]), .ow .lst [iT s, dT A], .ow .lst [], .un, .un]) ∧ (done ≠ [] → ∃ x5 x6, e = [.sh (tbD t), .sh (mnD s A), .sh (.nd .lst [rqD (k, a)]), .ow .lst [iT (nxS s en), dT (nxA A k en)], .ow .lst [iT en.1], x5, x6])) ⟨fun _ => rfl, fun h => absurd rfl h⟩ ?_ ?_
  · rintro ⟨k', a'⟩ done r' hd e ⟨he, _⟩
    obtain ⟨rfl, h2, rfl⟩ : done = [] ∧ (k', a') = (k, a) ∧ r' = [] := by
      cases done with
      | nil => cases hd; exact ⟨rfl, rfl, rfl⟩
      | cons x xs => simp at hd
    cases h2
    have := he rfl
    subst this
    refine ⟨_, rfl, ?_⟩
    push_cast
    refine ko_plS (by omega : s = (s.toNat : Int)) g1 ?_
    push_cast
    refine we_pget_al (A := A) rfl rfl ?_
    push_cast [rqD]
    refine ⟨k, 0, rfl, rfl, ?_⟩
    push_cast
    refine ko_row (by omega : (gt A k).getD 0 = (((gt A k).getD 0).toNat : Int)) g2 ?_
    push_cast
    refine ko_ent (by omega : a = (a.toNat : Int)) g3 ?_
    push_cast [entD]
    by_cases h0 : 0 ≤ en.1
    · have hn : ¬ en.1 < 0 := by omega
      push_cast [h0]
      refine ws_seti ?_
      push_cast
      refine ws_psetd ?_
      push_cast
      refine ⟨kK A, vT A, rfl, .inl k, rfl, by simp [kK]; omega, kK_nd nA, fun h => h.elim, fun _ => ?_⟩
      simp only [nxS, nxA, if_neg hn, ← put_set]
      exact ⟨_, _, rfl⟩
    · have hn : en.1 < 0 := by omega
      push_cast [h0]
      refine ⟨fun h => h.elim, fun _ => ?_⟩
      simp only [nxS, nxA, if_pos hn]
      exact ⟨_, _, rfl⟩
  · rintro e ⟨_, h⟩
    obtain ⟨x5, x6, rfl⟩ := h (by simp)
    have r1 : (T.ow Kd.lst [iT (nxS s en), dT (nxA A k en)]).rd = some (mnD (nxS s en) (nxA A k en)) := by simp only [T.rd, T.rds, rd_al, mnD]
    have r2 : (T.ow Kd.lst [iT en.1]).rd = some (.nd .lst [.int en.1]) := rfl
    push_cast [r1, r2]
    exact q _
end BC
set_option Elab.async false
set_option linter.all false
set_option maxRecDepth 100000
set_option maxHeartbeats 4000000
namespace BC
open PySem PySem.Spec PyProof.Rows L2
local macro_rules
  | `(tactic| push_cast) => `(tactic| simp only [c_we_lit, c_we_call', c_we_make', rd_al, sd_al, mk_al, c_we_glb, c_we_var, c_we_op2, c_we_b1, c_we_mk, c_we_cmp, c_wt_cmp, c_wt_val, c_wt_and, c_wt_or, c_wt_not, c_wts_nil, c_wts_cons, c_wo_e, c_wo_v, c_wos_nil, c_wos_cons, c_wes_nil, c_wes_cons, c_we_lst, c_we_tup, c_we_dnl, c_we_not, c_we_isi, c_we_fld, c_we_rev, c_ws_nil, c_ws_cons, c_ws_asg, c_ws_if, c_ws_for, c_ws_retS, c_ws_exp, c_we_pop, c_we_mv, c_ws_app', c_ws_rvs', rev_li, dl_li, fold0_li, liT_sh, liT_ow2, get_map, ex_eq, List.map_nil, c_wi_rngL, false_or, or_false, false_and, and_assoc, exists_and_left, exists_false, exists_eq, T.ow.injEq, exists_eq_right, cmp_eq_nil, liT_un, sh_un, rd_nil, mul_l, mul_mm, pow_18, pow_9, pow_6, mod_l, fdv_l, fold_li, nil_li, nil_al,  List.length_map, Int.reduceLT, Int.reduceNeg, Int.reducePow, Nat.lt_add_one, Nat.zero_lt_succ, Nat.reduceMul, Int.reduceToNat, okRng, Int.reduceLE, decide_true, and_self, bin_add, bin_sub, rd_int, rd_abs, cmp_lt, cmp_gt, OVrd_s, OVrd_t, OVsd_s, OVsd_t, OVget_s, OVget_t, rd_sh, sd_sh, rd_li, sd_li, gset, List.length_nil, List.length_cons, Nat.zero_le, if_true, if_false, ite_true, ite_false, Bool.false_eq_true, Nat.sub_self, List.append_nil, List.nil_append, List.cons_append, List.getElem?_cons_zero, List.getElem?_cons_succ, List.set_cons_zero, List.set_cons_succ, Option.some.injEq, exists_eq_left', exists_eq_left, Option.bind_some, Option.map_some, List.replicate_succ, List.replicate_zero, Nat.reduceSub, Nat.reduceLT, Nat.reduceAdd, reduceCtorEq, ne_eq, not_false_eq_true, true_and, and_true, c_wi_lst', c_wi_rng1', sh_inj, int_inj, lst_inj, c_we_didx', c_we_idx', c_we_dget, getK_al, c_ws_setf, c_wi_keys, dT_un, st_ne0, own_li, c_we_callF, c_we_makeF, c_ln_nil, c_ln_s, c_ln_t, back_nil, back_s, back_t, c_we_kid_s, c_we_kid_t, ko_sh, ko_ow, c_we_chn, c_wt_chn, c_we_and', c_we_ite, c_we_b2, c_we_lc', c_we_meth', gsets, List.map_cons, tru_bl, Bool.not_true, Bool.not_false, cmp_eq_int, cmp_ne_int, cmp_le, cmp_ge, ixS_l, ixS_t, ixS_k, fd_s, decide_false, sizeLine_eq, Nat.reduceEqDiff, Nat.reduceLeDiff, c_wi_enm, rd_neg, mx_int, bl_inj, cmp_lt, wipeE, pk_s, pk_t, cls_ow, cls_sh, lk1, Option.bind_none, len_l, len_t, ixl_1_0, ixl_2_0, ixl_2_1, ixl_3_0, ixl_3_1, ixl_3_2, ixl_4_0, ixl_4_1, ixl_4_2, ixl_4_3, ixl_5_0, ixl_5_1, ixl_5_2, ixl_5_3, ixl_5_4, ixl_6_0, ixl_6_1, ixl_6_2, ixl_6_3, ixl_6_4, ixl_6_5, ixl_1_m, ixl_2_m, ixl_3_m])
  | `(tactic| push_cast [$ls,*]) => `(tactic| simp only [c_we_lit, c_we_call', c_we_make', rd_al, sd_al, mk_al, c_we_glb, c_we_var, c_we_op2, c_we_b1, c_we_mk, c_we_cmp, c_wt_cmp, c_wt_val, c_wt_and, c_wt_or, c_wt_not, c_wts_nil, c_wts_cons, c_wo_e, c_wo_v, c_wos_nil, c_wos_cons, c_wes_nil, c_wes_cons, c_we_lst, c_we_tup, c_we_dnl, c_we_not, c_we_isi, c_we_fld, c_we_rev, c_ws_nil, c_ws_cons, c_ws_asg, c_ws_if, c_ws_for, c_ws_retS, c_ws_exp, c_we_pop, c_we_mv, c_ws_app', c_ws_rvs', rev_li, dl_li, fold0_li, liT_sh, liT_ow2, get_map, ex_eq, List.map_nil, c_wi_rngL, false_or, or_false, false_and, and_assoc, exists_and_left, exists_false, exists_eq, T.ow.injEq, exists_eq_right, cmp_eq_nil, liT_un, sh_un, rd_nil, mul_l, mul_mm, pow_18, pow_9, pow_6, mod_l, fdv_l, fold_li, nil_li, nil_al,  List.length_map, Int.reduceLT, Int.reduceNeg, Int.reducePow, Nat.lt_add_one, Nat.zero_lt_succ, Nat.reduceMul, Int.reduceToNat, okRng, Int.reduceLE, decide_true, and_self, bin_add, bin_sub, rd_int, rd_abs, cmp_lt, cmp_gt, OVrd_s, OVrd_t, OVsd_s, OVsd_t, OVget_s, OVget_t, rd_sh, sd_sh, rd_li, sd_li, gset, List.length_nil, List.length_cons, Nat.zero_le, if_true, if_false, ite_true, ite_false, Bool.false_eq_true, Nat.sub_self, List.append_nil, List.nil_append, List.cons_append, List.getElem?_cons_zero, List.getElem?_cons_succ, List.set_cons_zero, List.set_cons_succ, Option.some.injEq, exists_eq_left', exists_eq_left, Option.bind_some, Option.map_some, List.replicate_succ, List.replicate_zero, Nat.reduceSub, Nat.reduceLT, Nat.reduceAdd, reduceCtorEq, ne_eq, not_false_eq_true, true_and, and_true, c_wi_lst', c_wi_rng1', sh_inj, int_inj, lst_inj, c_we_didx', c_we_idx', c_we_dget, getK_al, c_ws_setf, c_wi_keys, dT_un, st_ne0, own_li, c_we_callF, c_we_makeF, c_ln_nil, c_ln_s, c_ln_t, back_nil, back_s, back_t, c_we_kid_s, c_we_kid_t, ko_sh, ko_ow, c_we_chn, c_wt_chn, c_we_and', c_we_ite, c_we_b2, c_we_lc', c_we_meth', gsets, List.map_cons, tru_bl, Bool.not_true, Bool.not_false, cmp_eq_int, cmp_ne_int, cmp_le, cmp_ge, ixS_l, ixS_t, ixS_k, fd_s, decide_false, sizeLine_eq, Nat.reduceEqDiff, Nat.reduceLeDiff, c_wi_enm, rd_neg, mx_int, bl_inj, cmp_lt, wipeE, pk_s, pk_t, cls_ow, cls_sh, lk1, Option.bind_none, len_l, len_t, ixl_1_0, ixl_2_0, ixl_2_1, ixl_3_0, ixl_3_1, ixl_3_2, ixl_4_0, ixl_4_1, ixl_4_2, ixl_4_3, ixl_5_0, ixl_5_1, ixl_5_2, ixl_5_3, ixl_5_4, ixl_6_0, ixl_6_1, ixl_6_2, ixl_6_3, ixl_6_4, ixl_6_5, ixl_1_m, ixl_2_m, ixl_3_m, $ls,*])
theorem mem_insI {x i : Int} : ∀ {is : List Int}, x ∈ insI i is ↔ x = i ∨ x ∈ is
  | [] => by simp [insI]
  | j :: js => by
    unfold insI
    split
    · simp
    · have := mem_insI (x := x) (i := i) (is := js)
      simp only [List.mem_cons, this]
      constructor
      · rintro (h | h | h)
        · exact .inr (.inl h)
        · exact .inl h
        · exact .inr (.inr h)
      · rintro (h | h | h)
        · exact .inr (.inl h)
        · exact .inl h
        · exact .inr (.inr h)
theorem mem_srtI {x : Int} : ∀ {is : List Int}, x ∈ srtI is ↔ x ∈ is
  | [] => by simp [srtI]
  | i :: is => by
    simp only [srtI, mem_insI, mem_srtI (is := is), List.mem_cons]
theorem ints_map {is : List Int} : D.ints (is.map D.int) = some is := by
  induction is with
  | nil => rfl
  | cons i is ih => simp [D.ints, ih]
theorem mk_srt {is : List Int} : pMk .sorted (.nd .lst (is.map D.int)) = some (liT (srtI is)) := by
  show (match D.ints (is.map D.int) with
    | some is => some (own .lst ((srtI is).map D.int))
    | none => none) = _
  rw [ints_map]
  simp [own, liT]
theorem kK_kD {A : Al} : (kK A).map kD = (kys A).map D.int := by simp [kK, kys, kD]
/-- the store fits -/
structure StOk (S O : Nat) (s : Int) (A : Al) : Prop where
  s0 : 0 ≤ s
  s1 : s < S
  nd : ND A
  ln : A.length ≤ 1000
  ks : ∀ k ∈ kys A, 0 ≤ k ∧ k ≤ 1000000000
  vs : ∀ k v, gt A k = some v → 0 ≤ v ∧ v < O
theorem StOk.get {S O : Nat} {s : Int} {A : Al} (h : StOk S O s A) (hO : 1 ≤ O) (k : Int) : 0 ≤ (gt A k).getD 0 ∧ (gt A k).getD 0 < O := by
  cases g : gt A k with
  | none => simp; omega
  | some v => exact h.vs k v g
def cChkS : FnS := evD ⟨[], [.int 1000000000]⟩ t_check_store
theorem chks_go {S O Ac : Nat} {t : Tbl} {x : T} {s : Int} {A : Al} {Q : T → List T → Prop} (w : StT x s A) (ok : StOk S O s A) (q : ∀ x', StT x' s A → Q (.sh .non) [.sh (svD S O Ac t), x']) : Sp cChkS [.sh (svD S O Ac t), x] Q := by
  apply evD_ret
  · rfl
  unfold t_check_store
  push_cast [w.ne]
  refine ko_fld0 w ?_
  push_cast [svD, ok.s0, ok.s1, w.ne]
  refine ko_fld1 w fun x1 w1 => ?_
  push_cast
  refine ⟨_, _, rfl, ?_⟩
  rw [kK_kD]
  refine lc_seq (xs := kys A) D.int (fun done acc e => acc = done.map iT ∧ e = [.sh (svD S O Ac t), x1, .un]) ⟨rfl, rfl⟩ ?_ ?_
  · rintro k done r hd acc e ⟨rfl, rfl⟩
    have hl : done.length < 1000 := by have := congrArg List.length hd; have := ok.ln; simp [kys] at *; omega
    refine ⟨_, rfl, ?_⟩
    push_cast
    exact ⟨by omega, by simp⟩
  rintro acc e ⟨rfl, rfl⟩
  have sdl : (T.ow Kd.lst ((kys A).map iT)).sd = some (.nd .lst ((kys A).map D.int)) := sd_li
  push_cast [sdl, mk_srt]
  refine for_list D.int (fun done e => ∃ x1 y, StT x1 s A ∧ e = [.sh (svD S O Ac t), x1, y]) ⟨_, _, w1, rfl⟩ ?_ ?_
  · rintro k done r hd e ⟨x1, y, w1, rfl⟩
    have hk : k ∈ kys A := mem_srtI.mp (by rw [hd]; simp)
    obtain ⟨k0, k1⟩ := ok.ks k hk
    obtain ⟨v, g⟩ := gt_some_of hk
    obtain ⟨v0, v1⟩ := ok.vs k v g
    refine ⟨_, rfl, ?_⟩
    push_cast [k0, k1, w1.ne]
    refine ko_fld1 w1 fun x2 w2 => ?_
    push_cast
    refine ko_alD g ?_
    push_cast [svD, v0, v1]
    exact ⟨_, w2, _, rfl⟩
  · rintro e ⟨x1, y, w1, rfl⟩
    push_cast
    exact q _ w1
def cChkR : FnS := evD ⟨[], [.int 1000000000]⟩ t_check_requests
theorem chkr1_go {S O Ac : Nat} {t : Tbl} {k a : Int} {Q : T → List T → Prop} (hk : 0 ≤ k ∧ k ≤ 1000000000) (ha : 0 ≤ a ∧ a < Ac) (q : ∀ x, Q (.sh .non) [.sh (svD S O Ac t), x]) : Sp cChkR [.sh (svD S O Ac t), .ow .lst [.sh (rqD (k, a))]] Q := by
  apply evD_ret
  · rfl
  unfold t_check_requests
  push_cast [T.rd, T.rds]
  refine for_list (xs := [(k, a)]) (fun r => .nd .tup [.int 0, rqD r]) (fun done e => ∃ x y z w, e = [.sh (svD S O Ac t), x, y, z, w]) ⟨_, _, _, _, rfl⟩ ?_ ?_
  · rintro ⟨k', a'⟩ done r' hd e ⟨x, y, z, w, rfl⟩
    obtain ⟨rfl, h2, rfl⟩ : done = [] ∧ (k', a') = (k, a) ∧ r' = [] := by
      cases done with
      | nil => cases hd; exact ⟨rfl, rfl, rfl⟩
      | cons x xs => simp at hd
    cases h2
    refine ⟨_, rfl, ?_⟩
    push_cast [svD, hk.1, hk.2, ha.1, ha.2]
    exact ⟨_, _, _, _, rfl⟩
  · rintro e ⟨x, y, z, w, rfl⟩
    push_cast
    exact q _
def cEntryM : FnS := evD ⟨[], []⟩ t_Service_entry
theorem entm_go {S O Ac : Nat} {t : Tbl} {s o a : Int} {en : Ent} {Q : T → List T → Prop} (hl : look t s o a en) (q : Q (.sh (entD en)) [.sh (svD S O Ac t), iT s, iT o, iT a]) : Sp cEntryM [.sh (svD S O Ac t), iT s, iT o, iT a] Q := by
  apply evD_ret
  · rfl
  unfold t_Service_entry
  obtain ⟨p, r, s0, o0, a0, g1, g2, g3⟩ := hl
  push_cast [svD]
  refine ko_plS (by omega : s = (s.toNat : Int)) g1 ?_
  push_cast
  refine ko_row (by omega : o = (o.toNat : Int)) g2 ?_
  push_cast
  refine ko_ent (by omega : a = (a.toNat : Int)) g3 ?_
  push_cast
  exact q
theorem get_go {x : T} {s k : Int} {A : Al} {Q : T → List T → Prop} (w : StT x s A) (q : ∀ x', StT x' s A → Q (iT ((gt A k).getD 0)) [x', iT k]) : Sp cGet [x, iT k] Q := by
  obtain ⟨r, ts', h1, x', h2, h3, w'⟩ := get_ok (k := k) w
  subst h2
  subst h3
  exact ⟨_, _, h1, q x' w'⟩
theorem init_go {s : Int} {A : Al} {x : T} {Q : T → List T → Prop} (h : x = dT A ∨ x = .sh (dD A)) (q : Q (stO s A) [iT s, x]) : Mk cInit 0 [iT s, x] Q := by
  obtain ⟨t, ts', h1, h2, h3⟩ := init_ok (s := s) h
  subst h2
  subst h3
  exact ⟨_, _, h1, rfl, _, _, rfl, q⟩
def cFound : FnS := evD ⟨[cEntryM, cGet], []⟩ t_found_entry
theorem found_go {S O Ac : Nat} {t : Tbl} {x : T} {s k a : Int} {A : Al} {en : Ent} {Q : T → List T → Prop} (w : StT x s A) (hl : look t s ((gt A k).getD 0) a en) (q : ∀ x', StT x' s A → Q (.sh (entD en)) [.sh (svD S O Ac t), x', .sh (rqD (k, a))]) : Sp cFound [.sh (svD S O Ac t), x, .sh (rqD (k, a))] Q := by
  apply evD_ret
  · rfl
  unfold t_found_entry
  push_cast [rqD, svD, w.ne]
  refine ko_fld0 w ?_
  push_cast
  refine we_ogi ?_
  push_cast [w.ne, w.cls]
  refine get_go w fun x1 w1 => ?_
  push_cast [w1.ne]
  refine entm_go hl ?_
  push_cast
  exact q x1 w1
def cMoved : FnS := evD ⟨[cInit], []⟩ t_Store_moved
theorem moved_go {x : T} {s s' k v : Int} {A : Al} {Q : T → List T → Prop} (w : StT x s A) (nA : ND A) (lA : A.length ≤ 1000) (q : ∀ x', StT x' s A → Q (stO s' (put A k v)) [x', iT s', iT k, iT v]) : Sp cMoved [x, iT s', iT k, iT v] Q := by
  apply evD_ret
  · rfl
  unfold t_Store_moved
  push_cast [w.ne]
  refine ko_fld1 w fun x1 w1 => ?_
  have sdA : (T.sh (dD A)).sd = some (dD A) := rfl
  push_cast [mk_al]
  refine ws_setd rfl ?_
  push_cast
  refine ⟨A, rfl, A, rfl, nA, by omega, ?_⟩
  push_cast [dT_un]
  refine init_go (.inl rfl) ?_
  push_cast
  exact q x1 w1
def cStep : FnS := evD ⟨[cFound, cMoved], []⟩ t_step
theorem step_go {S O Ac : Nat} {t : Tbl} {x : T} {s k a : Int} {A : Al} {en : Ent} {Q : T → List T → Prop} (w : StT x s A) (nA : ND A) (lA : A.length ≤ 1000) (hl : look t s ((gt A k).getD 0) a en) (q : ∀ x' y, StT x' s A → StT y (nxS s en) (nxA A k en) → Q (.ow .tup [iT en.1, y]) [.sh (svD S O Ac t), x', .sh (rqD (k, a))]) : Sp cStep [.sh (svD S O Ac t), x, .sh (rqD (k, a))] Q := by
  apply evD_ret
  · rfl
  unfold t_step
  push_cast [w.ne]
  refine found_go w hl fun x1 w1 => ?_
  push_cast [entD]
  by_cases h : en.1 < 0
  · push_cast [h, w1.rd]
    have := q (.sh (stD s A)) (.sh (stD s A)) .d (by rw [nxS, nxA, if_pos h, if_pos h]; exact .d)
    exact this
  · push_cast [h, w1.ne, w1.cls]
    push_cast [rqD]
    refine moved_go w1 nA lA fun x2 w2 => ?_
    push_cast
    refine q x2 _ w2 ?_
    rw [nxS, nxA, if_neg h, if_neg h]
    exact .o
def cSingle : FnS := evD ⟨[cChkS, cChkR, cStep], []⟩ t_single
theorem single_go {S O Ac : Nat} {t : Tbl} {x : T} {s k a : Int} {A : Al} {en : Ent} {Q : T → List T → Prop} (w : StT x s A) (ok : StOk S O s A) (hk : 0 ≤ k ∧ k ≤ 1000000000) (ha : 0 ≤ a ∧ a < Ac) (hl : look t s ((gt A k).getD 0) a en) (q : ∀ x' y, StT x' s A → StT y (nxS s en) (nxA A k en) → Q (.ow .tup [iT en.1, y]) [.sh (svD S O Ac t), x', .sh (rqD (k, a))]) : Sp cSingle [.sh (svD S O Ac t), x, .sh (rqD (k, a))] Q := by
  apply evD_ret
  · rfl
  unfold t_single
  push_cast [w.ne]
  refine chks_go w ok fun x1 w1 => ?_
  push_cast
  refine chkr1_go hk ha fun y => ?_
  push_cast [w1.ne]
  refine step_go w1 ok.nd ok.ln hl fun x2 y w2 w3 => ?_
  push_cast
  exact q x2 y w2 w3
theorem isst_go {s : Int} {A B : Al} {t p l : T} {ks : List Int} {Q : T → List T → Prop} (w : StT t s A) (wp : PrT p s B) (hl : l = liT ks ∨ l = .sh (lsD ks)) (nA : ND A) (nB : ND B) (lA : A.length ≤ 1000) (lB : B.length ≤ 1000) (lk : ks.length ≤ 1000) (eq : ∀ k, (gt A k).getD 0 = (gt B k).getD 0) (q : ∀ t' p', StT t' s A → PrT p' s B → Q (.sh (.bl true)) [t', p', l]) : Sp cIsSt [t, p, l] Q := by
  obtain ⟨r, ts', h1, t', p', h2, h3, w', wp'⟩ := isst_ok w wp hl nA nB lA lB lk eq
  subst h2
  subst h3
  exact ⟨_, _, h1, q t' p' w' wp'⟩
theorem eq_go {s s' : Int} {A B : Al} {t u : T} {Q : T → List T → Prop} (w : StT t s A) (w' : StT u s' B) (nA : ND A) (nB : ND B) (lA : A.length ≤ 1000) (lB : B.length ≤ 1000) (q : ∀ b t' u', StT t' s A → StT u' s' B → (b = true ↔ EqS s s' A B) → Q (.sh (.bl b)) [t', u']) : Sp cEq [t, u] Q := by
  obtain ⟨r, ts', h1, b, t', u', h2, h3, w1, w2, hb⟩ := eq_ok w w' nA nB lA lB
  subst h2
  subst h3
  exact ⟨_, _, h1, q b t' u' w1 w2 hb⟩
theorem isint_go {i : Int} {Q : T → List T → Prop} (q : Q (.sh (.bl true)) [iT i]) : Sp cIsInt [iT i] Q := ⟨_, _, isint_ok, q⟩
theorem isstS_go {s : Int} {A B : Al} {t : T} {ks : List Int} {Q : T → List T → Prop} (w : StT t s A) (nA : ND A) (nB : ND B) (lA : A.length ≤ 1000) (lB : B.length ≤ 1000) (lk : ks.length ≤ 1000) (eq : ∀ k, (gt A k).getD 0 = (gt B k).getD 0) (q : ∀ t', StT t' s A → Q (.sh (.bl true)) [t', .sh (mnD s B), .sh (lsD ks)]) : Sp cIsSt [t, .sh (mnD s B), .sh (lsD ks)] Q := by
  apply evD_ret
  · rfl
  unfold t_law_is_store
  have ty : isTy (stD s A) (.cls 0) = some true := rfl
  push_cast [w.ne, w.rd, ty]
  refine ko_fld0 w ?_
  push_cast
  refine isint_go ?_
  push_cast [w.ne]
  refine ko_fld0 w ?_
  have s2 : (T.ow Kd.lst [T.sh (D.int 5), T.sh (D.int 123456789)]).sd = some (.nd .lst [.int 5, .int 123456789]) := rfl
  have add : pBin .add (lsD ks) (.nd .lst [.int 5, .int 123456789]) = some (liT (ks ++ [5, 123456789])) := by
    show (if _ then _ else _) = _
    rw [if_pos (by rw [sizeLine_eq]; simp; omega)]
    simp [own, liT]
  push_cast [mnD, s2, add]
  refine for_list D.int (fun done e => ∃ t x, StT t s A ∧ e = [t, .sh (mnD s B), .sh (lsD ks), x]) ⟨_, _, w, rfl⟩ ?_ ?_
  · rintro m done r hd e ⟨t, x, w, rfl⟩
    refine ⟨_, rfl, ?_⟩
    push_cast
    refine we_ogi ?_
    push_cast [w.ne, w.cls]
    refine get_go w fun t1 w1 => ?_
    push_cast
    refine isint_go ?_
    push_cast
    refine we_ogi ?_
    push_cast [w1.ne, w1.cls]
    refine get_go w1 fun t2 w2 => ?_
    have dk : isDk (some (.sh (dD B))) = some () := rfl
    have g : (Option.map D.int (gt B m)).getD (.int 0) = .int ((gt B m).getD 0) := by cases gt B m <;> rfl
    have sdB : (T.sh (dD B)).sd = some (dD B) := rfl
    push_cast [mnD]
    refine ⟨rfl, .int 0, rfl, ?_⟩
    push_cast [g, eq m]
    exact ⟨_, w2, _, rfl⟩
  · rintro e ⟨t, x, w, rfl⟩
    push_cast
    refine we_ocmp ?_
    push_cast [w.ne, mnD, mk_al]
    refine init_go (.inl rfl) ?_
    have c0 : clsOf (stO s B) = some 0 := rfl
    push_cast [w.cls, w.ne, st_ne0]
    refine ⟨ins_st (i := 0) rfl w, ins_stT .o, ?_⟩
    refine eq_go w .o nA nB lA lB fun b t1 u1 w1 w2 hb => ?_
    have hbt : b = true := hb.mpr ⟨rfl, fun k => by rw [gt_nz nA, gt_nz nB]; exact filt_eq (eq k)⟩
    subst hbt
    push_cast [cmp_is]
    exact q t1 w1
theorem pool_go {ns : List Int} {Q : T → List T → Prop} (hn : ns.length ≤ 63) (q : ∀ is, Q (liT is) [scrD ns]) : Sp cPool [scrD ns] Q := by
  obtain ⟨t, ts', h1, is, h2, h3⟩ := pool_ok (X := ⟨[], []⟩) hn
  subst h2
  subst h3
  exact ⟨_, _, h1, q is⟩
theorem keys_go {is : List Int} {Q : T → List T → Prop} (q : ∀ ks is', ks.length = 4 → (∀ k ∈ ks, 0 ≤ k ∧ k ≤ 1000000000) → Q (liT ks) [liT is']) : Sp cKeys [liT is] Q := by
  obtain ⟨t, ts', h1, ks, is', h2, h3, h4, h5⟩ := keys_ok (is := is)
  subst h2
  subst h3
  exact ⟨_, _, h1, q ks is' h4 h5⟩
theorem states_go {is ks : List Int} {mm : Int} {Q : T → List T → Prop} (hmm : 0 < mm) (hk : ks.length ≤ 100) (q : ∀ A is', ND A → A.length ≤ ks.length → (∀ k, k ∈ kys A ↔ k ∈ ks) → (∀ k v, gt A k = some v → 0 ≤ v ∧ v < mm) → Q (dT A) [liT is', .sh (lsD ks), iT mm]) : Sp cStates [liT is, liT ks, iT mm] Q := by
  obtain ⟨t, ts', h1, A, is', h2, h3, h4, h5, h6, h7⟩ := states_ok (is := is) hmm hk
  subst h2
  subst h3
  exact ⟨_, _, h1, q A is' h4 h5 h6 h7⟩
end BC
set_option Elab.async false
set_option linter.all false
set_option maxRecDepth 100000
set_option maxHeartbeats 8000000
namespace BC
open PySem PySem.Spec PyProof.Rows L2
local macro_rules
  | `(tactic| push_cast) => `(tactic| simp only [c_we_lit, c_we_call', c_we_make', rd_al, sd_al, mk_al, c_we_glb, c_we_var, c_we_op2, c_we_b1, c_we_mk, c_we_cmp, c_wt_cmp, c_wt_val, c_wt_and, c_wt_or, c_wt_not, c_wts_nil, c_wts_cons, c_wo_e, c_wo_v, c_wos_nil, c_wos_cons, c_wes_nil, c_wes_cons, c_we_lst, c_we_tup, c_we_dnl, c_we_not, c_we_isi, c_we_fld, c_we_rev, c_ws_nil, c_ws_cons, c_ws_asg, c_ws_if, c_ws_for, c_ws_retS, c_ws_exp, c_we_pop, c_we_mv, c_ws_app', c_ws_rvs', rev_li, dl_li, fold0_li, liT_sh, liT_ow2, get_map, ex_eq, List.map_nil, c_wi_rngL, false_or, or_false, false_and, and_assoc, exists_and_left, exists_false, exists_eq, T.ow.injEq, exists_eq_right, cmp_eq_nil, liT_un, sh_un, rd_nil, mul_l, mul_mm, pow_18, pow_9, pow_6, mod_l, fdv_l, fold_li, nil_li, nil_al,  List.length_map, Int.reduceLT, Int.reduceNeg, Int.reducePow, Nat.lt_add_one, Nat.zero_lt_succ, Nat.reduceMul, Int.reduceToNat, okRng, Int.reduceLE, decide_true, and_self, bin_add, bin_sub, rd_int, rd_abs, cmp_lt, cmp_gt, OVrd_s, OVrd_t, OVsd_s, OVsd_t, OVget_s, OVget_t, rd_sh, sd_sh, rd_li, sd_li, gset, List.length_nil, List.length_cons, Nat.zero_le, if_true, if_false, ite_true, ite_false, Bool.false_eq_true, Nat.sub_self, List.append_nil, List.nil_append, List.cons_append, List.getElem?_cons_zero, List.getElem?_cons_succ, List.set_cons_zero, List.set_cons_succ, Option.some.injEq, exists_eq_left', exists_eq_left, Option.bind_some, Option.map_some, List.replicate_succ, List.replicate_zero, Nat.reduceSub, Nat.reduceLT, Nat.reduceAdd, reduceCtorEq, ne_eq, not_false_eq_true, true_and, and_true, c_wi_lst', c_wi_rng1', sh_inj, int_inj, lst_inj, c_we_didx', c_we_idx', c_we_dget, getK_al, c_ws_setf, c_wi_keys, dT_un, st_ne0, own_li, c_we_callF, c_we_makeF, c_ln_nil, c_ln_s, c_ln_t, back_nil, back_s, back_t, c_we_kid_s, c_we_kid_t, ko_sh, ko_ow, c_we_chn, c_wt_chn, c_we_and', c_we_ite, c_we_b2, c_we_lc', c_we_meth', gsets, List.map_cons, tru_bl, Bool.not_true, Bool.not_false, cmp_eq_int, cmp_ne_int, cmp_le, cmp_ge, ixS_l, ixS_t, ixS_k, fd_s, decide_false, sizeLine_eq, Nat.reduceEqDiff, Nat.reduceLeDiff, c_wi_enm, rd_neg, mx_int, bl_inj, cmp_lt, wipeE, pk_s, pk_t, cls_ow, cls_sh, lk1, Option.bind_none, len_l, len_t, ixl_1_0, ixl_2_0, ixl_2_1, ixl_3_0, ixl_3_1, ixl_3_2, ixl_4_0, ixl_4_1, ixl_4_2, ixl_4_3, ixl_5_0, ixl_5_1, ixl_5_2, ixl_5_3, ixl_5_4, ixl_6_0, ixl_6_1, ixl_6_2, ixl_6_3, ixl_6_4, ixl_6_5, ixl_1_m, ixl_2_m, ixl_3_m])
  | `(tactic| push_cast [$ls,*]) => `(tactic| simp only [c_we_lit, c_we_call', c_we_make', rd_al, sd_al, mk_al, c_we_glb, c_we_var, c_we_op2, c_we_b1, c_we_mk, c_we_cmp, c_wt_cmp, c_wt_val, c_wt_and, c_wt_or, c_wt_not, c_wts_nil, c_wts_cons, c_wo_e, c_wo_v, c_wos_nil, c_wos_cons, c_wes_nil, c_wes_cons, c_we_lst, c_we_tup, c_we_dnl, c_we_not, c_we_isi, c_we_fld, c_we_rev, c_ws_nil, c_ws_cons, c_ws_asg, c_ws_if, c_ws_for, c_ws_retS, c_ws_exp, c_we_pop, c_we_mv, c_ws_app', c_ws_rvs', rev_li, dl_li, fold0_li, liT_sh, liT_ow2, get_map, ex_eq, List.map_nil, c_wi_rngL, false_or, or_false, false_and, and_assoc, exists_and_left, exists_false, exists_eq, T.ow.injEq, exists_eq_right, cmp_eq_nil, liT_un, sh_un, rd_nil, mul_l, mul_mm, pow_18, pow_9, pow_6, mod_l, fdv_l, fold_li, nil_li, nil_al,  List.length_map, Int.reduceLT, Int.reduceNeg, Int.reducePow, Nat.lt_add_one, Nat.zero_lt_succ, Nat.reduceMul, Int.reduceToNat, okRng, Int.reduceLE, decide_true, and_self, bin_add, bin_sub, rd_int, rd_abs, cmp_lt, cmp_gt, OVrd_s, OVrd_t, OVsd_s, OVsd_t, OVget_s, OVget_t, rd_sh, sd_sh, rd_li, sd_li, gset, List.length_nil, List.length_cons, Nat.zero_le, if_true, if_false, ite_true, ite_false, Bool.false_eq_true, Nat.sub_self, List.append_nil, List.nil_append, List.cons_append, List.getElem?_cons_zero, List.getElem?_cons_succ, List.set_cons_zero, List.set_cons_succ, Option.some.injEq, exists_eq_left', exists_eq_left, Option.bind_some, Option.map_some, List.replicate_succ, List.replicate_zero, Nat.reduceSub, Nat.reduceLT, Nat.reduceAdd, reduceCtorEq, ne_eq, not_false_eq_true, true_and, and_true, c_wi_lst', c_wi_rng1', sh_inj, int_inj, lst_inj, c_we_didx', c_we_idx', c_we_dget, getK_al, c_ws_setf, c_wi_keys, dT_un, st_ne0, own_li, c_we_callF, c_we_makeF, c_ln_nil, c_ln_s, c_ln_t, back_nil, back_s, back_t, c_we_kid_s, c_we_kid_t, ko_sh, ko_ow, c_we_chn, c_wt_chn, c_we_and', c_we_ite, c_we_b2, c_we_lc', c_we_meth', gsets, List.map_cons, tru_bl, Bool.not_true, Bool.not_false, cmp_eq_int, cmp_ne_int, cmp_le, cmp_ge, ixS_l, ixS_t, ixS_k, fd_s, decide_false, sizeLine_eq, Nat.reduceEqDiff, Nat.reduceLeDiff, c_wi_enm, rd_neg, mx_int, bl_inj, cmp_lt, wipeE, pk_s, pk_t, cls_ow, cls_sh, lk1, Option.bind_none, len_l, len_t, ixl_1_0, ixl_2_0, ixl_2_1, ixl_3_0, ixl_3_1, ixl_3_2, ixl_4_0, ixl_4_1, ixl_4_2, ixl_4_3, ixl_5_0, ixl_5_1, ixl_5_2, ixl_5_3, ixl_5_4, ixl_6_0, ixl_6_1, ixl_6_2, ixl_6_3, ixl_6_4, ixl_6_5, ixl_1_m, ixl_2_m, ixl_3_m, $ls,*])
/-- reversed -/
def rvT (t : Tbl) : Tbl := t.reverse.map fun p => p.reverse.map List.reverse
theorem TabOk.rv {S O A : Nat} {t : Tbl} (h : TabOk S O A t) : TabOk S O A (rvT t) := by
  refine ⟨h.s0, h.s1, h.o0, h.o1, h.a0, h.a1, by simp [rvT, h.ls], fun p hp => ?_, fun p hp r hr => ?_, fun p hp r hr e he => ?_⟩
  · obtain ⟨p', h1, rfl⟩ := List.mem_map.mp hp
    have := h.lo p' (List.mem_reverse.mp h1)
    simpa using this
  · obtain ⟨p', h1, rfl⟩ := List.mem_map.mp hp
    obtain ⟨r', h2, rfl⟩ := List.mem_map.mp hr
    have := h.la p' (List.mem_reverse.mp h1) r' (List.mem_reverse.mp h2)
    simpa using this
  · obtain ⟨p', h1, rfl⟩ := List.mem_map.mp hp
    obtain ⟨r', h2, rfl⟩ := List.mem_map.mp hr
    exact h.en p' (List.mem_reverse.mp h1) r' (List.mem_reverse.mp h2) e (List.mem_reverse.mp he)
abbrev lawX : Ctx := ⟨[cPool, cTable, cSvInit, cCopied, cKeys, cStates, cTake, cReqs, cInit, cBare, cSing, cSingle, cIsSt, cIsInt], []⟩
def cLaw : FnS := evD lawX t_law
/-- what is true of a store and its data -/
structure Gd (S O n : Nat) (s : Int) (A B : Al) : Prop where
  ok : StOk S O s B
  nA : ND A
  lA : A.length ≤ n
  lB : B.length ≤ n
  eq : ∀ k, (gt B k).getD 0 = (gt A k).getD 0
theorem gtD_put {A : Al} {k v j : Int} : (gt (put A k v) j).getD 0 = if k = j then v else (gt A j).getD 0 := by
  rw [gt_put]; split <;> rfl
theorem Gd.next {S O n : Nat} {s k : Int} {A B : Al} {en : Ent} (h : Gd S O n s A B) (hn : n ≤ 900) (ho : EntOk S O en) (hk : 0 ≤ k ∧ k ≤ 1000000000) : Gd S O (n + 1) (nxS s en) (nxA A k en) (nxA B k en) := by
  obtain ⟨a0, a1, s0, s1, o0, o1⟩ := ho
  have lA := h.lA
  have lB := h.lB
  unfold nxS nxA
  by_cases hc : en.1 < 0
  · simp only [if_pos hc]
    exact ⟨h.ok, h.nA, by omega, by omega, h.eq⟩
  · simp only [if_neg hc]
    have l1 := len_put A k en.2.2
    have l2 := len_put B k en.2.2
    refine ⟨⟨s0, s1, nd_put _ _ h.ok.nd, by omega, fun j hj => ?_, fun j v g => ?_⟩, nd_put _ _ h.nA, by omega, by omega, fun j => ?_⟩
    · rcases (mem_kys_put _ _ _ _).mp hj with rfl | hj
      · exact hk
      · exact h.ok.ks j hj
    · rw [gt_put] at g
      split at g
      · cases g; exact ⟨o0, o1⟩
      · exact h.ok.vs j v g
    · rw [gtD_put, gtD_put, h.eq j]
/-- a store and its data, kept -/
abbrev Pr := Int × Al × Al
def prT (p : Pr) : T := .ow .lst [.sh (stD p.1 p.2.1), .sh (mnD p.1 p.2.2)]
def prD (p : Pr) : D := .nd .lst [stD p.1 p.2.1, mnD p.1 p.2.2]
def PrOk (p : Pr) : Prop := ND p.2.1 ∧ ND p.2.2 ∧ p.2.1.length ≤ 1000 ∧ p.2.2.length ≤ 1000 ∧ ∀ k, (gt p.2.1 k).getD 0 = (gt p.2.2 k).getD 0
theorem Gd.pr {S O n : Nat} {s : Int} {A B : Al} (h : Gd S O n s A B) (hn : n ≤ 1000) : PrOk (s, B, A) := ⟨h.ok.nd, h.nA, by have := h.lB; simp only; omega, by have := h.lA; simp only; omega, h.eq⟩
theorem rd_prs {ps : List Pr} : (T.ow .lst (ps.map prT)).rd = some (.nd .lst (ps.map prD)) := by
  unfold T.rd
  rw [rds_map (g := prD) fun _ => rfl]
theorem ity_t {ds : List D} : isTy (.nd .tup ds) .tuple = some true := rfl
theorem rd_tup2 {i : Int} {y : T} {d : D} (h : y.rd = some d) : (T.ow .tup [iT i, y]).rd = some (.nd .tup [.int i, d]) := by simp only [T.rd, T.rds, h]
theorem law_ok {ns : List Int} (hn : ns.length ≤ 63) : Sp cLaw [scrD ns] fun t _ => t = .sh (.bl true) := by
  apply evD_ret
  · rfl
  unfold t_law
  have hs : (scrD ns = .un) = False := by simp [scrD]
  push_cast [hs]
  refine pool_go hn fun is => ?_
  push_cast
  refine table_go (by omega) (by omega) (by omega) fun S O Ac t is1 tok => ?_
  push_cast [rd_tb]
  have S1 := tok.s0
  have S4 := tok.s1
  have O1 := tok.o0
  have O3 := tok.o1
  have A1 := tok.a0
  have A3 := tok.a1
  have ls := tok.ls
  refine ⟨_, rfl, (t.map plD).reverse, by simp only [own, T.rd]; rw [rds_map (f := T.sh) (g := fun d => d) fun _ => rfl]; simp, ?_⟩
  rw [← List.map_reverse]
  refine lc_seq plD (fun done acc e => acc = done.map (fun p => cpP (p.reverse.map List.reverse)) ∧ e = [scrD ns, liT is1, .sh (tbD t), .un, .un, .un, .un, .un, .un, .un, .un, .un, .un, .un, .un, .un, .un]) ⟨rfl, rfl⟩ ?_ ?_
  · rintro p done rs hd acc e ⟨rfl, rfl⟩
    have hl : done.length < 100 := by have := congrArg List.length hd; simp at this; omega
    have hp := tok.lo p (List.mem_reverse.mp (by rw [hd]; simp))
    refine ⟨_, rfl, ?_⟩
    push_cast
    refine ⟨_, rfl, (p.map rowD).reverse, by simp only [own, T.rd]; rw [rds_map (f := T.sh) (g := fun d => d) fun _ => rfl]; simp, ?_⟩
    rw [← List.map_reverse]
    refine lc_seq rowD (fun done2 acc2 e => acc2 = done2.map (fun r => cpR r.reverse) ∧ e = [scrD ns, liT is1, .sh (tbD t), .un, .un, .un, .un, .un, .un, .un, .un, .un, .un, .un, .un, .sh (plD p), .un]) ⟨rfl, rfl⟩ ?_ ?_
    · rintro r done2 rs2 hd2 acc2 e ⟨rfl, rfl⟩
      have hl2 : done2.length < 100 := by have := congrArg List.length hd2; simp at this; omega
      refine ⟨_, rfl, ?_⟩
      push_cast
      refine ⟨_, rfl, by omega, ?_⟩
      simp [cpR, own]
    · rintro acc2 e ⟨rfl, rfl⟩
      push_cast
      refine ⟨by omega, ?_⟩
      simp [cpP]
  rintro acc e ⟨rfl, rfl⟩
  have e3 : T.ow .lst (List.map (fun p => cpP (p.reverse.map List.reverse)) t.reverse) = cpT (rvT t) := by simp [cpT, rvT]
  have n3 : (cpT (rvT t) = .un) = False := by simp [cpT]
  have n4 : (cpT t = .un) = False := by simp [cpT]
  push_cast [e3]
  refine copied_go rfl (by have := tok.few.1; omega) (fun p hp => by have := tok.few.2 p hp; omega) ?_
  push_cast [n4]
  refine svinit_go tok rd_cpT fun z1 hz1 => ?_
  have tok2 := tok.rv
  have e3rd : (cpT (rvT t)).rd = some (tbD (rvT t)) := rd_cpT
  have n5 : (cpT (rvT t) = .un) = False := by simp [cpT]
  push_cast [n3]
  refine copied_go e3rd (by have := tok2.few.1; omega) (fun p hp => by have := tok2.few.2 p hp; omega) ?_
  push_cast [n5]
  refine svinit_go tok2 rd_cpT fun z2 hz2 => ?_
  push_cast
  refine keys_go fun ks is2 k1 k2 => ?_
  push_cast [len_tb, ls]
  refine take_go (by omega) fun s is3 s0 s1 => ?_
  push_cast
  have ht : 0 < t.length := by omega
  have g0 := List.getElem?_eq_getElem ht
  have m0 := List.getElem_mem ht
  generalize t[0] = p0 at m0 g0
  have l0 := tok.lo p0 m0
  have hp : 0 < p0.length := by omega
  have g1 := List.getElem?_eq_getElem hp
  have m1 := List.getElem_mem hp
  generalize p0[0] = r0 at m1 g1
  have l1 := tok.la p0 m0 r0 m1
  refine ko_plS rfl g0 ?_
  push_cast [len_pl, l0]
  refine states_go (by omega) (by omega) fun A is4 nA lA mA vA => ?_
  push_cast
  refine ko_plS rfl g0 ?_
  push_cast
  refine ko_row rfl g1 ?_
  push_cast [len_row, l1]
  refine take_go (by decide) fun n is5 n0 n1 => ?_
  push_cast
  refine reqs_go (by omega) (by omega) (by omega) fun rs is6 rl rk => ?_
  push_cast [rd_al]
  refine bare_go (by omega) mA (fun k v g => (vA k v g).1) fun B is7 nB lB hB eB => ?_
  push_cast
  refine init_go (.inl rfl) ?_
  push_cast [T.rd, T.rds, StT.o.rd]
  have gd : Gd S O 4 s A B := ⟨⟨s0, s1, nB, by omega, fun k hk => k2 k ((mA k).mp (gt_kys.mp (by
    obtain ⟨v, g⟩ := gt_some_of hk
    rw [hB k v g]; rfl))), fun k v g => vA k v (hB k v g)⟩, nA, by omega, by omega, eB⟩
  rw [rds_map (g := rqD) fun _ => rfl]
  refine ⟨_, rfl, _, rfl, ?_⟩
  clear gd e3rd e3 n3 n4 n5
  have gd : Gd S O 4 s A B := ⟨⟨s0, s1, nB, by omega, fun k hk => k2 k ((mA k).mp (gt_kys.mp (by
    obtain ⟨v, g⟩ := gt_some_of hk
    rw [hB k v g]; rfl))), fun k v g => vA k v (hB k v g)⟩, nA, by omega, by omega, eB⟩
  have rsl : rs.length ≤ 12 := by omega
  refine for_list rqD (fun done e => ∃ (s : Int) (A B : Al) (z1 z2 x8 : T) (ps : List Pr) (x10 x12 x13 x14 : T), Gd S O (4 + done.length) s A B ∧ z1.rd = some (svD S O Ac t) ∧ z2.rd = some (svD S O Ac (rvT t)) ∧ StT x8 s B ∧ (∀ p ∈ ps, PrOk p) ∧ ps.length ≤ 1 + 3 * done.length ∧ e = [scrD ns, liT is7, .sh (tbD t), .sh (tbD (rvT t)), .ow .lst [z1, z2], .sh (lsD ks), .sh (mnD s A), .sh (.nd .lst (rs.map rqD)), x8, .ow .lst (ps.map prT), x10, .un, x12, x13, x14, .un, .un]) ?_ ?_ ?_
  · exact ⟨s, A, B, z1, z2, _, [(s, B, A)], _, _, _, _, gd, hz1, hz2, .d, by
      intro p hp
      cases List.mem_singleton.mp hp
      exact gd.pr (by omega), by simp, rfl⟩
  · clear gd hz1 hz2 s0 s1 nA lA mA vA nB lB hB eB z1 z2 B A s
    rintro ⟨k, a⟩ done r hd e ⟨s, A, B, z1, z2, x8, ps, x10, x12, x13, x14, gd, hz1, hz2, w8, hps, lps, rfl⟩
    have hdl : done.length ≤ 12 := by have := congrArg List.length hd; simp at this; omega
    obtain ⟨ka, a0, a1⟩ := rk (k, a) (by rw [hd]; simp)
    have hk := k2 k ka
    refine ⟨_, rfl, ?_⟩
    push_cast
    have rd3 : (T.ow Kd.lst [iT 0, iT 1, iT 0]).rd = some (.nd .lst ([0, 1, 0].map D.int)) := rfl
    push_cast [T.rd, T.rds]
    refine for_list (xs := [0, 1, 0]) D.int (fun done2 e => ∃ (z1 z2 x8 : T) (ps : List Pr) (x12 x13 x14 : T), z1.rd = some (svD S O Ac t) ∧ z2.rd = some (svD S O Ac (rvT t)) ∧ StT x8 s B ∧ (∀ p ∈ ps, PrOk p) ∧ ps.length ≤ 1 + 3 * done.length + done2.length ∧ (done2.length = 3 → ∃ en, look t s ((gt A k).getD 0) a en ∧ x12 = .ow .lst [.sh (.nd .lst [.int en.1]), .sh (mnD (nxS s en) (nxA A k en))] ∧ x13 = .ow .tup [iT en.1, .sh (stD (nxS s en) (nxA B k en))]) ∧ e = [scrD ns, liT is7, .sh (tbD t), .sh (tbD (rvT t)), .ow .lst [z1, z2], .sh (lsD ks), .sh (mnD s A), .sh (.nd .lst (rs.map rqD)), x8, .ow .lst (ps.map prT), .sh (rqD (k, a)), .un, x12, x13, x14, .un, .un]) ?_ ?_ ?_
    · exact ⟨z1, z2, x8, ps, _, _, _, hz1, hz2, w8, hps, by simp; omega, by simp, rfl⟩
    · clear hz1 hz2 w8 hps lps z1 z2 x8 ps x12 x13 x14
      rintro tn done2 r2 hd2 e ⟨z1, z2, x8, ps, x12, x13, x14, hz1, hz2, w8, hps, lps, -, rfl⟩
      have hd2l : done2.length ≤ 2 := by have := congrArg List.length hd2; simp at this; omega
      refine ⟨_, rfl, ?_⟩
      obtain ⟨en, hl, eok⟩ := tok.look (s := s) (o := (gt A k).getD 0) (a := a) ⟨gd.ok.s0, gd.ok.s1⟩ (by rw [← gd.eq k]; exact gd.ok.get (by omega) k) ⟨a0, a1⟩
      obtain ⟨en2, hl2, eok2⟩ := tok2.look (s := s) (o := (gt A k).getD 0) (a := a) ⟨gd.ok.s0, gd.ok.s1⟩ (by rw [← gd.eq k]; exact gd.ok.get (by omega) k) ⟨a0, a1⟩
      have tcase : tn = 0 ∨ tn = 1 ∧ done2.length = 1 := by
        match done2, hd2 with
        | [], h => cases h; exact .inl rfl
        | [_], h => cases h; exact .inr ⟨rfl, rfl⟩
        | [_, _], h => cases h; exact .inl rfl
        | _ :: _ :: _ :: _, h => simp at h
      have gd1 := gd.next (k := k) (by omega) eok hk
      have gd2 := gd.next (k := k) (by omega) eok2 hk
      have lA := gd.lA
      have lB := gd.lB
      have lA1 := gd1.lA
      have lB1 := gd1.lB
      have lA2 := gd2.lA
      have lB2 := gd2.lB
      rcases tcase with rfl | ⟨rfl, hdl1⟩
      · push_cast
        refine singles_go gd.nA (by omega) hl fun xs => ?_
        push_cast [hz1, w8.ne]
        refine single_go w8 gd.ok hk ⟨a0, a1⟩ (by rw [gd.eq k]; exact hl) fun x8' y w8' wy => ?_
        have r13 := rd_tup2 (i := en.1) wy.rd
        push_cast [r13, ity_t]
        refine isint_go ?_
        push_cast [wy.rd]
        refine isstS_go .d gd1.ok.nd gd1.nA (by omega) (by omega) (by omega) gd1.eq fun x20 w20 => ?_
        push_cast [w8'.ne]
        refine isstS_go w8' gd.ok.nd gd.nA (by omega) (by omega) (by omega) gd.eq fun x8'' w8'' => ?_
        push_cast
        have hps' : ∀ p ∈ ps ++ [(nxS s en, nxA B k en, nxA A k en)], PrOk p := fun p hp => by
          rcases List.mem_append.mp hp with hp | hp
          · exact hps p hp
          · cases List.mem_singleton.mp hp
            exact gd1.pr (by omega)
        refine ⟨by omega, .sh (svD S O Ac t), rfl, _, hz2, _, w8'', ps ++ [(nxS s en, nxA B k en, nxA A k en)], hps', by simp; omega, T.ow Kd.lst [T.sh (D.nd Kd.lst [D.int en.1]), T.sh (mnD (nxS s en) (nxA A k en))], T.ow Kd.tup [iT en.1, .sh (stD (nxS s en) (nxA B k en))], ?_, iT 0, ?_⟩
        · exact fun _ => ⟨en, hl, rfl, rfl⟩
        · simp only [List.map_append, List.map_cons, List.map_nil, prT]
      · push_cast
        refine singles_go gd.nA (by omega) hl2 fun xs => ?_
        push_cast [hz2, w8.ne]
        refine single_go w8 gd.ok hk ⟨a0, a1⟩ (by rw [gd.eq k]; exact hl2) fun x8' y w8' wy => ?_
        have r13 := rd_tup2 (i := en2.1) wy.rd
        push_cast [r13, ity_t]
        refine isint_go ?_
        push_cast [wy.rd]
        refine isstS_go .d gd2.ok.nd gd2.nA (by omega) (by omega) (by omega) gd2.eq fun x20 w20 => ?_
        push_cast [w8'.ne]
        refine isstS_go w8' gd.ok.nd gd.nA (by omega) (by omega) (by omega) gd.eq fun x8'' w8'' => ?_
        push_cast
        have hps' : ∀ p ∈ ps ++ [(nxS s en2, nxA B k en2, nxA A k en2)], PrOk p := fun p hp => by
          rcases List.mem_append.mp hp with hp | hp
          · exact hps p hp
          · cases List.mem_singleton.mp hp
            exact gd2.pr (by omega)
        refine ⟨by omega, _, hz1, .sh (svD S O Ac (rvT t)), rfl, _, w8'', ps ++ [(nxS s en2, nxA B k en2, nxA A k en2)], hps', by simp; omega, T.ow Kd.lst [T.sh (D.nd Kd.lst [D.int en2.1]), T.sh (mnD (nxS s en2) (nxA A k en2))], T.ow Kd.tup [iT en2.1, .sh (stD (nxS s en2) (nxA B k en2))], ?_, iT 1, ?_⟩
        · exact fun h => by simp [hdl1] at h
        · simp only [List.map_append, List.map_cons, List.map_nil, prT]
    · rintro e ⟨z1, z2, x8, ps, x12, x13, x14, hz1, hz2, w8, hps, lps, hfin, rfl⟩
      obtain ⟨en, hl, rfl, rfl⟩ := hfin rfl
      obtain ⟨en', hl', eok⟩ := tok.look (s := s) (o := (gt A k).getD 0) (a := a) ⟨gd.ok.s0, gd.ok.s1⟩ (by rw [← gd.eq k]; exact gd.ok.get (by omega) k) ⟨a0, a1⟩
      have hee : en = en' := by
        obtain ⟨p, r, _, _, _, g1, g2, g3⟩ := hl
        obtain ⟨p', r', _, _, _, g1', g2', g3'⟩ := hl'
        rw [g1] at g1'; cases g1'
        rw [g2] at g2'; cases g2'
        rw [g3] at g3'; cases g3'
        rfl
      subst hee
      have gd1 := gd.next (k := k) (by omega) eok hk
      push_cast
      refine ⟨_, _, _, (by rw [List.length_append, List.length_singleton]; exact gd1), _, hz1, _, hz2, _, .d, ps, hps, by simp at lps ⊢; omega, _, _, _, _, rfl⟩
  · rintro e ⟨s, A, B, z1, z2, x8, ps, x10, x12, x13, x14, gd, hz1, hz2, w8, hps, lps, rfl⟩
    push_cast [rd_prs]
    refine for_list prD (fun done e => ∃ x, e = [scrD ns, liT is7, .sh (tbD t), .sh (tbD (rvT t)), .ow .lst [z1, z2], .sh (lsD ks), .sh (mnD s A), .sh (.nd .lst (rs.map rqD)), x8, .sh (.nd .lst (ps.map prD)), x10, x, x12, x13, x14, .un, .un]) ⟨_, rfl⟩ ?_ ?_
    · rintro p done r hd e ⟨x, rfl⟩
      obtain ⟨p1, p2, p3, p4, p5⟩ := hps p (by rw [hd]; simp)
      refine ⟨_, rfl, ?_⟩
      push_cast [prD]
      refine isstS_go .d p1 p2 p3 p4 (by omega) p5 fun x20 w20 => ?_
      push_cast
      exact ⟨_, rfl⟩
    · rintro e ⟨x, rfl⟩
      push_cast
end BC
set_option maxHeartbeats 0
namespace BC
open PySem PySem.Spec PyProof.Rows L2
abbrev R : PySem.W.OpenRow := PySem.W.OpenLaw.row PySem.Challenge.rw_bulkcalls_k04_single_call
abbrev hk : PySem.W.Hook := hookT 5 tab
def ob (s : PySem.W.SharedT) : AlT := obsTG 5 tab (HandSHeadRun.getT s)
theorem ob_eq (s : PySem.W.SharedT) : ob s = hk.obs s.abs := obsTG_eq (HandSHeadRun.getT_eq s)
theorem run (w : World) : HandSHeadRun.RunEq R (PySem.W.view R.prog [34]) hk ob 4000 names w := by
  intro os
  kernel_rfl
theorem stat : ∀ (j : Nat) (d : DefC), tab.ds[j]? = some d → d.okT tab j = true ∧ BindC d
  | 0, d, h => by cases h; exact ⟨by kernel_rfl, b0⟩
  | 1, d, h => by cases h; exact ⟨by kernel_rfl, b1⟩
  | 2, d, h => by cases h; exact ⟨by kernel_rfl, b2⟩
  | 3, d, h => by cases h; exact ⟨by kernel_rfl, b3⟩
  | 4, d, h => by cases h; exact ⟨by kernel_rfl, b4⟩
  | 5, d, h => by cases h; exact ⟨by kernel_rfl, b5⟩
  | 6, d, h => by cases h; exact ⟨by kernel_rfl, b6⟩
  | 7, d, h => by cases h; exact ⟨by kernel_rfl, b7⟩
  | 8, d, h => by cases h; exact ⟨by kernel_rfl, b8⟩
  | 9, d, h => by cases h; exact ⟨by kernel_rfl, b9⟩
  | 10, d, h => by cases h; exact ⟨by kernel_rfl, b10⟩
  | 11, d, h => by cases h; exact ⟨by kernel_rfl, b11⟩
  | 12, d, h => by cases h; exact ⟨by kernel_rfl, b12⟩
  | 13, d, h => by cases h; exact ⟨by kernel_rfl, b13⟩
  | 14, d, h => by cases h; exact ⟨by kernel_rfl, b14⟩
  | 15, d, h => by cases h; exact ⟨by kernel_rfl, b15⟩
  | 16, d, h => by cases h; exact ⟨by kernel_rfl, b16⟩
  | 17, d, h => by cases h; exact ⟨by kernel_rfl, b17⟩
  | 18, d, h => by cases h; exact ⟨by kernel_rfl, b18⟩
  | 19, d, h => by cases h; exact ⟨by kernel_rfl, b19⟩
  | 20, d, h => by cases h; exact ⟨by kernel_rfl, b20⟩
  | 21, d, h => by cases h; exact ⟨by kernel_rfl, b21⟩
  | 22, d, h => by cases h; exact ⟨by kernel_rfl, b22⟩
  | 23, d, h => by cases h; exact ⟨by kernel_rfl, b23⟩
  | 24, d, h => by cases h; exact ⟨by kernel_rfl, b24⟩
  | 25, d, h => by cases h; exact ⟨by kernel_rfl, b25⟩
  | 26, d, h => by cases h; exact ⟨by kernel_rfl, b26⟩
  | 27, d, h => by cases h; exact ⟨by kernel_rfl, b27⟩
  | j + 28, d, h => by cases h
theorem l0 : lawF tab 0 = cPool := by
  rw [lawF_eq (d := d0) rfl (by decide), show d0.cx.map (lawF tab) = [] from rfl]
  rfl
theorem l1 : lawF tab 1 = cTake := by
  rw [lawF_eq (d := d1) rfl (by decide), show d1.cx.map (lawF tab) = [] from rfl]
  rfl
theorem l2 : lawF tab 2 = cFree := by
  rw [lawF_eq (d := d2) rfl (by decide), show d2.cx.map (lawF tab) = [lawF tab 1] from rfl, l1]
  rfl
theorem l3 : lawF tab 3 = cEntry := by
  rw [lawF_eq (d := d3) rfl (by decide), show d3.cx.map (lawF tab) = [lawF tab 1, lawF tab 2] from rfl, l1, l2]
  rfl
theorem l4 : lawF tab 4 = cTable := by
  rw [lawF_eq (d := d4) rfl (by decide), show d4.cx.map (lawF tab) = [lawF tab 1, lawF tab 3, lawF tab 2] from rfl, l1, l3, l2]
  rfl
theorem l5 : lawF tab 5 = cLens := by
  rw [lawF_eq (d := d5) rfl (by decide), show d5.cx.map (lawF tab) = [] from rfl]
  rfl
theorem l6 : lawF tab 6 = cIsEnt := by
  rw [lawF_eq (d := d6) rfl (by decide), show d6.cx.map (lawF tab) = [] from rfl]
  rfl
theorem l7 : lawF tab 7 = cSvInit := by
  rw [lawF_eq (d := d7) rfl (by decide), show d7.cx.map (lawF tab) = [lawF tab 5, lawF tab 6] from rfl, l5, l6]
  rfl
theorem l8 : lawF tab 8 = cCopied := by
  rw [lawF_eq (d := d8) rfl (by decide), show d8.cx.map (lawF tab) = [] from rfl]
  rfl
theorem l9 : lawF tab 9 = cKeys := by
  rw [lawF_eq (d := d9) rfl (by decide), show d9.cx.map (lawF tab) = [lawF tab 1] from rfl, l1]
  rfl
theorem l10 : lawF tab 10 = cStates := by
  rw [lawF_eq (d := d10) rfl (by decide), show d10.cx.map (lawF tab) = [lawF tab 1] from rfl, l1]
  rfl
theorem l11 : lawF tab 11 = cReqs := by
  rw [lawF_eq (d := d11) rfl (by decide), show d11.cx.map (lawF tab) = [lawF tab 1] from rfl, l1]
  rfl
theorem l12 : lawF tab 12 = cInit := by
  rw [lawF_eq (d := d12) rfl (by decide), show d12.cx.map (lawF tab) = [] from rfl]
  rfl
theorem l13 : lawF tab 13 = cBare := by
  rw [lawF_eq (d := d13) rfl (by decide), show d13.cx.map (lawF tab) = [lawF tab 1] from rfl, l1]
  rfl
theorem l14 : lawF tab 14 = cSing := by
  rw [lawF_eq (d := d14) rfl (by decide), show d14.cx.map (lawF tab) = [] from rfl]
  rfl
theorem l15 : lawF tab 15 = cChkS := by
  rw [lawF_eq (d := d15) rfl (by decide), show d15.cx.map (lawF tab) = [] from rfl]
  rfl
theorem l16 : lawF tab 16 = cChkR := by
  rw [lawF_eq (d := d16) rfl (by decide), show d16.cx.map (lawF tab) = [] from rfl]
  rfl
theorem l17 : lawF tab 17 = cEntryM := by
  rw [lawF_eq (d := d17) rfl (by decide), show d17.cx.map (lawF tab) = [] from rfl]
  rfl
theorem l18 : lawF tab 18 = cGet := by
  rw [lawF_eq (d := d18) rfl (by decide), show d18.cx.map (lawF tab) = [] from rfl]
  rfl
theorem l19 : lawF tab 19 = cFound := by
  rw [lawF_eq (d := d19) rfl (by decide), show d19.cx.map (lawF tab) = [lawF tab 17, lawF tab 18] from rfl, l17, l18]
  rfl
theorem l20 : lawF tab 20 = cMoved := by
  rw [lawF_eq (d := d20) rfl (by decide), show d20.cx.map (lawF tab) = [lawF tab 12] from rfl, l12]
  rfl
theorem l21 : lawF tab 21 = cStep := by
  rw [lawF_eq (d := d21) rfl (by decide), show d21.cx.map (lawF tab) = [lawF tab 19, lawF tab 20] from rfl, l19, l20]
  rfl
theorem l22 : lawF tab 22 = cSingle := by
  rw [lawF_eq (d := d22) rfl (by decide), show d22.cx.map (lawF tab) = [lawF tab 15, lawF tab 16, lawF tab 21] from rfl, l15, l16, l21]
  rfl
theorem l23 : lawF tab 23 = cIsInt := by
  rw [lawF_eq (d := d23) rfl (by decide), show d23.cx.map (lawF tab) = [] from rfl]
  rfl
theorem l24 : lawF tab 24 = cNz := by
  rw [lawF_eq (d := d24) rfl (by decide), show d24.cx.map (lawF tab) = [] from rfl]
  rfl
theorem l25 : lawF tab 25 = cEq := by
  rw [lawF_eq (d := d25) rfl (by decide), show d25.cx.map (lawF tab) = [lawF tab 24] from rfl, l24]
  rfl
theorem l26 : lawF tab 26 = cIsSt := by
  rw [lawF_eq (d := d26) rfl (by decide), show d26.cx.map (lawF tab) = [lawF tab 23, lawF tab 18, lawF tab 25, lawF tab 12] from rfl, l23, l18, l25, l12]
  rfl
theorem l27 : lawF tab 27 = cLaw := by
  rw [lawF_eq (d := d27) rfl (by decide), show d27.cx.map (lawF tab) = [lawF tab 0, lawF tab 4, lawF tab 7, lawF tab 8, lawF tab 9, lawF tab 10, lawF tab 1, lawF tab 11, lawF tab 12, lawF tab 13, lawF tab 14, lawF tab 22, lawF tab 26, lawF tab 23] from rfl, l0, l4, l7, l8, l9, l10, l1, l11, l12, l13, l14, l22, l26, l23]
  rfl
theorem plain : ∀ ns : List Int, ns.length ≤ 63 → ∃ ts', lawF tab 27 [scrD ns] = some (.ret (.sh (.bl true)), ts') := fun ns hn => by
  obtain ⟨t, ts', h, e⟩ := law_ok hn
  subst e
  rw [l27]
  exact ⟨ts', h⟩
end BC
open PySem PySem.W PySem.Calls PyProof.Rows
theorem PySem.Challenge.cw_bulkcalls_k04_single_call_holds : PySem.Challenge.rw_bulkcalls_k04_single_call.Holds := by
  w_on; o_law
  refine HandSHeadRun.head_any (r := OpenLaw.row PySem.Challenge.rw_bulkcalls_k04_single_call) (q := view (OpenLaw.row PySem.Challenge.rw_bulkcalls_k04_single_call).prog [34]) (H := BC.hk) (ob := BC.ob) (M := 4000) (loose := BC.names) (d := HandSHeadRun.topDef (OpenLaw.row PySem.Challenge.rw_bulkcalls_k04_single_call).prog 34) (kwd := []) BC.ob_eq
    (by kernel_rfl) (fun s => by kernel_rfl) BC.run (by kernel_rfl) (by kernel_rfl) (by kernel_rfl) (by rfl) (by first | assumption | decide +kernel) (by decide +kernel) ⟨rfl, rfl, rfl, rfl, rfl, by decide +kernel⟩ ?hw ?hc
  case hw => w_witness2
  case hc =>
    refine L2.walk_ofE (l := PySem.Challenge.rw_bulkcalls_k04_single_call) (n := 63) (k := 2 * 27 + 2) (x := "_law_script") (CX := L2.CX0) rfl (by decide) (by kernel_rfl) ⟨rfl, by decide, by decide⟩ ?F (fun _ _ _ _ z => z)
    intro w mg fa h Y G hmg0
    have hmg : mg ("law" : PySem.Str) = some (.ref fa) := by
      have e : (HandSHeadRun.topDef (OpenLaw.row PySem.Challenge.rw_bulkcalls_k04_single_call).prog 34).name = ("law" : PySem.Str) := by kernel_rfl
      rw [← e]
      exact hmg0
    exact BC.tab_law (T := BC.tab) (li := 27) (d := BC.d27) BC.stat rfl rfl rfl BC.plain w mg fa h Y G hmg
