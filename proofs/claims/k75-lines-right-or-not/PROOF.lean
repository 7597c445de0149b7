import PyProof.Rows.All
import HandS.ForMost
import HandS.ForExc
import HandS.Dict
import HandS.IsInst
import HandS.TupAny
import HandS.Sort
import HandS.Defaults
import HandS.HeadHook2
import HandS.CallSlots
import HandS.Flow
import HandS.Lambda
import HandS.ExcIs
import HandS.ExcOwn
import HandS.Style
import HandS.TupMul
import HandS.Deep
import HandS.Text
import HandS.Conv
import HandS.WordsDict
import PyProof.Rows.ReprOcc
import HandS.HeadWalk
import HandS.Iter
import HandS.Zip
import KE.GoesEnum
import HandS.CallLocal
import HandS.HeadHook1
import HandS.WordsExc
import HandS.HeadHook3
import HandS.HeadHook4
import HandS.HeadEnd
import HandS.Head0
import HandS.Head1
import HandS.Head2
import HandS.EndOwn
import Lean
import PySem.Challenge.RW_soleholder_k75_whole_lines_right_or_not
section
set_option Elab.async false
set_option linter.all false
set_option maxRecDepth 100000
set_option maxHeartbeats 4000000
namespace Mi
open PySem L2
abbrev D := PyData
inductive W where
  | d (x : D) | c (n : Nat) | f (i : Nat) | s (ns : List Int) | r (i j c : Int) | t (n : String) | fs (is : List Nat)
inductive Ob where
  | lst (ws : List W) | tup (ws : List W) | dic (kvs : List (Key × W)) | ins (k : Nat) (fs : List (Str × W)) | gone
abbrev Sto := List Ob
abbrev Ev := List (Option W)
inductive Res (α : Type) where
  | ok (a : α) (S : Sto) | exc (x : Nat) (S : Sto) | bad
def Res.andThen {α β : Type} (r : Res α) (k : α → Sto → Res β) : Res β := match r with
  | .ok a S => k a S
  | .exc x S => .exc x S
  | .bad => .bad
abbrev XE := Ev → Sto → Res W
abbrev XT := Ev → Sto → Res Bool
abbrev XA := Ev → Sto → Res (List W)

def allD : List W → Option (List D)
  | [] => some []
  | .d x :: r => (match allD r with
    | some xs => some (x :: xs)
    | none => none)
  | _ :: _ => none
def obSeq : Option Ob → Option (Bool × List W)
  | some (.lst ws) => some (true, ws)
  | some (.tup ws) => some (false, ws)
  | _ => none
def obView : Option Ob → Option D
  | some (.lst ws) => (allD ws).map .list
  | some (.tup ws) => (allD ws).map .tuple
  | _ => none
def seqOf (S : Sto) : W → Option (Bool × List W)
  | .d (.list xs) => some (true, xs.map .d)
  | .d (.tuple xs) => some (false, xs.map .d)
  | .c n => obSeq S[n]?
  | _ => none
def view (S : Sto) : W → Option D
  | .d x => some x
  | .c n => obView S[n]?
  | _ => none
mutual
def dle : Nat → D → Bool
  | n, .list xs => (match n with
    | 0 => false
    | n + 1 => dles n xs)
  | n, .tuple xs => (match n with
    | 0 => false
    | n + 1 => dles n xs)
  | _, .dict _ => false
  | _, _ => true
def dles : Nat → List D → Bool
  | _, [] => true
  | n, x :: xs => dle n x && dles n xs
end
def eqD (a b : D) : Option Bool := if dle 60 b || dle 60 a then some (PyData.eqv a b) else none
def flatD : D → Bool
  | .list _ => false
  | .tuple _ => false
  | .dict _ => false
  | _ => true
end Mi
end
section
set_option Elab.async false
set_option linter.all false
set_option maxRecDepth 100000
set_option maxHeartbeats 4000000
namespace Mi
open PySem L2 PyProof.Rows
structure Ad where
  fa : Nat → Option Addr
  ca : Nat → Option Addr
  xa : Nat → Option Addr
  tbs : List (Addr × Str)
def Pl (o : HO) : Prop := (∀ ps, o ≠ .tbl ps) ∧ ∀ φ, o ≠ .ext φ
mutual
inductive DR (K : PySem.W.Frag) (F : Hp) : V → D → Prop
  | non : DR K F .non .none
  | bl (b : Bool) : DR K F (.bl b) (.bool b)
  | int (i : Int) : DR K F (.int i) (.int i)
  | str (x : Str) : DR K F (.str x) (.str x)
  | lst {a : Addr} {xs : List V} {ds : List D} : F a = some (.lst xs) → DRs K F xs ds → DR K F (.ref a) (.list ds)
  | tup {a : Addr} {xs : List V} {ds : List D} : SqT K F a xs → DRs K F xs ds → DR K F (.ref a) (.tuple ds)
inductive DRs (K : PySem.W.Frag) (F : Hp) : List V → List D → Prop
  | nil : DRs K F [] []
  | cons {v : V} {vs : List V} {d : D} {ds : List D} : DR K F v d → DRs K F vs ds → DRs K F (v :: vs) (d :: ds)
end
mutual
theorem DR.dp {K : PySem.W.Frag} {F : Hp} : ∀ (d : D) (v : V), DR K F v d → Dp K F v d
  | .none, _, h => by cases h; exact .non
  | .bool b, _, h => by cases h; exact .bl b
  | .int i, _, h => by cases h; exact .int i
  | .str x, _, h => by cases h; exact .str x
  | .list ds, _, h => by cases h with | lst s a => exact .lst (.inl (.inl s)) (DRs.dp ds _ a)
  | .tuple ds, _, h => by cases h with | tup s a => exact .tup s (DRs.dp ds _ a)
  | .dict _, _, h => by cases h
theorem DRs.dp {K : PySem.W.Frag} {F : Hp} : ∀ (ds : List D) (vs : List V), DRs K F vs ds → DpAll K F vs ds
  | [], _, h => by cases h; exact .nil
  | d :: ds, _, h => by cases h with | cons a b => exact .cons (DR.dp d _ a) (DRs.dp ds _ b)
end
def RgO (a : Addr) (i j c : Int) : HO := .ext fun h => ∃ t u v, IsRange h a i j c t u v
section
variable (K : PySem.W.Frag) (A : Ad)
def WR (μ : List Addr) (F : Hp) : V → W → Prop
  | v, .d x => DR K F v x ∧ x.canLay0 = true
  | v, .c n => ∃ a, μ[n]? = some a ∧ v = .ref a
  | v, .f i => ∃ a, A.fa i = some a ∧ v = .ref a
  | v, .s ns => ∃ a, SqL K F a (ns.map V.int) ∧ v = .ref a
  | v, .r i j c => ∃ a, F a = some (RgO a i j c) ∧ v = .ref a
  | v, .t n => v = .ty n
  | v, .fs is => ∃ a vs, F a = some (.tup vs) ∧ v = .ref a ∧ Paired (fun v i => ∃ f, A.fa i = some f ∧ v = .ref f) vs is
abbrev WRs (μ : List Addr) (F : Hp) : List V → List W → Prop := Paired (WR K A μ F)
def OR (μ : List Addr) (F H : Hp) (a : Addr) : Ob → Prop
  | .lst ws => ∃ vs, H a = some (.lst vs) ∧ WRs K A μ F vs ws
  | .tup ws => ∃ vs, H a = some (.tup vs) ∧ WRs K A μ F vs ws
  | .dic kvs => ∃ ps, H a = some (.dK ps) ∧ Paired (fun (p : Key × V) (q : Key × W) => p.1 = q.1 ∧ WR K A μ F p.2 q.2) ps kvs
  | .ins k fs => ∃ C dx gs, H a = some (.ins C dx gs) ∧ A.ca k = some C ∧ Paired (fun (p : Str × V) (q : Str × W) => p.1 = q.1 ∧ WR K A μ F p.2 q.2) gs fs
  | .gone => True
structure Rl (μ : List Addr) (F : Hp) (S : Sto) (H : Hp) : Prop where
  len : μ.length = S.length
  nd : μ.Nodup
  ex : ∀ a o, F a = some o → H a = some o
  on : ∀ a ∈ μ, ∃ o, H a = some o ∧ Pl o
  off : ∀ (n : Nat) a o, μ[n]? = some a → S[n]? = some o → o ≠ .gone → F a = none
  ob : ∀ (n : Nat) a o, μ[n]? = some a → S[n]? = some o → OR K A μ F H a o
  nt : ∀ a ps, F a ≠ some (.tbl ps)
  tb : LamX.Tabs A.tbs H
end
structure Xt (μ : List Addr) (F H : Hp) (μ' : List Addr) (F' H' : Hp) : Prop where
  pre : μ <+: μ'
  fz : ∀ a o, F a = some o → F' a = some o
  fr : ∀ a o, H a = some o → (∀ ps, o ≠ .tbl ps) → a ∉ μ → H' a = some o ∧ a ∉ μ' ∧ (F a = none → F' a = none)
theorem Xt.refl (μ : List Addr) (F H : Hp) : Xt μ F H μ F H := ⟨List.prefix_rfl, fun _ _ h => h, fun _ _ h _ n => ⟨h, n, fun z => z⟩⟩
theorem Xt.trans {μ μ1 μ2 : List Addr} {F H F1 H1 F2 H2 : Hp} (a : Xt μ F H μ1 F1 H1) (b : Xt μ1 F1 H1 μ2 F2 H2) : Xt μ F H μ2 F2 H2 where
  pre := a.pre.trans b.pre
  fz := fun x o h => b.fz x o (a.fz x o h)
  fr := fun x o h p n => by
    obtain ⟨h1, n1, f1⟩ := a.fr x o h p n
    obtain ⟨h2, n2, f2⟩ := b.fr x o h1 p n1
    exact ⟨h2, n2, fun z => f2 (f1 z)⟩

theorem rd_up {F F' : Hp} {a : Addr} {u : HO} (e : ∀ a o, F a = some o → F' a = some o) (h : Rd F a u) : Rd F' a u := by
  rcases h with h | ⟨o, h⟩
  · exact .inl (e _ _ h)
  · exact .inr ⟨o, e _ _ h⟩
theorem sqL_up {K : PySem.W.Frag} {F F' : Hp} {a : Addr} {xs : List V} (e : ∀ a o, F a = some o → F' a = some o) (h : SqL K F a xs) : SqL K F' a xs := by
  rcases h with h | h
  · exact .inl (rd_up e h)
  · exact .inr h
theorem sqT_up {K : PySem.W.Frag} {F F' : Hp} {a : Addr} {xs : List V} (e : ∀ a o, F a = some o → F' a = some o) (h : SqT K F a xs) : SqT K F' a xs := by
  rcases h with h | h
  · exact .inl (rd_up e h)
  · exact .inr h
mutual
theorem dr_up {K : PySem.W.Frag} {F F' : Hp} (e : ∀ a o, F a = some o → F' a = some o) : ∀ (d : D) (v : V), DR K F v d → DR K F' v d
  | .none, _, h => by cases h; exact .non
  | .bool b, _, h => by cases h; exact .bl b
  | .int i, _, h => by cases h; exact .int i
  | .str x, _, h => by cases h; exact .str x
  | .list ds, _, h => by cases h with | lst s a => exact .lst (e _ _ s) (drs_up e ds _ a)
  | .tuple ds, _, h => by cases h with | tup s a => exact .tup (sqT_up e s) (drs_up e ds _ a)
  | .dict _, _, h => by cases h
theorem drs_up {K : PySem.W.Frag} {F F' : Hp} (e : ∀ a o, F a = some o → F' a = some o) : ∀ (ds : List D) (vs : List V), DRs K F vs ds → DRs K F' vs ds
  | [], _, h => by cases h; exact .nil
  | d :: ds, _, h => by cases h with | cons a b => exact .cons (dr_up e d _ a) (drs_up e ds _ b)
end
section
variable {K : PySem.W.Frag} {A : Ad} {μ μ' : List Addr} {F H F' H' : Hp} {S S' : Sto}
theorem pre_get {μ μ' : List Addr} (p : μ <+: μ') {n : Nat} {a : Addr} (h : μ[n]? = some a) : μ'[n]? = some a := by
  obtain ⟨r, rfl⟩ := p
  obtain ⟨hn, _⟩ := List.getElem?_eq_some_iff.mp h
  rw [List.getElem?_append_left hn]
  exact h
theorem WR.up (p : μ <+: μ') (e : ∀ a o, F a = some o → F' a = some o) {v : V} {x : W} (h : WR K A μ F v x) : WR K A μ' F' v x := by
  cases x with
  | d x => exact ⟨dr_up e x v h.1, h.2⟩
  | c n => obtain ⟨a, h1, h2⟩ := h; exact ⟨a, pre_get p h1, h2⟩
  | f i => exact h
  | s ns => obtain ⟨a, h1, h2⟩ := h; exact ⟨a, sqL_up e h1, h2⟩
  | r i j c => obtain ⟨a, h1, h2⟩ := h; exact ⟨a, e _ _ h1, h2⟩
  | t n => exact h
  | fs is => obtain ⟨a, vs, h1, h2, h3⟩ := h; exact ⟨a, vs, e _ _ h1, h2, h3⟩
theorem WRs.up (p : μ <+: μ') (e : ∀ a o, F a = some o → F' a = some o) {vs : List V} {xs : List W} (h : WRs K A μ F vs xs) : WRs K A μ' F' vs xs := Paired.mono (fun _ _ r => r.up p e) h
theorem WR.xt (t : Xt μ F H μ' F' H') {v : V} {x : W} (h : WR K A μ F v x) : WR K A μ' F' v x := h.up t.pre t.fz
theorem WRs.xt (t : Xt μ F H μ' F' H') {vs : List V} {xs : List W} (h : WRs K A μ F vs xs) : WRs K A μ' F' vs xs := h.up t.pre t.fz
theorem OR.up (p : μ <+: μ') (e : ∀ a o, F a = some o → F' a = some o) {a : Addr} {o : Ob} (hH : ∀ u, H a = some u → H' a = some u) (h : OR K A μ F H a o) : OR K A μ' F' H' a o := by
  cases o with
  | lst ws => obtain ⟨vs, h1, h2⟩ := h; exact ⟨vs, hH _ h1, h2.up p e⟩
  | tup ws => obtain ⟨vs, h1, h2⟩ := h; exact ⟨vs, hH _ h1, h2.up p e⟩
  | dic kvs => obtain ⟨ps, h1, h2⟩ := h; exact ⟨ps, hH _ h1, Paired.mono (fun _ _ r => ⟨r.1, r.2.up p e⟩) h2⟩
  | ins k fs => obtain ⟨C, dx, gs, h1, h2, h3⟩ := h; exact ⟨C, dx, gs, hH _ h1, h2, Paired.mono (fun _ _ r => ⟨r.1, r.2.up p e⟩) h3⟩
  | gone => trivial
def ER (K : PySem.W.Frag) (A : Ad) (μ : List Addr) (F : Hp) (σ : L2.St) (en : Ev) : Prop := σ.length = en.length ∧ ∀ (i : Nat) w, en[i]? = some (some w) → ∃ v, σ[i]? = some (some v) ∧ WR K A μ F v w
theorem ER.xt (t : Xt μ F H μ' F' H') {σ : L2.St} {en : Ev} (h : ER K A μ F σ en) : ER K A μ' F' σ en :=
  ⟨h.1, fun i w e => let ⟨v, h1, h2⟩ := h.2 i w e; ⟨v, h1, h2.xt t⟩⟩
theorem ER.set {σ : L2.St} {en : Ev} (h : ER K A μ F σ en) (i : Nat) {v : V} {w : W} (r : WR K A μ F v w) : ER K A μ F (σ.set i (some v)) (en.set i (some w)) := by
  refine ⟨by rw [List.length_set, List.length_set, h.1], fun j w' e => ?_⟩
  by_cases hij : i = j
  · subst hij
    have hl : i < en.length := by
      by_cases hl : i < en.length
      · exact hl
      · rw [List.getElem?_eq_none (by rw [List.length_set]; omega)] at e
        cases e
    rw [List.getElem?_set_self hl] at e
    cases e
    exact ⟨v, by rw [List.getElem?_set_self (by rw [h.1]; exact hl)], r⟩
  · rw [List.getElem?_set_ne hij] at e
    obtain ⟨v', h1, h2⟩ := h.2 j w' e
    exact ⟨v', by rw [List.getElem?_set_ne hij]; exact h1, h2⟩

def PP {α β : Type} (K : PySem.W.Frag) (A : Ad) (R : List Addr → Hp → β → α → Prop) (E : XK) (μ : List Addr) (F H : Hp) (r : Res α) (Q : β → Hp → Prop) : Prop := match r with
  | .ok a S' => ∀ μ' F' H' v, Xt μ F H μ' F' H' → Rl K A μ' F' S' H' → R μ' F' v a → Q v H'
  | .exc x S' => ∀ μ' F' H', Xt μ F H μ' F' H' → Rl K A μ' F' S' H' → ∃ c, A.xa x = some c ∧ E (.ref c) none H'
  | .bad => False
theorem PP.xt {α β : Type} {R : List Addr → Hp → β → α → Prop} {E : XK} {r : Res α} {Q : β → Hp → Prop} (t : Xt μ F H μ' F' H') (h : PP K A R E μ F H r Q) : PP K A R E μ' F' H' r Q := by
  cases r with
  | ok a S' => exact fun μ2 F2 H2 v t2 rl r => h μ2 F2 H2 v (t.trans t2) rl r
  | exc x S' => exact fun μ2 F2 H2 t2 rl => h μ2 F2 H2 (t.trans t2) rl
  | bad => exact h
theorem PP.bind {α β γ δ : Type} {R1 : List Addr → Hp → β → α → Prop} {R2 : List Addr → Hp → δ → γ → Prop} {E : XK} {r : Res α} {k : α → Sto → Res γ} {Q : δ → Hp → Prop} {Q1 : β → Hp → Prop} (h : PP K A R2 E μ F H (r.andThen k) Q)
    (step : ∀ a S1 μ1 F1 H1 v, r = .ok a S1 → Xt μ F H μ1 F1 H1 → Rl K A μ1 F1 S1 H1 → R1 μ1 F1 v a → PP K A R2 E μ1 F1 H1 (k a S1) Q → Q1 v H1) : PP K A R1 E μ F H r Q1 := by
  cases r with
  | ok a S1 => exact fun μ1 F1 H1 v t rl rr => step a S1 μ1 F1 H1 v rfl t rl rr (PP.xt (r := k a S1) t h)
  | exc x S1 => exact h
  | bad => exact h
theorem PP.now {α β : Type} {R : List Addr → Hp → β → α → Prop} {E : XK} {a : α} {v : β} {Q : β → Hp → Prop} (h : PP K A R E μ F H (.ok a S) Q) (rl : Rl K A μ F S H) (r : R μ F v a) : Q v H := h μ F H v (Xt.refl ..) rl r
end
end Mi
end
section
set_option Elab.async false
set_option linter.all false
set_option maxRecDepth 100000
set_option maxHeartbeats 4000000
namespace Mi
open PySem L2
def cap : Nat := 16000000
theorem cap_le {n : Nat} (h : n ≤ cap) : n ≤ sizeLine := Nat.le_trans h (by rw [sizeLine_eq]; decide)
theorem cap_lt {n : Nat} (h : n < cap) : n < sizeLine := Nat.lt_of_lt_of_le h (by rw [sizeLine_eq]; decide)
section
variable {K : PySem.W.Frag} {A : Ad} {μ : List Addr} {F H : Hp} {S : Sto}
theorem upd_up {F : Hp} {p : Addr} {o : HO} (hp : F p = none) : ∀ a u, F a = some u → upd F p o a = some u := fun a u e => by
  rw [upd_ne (ne_of_none e hp)]
  exact e
theorem Rl.fp (rl : Rl K A μ F S H) {p : Addr} (hp : H p = none) : F p = none := by
  cases e : F p with
  | none => rfl
  | some u => rw [rl.ex p u e] at hp; cases hp
theorem Rl.mp (rl : Rl K A μ F S H) {p : Addr} (hp : H p = none) : p ∉ μ := fun h => by
  obtain ⟨o, e, _⟩ := rl.on p h
  rw [hp] at e; cases e
theorem nt_upd {F : Hp} (h : ∀ a ps, F a ≠ some (.tbl ps)) {p : Addr} {o : HO} (ho : ∀ ps, o ≠ .tbl ps) : ∀ a ps, upd F p o a ≠ some (.tbl ps) := fun a ps z => by
  by_cases q : a = p
  · subst q; rw [upd_same] at z; exact ho ps (Option.some.inj z)
  · rw [upd_ne q] at z; exact h a ps z
theorem tabs_write {T : List (Addr × Str)} (t : LamX.Tabs T H) {a : Addr} {o : HO} (h : ∀ u, H a = some u → Pl u) : LamX.Tabs T (upd H a o) := fun p hp => by
  obtain ⟨ps, h1, h2, h3⟩ := t p hp
  have n1 : p.1 ≠ a := fun z => (h _ (z ▸ h1)).1 ps rfl
  refine ⟨ps, by rw [upd_ne n1]; exact h1, h2, fun pos cv hc => ?_⟩
  obtain ⟨c, e1, e2⟩ := h3 pos cv hc
  have n2 : c ≠ a := fun z => (h _ (z ▸ e2)).2 _ rfl
  exact ⟨c, e1, by rw [upd_ne n2]; exact e2⟩
theorem tabs_new {T : List (Addr × Str)} (t : LamX.Tabs T H) {p : Addr} (hp : H p = none) (o : HO) : LamX.Tabs T (upd H p o) := tabs_write t fun u e => by rw [hp] at e; cases e
theorem Rl.newF (rl : Rl K A μ F S H) {p : Addr} (hp : H p = none) (o : HO) (ho : ∀ ps, o ≠ .tbl ps := by first | exact (fun _ z => nomatch z) | (intro ps z; unfold RgO at z; cases z)) : Rl K A μ (upd F p o) S (upd H p o) ∧ Xt μ F H μ (upd F p o) (upd H p o) := by
  have hf := rl.fp hp
  refine ⟨⟨rl.len, rl.nd, fun a u e => ?_, fun a ha => ?_, fun n a u h1 h2 h3 => ?_, fun n a u h1 h2 => ?_, nt_upd rl.nt ho, tabs_new rl.tb hp o⟩, ⟨List.prefix_rfl, upd_up hf, fun a u e _ n => ⟨upd_up hp a u e, n, fun z => ?_⟩⟩⟩
  · by_cases h : a = p
    · subst h; rw [upd_same] at e ⊢; exact e
    · rw [upd_ne h] at e ⊢; exact rl.ex a u e
  · by_cases h : a = p
    · subst h; exact absurd ha (rl.mp hp)
    · rw [upd_ne h]; exact rl.on a ha
  · have h : a ≠ p := fun z => rl.mp hp (z ▸ List.mem_of_getElem? h1)
    rw [upd_ne h]; exact rl.off n a u h1 h2 h3
  · exact OR.up List.prefix_rfl (upd_up hf) (upd_up hp a) (rl.ob n a u h1 h2)
  · rw [upd_ne (ne_of_none e hp)]; exact z
theorem Rl.newC (rl : Rl K A μ F S H) {p : Addr} (hp : H p = none) (o : HO) (b : Ob) (hb : OR K A (μ ++ [p]) F (upd H p o) p b) (ho : Pl o := by exact ⟨fun _ z => (nomatch z), fun _ z => (nomatch z)⟩) : Rl K A (μ ++ [p]) F (S ++ [b]) (upd H p o) ∧ Xt μ F H (μ ++ [p]) F (upd H p o) := by
  have hf := rl.fp hp
  have hm := rl.mp hp
  refine ⟨⟨by simp [rl.len], ?_, fun a u e => upd_up hp a u (rl.ex a u e), fun a ha => ?_, fun n a u h1 h2 h3 => ?_, fun n a u h1 h2 => ?_, rl.nt, tabs_new rl.tb hp o⟩, ⟨List.prefix_append _ _, fun _ _ h => h, fun a u e _ n => ⟨upd_up hp a u e, ?_, fun z => z⟩⟩⟩
  · refine List.nodup_append.mpr ⟨rl.nd, by simp, fun a ha b hb => ?_⟩
    have e : b = p := by simpa using hb
    subst e
    exact fun z => hm (z ▸ ha)
  · rcases List.mem_append.mp ha with h | h
    · have hne : a ≠ p := fun z => hm (z ▸ h)
      rw [upd_ne hne]; exact rl.on a h
    · have e : a = p := by simpa using h
      subst e; exact ⟨o, upd_same, ho⟩
  · by_cases hn : n < μ.length
    · rw [List.getElem?_append_left hn] at h1
      rw [List.getElem?_append_left (by rw [← rl.len]; exact hn)] at h2
      exact rl.off n a u h1 h2 h3
    · have e : a = p := by
        have hm := List.mem_of_getElem? h1
        rw [List.getElem?_append_right (by omega)] at h1
        have := List.mem_of_getElem? h1
        simpa using this
      subst e; exact hf
  · by_cases hn : n < μ.length
    · rw [List.getElem?_append_left hn] at h1
      rw [List.getElem?_append_left (by rw [← rl.len]; exact hn)] at h2
      exact OR.up (List.prefix_append _ _) (fun _ _ h => h) (upd_up hp a) (rl.ob n a u h1 h2)
    · rw [List.getElem?_append_right (by omega)] at h1
      rw [List.getElem?_append_right (by rw [← rl.len]; omega)] at h2
      have e : a = p := by simpa using List.mem_of_getElem? h1
      have e2 : u = b := by simpa using List.mem_of_getElem? h2
      subst e e2; exact hb
  · intro z
    rcases List.mem_append.mp z with z | z
    · exact n z
    · have : a = p := by simpa using z
      subst this; rw [hp] at e; cases e
theorem nodup_at {μ : List Addr} (nd : μ.Nodup) {m n : Nat} {a : Addr} (h1 : μ[m]? = some a) (h2 : μ[n]? = some a) : m = n := by
  obtain ⟨l1, e1⟩ := List.getElem?_eq_some_iff.mp h1
  exact (List.getElem?_inj l1 nd).mp (h1.trans h2.symm)
theorem Rl.write (rl : Rl K A μ F S H) {n : Nat} {a : Addr} {b0 : Ob} (hn : μ[n]? = some a) (hS : S[n]? = some b0) (hl : b0 ≠ .gone) (o : HO) (b : Ob) (hb : OR K A μ F (upd H a o) a b) (ho : Pl o := by exact ⟨fun _ z => (nomatch z), fun _ z => (nomatch z)⟩) :
    Rl K A μ F (S.set n b) (upd H a o) ∧ Xt μ F H μ F (upd H a o) := by
  have hf := rl.off n a b0 hn hS hl
  have hm : a ∈ μ := List.mem_of_getElem? hn
  have tw : LamX.Tabs A.tbs (upd H a o) := tabs_write rl.tb fun u e => by
    obtain ⟨v, e2, p⟩ := rl.on a hm
    rw [e] at e2; cases e2; exact p
  refine ⟨⟨by simp [rl.len], rl.nd, fun c u e => ?_, fun c hc => ?_, fun m c u h1 h2 h3 => ?_, fun m c u h1 h2 => ?_, rl.nt, tw⟩, ⟨List.prefix_rfl, fun _ _ h => h, fun c u e _ nm => ⟨?_, nm, fun z => z⟩⟩⟩
  · rw [upd_ne (ne_of_none e hf)]; exact rl.ex c u e
  · by_cases h : c = a
    · subst h; exact ⟨o, upd_same, ho⟩
    · rw [upd_ne h]; exact rl.on c hc
  · by_cases h : n = m
    · subst h
      rw [hn] at h1; cases h1; exact hf
    · rw [List.getElem?_set_ne h] at h2
      exact rl.off m c u h1 h2 h3
  · by_cases h : n = m
    · subst h
      rw [hn] at h1; cases h1
      rw [List.getElem?_set_self (List.getElem?_eq_some_iff.mp hS).1] at h2
      cases h2; exact hb
    · rw [List.getElem?_set_ne h] at h2
      have hc : c ≠ a := fun z => h (nodup_at rl.nd hn (z ▸ h1))
      exact OR.up List.prefix_rfl (fun _ _ h => h) (fun u e => by rw [upd_ne hc]; exact e) (rl.ob m c u h1 h2)
  · have hc : c ≠ a := fun z => nm (z ▸ hm)
    rw [upd_ne hc]; exact e
theorem Rl.frz (rl : Rl K A μ F S H) {n : Nat} {a : Addr} {b0 : Ob} (hn : μ[n]? = some a) (hS : S[n]? = some b0) (hl : b0 ≠ .gone) {o : HO} (ho : H a = some o) :
    Rl K A μ (upd F a o) (S.set n .gone) H ∧ Xt μ F H μ (upd F a o) H := by
  have hf := rl.off n a b0 hn hS hl
  have hm : a ∈ μ := List.mem_of_getElem? hn
  have pl : Pl o := by
    obtain ⟨v, e2, p⟩ := rl.on a hm
    rw [ho] at e2; cases e2; exact p
  refine ⟨⟨by simp [rl.len], rl.nd, fun c u e => ?_, rl.on, fun m c u h1 h2 h3 => ?_, fun m c u h1 h2 => ?_, nt_upd rl.nt pl.1, rl.tb⟩, ⟨List.prefix_rfl, upd_up hf, fun c u e _ nm => ⟨e, nm, fun z => ?_⟩⟩⟩
  · by_cases h : c = a
    · subst h; rw [upd_same] at e; rw [← e]; exact ho
    · rw [upd_ne h] at e; exact rl.ex c u e
  · by_cases h : n = m
    · subst h
      rw [List.getElem?_set_self (List.getElem?_eq_some_iff.mp hS).1] at h2
      cases h2; exact absurd rfl h3
    · rw [List.getElem?_set_ne h] at h2
      have hc : c ≠ a := fun z => h (nodup_at rl.nd hn (z ▸ h1))
      rw [upd_ne hc]; exact rl.off m c u h1 h2 h3
  · by_cases h : n = m
    · subst h
      rw [List.getElem?_set_self (List.getElem?_eq_some_iff.mp hS).1] at h2
      cases h2; trivial
    · rw [List.getElem?_set_ne h] at h2
      exact OR.up List.prefix_rfl (upd_up hf) (fun _ e => e) (rl.ob m c u h1 h2)
  · have hc : c ≠ a := fun z => nm (z ▸ hm)
    rw [upd_ne hc]; exact z

theorem drs_ws {F : Hp} : ∀ {ds : List D} {vs : List V}, DRs K F vs ds → PyData.canLayAll0 ds = true → WRs K A μ F vs (ds.map .d)
  | [], _, h, _ => by cases h; exact .nil
  | d :: ds, _, h, c => by
    have c' : d.canLay0 = true ∧ PyData.canLayAll0 ds = true := by simpa [PyData.canLayAll0] using c
    cases h with
    | cons a b => exact .cons ⟨a, c'.1⟩ (drs_ws b c'.2)
theorem ws_drs {F : Hp} : ∀ {ws : List W} {vs : List V} {ds : List D}, WRs K A μ F vs ws → allD ws = some ds → DRs K F vs ds ∧ PyData.canLayAll0 ds = true
  | [], _, _, h, e => by cases h; cases e; exact ⟨.nil, rfl⟩
  | .d x :: r, _, ds, h, e => by
    cases h with
    | cons a b =>
      unfold allD at e
      cases q : allD r with
      | none => rw [q] at e; cases e
      | some xs =>
        rw [q] at e; cases e
        obtain ⟨h1, h2⟩ := ws_drs b q
        exact ⟨.cons a.1 h1, by simp [PyData.canLayAll0, a.2, h2]⟩
  | .c _ :: _, _, _, _, e => by cases e
  | .f _ :: _, _, _, _, e => by cases e
  | .s _ :: _, _, _, _, e => by cases e
  | .r _ _ _ :: _, _, _, _, e => by cases e
  | .t _ :: _, _, _, _, e => by cases e
  | .fs _ :: _, _, _, _, e => by cases e
theorem lay_list {ds : List D} (h : (PyData.list ds).canLay0 = true) : PyData.canLayAll0 ds = true := by simpa [PyData.canLay0] using h
theorem lay_tup {ds : List D} (h : (PyData.tuple ds).canLay0 = true) : PyData.canLayAll0 ds = true := by simpa [PyData.canLay0] using h
theorem list_lay {ds : List D} (h : PyData.canLayAll0 ds = true) : (PyData.list ds).canLay0 = true := by simpa [PyData.canLay0] using h
theorem tup_lay {ds : List D} (h : PyData.canLayAll0 ds = true) : (PyData.tuple ds).canLay0 = true := by simpa [PyData.canLay0] using h
theorem layAll_app {xs ys : List D} : PyData.canLayAll0 (xs ++ ys) = (PyData.canLayAll0 xs && PyData.canLayAll0 ys) := by
  induction xs with
  | nil => simp [PyData.canLayAll0]
  | cons x xs ih => simp [PyData.canLayAll0, ih, Bool.and_assoc]
theorem drs_app {F : Hp} : ∀ {xs ys : List D} {vs us : List V}, DRs K F vs xs → DRs K F us ys → DRs K F (vs ++ us) (xs ++ ys)
  | [], _, _, _, h, k => by cases h; exact k
  | _ :: _, _, _, _, h, k => by cases h with | cons a b => exact .cons a (drs_app b k)
theorem drs_len {F : Hp} : ∀ {xs : List D} {vs : List V}, DRs K F vs xs → vs.length = xs.length
  | [], _, h => by cases h; rfl
  | _ :: _, _, h => by cases h with | cons a b => simp [drs_len b]
def SeqV (K : PySem.W.Frag) (H : Hp) (b : Bool) (a : Addr) (vs : List V) : Prop := if b = true then H a = some (.lst vs) else SqT K H a vs
theorem SeqV.any {H : Hp} {b : Bool} {a : Addr} {vs : List V} (h : SeqV K H b a vs) : SqL K H a vs ∨ SqT K H a vs := by
  cases b with
  | true => exact .inl (.inl (.inl h))
  | false => exact .inr h
theorem seq_is (rl : Rl K A μ F S H) {v : V} {w : W} {b : Bool} {ws : List W} (r : WR K A μ F v w) (e : seqOf S w = some (b, ws)) : ∃ a vs, v = .ref a ∧ SeqV K H b a vs ∧ WRs K A μ F vs ws := by
  cases w with
  | d x =>
    obtain ⟨h, c⟩ := r
    cases x with
    | list ds =>
      cases e
      cases h with
      | lst s a => exact ⟨_, _, rfl, rl.ex _ _ s, drs_ws a (lay_list c)⟩
    | tuple ds =>
      cases e
      cases h with
      | tup s a => exact ⟨_, _, rfl, sqT_up rl.ex s, drs_ws a (lay_tup c)⟩
    | _ => cases e
  | c n =>
    obtain ⟨a, h1, rfl⟩ := r
    change obSeq S[n]? = some (b, ws) at e
    cases q : S[n]? with
    | none => rw [q] at e; cases e
    | some o =>
      rw [q] at e
      have h := rl.ob n a o h1 q
      cases o with
      | lst us => cases e; obtain ⟨vs, k1, k2⟩ := h; exact ⟨a, vs, rfl, k1, k2⟩
      | tup us => cases e; obtain ⟨vs, k1, k2⟩ := h; exact ⟨a, vs, rfl, .inl (.inl k1), k2⟩
      | _ => cases e
  | f i => cases e
  | s ns => cases e
  | r i j c => cases e
  | t n => cases e
  | fs is => cases e
theorem view_is (rl : Rl K A μ F S H) {v : V} {w : W} {x : D} (r : WR K A μ F v w) (e : view S w = some x) : Dp K H v x ∧ x.canLay0 = true := by
  cases w with
  | d y => cases e; exact ⟨DR.dp _ _ (dr_up rl.ex _ _ r.1), r.2⟩
  | c n =>
    obtain ⟨a, h1, rfl⟩ := r
    change obView S[n]? = some x at e
    cases q : S[n]? with
    | none => rw [q] at e; cases e
    | some o =>
      rw [q] at e
      have h := rl.ob n a o h1 q
      cases o with
      | lst us =>
        obtain ⟨vs, k1, k2⟩ := h
        cases qa : allD us with
        | none => simp [obView, qa] at e
        | some ds =>
          simp [obView, qa] at e
          subst e
          obtain ⟨z1, z2⟩ := ws_drs k2 qa
          exact ⟨.lst (.inl (.inl k1)) (DRs.dp _ _ (drs_up rl.ex _ _ z1)), list_lay z2⟩
      | tup us =>
        obtain ⟨vs, k1, k2⟩ := h
        cases qa : allD us with
        | none => simp [obView, qa] at e
        | some ds =>
          simp [obView, qa] at e
          subst e
          obtain ⟨z1, z2⟩ := ws_drs k2 qa
          exact ⟨.tup (.inl (.inl k1)) (DRs.dp _ _ (drs_up rl.ex _ _ z1)), tup_lay z2⟩
      | _ => cases e
  | f i => cases e
  | s ns => cases e
  | r i j c => cases e
  | t n => cases e
  | fs is => cases e
mutual
theorem dle_depth : ∀ (n : Nat) (d : D), dle n d = true → d.depth ≤ n
  | n, .none, _ => by simp [PyData.depth]
  | n, .bool _, _ => by simp [PyData.depth]
  | n, .int _, _ => by simp [PyData.depth]
  | n, .str _, _ => by simp [PyData.depth]
  | n, .list ds, h => by
    cases n with
    | zero => simp [dle] at h
    | succ n =>
      have := dles_depth n ds (by simpa [dle] using h)
      simp only [PyData.depth]; omega
  | n, .tuple ds, h => by
    cases n with
    | zero => simp [dle] at h
    | succ n =>
      have := dles_depth n ds (by simpa [dle] using h)
      simp only [PyData.depth]; omega
  | n, .dict _, h => by simp [dle] at h
theorem dles_depth : ∀ (n : Nat) (ds : List D), dles n ds = true → PyData.depthAll ds ≤ n
  | n, [], _ => by simp [PyData.depthAll]
  | n, d :: ds, h => by
    have h' : dle n d = true ∧ dles n ds = true := by simpa [dles] using h
    have h1 := dle_depth n d h'.1
    have h2 := dles_depth n ds h'.2
    simp only [PyData.depthAll]; omega
end
theorem eqD_room {a b : D} {r : Bool} (e : eqD a b = some r) : min a.depth b.depth ≤ 60 ∧ r = PyData.eqv a b := by
  unfold eqD at e
  split at e
  · rename_i h
    cases e
    refine ⟨?_, rfl⟩
    rcases (Bool.or_eq_true _ _).mp h with h | h
    · have := dle_depth 60 b h; omega
    · have := dle_depth 60 a h; omega
  · cases e
end
end Mi
end
section
set_option Elab.async false
set_option linter.all false
set_option maxRecDepth 100000
set_option maxHeartbeats 4000000
namespace Mi
open PySem L2
def mulOk (i j : Int) : Bool := (decide (-(2 ^ 64) < i) && decide (i < 2 ^ 64)) || (decide (-(2 ^ 64) < j) && decide (j < 2 ^ 64))
def seqAdd (S : Sto) (a b : W) : Res W := match seqOf S a, seqOf S b with
  | some (true, xs), some (true, ys) => (match allD xs, allD ys with
    | some ds, some es => if ds.length + es.length ≤ cap then .ok (.d (.list (ds ++ es))) S else .bad
    | _, _ => .bad)
  | _, _ => .bad
def addW (a b : W) (S : Sto) : Res W := match a, b with
  | .d (.int i), .d (.int j) => .ok (.d (.int (i + j))) S
  | .d (.str x), .d (.str y) => if x.length + y.length ≤ cap then .ok (.d (.str (x ++ y))) S else .bad
  | .d (.tuple xs), .d (.tuple ys) => if xs.length + ys.length ≤ cap then .ok (.d (.tuple (xs ++ ys))) S else .bad
  | a, b => seqAdd S a b
def subW (a b : W) (S : Sto) : Res W := match a, b with
  | .d (.int i), .d (.int j) => .ok (.d (.int (i - j))) S
  | _, _ => .bad
def mulW (a b : W) (S : Sto) : Res W := match a, b with
  | .d (.int i), .d (.int j) => if mulOk i j then .ok (.d (.int (i * j))) S else .bad
  | _, _ => .bad
def divW (a b : W) (S : Sto) : Res W := match a, b with
  | .d (.int i), .d (.int j) => if decide (j ≠ 0) && decide (j.natAbs < 1073741824) then .ok (.d (.int (i.fdiv j))) S else .bad
  | _, _ => .bad
def modW (a b : W) (S : Sto) : Res W := match a, b with
  | .d (.int i), .d (.int j) => if decide (j ≠ 0) then .ok (.d (.int (i.fmod j))) S else .bad
  | _, _ => .bad
def powW (a b : W) (S : Sto) : Res W := match a, b with
  | .d (.int i), .d (.int j) => if decide (0 ≤ j) && (decide (j ≤ 1000000) && decide (i.natAbs < 2 ^ 64)) then .ok (.d (.int (i ^ j.toNat))) S else .bad
  | _, _ => .bad
def eqW (ng : Bool) (a b : W) (S : Sto) : Res W := match view S a, view S b with
  | some x, some y => (match eqD x y with
    | some r => .ok (.d (.bool (if ng then !r else r))) S
    | none => .bad)
  | _, _ => .bad
def ordW (p : Int → Int → Bool) (a b : W) (S : Sto) : Res W := match a, b with
  | .d (.int i), .d (.int j) => .ok (.d (.bool (p i j))) S
  | _, _ => .bad
def isNon : D → Bool
  | .none => true
  | _ => false
def isW (ng : Bool) (a b : W) (S : Sto) : Res W := match a, b with
  | .d (.bool x), .d (.bool y) => .ok (.d (.bool (if ng then !decide (x = y) else decide (x = y)))) S
  | .d x, .d .none => .ok (.d (.bool (if ng then !isNon x else isNon x))) S
  | .c _, .d .none => .ok (.d (.bool ng)) S
  | .f _, .d .none => .ok (.d (.bool ng)) S
  | _, _ => .bad
def flatWs : List W → Bool
  | [] => true
  | .d x :: r => flatD x && flatWs r
  | _ => false
def keyOf : D → Option Key
  | .int i => some (.inl i)
  | .str x => some (.inr x)
  | _ => none
def kget {α : Type} (k : Key) : List (Key × α) → Option α
  | [] => none
  | (j, v) :: r => if decide (j = k) then some v else kget k r
def inW (ng : Bool) (a b : W) (S : Sto) : Res W := match b with
  | .c n => (match S[n]? with
    | some (.dic kvs) => (match a with
      | .d x => (match keyOf x with
        | some k => .ok (.d (.bool (if ng then !(kget k kvs).isSome else (kget k kvs).isSome))) S
        | none => .bad)
      | _ => .bad)
    | some (.lst ws) => (match a with
      | .d x => if flatD x && flatWs ws then .ok (.d (.bool (if ng then !(ws.any fun w => match w with | .d y => PyData.eqv y x | _ => false) else ws.any fun w => match w with | .d y => PyData.eqv y x | _ => false))) S else .bad
      | _ => .bad)
    | _ => .bad)
  | .d (.str t) => (match a with
    | .d (.str z) => .ok (.d (.bool (if ng then !!(Builtin.Str.occurrences t z 0 t.length 1).isEmpty else !(Builtin.Str.occurrences t z 0 t.length 1).isEmpty))) S
    | _ => .bad)
  | b => (match a, seqOf S b with
    | .d x, some (_, ws) => if flatD x && flatWs ws then .ok (.d (.bool (if ng then !(ws.any fun w => match w with | .d y => PyData.eqv y x | _ => false) else ws.any fun w => match w with | .d y => PyData.eqv y x | _ => false))) S else .bad
    | _, _ => .bad)

def SE (X : Cx) (A : Ad) (E : XK) (e : Expr) (x : XE) : Prop := ∃ t, PE X e t ∧ ∀ (μ : List Addr) (F : Hp) (S : Sto) (H : Hp) (σ : L2.St) (en : Ev) (Q : VK), Rl X.K A μ F S H → ER X.K A μ F σ en → PP X.K A (WR X.K A) E μ F H (x en S) Q → t σ H Q
def BR : List Addr → Hp → Bool → Bool → Prop := fun _ _ a b => a = b
def ST (X : Cx) (A : Ad) (E : XK) (e : Expr) (x : XT) : Prop := ∃ t, PT X e t ∧ ∀ (μ : List Addr) (F : Hp) (S : Sto) (H : Hp) (σ : L2.St) (en : Ev) (Q : Bool → Hp → Prop), Rl X.K A μ F S H → ER X.K A μ F σ en → PP X.K A BR E μ F H (x en S) Q → t σ H Q
def SA (X : Cx) (A : Ad) (E : XK) (es : List Expr) (x : XA) : Prop := ∃ t, PA X es t ∧ ∀ (μ : List Addr) (F : Hp) (S : Sto) (H : Hp) (σ : L2.St) (en : Ev) (Q : List V → Hp → Prop), Rl X.K A μ F S H → ER X.K A μ F σ en → PP X.K A (WRs X.K A) E μ F H (x en S) Q → t σ H Q
def OpOK (X : Cx) (A : Ad) (E : XK) (f : Value → Value → Sem Value) (g : W → W → Sto → Res W) : Prop := ∃ r, OpR X f r ∧ ∀ (μ : List Addr) (F : Hp) (S : Sto) (H : Hp) (a b : V) (x y : W) (Q : VK), Rl X.K A μ F S H → WR X.K A μ F a x → WR X.K A μ F b y → PP X.K A (WR X.K A) E μ F H (g x y S) Q → r a b H Q
section
variable {X : Cx} {A : Ad} {E : XK}
theorem wr_int {K : PySem.W.Frag} {μ : List Addr} {F : Hp} (i : Int) : WR K A μ F (.int i) (.d (.int i)) := ⟨.int i, rfl⟩
theorem wr_bl {K : PySem.W.Frag} {μ : List Addr} {F : Hp} (b : Bool) : WR K A μ F (.bl b) (.d (.bool b)) := ⟨.bl b, rfl⟩
theorem wr_non {K : PySem.W.Frag} {μ : List Addr} {F : Hp} : WR K A μ F .non (.d .none) := ⟨.non, rfl⟩
theorem str_app_lay {x y : Str} (h : (PyData.str x).canLay0 = true) (k : (PyData.str y).canLay0 = true) : (PyData.str (x ++ y)).canLay0 = true := by
  have h' : x.cps.all (· < 0x110000) = true := h
  have k' : y.cps.all (· < 0x110000) = true := k
  show PyData.strOk (x ++ y) = true
  show (x.cps ++ y.cps).all (· < 0x110000) = true
  rw [Array.all_append, h', k'] <;> rfl
theorem ok_add : OpOK X A E (binaryOp .Add) addW := by
  refine ⟨_, op_add.or (op_add_str.or (op_catA.or op_cat)), fun μ F S H a b x y Q rl ra rb h => ?_⟩
  unfold addW at h
  split at h
  · obtain ⟨ra, _⟩ := ra; obtain ⟨rb, _⟩ := rb
    cases ra; cases rb
    exact .inl ⟨_, _, rfl, rfl, PP.now h rl (wr_int _)⟩
  · obtain ⟨ra, la⟩ := ra; obtain ⟨rb, lb⟩ := rb
    cases ra; cases rb
    split at h
    · rename_i z
      exact .inr (.inl ⟨_, _, rfl, rfl, cap_le z, PP.now h rl ⟨.str _, str_app_lay la lb⟩⟩)
    · exact h.elim
  · obtain ⟨ra, la⟩ := ra; obtain ⟨rb, lb⟩ := rb
    cases ra with
    | tup sa da =>
      cases rb with
      | tup sb db =>
        split at h
        · rename_i z
          have na := drs_len da
          have nb := drs_len db
          refine .inr (.inr (.inl ⟨_, _, _, _, rfl, rfl, sqT_up rl.ex sa, sqT_up rl.ex sb, by rw [na, nb]; exact cap_le z, fun e => ?_, fun _ e => ?_, fun _ _ p hp => ?_⟩))
          · subst e
            cases da
            exact PP.now h rl ⟨.tup sb db, lb⟩
          · subst e
            cases db
            refine PP.now h rl ⟨?_, ?_⟩
            · rw [List.append_nil]; exact .tup sa da
            · rw [List.append_nil]; exact la
          · obtain ⟨rl', xt⟩ := rl.newF hp (.tup _)
            exact h _ _ _ _ xt rl' ⟨.tup (.inl (.inl upd_same)) (drs_app (drs_up xt.fz _ _ da) (drs_up xt.fz _ _ db)), tup_lay (by rw [layAll_app, lay_tup la, lay_tup lb]; rfl)⟩
        · exact h.elim
  · unfold seqAdd at h
    split at h
    · rename_i xs ys ex ey
      obtain ⟨a1, vs, rfl, sa, wa⟩ := seq_is rl ra ex
      obtain ⟨b1, us, rfl, sb, wb⟩ := seq_is rl rb ey
      split at h
      · rename_i ds es ed ee
        split at h
        · rename_i z
          obtain ⟨d1, l1⟩ := ws_drs wa ed
          obtain ⟨d2, l2⟩ := ws_drs wb ee
          refine .inr (.inr (.inr ⟨a1, b1, vs, us, rfl, rfl, sa, sb, by rw [drs_len d1, drs_len d2]; exact cap_le z, fun p hp => ?_⟩))
          obtain ⟨rl', xt⟩ := rl.newF hp (.lst (vs ++ us))
          exact h _ _ _ _ xt rl' ⟨.lst upd_same (drs_app (drs_up xt.fz _ _ d1) (drs_up xt.fz _ _ d2)), list_lay (by rw [layAll_app, l1, l2]; rfl)⟩
        · exact h.elim
      · exact h.elim
    · exact h.elim
theorem ok_sub : OpOK X A E (binaryOp .Sub) subW := by
  refine ⟨_, op_sub, fun μ F S H a b x y Q rl ra rb h => ?_⟩
  unfold subW at h
  split at h
  · obtain ⟨ra, _⟩ := ra; obtain ⟨rb, _⟩ := rb
    cases ra; cases rb
    exact ⟨_, _, rfl, rfl, PP.now h rl (wr_int _)⟩
  · exact h.elim
theorem ok_mul : OpOK X A E (binaryOp .Mult) mulW := by
  refine ⟨_, op_mul, fun μ F S H a b x y Q rl ra rb h => ?_⟩
  unfold mulW at h
  split at h
  · obtain ⟨ra, _⟩ := ra; obtain ⟨rb, _⟩ := rb
    cases ra; cases rb
    split at h
    · rename_i z
      refine ⟨_, _, rfl, rfl, ?_, PP.now h rl (wr_int _)⟩
      simp only [mulOk, Bool.or_eq_true, Bool.and_eq_true, decide_eq_true_eq] at z
      exact z
    · exact h.elim
  · exact h.elim
theorem ok_div : OpOK X A E (binaryOp .FloorDiv) divW := by
  refine ⟨_, op_fdivN, fun μ F S H a b x y Q rl ra rb h => ?_⟩
  unfold divW at h
  split at h
  · obtain ⟨ra, _⟩ := ra; obtain ⟨rb, _⟩ := rb
    cases ra; cases rb
    split at h
    · rename_i z
      simp only [Bool.and_eq_true, decide_eq_true_eq] at z
      exact ⟨_, _, rfl, rfl, z, PP.now h rl (wr_int _)⟩
    · exact h.elim
  · exact h.elim
theorem ok_mod : OpOK X A E (binaryOp .Mod) modW := by
  refine ⟨_, op_modN, fun μ F S H a b x y Q rl ra rb h => ?_⟩
  unfold modW at h
  split at h
  · obtain ⟨ra, _⟩ := ra; obtain ⟨rb, _⟩ := rb
    cases ra; cases rb
    split at h
    · rename_i z
      exact ⟨_, _, rfl, rfl, of_decide_eq_true z, PP.now h rl (wr_int _)⟩
    · exact h.elim
  · exact h.elim
theorem ok_pow : OpOK X A E (binaryOp .Pow) powW := by
  refine ⟨_, op_pow, fun μ F S H a b x y Q rl ra rb h => ?_⟩
  unfold powW at h
  split at h
  · obtain ⟨ra, _⟩ := ra; obtain ⟨rb, _⟩ := rb
    cases ra; cases rb
    split at h
    · rename_i z
      simp only [Bool.and_eq_true, decide_eq_true_eq] at z
      exact ⟨_, _, rfl, rfl, z, PP.now h rl (wr_int _)⟩
    · exact h.elim
  · exact h.elim
theorem eq_run {f : CmpOp} {ng : Bool} (hf : f = if ng then .NotEq else .Eq) (hu : X.A.units + 64 < cLine) : OpOK X A E (compareOp f) (eqW ng) := by
  refine ⟨fun x y H Q => ∃ d e, Dp X.K H x d ∧ Dp X.K H y e ∧ d.canLay0 = true ∧ e.canLay0 = true ∧ min d.depth e.depth ≤ 60 ∧ Q (.bl (if ng then !PyData.eqv d e else PyData.eqv d e)) H, ?_, fun μ F S H a b x y Q rl ra rb h => ?_⟩
  · intro pins s σ H x y v u Q I rx ry h
    obtain ⟨d, e, hd, he, sd, se, hm, q⟩ := h
    obtain ⟨as, r1⟩ := Dp.reads I d x v hd rx
    obtain ⟨bs, r2⟩ := Dp.reads I e y u he ry
    cases ng with
    | true =>
      rw [hf]
      exact SeqAt.compareNe_reads r1 r2 sd se (by omega) ⟨.bl _, H, I, rfl, q⟩
    | false =>
      rw [hf]
      exact SeqAt.compareEq_reads r1 r2 sd se (by omega) ⟨.bl _, H, I, rfl, q⟩
  · unfold eqW at h
    split at h
    · rename_i dx dy ex ey
      obtain ⟨h1, l1⟩ := view_is rl ra ex
      obtain ⟨h2, l2⟩ := view_is rl rb ey
      split at h
      · rename_i r er
        obtain ⟨hm, rfl⟩ := eqD_room er
        exact ⟨dx, dy, h1, h2, l1, l2, hm, PP.now h rl (wr_bl _)⟩
      · exact h.elim
    · exact h.elim
theorem ok_eq (hu : X.A.units + 64 < cLine) : OpOK X A E (compareOp .Eq) (eqW false) := eq_run rfl hu
theorem ok_ne (hu : X.A.units + 64 < cLine) : OpOK X A E (compareOp .NotEq) (eqW true) := eq_run rfl hu
theorem ord_run {f : CmpOp} {p : Int → Int → Bool} (hr : OpR X (compareOp f) (rI0 fun i j => .bl (p i j))) : OpOK X A E (compareOp f) (ordW p) := by
  refine ⟨_, hr, fun μ F S H a b x y Q rl ra rb h => ?_⟩
  unfold ordW at h
  split at h
  · obtain ⟨ra, _⟩ := ra; obtain ⟨rb, _⟩ := rb
    cases ra; cases rb
    exact ⟨_, _, rfl, rfl, PP.now h rl (wr_bl _)⟩
  · exact h.elim
theorem ok_lt : OpOK X A E (compareOp .Lt) (ordW fun i j => decide (i < j)) := ord_run op_lt
theorem ok_le : OpOK X A E (compareOp .LtE) (ordW fun i j => decide (i ≤ j)) := ord_run op_le
theorem ok_gt : OpOK X A E (compareOp .Gt) (ordW fun i j => decide (j < i)) := ord_run op_gt
theorem ok_ge : OpOK X A E (compareOp .GtE) (ordW fun i j => decide (j ≤ i)) := ord_run op_ge
theorem dr_non {K : PySem.W.Frag} {F : Hp} {v : V} {x : D} (h : DR K F v x) : decide (v = .non) = isNon x := by
  cases h <;> simp [isNon]
theorem is_run {f : CmpOp} {ng : Bool} (hf : f = if ng then .IsNot else .Is) : OpOK X A E (compareOp f) (isW ng) := by
  refine ⟨fun x y H Q => (y = .non ∧ Q (.bl (if ng then !decide (x = .non) else decide (x = .non))) H) ∨ ∃ a b : Bool, x = .bl a ∧ y = .bl b ∧ Q (.bl (if ng then !decide (a = b) else decide (a = b))) H, ?_, fun μ F S H a b x y Q rl ra rb h => ?_⟩
  · cases ng with
    | true => rw [hf]; exact op_notN.or op_notBl
    | false => rw [hf]; exact op_isN.or op_isBl
  · unfold isW at h
    split at h
    · obtain ⟨ra, _⟩ := ra; obtain ⟨rb, _⟩ := rb
      cases ra; cases rb
      exact .inr ⟨_, _, rfl, rfl, PP.now h rl (wr_bl _)⟩
    · obtain ⟨ra, _⟩ := ra; obtain ⟨rb, _⟩ := rb
      cases rb
      refine .inl ⟨rfl, ?_⟩
      rw [dr_non ra]
      exact PP.now h rl (wr_bl _)
    · obtain ⟨a1, _, rfl⟩ := ra; obtain ⟨rb, _⟩ := rb
      cases rb
      refine .inl ⟨rfl, ?_⟩
      have e : decide (V.ref a1 = V.non) = false := by simp
      rw [e]
      have q := PP.now h rl (wr_bl _)
      cases ng <;> exact q
    · obtain ⟨a1, _, rfl⟩ := ra; obtain ⟨rb, _⟩ := rb
      cases rb
      refine .inl ⟨rfl, ?_⟩
      have e : decide (V.ref a1 = V.non) = false := by simp
      rw [e]
      have q := PP.now h rl (wr_bl _)
      cases ng <;> exact q
    · exact h.elim
theorem ok_is : OpOK X A E (compareOp .Is) (isW false) := is_run rfl
theorem ok_isn : OpOK X A E (compareOp .IsNot) (isW true) := is_run rfl
theorem dr_flat {K : PySem.W.Frag} {F : Hp} {v : V} {x : D} (h : DR K F v x) (f : flatD x = true) : flatV v = true := by
  cases h <;> first | rfl | cases f
theorem dr_eqV {K : PySem.W.Frag} {F : Hp} {v u : V} {x y : D} (h : DR K F v x) (k : DR K F u y) (fx : flatD x = true) (fy : flatD y = true) : eqV u v = PyData.eqv y x := by
  cases h <;> first
    | (simp [flatD] at fx; done)
    | (cases k <;> first
      | (simp [flatD] at fy; done)
      | rfl
      | simp [eqV, PyData.eqv])
theorem ws_any {K : PySem.W.Frag} {μ : List Addr} {F : Hp} {v : V} {x : D} (h : DR K F v x) (fx : flatD x = true) : ∀ {ws : List W} {vs : List V}, WRs K A μ F vs ws → flatWs ws = true → vs.all flatV = true ∧ inV v vs = (ws.any fun w => match w with | .d y => PyData.eqv y x | _ => false)
  | [], _, r, _ => by cases r; exact ⟨rfl, rfl⟩
  | .d y :: ws, _, r, f => by
    cases r with
    | cons a b =>
      have f' : flatD y = true ∧ flatWs ws = true := by simpa [flatWs] using f
      obtain ⟨h1, h2⟩ := ws_any h fx b f'.2
      refine ⟨by simp [dr_flat a.1 f'.1, h1], ?_⟩
      show (eqV _ v || inV v _) = _
      rw [h2, dr_eqV h a.1 fx f'.1]
      rfl
  | .c _ :: _, _, _, f => by cases f
  | .f _ :: _, _, _, f => by cases f
  | .s _ :: _, _, _, f => by cases f
  | .r _ _ _ :: _, _, _, f => by cases f
  | .t _ :: _, _, _, f => by cases f
theorem kget_val {K : PySem.W.Frag} {μ : List Addr} {F : Hp} (k : Key) : ∀ {kvs : List (Key × W)} {ps : List (Key × V)}, Paired (fun (p : Key × V) (q : Key × W) => p.1 = q.1 ∧ WR K A μ F p.2 q.2) ps kvs →
    (match kget k kvs with
    | none => valV ps k = none
    | some w => ∃ v, valV ps k = some v ∧ WR K A μ F v w)
  | [], _, r => by cases r; rfl
  | (j, w) :: kvs, _, r => by
    cases r with
    | @cons p _ l₁ _ a b =>
      have ih := kget_val k b
      obtain ⟨a1, a2⟩ := a
      unfold kget
      by_cases e : j = k
      · rw [if_pos (by simpa using e)]
        exact ⟨p.2, valV_pos (a1.trans e), a2⟩
      · rw [if_neg (by simpa using e), valV_neg (fun z => e (a1.symm.trans z))]
        exact ih
theorem key_is {K : PySem.W.Frag} {F : Hp} {v : V} {x : D} {k : Key} (h : DR K F v x) (e : keyOf x = some k) : v = kV k := by
  cases h <;> first | (cases e; done) | (cases e; rfl)
theorem in_run {f : CmpOp} {ng : Bool} (hf : f = if ng then .NotIn else .In) (hu : X.A.units + 1 < cLine) : OpOK X A E (compareOp f) (inW ng) := by
  refine ⟨fun x y H Q => (∃ a o, y = .ref a ∧ DGet H a x o ∧ Q (.bl (if ng then !o.isSome else o.isSome)) H) ∨ rIn X.K ng x y H Q ∨ (∃ i j, x = .str i ∧ y = .str j ∧ Q (.bl (if ng then !!(Builtin.Str.occurrences j i 0 j.length 1).isEmpty else !(Builtin.Str.occurrences j i 0 j.length 1).isEmpty)) H), ?_, fun μ F S H a b x y Q rl ra rb h => ?_⟩
  · cases ng with
    | true =>
      rw [hf]
      refine OpR.or ?_ (op_notIn_seq.or op_notin_str)
      intro pins s σ H x y v u Q I rx ry h
      obtain ⟨a, o, rfl, g, q⟩ := h
      cases ry
      exact d_notIn hu I g rx fun s3 I3 => ⟨.bl (!o.isSome), H, I3, rfl, q⟩
    | false =>
      rw [hf]
      refine OpR.or ?_ (op_in_seq.or op_in_str)
      intro pins s σ H x y v u Q I rx ry h
      obtain ⟨a, o, rfl, g, q⟩ := h
      cases ry
      exact d_in hu I g rx fun s3 I3 => ⟨.bl o.isSome, H, I3, rfl, q⟩
  · have seqs : ∀ {x0 : D} {b0 : Bool} {ws : List W}, x = .d x0 → seqOf S y = some (b0, ws) → (flatD x0 && flatWs ws) = true → Q (.bl (if ng then !(ws.any fun w => match w with | .d y => PyData.eqv y x0 | _ => false) else ws.any fun w => match w with | .d y => PyData.eqv y x0 | _ => false)) H → rIn X.K ng a b H Q := fun {x0 b0 ws} ex es ef q => by
      subst ex
      obtain ⟨f1, f2⟩ := (Bool.and_eq_true _ _).mp ef
      obtain ⟨p, vs, rfl, sv, wv⟩ := seq_is rl rb es
      obtain ⟨k1, k2⟩ := ws_any ra.1 f1 wv f2
      refine ⟨p, vs, rfl, sv.any, dr_flat ra.1 f1, k1, ?_⟩
      rw [k2]
      exact q
    unfold inW at h
    split at h
    · rename_i n
      split at h
      · rename_i kvs hS
        split at h
        · rename_i x0
          split at h
          · rename_i k ek
            obtain ⟨p, hp, rfl⟩ := rb
            obtain ⟨ps, h1, h2⟩ := rl.ob n p _ hp hS
            have hv := kget_val (K := X.K) (A := A) k h2
            have ev := key_is ra.1 ek
            subst ev
            refine .inl ⟨p, valV ps k, rfl, DGet.k h1, ?_⟩
            have e : (valV ps k).isSome = (kget k kvs).isSome := by
              cases q : kget k kvs with
              | none => rw [q] at hv; rw [show valV ps k = none from hv]; rfl
              | some w0 => rw [q] at hv; obtain ⟨v0, e0, _⟩ := hv; rw [e0]; rfl
            rw [e]
            exact PP.now h rl (wr_bl _)
          · exact h.elim
        · exact h.elim
      · rename_i ws hS
        split at h
        · split at h
          · rename_i z
            exact .inr (.inl (seqs rfl (by show obSeq S[n]? = _; rw [hS]; rfl) z (PP.now h rl (wr_bl _))))
          · exact h.elim
        · exact h.elim
      · exact h.elim
    · split at h
      · obtain ⟨ra, _⟩ := ra; obtain ⟨rb, _⟩ := rb
        cases ra; cases rb
        exact .inr (.inr ⟨_, _, rfl, rfl, PP.now h rl (wr_bl _)⟩)
      · exact h.elim
    · split at h
      · rename_i es
        split at h
        · rename_i z
          exact .inr (.inl (seqs rfl es z (PP.now h rl (wr_bl _))))
        · exact h.elim
      · exact h.elim
theorem ok_in (hu : X.A.units + 1 < cLine) : OpOK X A E (compareOp .In) (inW false) := in_run rfl hu
theorem ok_nin (hu : X.A.units + 1 < cLine) : OpOK X A E (compareOp .NotIn) (inW true) := in_run rfl hu
end
end Mi
end
section
set_option Elab.async false
set_option linter.all false
set_option maxRecDepth 100000
set_option maxHeartbeats 4000000
namespace Mi
open PySem L2
def xVar (i : Nat) : XE := fun en S => match en[i]? with
  | some (some w) => .ok w S
  | _ => .bad
def xCon (w : W) : XE := fun _ S => .ok w S
def xBin (g : W → W → Sto → Res W) (a b : XE) : XE := fun en S => (a en S).andThen fun x S1 => (b en S1).andThen fun y S2 => g x y S2
def xUn (g : W → Sto → Res W) (a : XE) : XE := fun en S => (a en S).andThen g
def asB : W → Option Bool
  | .d (.bool k) => some k
  | _ => none
def xChn (g g' : W → W → Sto → Res W) (a b c : XE) : XE := fun en S => (a en S).andThen fun x S1 => (b en S1).andThen fun y S2 => (g x y S2).andThen fun z S3 => match asB z with
  | some true => (c en S3).andThen fun u S4 => g' y u S4
  | some false => .ok (.d (.bool false)) S3
  | none => .bad
def xAnd (a b : XE) : XE := fun en S => (a en S).andThen fun x S1 => match asB x with
  | some true => b en S1
  | some false => .ok (.d (.bool false)) S1
  | none => .bad
def xOr (a b : XE) : XE := fun en S => (a en S).andThen fun x S1 => match asB x with
  | some true => .ok (.d (.bool true)) S1
  | some false => b en S1
  | none => .bad
def xNot (a : XE) : XE := fun en S => (a en S).andThen fun x S1 => match asB x with
  | some k => .ok (.d (.bool !k)) S1
  | none => .bad
def xIte (c : XT) (a b : XE) : XE := fun en S => (c en S).andThen fun k S1 => if k then a en S1 else b en S1
def truth (S : Sto) : W → Option Bool
  | .d .none => some false
  | .d (.bool k) => some k
  | .d (.int i) => some (i != 0)
  | .d (.str x) => if x.length ≤ cap then some ((x.length : Int) != 0) else none
  | .c n => (match S[n]? with
    | some (.dic kvs) => some (!kvs.isEmpty)
    | some (.lst ws) => some (!ws.isEmpty)
    | some (.tup ws) => some (!ws.isEmpty)
    | _ => none)
  | w => (match seqOf S w with
    | some (_, ws) => some (!ws.isEmpty)
    | none => none)
def tVal (a : XE) : XT := fun en S => (a en S).andThen fun x S1 => match truth S1 x with
  | some k => .ok k S1
  | none => .bad
def tBool (a : XE) : XT := fun en S => (a en S).andThen fun x S1 => match asB x with
  | some k => .ok k S1
  | none => .bad
def tAnd (a b : XT) : XT := fun en S => (a en S).andThen fun k S1 => if k then b en S1 else .ok false S1
def tOr (a b : XT) : XT := fun en S => (a en S).andThen fun k S1 => if k then .ok true S1 else b en S1
def tNot (a : XT) : XT := fun en S => (a en S).andThen fun k S1 => .ok (!k) S1
def xNil : XA := fun _ S => .ok [] S
def xCons (a : XE) (r : XA) : XA := fun en S => (a en S).andThen fun x S1 => (r en S1).andThen fun xs S2 => .ok (x :: xs) S2
def allF : List W → Option (List Nat)
  | [] => some []
  | .f i :: r => (match allF r with
    | some is => some (i :: is)
    | none => none)
  | _ :: _ => none
def mkTup (ws : List W) (S : Sto) : Res W := match allD ws with
  | some ds => if ds.length ≤ cap then .ok (.d (.tuple ds)) S else .bad
  | none => (match allF ws with
    | some is => if ws.length ≤ cap then .ok (.fs is) S else .bad
    | none => .bad)
def mkLst (ws : List W) (S : Sto) : Res W := match allD ws with
  | some ds => if ds.length ≤ cap then .ok (.d (.list ds)) S else .bad
  | none => .bad
def mkTupC (ws : List W) (S : Sto) : Res W := if ws.length ≤ cap then .ok (.c S.length) (S ++ [.tup ws]) else .bad
def mkLstC (ws : List W) (S : Sto) : Res W := if ws.length ≤ cap then .ok (.c S.length) (S ++ [.lst ws]) else .bad
def xTup (cel : Bool) (a : XA) : XE := fun en S => (a en S).andThen fun ws S1 => if cel then mkTupC ws S1 else mkTup ws S1
def xLst (cel : Bool) (a : XA) : XE := fun en S => (a en S).andThen fun ws S1 => if cel then mkLstC ws S1 else mkLst ws S1
def xDic : XE := fun _ S => .ok (.c S.length) (S ++ [.dic []])
def ixG (w i : W) (S : Sto) : Res W := match i with
  | .d (.int j) => (match w with
    | .d (.str z) => (match atI z.cps.toList j with
      | some c => if z.length ≤ cap then .ok (.d (.str ⟨#[c]⟩)) S else .bad
      | none => .bad)
    | .c n => (match S[n]? with
      | some (.dic kvs) => (match kget (.inl j) kvs with
        | some v => .ok v S
        | none => .bad)
      | some (.lst ws) => (match atI ws j with
        | some v => .ok v S
        | none => .bad)
      | some (.tup ws) => (match atI ws j with
        | some v => .ok v S
        | none => .bad)
      | _ => .bad)
    | w => (match seqOf S w with
      | some (_, ws) => (match atI ws j with
        | some v => .ok v S
        | none => .bad)
      | none => .bad))
  | .d (.str z) => (match w with
    | .c n => (match S[n]? with
      | some (.dic kvs) => (match kget (.inr z) kvs with
        | some v => .ok v S
        | none => .bad)
      | _ => .bad)
    | _ => .bad)
  | _ => .bad
section
variable {X : Cx} {A : Ad} {E : XK} {a b c : Expr} {xa xb xc : XE} {es : List Expr} {ya : XA} {pos : Pos}
theorem se_var {i : Nat} {x : Str} (hN : X.N[i]? = some x) (hv : Vis X.env.scope x) (hd : (x == ("__debug__" : Str)) = false) (hcd : (x == ("__classdict__" : Str)) = false) : SE X A E (.Name x pos) (xVar i) :=
  ⟨_, pe_var hN hv hd hcd, fun μ F S H σ en Q rl er h => by
    unfold xVar at h
    split at h
    · rename_i w e
      obtain ⟨v, h1, h2⟩ := er.2 i w e
      exact ⟨v, h1, PP.now h rl h2⟩
    · exact h.elim⟩
theorem se_int {i : Int} {j : Nat} : SE X A E (.Constant (.int i) j pos) (xCon (.d (.int i))) := ⟨_, pe_int, fun μ F S H σ en Q rl er h => PP.now h rl (wr_int _)⟩
theorem se_bl {i : Bool} {j : Nat} : SE X A E (.Constant (.bool i) j pos) (xCon (.d (.bool i))) := ⟨_, pe_bl, fun μ F S H σ en Q rl er h => PP.now h rl (wr_bl _)⟩
theorem se_non {j : Nat} : SE X A E (.Constant .none j pos) (xCon (.d .none)) := ⟨_, pe_non, fun μ F S H σ en Q rl er h => PP.now h rl wr_non⟩
theorem se_str {i : Str} {j : Nat} (ok : PyData.strOk i = true) : SE X A E (.Constant (.str i) j pos) (xCon (.d (.str i))) := ⟨_, pe_str, fun μ F S H σ en Q rl er h => PP.now h rl ⟨.str i, ok⟩⟩
theorem se_glob {x : Str} {v : V} {u : Value} {w : W} (hg : Gl X x) (hm : X.mg x = some u) (r : RelV v u) (hd : (x == ("__debug__" : Str)) = false) (hw : ∀ μ F, WR X.K A μ F v w) : SE X A E (.Name x pos) (xCon w) :=
  ⟨_, pe_glob hg hm r hd, fun μ F S H σ en Q rl er h => PP.now h rl (hw μ F)⟩
theorem se_bin {op : Operator} {g : W → W → Sto → Res W} (ho : OpOK X A E (binaryOp op) g) (ha : SE X A E a xa) (hb : SE X A E b xb) : SE X A E (.BinOp a op b pos) (xBin g xa xb) := by
  obtain ⟨r, hr, hg⟩ := ho
  obtain ⟨ta, pa, ha⟩ := ha
  obtain ⟨tb, pb, hb⟩ := hb
  refine ⟨_, pe_op hr pa pb, fun μ F S H σ en Q rl er h => ?_⟩
  refine ha μ F S H σ en _ rl er (PP.bind h fun x S1 μ1 F1 H1 v _ t1 rl1 r1 h1 => ?_)
  refine hb μ1 F1 S1 H1 σ en _ rl1 (er.xt t1) (PP.bind h1 fun y S2 μ2 F2 H2 u _ t2 rl2 r2 h2 => ?_)
  exact hg μ2 F2 S2 H2 v u x y Q rl2 (r1.xt t2) r2 h2
theorem se_cmp {op : CmpOp} {g : W → W → Sto → Res W} (ho : OpOK X A E (compareOp op) g) (ha : SE X A E a xa) (hb : SE X A E b xb) (hm : behindInMarks op b = false) : SE X A E (.Compare a [op] [b] pos) (xBin g xa xb) := by
  obtain ⟨r, hr, hg⟩ := ho
  obtain ⟨ta, pa, ha⟩ := ha
  obtain ⟨tb, pb, hb⟩ := hb
  refine ⟨_, pe_cmpR hr pa pb hm, fun μ F S H σ en Q rl er h => ?_⟩
  refine ha μ F S H σ en _ rl er (PP.bind h fun x S1 μ1 F1 H1 v _ t1 rl1 r1 h1 => ?_)
  refine hb μ1 F1 S1 H1 σ en _ rl1 (er.xt t1) (PP.bind h1 fun y S2 μ2 F2 H2 u _ t2 rl2 r2 h2 => ?_)
  exact hg μ2 F2 S2 H2 v u x y Q rl2 (r1.xt t2) r2 h2
theorem asB_is {K : PySem.W.Frag} {μ : List Addr} {F : Hp} {v : V} {w : W} {k : Bool} (r : WR K A μ F v w) (e : asB w = some k) : v = .bl k := by
  unfold asB at e
  split at e
  · cases e
    obtain ⟨r, _⟩ := r
    cases r
    rfl
  · cases e
theorem PP.asB {K : PySem.W.Frag} {μ : List Addr} {F H : Hp} {w : W} {v : V} {α β : Type} {R : List Addr → Hp → β → α → Prop} {f : Bool → Res α} {Q : β → Hp → Prop} (r : WR K A μ F v w) (h : PP K A R E μ F H (match Mi.asB w with | some k => f k | none => .bad) Q) : ∃ k, v = .bl k ∧ PP K A R E μ F H (f k) Q := by
  cases e : Mi.asB w with
  | some k => rw [e] at h; exact ⟨k, asB_is r e, h⟩
  | none => rw [e] at h; exact h.elim
theorem st_cmp {op : CmpOp} {g : W → W → Sto → Res W} (ho : OpOK X A E (compareOp op) g) (ha : SE X A E a xa) (hb : SE X A E b xb) (hm : behindInMarks op b = false) : ST X A E (.Compare a [op] [b] pos) (tBool (xBin g xa xb)) := by
  obtain ⟨r, hr, hg⟩ := ho
  obtain ⟨ta, pa, ha⟩ := ha
  obtain ⟨tb, pb, hb⟩ := hb
  refine ⟨_, pt_cmpR hr pa pb hm, fun μ F S H σ en Q rl er h => ?_⟩
  have h' := PP.bind (R1 := WR X.K A) (Q1 := fun v H' => ∃ k, v = .bl k ∧ Q k H') h fun z S1 μ1 F1 H1 v _ t1 rl1 r1 h1 => by
    have h1' : PP X.K A BR E μ1 F1 H1 (match asB z with | some k => .ok k S1 | none => .bad) Q := h1
    obtain ⟨k, rfl, q⟩ := PP.asB r1 h1'
    exact ⟨k, rfl, PP.now q rl1 rfl⟩
  refine ha μ F S H σ en _ rl er (PP.bind h' fun x S1 μ1 F1 H1 v _ t1 rl1 r1 h1 => ?_)
  refine hb μ1 F1 S1 H1 σ en _ rl1 (er.xt t1) (PP.bind h1 fun y S2 μ2 F2 H2 u _ t2 rl2 r2 h2 => ?_)
  exact hg μ2 F2 S2 H2 v u x y _ rl2 (r1.xt t2) r2 h2
theorem chain_run {r r' : R2} {ta tb tc : TE} {g g' : W → W → Sto → Res W}
    (hg : ∀ (μ : List Addr) (F : Hp) (S : Sto) (H : Hp) (a b : V) (x y : W) (Q : VK), Rl X.K A μ F S H → WR X.K A μ F a x → WR X.K A μ F b y → PP X.K A (WR X.K A) E μ F H (g x y S) Q → r a b H Q)
    (hg' : ∀ (μ : List Addr) (F : Hp) (S : Sto) (H : Hp) (a b : V) (x y : W) (Q : VK), Rl X.K A μ F S H → WR X.K A μ F a x → WR X.K A μ F b y → PP X.K A (WR X.K A) E μ F H (g' x y S) Q → r' a b H Q)
    (ha : ∀ (μ : List Addr) (F : Hp) (S : Sto) (H : Hp) (σ : L2.St) (en : Ev) (Q : VK), Rl X.K A μ F S H → ER X.K A μ F σ en → PP X.K A (WR X.K A) E μ F H (xa en S) Q → ta σ H Q)
    (hb : ∀ (μ : List Addr) (F : Hp) (S : Sto) (H : Hp) (σ : L2.St) (en : Ev) (Q : VK), Rl X.K A μ F S H → ER X.K A μ F σ en → PP X.K A (WR X.K A) E μ F H (xb en S) Q → tb σ H Q)
    (hc : ∀ (μ : List Addr) (F : Hp) (S : Sto) (H : Hp) (σ : L2.St) (en : Ev) (Q : VK), Rl X.K A μ F S H → ER X.K A μ F σ en → PP X.K A (WR X.K A) E μ F H (xc en S) Q → tc σ H Q)
    {μ : List Addr} {F : Hp} {S : Sto} {H : Hp} {σ : L2.St} {en : Ev} {Q : VK} (rl : Rl X.K A μ F S H) (er : ER X.K A μ F σ en) (h : PP X.K A (WR X.K A) E μ F H (xChn g g' xa xb xc en S) Q) : tChain r r' ta tb tc σ H Q := by
  refine ha μ F S H σ en _ rl er (PP.bind h fun x S1 μ1 F1 H1 v _ t1 rl1 r1 h1 => ?_)
  refine hb μ1 F1 S1 H1 σ en _ rl1 (er.xt t1) (PP.bind h1 fun y S2 μ2 F2 H2 u _ t2 rl2 r2 h2 => ?_)
  refine hg μ2 F2 S2 H2 v u x y _ rl2 (r1.xt t2) r2 (PP.bind h2 fun z S3 μ3 F3 H3 w _ t3 rl3 r3 h3 => ?_)
  cases e : asB z with
  | none => rw [e] at h3; exact h3.elim
  | some k =>
    rw [e] at h3
    refine ⟨k, asB_is r3 e, ?_⟩
    cases k with
    | true =>
      exact iteT (hc μ3 F3 S3 H3 σ en _ rl3 (er.xt ((t1.trans t2).trans t3)) (PP.bind h3 fun y4 S4 μ4 F4 H4 u4 _ t4 rl4 r4 h4 => hg' μ4 F4 S4 H4 u u4 y y4 Q rl4 ((r2.xt t3).xt t4) r4 h4))
    | false => exact iteF (PP.now h3 rl3 (wr_bl _))
theorem se_chn {op op' : CmpOp} {g g' : W → W → Sto → Res W} (ho : OpOK X A E (compareOp op) g) (ho' : OpOK X A E (compareOp op') g') (ha : SE X A E a xa) (hb : SE X A E b xb) (hc : SE X A E c xc) (hm : behindInMarks op' c = false) :
    SE X A E (.Compare a [op, op'] [b, c] pos) (xChn g g' xa xb xc) := by
  obtain ⟨r, hr, hg⟩ := ho
  obtain ⟨r', hr', hg'⟩ := ho'
  obtain ⟨ta, pa, ha⟩ := ha
  obtain ⟨tb, pb, hb⟩ := hb
  obtain ⟨tc, pc, hc⟩ := hc
  exact ⟨_, pe_chain hr hr' pa pb pc hm, fun μ F S H σ en Q rl er h => chain_run hg hg' ha hb hc rl er h⟩
theorem st_chn {op op' : CmpOp} {g g' : W → W → Sto → Res W} (ho : OpOK X A E (compareOp op) g) (ho' : OpOK X A E (compareOp op') g') (ha : SE X A E a xa) (hb : SE X A E b xb) (hc : SE X A E c xc) (hm : behindInMarks op' c = false) :
    ST X A E (.Compare a [op, op'] [b, c] pos) (tBool (xChn g g' xa xb xc)) := by
  obtain ⟨r, hr, hg⟩ := ho
  obtain ⟨r', hr', hg'⟩ := ho'
  obtain ⟨ta, pa, ha⟩ := ha
  obtain ⟨tb, pb, hb⟩ := hb
  obtain ⟨tc, pc, hc⟩ := hc
  refine ⟨_, pt_chain hr hr' pa pb pc hm, fun μ F S H σ en Q rl er h => ?_⟩
  refine chain_run hg hg' ha hb hc rl er (PP.bind h fun z S1 μ1 F1 H1 v _ t1 rl1 r1 h1 => ?_)
  have h1' : PP X.K A BR E μ1 F1 H1 (match asB z with | some k => .ok k S1 | none => .bad) Q := h1
  obtain ⟨k, rfl, q⟩ := PP.asB r1 h1'
  exact ⟨k, rfl, PP.now q rl1 rfl⟩
theorem se_one {op : BoolOp} (ha : SE X A E a xa) : SE X A E (.BoolOp op [a] pos) xa := by
  obtain ⟨ta, pa, ha⟩ := ha
  exact ⟨_, pe_one pa, ha⟩
theorem se_and {rest : List Expr} (ha : SE X A E a xa) (hb : SE X A E (.BoolOp .And (b :: rest) pos) xb) : SE X A E (.BoolOp .And (a :: b :: rest) pos) (xAnd xa xb) := by
  obtain ⟨ta, pa, ha⟩ := ha
  obtain ⟨tb, pb, hb⟩ := hb
  refine ⟨_, pe_and pa pb, fun μ F S H σ en Q rl er h => ?_⟩
  refine ha μ F S H σ en _ rl er (PP.bind h fun x S1 μ1 F1 H1 v _ t1 rl1 r1 h1 => ?_)
  cases e : asB x with
  | none => rw [e] at h1; exact h1.elim
  | some k =>
    rw [e] at h1
    refine ⟨k, asB_is r1 e, ?_⟩
    cases k with
    | true => exact iteT (hb μ1 F1 S1 H1 σ en _ rl1 (er.xt t1) h1)
    | false => exact iteF (PP.now h1 rl1 (wr_bl _))
theorem se_or {rest : List Expr} (ha : SE X A E a xa) (hb : SE X A E (.BoolOp .Or (b :: rest) pos) xb) : SE X A E (.BoolOp .Or (a :: b :: rest) pos) (xOr xa xb) := by
  obtain ⟨ta, pa, ha⟩ := ha
  obtain ⟨tb, pb, hb⟩ := hb
  refine ⟨_, pe_or pa pb, fun μ F S H σ en Q rl er h => ?_⟩
  refine ha μ F S H σ en _ rl er (PP.bind h fun x S1 μ1 F1 H1 v _ t1 rl1 r1 h1 => ?_)
  cases e : asB x with
  | none => rw [e] at h1; exact h1.elim
  | some k =>
    rw [e] at h1
    refine ⟨k, asB_is r1 e, ?_⟩
    cases k with
    | true => exact iteT (PP.now h1 rl1 (wr_bl _))
    | false => exact iteF (hb μ1 F1 S1 H1 σ en _ rl1 (er.xt t1) h1)
theorem se_not (ha : SE X A E a xa) : SE X A E (.UnaryOp .Not a pos) (xNot xa) := by
  obtain ⟨ta, pa, ha⟩ := ha
  refine ⟨_, pe_not pa, fun μ F S H σ en Q rl er h => ?_⟩
  refine ha μ F S H σ en _ rl er (PP.bind h fun x S1 μ1 F1 H1 v _ t1 rl1 r1 h1 => ?_)
  cases e : asB x with
  | none => rw [e] at h1; exact h1.elim
  | some k =>
    rw [e] at h1
    exact ⟨k, asB_is r1 e, PP.now h1 rl1 (wr_bl _)⟩
theorem se_ite {ct : XT} (hc : ST X A E c ct) (ha : SE X A E a xa) (hb : SE X A E b xb) : SE X A E (.IfExp c a b pos) (xIte ct xa xb) := by
  obtain ⟨tc, pc, hc⟩ := hc
  obtain ⟨ta, pa, ha⟩ := ha
  obtain ⟨tb, pb, hb⟩ := hb
  refine ⟨_, pe_ifExp pc pa pb, fun μ F S H σ en Q rl er h => ?_⟩
  refine hc μ F S H σ en _ rl er (PP.bind h fun k S1 μ1 F1 H1 v _ t1 rl1 r1 h1 => ?_)
  obtain rfl : v = k := r1
  cases v with
  | true => exact iteT (ha μ1 F1 S1 H1 σ en _ rl1 (er.xt t1) h1)
  | false => exact iteF (hb μ1 F1 S1 H1 σ en _ rl1 (er.xt t1) h1)
theorem truth_is {K : PySem.W.Frag} {μ : List Addr} {F H : Hp} {S : Sto} {v : V} {w : W} {k : Bool} (rl : Rl K A μ F S H) (r : WR K A μ F v w) (e : truth S w = some k) : TruV K v H k := by
  have emp : ∀ {vs : List V} {ws : List W}, WRs K A μ F vs ws → (!vs.isEmpty) = !ws.isEmpty := fun r => by cases r <;> rfl
  have seqs : ∀ {b : Bool} {ws : List W}, seqOf S w = some (b, ws) → TruV K v H (!ws.isEmpty) := fun {b ws} es => by
    obtain ⟨a, vs, rfl, sv, wv⟩ := seq_is rl r es
    rcases sv.any with z | z
    · exact .inl ⟨vs, z, (emp wv).symm⟩
    · exact .inr (.inl ⟨vs, z, (emp wv).symm⟩)
  unfold truth at e
  split at e
  · cases e; obtain ⟨r, _⟩ := r; cases r; rfl
  · cases e; obtain ⟨r, _⟩ := r; cases r; rfl
  · cases e; obtain ⟨r, _⟩ := r; cases r; rfl
  · obtain ⟨r, _⟩ := r; cases r
    split at e
    · rename_i z
      cases e
      exact ⟨cap_le z, rfl⟩
    · cases e
  · rename_i n
    split at e
    · rename_i kvs hS
      cases e
      obtain ⟨a, h1, rfl⟩ := r
      obtain ⟨ps, h2, h3⟩ := rl.ob n a _ h1 hS
      refine .inr (.inr ⟨ps, h2, ?_⟩)
      cases h3 <;> rfl
    · rename_i ws hS
      cases e
      exact seqs (b := true) (show obSeq S[n]? = _ by rw [hS]; rfl)
    · rename_i ws hS
      cases e
      exact seqs (b := false) (show obSeq S[n]? = _ by rw [hS]; rfl)
    · cases e
  · split at e
    · rename_i es
      cases e
      exact seqs es
    · cases e
theorem st_val (ha : SE X A E a xa) (he : ∀ whole, isTrue a X.env whole = (do let v ← whole; standAt a.pos; holding [v] (truthy v))) : ST X A E a (tVal xa) := by
  obtain ⟨ta, pa, ha⟩ := ha
  refine ⟨_, pt_truth pa he, fun μ F S H σ en Q rl er h => ?_⟩
  refine ha μ F S H σ en _ rl er (PP.bind h fun x S1 μ1 F1 H1 v _ t1 rl1 r1 h1 => ?_)
  cases e : truth S1 x with
  | none => rw [e] at h1; exact h1.elim
  | some k =>
    rw [e] at h1
    exact ⟨k, truth_is rl1 r1 e, PP.now h1 rl1 rfl⟩
def SW (X : Cx) (A : Ad) (E : XK) (e : Expr) (x : XT) : Prop := ∃ t, PW X e t ∧ ∀ (μ : List Addr) (F : Hp) (S : Sto) (H : Hp) (σ : L2.St) (en : Ev) (Q : Bool → Hp → Prop), Rl X.K A μ F S H → ER X.K A μ F σ en → PP X.K A BR E μ F H (x en S) Q → t σ H Q
theorem SW.st {x : XT} (h : SW X A E a x) : ST X A E a x := by
  obtain ⟨t, p, h⟩ := h
  exact ⟨t, p.pt, h⟩
theorem sw_and1 {ya : XT} (ha : ST X A E a ya) : SW X A E (.BoolOp .And [a] pos) ya := by
  obtain ⟨t, p, h⟩ := ha
  exact ⟨t, pw_and1 p, h⟩
theorem sw_or1 {ya : XT} (ha : ST X A E a ya) : SW X A E (.BoolOp .Or [a] pos) ya := by
  obtain ⟨t, p, h⟩ := ha
  exact ⟨t, pw_or1 p, h⟩
theorem sw_and {ya yb : XT} {rest : List Expr} (ha : ST X A E a ya) (hb : SW X A E (.BoolOp .And (b :: rest) pos) yb) : SW X A E (.BoolOp .And (a :: b :: rest) pos) (tAnd ya yb) := by
  obtain ⟨ta, pa, ha⟩ := ha
  obtain ⟨tb, pb, hb⟩ := hb
  refine ⟨_, pw_and pa pb, fun μ F S H σ en Q rl er h => ?_⟩
  refine ha μ F S H σ en _ rl er (PP.bind h fun k S1 μ1 F1 H1 v _ t1 rl1 r1 h1 => ?_)
  obtain rfl : v = k := r1
  cases v with
  | true => exact iteT (hb μ1 F1 S1 H1 σ en _ rl1 (er.xt t1) h1)
  | false => exact iteF (PP.now h1 rl1 rfl)
theorem sw_or {ya yb : XT} {rest : List Expr} (ha : ST X A E a ya) (hb : SW X A E (.BoolOp .Or (b :: rest) pos) yb) : SW X A E (.BoolOp .Or (a :: b :: rest) pos) (tOr ya yb) := by
  obtain ⟨ta, pa, ha⟩ := ha
  obtain ⟨tb, pb, hb⟩ := hb
  refine ⟨_, pw_or pa pb, fun μ F S H σ en Q rl er h => ?_⟩
  refine ha μ F S H σ en _ rl er (PP.bind h fun k S1 μ1 F1 H1 v _ t1 rl1 r1 h1 => ?_)
  obtain rfl : v = k := r1
  cases v with
  | true => exact iteT (PP.now h1 rl1 rfl)
  | false => exact iteF (hb μ1 F1 S1 H1 σ en _ rl1 (er.xt t1) h1)
theorem st_not {ya : XT} (ha : ST X A E a ya) : ST X A E (.UnaryOp .Not a pos) (tNot ya) := by
  obtain ⟨ta, pa, ha⟩ := ha
  refine ⟨_, pt_not pa, fun μ F S H σ en Q rl er h => ?_⟩
  refine ha μ F S H σ en _ rl er (PP.bind h fun k S1 μ1 F1 H1 v _ t1 rl1 r1 h1 => ?_)
  obtain rfl : v = k := r1
  exact PP.now h1 rl1 rfl
theorem sa_nil : SA X A E [] xNil := ⟨_, pa_nil, fun μ F S H σ en Q rl er h => PP.now h rl .nil⟩
theorem sa_cons (ha : SE X A E a xa) (hr : SA X A E es ya) (hs : starEach (a :: es) X.env = (false, eval a X.env) :: starEach es X.env) : SA X A E (a :: es) (xCons xa ya) := by
  obtain ⟨ta, pa, ha⟩ := ha
  obtain ⟨tr, pr, hr⟩ := hr
  refine ⟨_, pa_cons pa pr hs, fun μ F S H σ en Q rl er h => ?_⟩
  refine ha μ F S H σ en _ rl er (PP.bind h fun x S1 μ1 F1 H1 v _ t1 rl1 r1 h1 => ?_)
  refine hr μ1 F1 S1 H1 σ en _ rl1 (er.xt t1) (PP.bind h1 fun xs S2 μ2 F2 H2 vs _ t2 rl2 r2 h2 => ?_)
  exact PP.now h2 rl2 (.cons (r1.xt t2) r2)
theorem wrs_len {K : PySem.W.Frag} {μ : List Addr} {F : Hp} {vs : List V} {ws : List W} (h : WRs K A μ F vs ws) : vs.length = ws.length := Paired.length h
theorem allD_len : ∀ {ws : List W} {ds : List D}, allD ws = some ds → ds.length = ws.length
  | [], _, h => by cases h; rfl
  | .d x :: r, _, h => by
    unfold allD at h
    cases q : allD r with
    | none => rw [q] at h; cases h
    | some xs => rw [q] at h; cases h; simp [allD_len q]
  | .c _ :: _, _, h => by cases h
  | .f _ :: _, _, h => by cases h
  | .s _ :: _, _, h => by cases h
  | .r _ _ _ :: _, _, h => by cases h
  | .t _ :: _, _, h => by cases h
  | .fs _ :: _, _, h => by cases h
theorem ws_fs {K : PySem.W.Frag} {μ : List Addr} {F : Hp} : ∀ {ws : List W} {vs : List V} {is : List Nat}, WRs K A μ F vs ws → allF ws = some is → Paired (fun v i => ∃ f, A.fa i = some f ∧ v = .ref f) vs is
  | [], _, _, h, e => by cases h; cases e; exact .nil
  | .f i :: r, _, is, h, e => by
    cases h with
    | cons a b =>
      unfold allF at e
      cases q : allF r with
      | none => rw [q] at e; cases e
      | some xs => rw [q] at e; cases e; exact .cons a (ws_fs b q)
  | .d _ :: _, _, _, _, e => by cases e
  | .c _ :: _, _, _, _, e => by cases e
  | .s _ :: _, _, _, _, e => by cases e
  | .r _ _ _ :: _, _, _, _, e => by cases e
  | .t _ :: _, _, _, _, e => by cases e
  | .fs _ :: _, _, _, _, e => by cases e
theorem mk_tup {K : PySem.W.Frag} {cel : Bool} {μ : List Addr} {F H : Hp} {S : Sto} {vs : List V} {ws : List W} {Q : VK} (rl : Rl K A μ F S H) (r : WRs K A μ F vs ws) (h : PP K A (WR K A) E μ F H (if cel then mkTupC ws S else mkTup ws S) Q) : vs.length ≤ sizeLine ∧ ∀ p, H p = none → Q (.ref p) (upd H p (.tup vs)) := by
  have hl := wrs_len r
  cases cel with
  | true =>
    have h : PP K A (WR K A) E μ F H (mkTupC ws S) Q := h
    unfold mkTupC at h
    split at h
    · rename_i z
      refine ⟨by rw [hl]; exact cap_le z, fun p hp => ?_⟩
      obtain ⟨rl', xt⟩ := rl.newC hp (.tup vs) (.tup ws) ⟨vs, upd_same, r.up (List.prefix_append _ _) fun _ _ h => h⟩
      exact h _ _ _ _ xt rl' ⟨p, by rw [← rl.len]; simp, rfl⟩
    · exact h.elim
  | false =>
    have h : PP K A (WR K A) E μ F H (mkTup ws S) Q := h
    unfold mkTup at h
    split at h
    · rename_i ds e
      split at h
      · rename_i z
        obtain ⟨d1, l1⟩ := ws_drs r e
        refine ⟨by rw [hl, ← allD_len e]; exact cap_le z, fun p hp => ?_⟩
        obtain ⟨rl', xt⟩ := rl.newF hp (.tup vs)
        exact h _ _ _ _ xt rl' ⟨.tup (.inl (.inl upd_same)) (drs_up xt.fz _ _ d1), tup_lay l1⟩
      · exact h.elim
    · split at h
      · rename_i is e
        split at h
        · rename_i z
          have p1 := ws_fs r e
          refine ⟨by rw [hl]; exact cap_le z, fun p hp => ?_⟩
          obtain ⟨rl', xt⟩ := rl.newF hp (.tup vs)
          exact h _ _ _ _ xt rl' ⟨p, vs, upd_same, rfl, p1⟩
        · exact h.elim
      · exact h.elim
theorem mk_lst {K : PySem.W.Frag} {cel : Bool} {μ : List Addr} {F H : Hp} {S : Sto} {vs : List V} {ws : List W} {Q : VK} (rl : Rl K A μ F S H) (r : WRs K A μ F vs ws) (h : PP K A (WR K A) E μ F H (if cel then mkLstC ws S else mkLst ws S) Q) : vs.length ≤ sizeLine ∧ ∀ p, H p = none → Q (.ref p) (upd H p (.lst vs)) := by
  have hl := wrs_len r
  cases cel with
  | true =>
    have h : PP K A (WR K A) E μ F H (mkLstC ws S) Q := h
    unfold mkLstC at h
    split at h
    · rename_i z
      refine ⟨by rw [hl]; exact cap_le z, fun p hp => ?_⟩
      obtain ⟨rl', xt⟩ := rl.newC hp (.lst vs) (.lst ws) ⟨vs, upd_same, r.up (List.prefix_append _ _) fun _ _ h => h⟩
      exact h _ _ _ _ xt rl' ⟨p, by rw [← rl.len]; simp, rfl⟩
    · exact h.elim
  | false =>
    have h : PP K A (WR K A) E μ F H (mkLst ws S) Q := h
    unfold mkLst at h
    split at h
    · rename_i ds e
      split at h
      · rename_i z
        obtain ⟨d1, l1⟩ := ws_drs r e
        refine ⟨by rw [hl, ← allD_len e]; exact cap_le z, fun p hp => ?_⟩
        obtain ⟨rl', xt⟩ := rl.newF hp (.lst vs)
        exact h _ _ _ _ xt rl' ⟨.lst upd_same (drs_up xt.fz _ _ d1), list_lay l1⟩
      · exact h.elim
    · exact h.elim
theorem se_tup {cel : Bool} {k : Nat} (h : SA X A E es ya) : SE X A E (.Tuple es k pos) (xTup cel ya) := by
  obtain ⟨t, p, h⟩ := h
  refine ⟨_, pe_tup p, fun μ F S H σ en Q rl er q => ?_⟩
  refine h μ F S H σ en _ rl er (PP.bind q fun ws S1 μ1 F1 H1 vs _ t1 rl1 r1 h1 => ?_)
  exact mk_tup rl1 r1 h1
theorem se_lst {cel : Bool} (h : SA X A E es ya) : SE X A E (.List es pos) (xLst cel ya) := by
  obtain ⟨t, p, h⟩ := h
  refine ⟨_, pe_lst p, fun μ F S H σ en Q rl er q => ?_⟩
  refine h μ F S H σ en _ rl er (PP.bind q fun ws S1 μ1 F1 H1 vs _ t1 rl1 r1 h1 => ?_)
  exact mk_lst rl1 r1 h1
theorem se_dic : SE X A E (.Dict [] [] pos) xDic :=
  ⟨_, pe_dnewK, fun μ F S H σ en Q rl er h p hp => by
    obtain ⟨rl', xt⟩ := rl.newC hp (.dK []) (.dic []) ⟨[], upd_same, .nil⟩
    exact h _ _ _ _ xt rl' ⟨p, by rw [← rl.len]; simp, rfl⟩⟩
end
end Mi
end
section
set_option Elab.async false
set_option linter.all false
set_option maxRecDepth 100000
set_option maxHeartbeats 4000000
namespace Mi
open PySem L2 PyProof.Rows
theorem paired_get {α β : Type} {R : α → β → Prop} : ∀ {l : List α} {m : List β} {i : Nat} {y : β}, Paired R l m → m[i]? = some y → ∃ x, l[i]? = some x ∧ R x y
  | _, _, _, _, .nil, e => by simp at e
  | _, _, 0, _, .cons r _, e => by simp at e; subst e; exact ⟨_, rfl, r⟩
  | _, _, i + 1, y, .cons _ t, e => by
    obtain ⟨x, h1, h2⟩ := paired_get (i := i) (y := y) t (by simpa using e)
    exact ⟨x, by simpa using h1, h2⟩
theorem paired_atI {α β : Type} {R : α → β → Prop} {l : List α} {m : List β} {i : Int} {y : β} (h : Paired R l m) (e : atI m i = some y) : ∃ x, atI l i = some x ∧ R x y := by
  unfold atI at e ⊢
  rw [Paired.length h]
  cases q : ixN m.length i with
  | none => rw [q] at e; cases e
  | some j => rw [q] at e; exact paired_get h e
theorem paired_drop {α β : Type} {R : α → β → Prop} : ∀ {l : List α} {m : List β} (n : Nat), Paired R l m → Paired R (l.drop n) (m.drop n)
  | _, _, 0, h => h
  | _, _, n + 1, .nil => .nil
  | _, _, n + 1, .cons _ t => paired_drop n t
theorem paired_take {α β : Type} {R : α → β → Prop} : ∀ {l : List α} {m : List β} (n : Nat), Paired R l m → Paired R (l.take n) (m.take n)
  | _, _, 0, h => .nil
  | _, _, n + 1, .nil => .nil
  | _, _, n + 1, .cons r t => .cons r (paired_take n t)
def cutG {α : Type} (xs : List α) (lo hi : Option Int) : List α := (xs.drop (HT.sIx xs.length 0 lo)).take (HT.sIx xs.length xs.length hi - HT.sIx xs.length 0 lo)
theorem paired_cut {R : V → W → Prop} {l : List V} {m : List W} (lo hi : Option Int) (h : Paired R l m) : Paired R (cutV l lo hi) (cutG m lo hi) := by
  have e := Paired.length h
  unfold cutV cutG
  rw [e]
  exact paired_take _ (paired_drop _ h)
def IxOK (X : Cx) (A : Ad) (E : XK) (g : W → W → Sto → Res W) : Prop := ∃ r, IxR X r ∧ ∀ (μ : List Addr) (F : Hp) (S : Sto) (H : Hp) (a b : V) (x y : W) (Q : VK), Rl X.K A μ F S H → WR X.K A μ F a x → WR X.K A μ F b y → PP X.K A (WR X.K A) E μ F H (g x y S) Q → r a b H Q
section
variable {X : Cx} {A : Ad} {E : XK} {a b c : Expr} {xa xb xc : XE} {es : List Expr} {ya : XA} {pos : Pos}
theorem ix_dict (hu : X.A.units + 1 < cLine) : IxR X (fun x y H Q => ∃ a v, x = .ref a ∧ DGet H a y (some v) ∧ Q v H) := by
  intro value slice pins s σ H x y v u Q I rx ry h hs
  obtain ⟨p, z, rfl, g, q⟩ := h
  cases rx
  exact tail_any (ops := [.ref p, u]) (dict_typeIs I g) PySem.F.slot_dict_getitem.lookup (d_getItem hu I g ry fun w' s3 I3 rw' => ⟨z, H, I3, rw', q⟩) hs
theorem ok_ix (hu : X.A.units + 1 < cLine) : IxOK X A E ixG := by
  refine ⟨_, (ix_dict hu).or ix_seq, fun μ F S H a b x y Q rl ra rb h => ?_⟩
  have seqs : ∀ {j : Int} {k : Bool} {ws : List W}, y = .d (.int j) → seqOf S x = some (k, ws) → PP X.K A (WR X.K A) E μ F H (match atI ws j with | some v => .ok v S | none => .bad) Q → rIx X.K a b H Q := fun {j k ws} ey es h' => by
    subst ey
    obtain ⟨rb, _⟩ := rb
    cases rb
    obtain ⟨p, vs, rfl, sv, wv⟩ := seq_is rl ra es
    cases e : atI ws j with
    | none => rw [e] at h'; exact h'.elim
    | some w =>
      rw [e] at h'
      obtain ⟨v, e1, r1⟩ := paired_atI wv e
      have q := PP.now h' rl r1
      rcases sv.any with z | z
      · exact .inl ⟨p, vs, j, v, rfl, rfl, z, e1, q⟩
      · exact .inr (.inl ⟨p, vs, j, v, rfl, rfl, z, e1, q⟩)
  have dics : ∀ {k : Key} {n : Nat} {kvs : List (Key × W)}, b = kV k → x = .c n → S[n]? = some (.dic kvs) → PP X.K A (WR X.K A) E μ F H (match kget k kvs with | some v => .ok v S | none => .bad) Q → (∃ a1 v, a = .ref a1 ∧ DGet H a1 b (some v) ∧ Q v H) := fun {k n kvs} eb ex hS h' => by
    subst ex eb
    obtain ⟨p, hp, rfl⟩ := ra
    obtain ⟨ps, h1, h2⟩ := rl.ob n p _ hp hS
    have hv := kget_val (K := X.K) (A := A) k h2
    cases q : kget k kvs with
    | none => rw [q] at h'; exact h'.elim
    | some w =>
      rw [q] at h' hv
      obtain ⟨v, e1, r1⟩ := hv
      exact ⟨p, v, rfl, e1 ▸ DGet.k h1, PP.now h' rl r1⟩
  unfold ixG at h
  split at h
  · rename_i j
    split at h
    · rename_i z
      split at h
      · rename_i c0 ec
        split at h
        · rename_i hz
          obtain ⟨ra, la⟩ := ra; obtain ⟨rb, _⟩ := rb
          cases ra; cases rb
          refine .inr (.inr (.inr ⟨_, j, c0, rfl, rfl, cap_le hz, ec, PP.now h rl ⟨.str _, ?_⟩⟩))
          have hm : c0 ∈ z.cps := by
            unfold atI at ec
            cases q : ixN z.cps.toList.length j with
            | none => rw [q] at ec; cases ec
            | some m => rw [q] at ec; exact Array.mem_toList_iff.mp (List.mem_of_getElem? ec)
          have la' : z.cps.all (· < 0x110000) = true := la
          have := (Array.all_eq_true_iff_forall_mem.mp la') c0 hm
          show (#[c0] : Array Nat).all (· < 0x110000) = true
          simpa using this
        · exact h.elim
      · exact h.elim
    · rename_i n
      split at h
      · rename_i kvs hS
        obtain ⟨rb', _⟩ := id rb
        have eb : b = kV (.inl j) := by cases rb'; rfl
        exact .inl (dics eb rfl hS h)
      · rename_i ws hS
        exact .inr (seqs (k := true) rfl (show obSeq S[n]? = _ by rw [hS]; rfl) h)
      · rename_i ws hS
        exact .inr (seqs (k := false) rfl (show obSeq S[n]? = _ by rw [hS]; rfl) h)
      · exact h.elim
    · split at h
      · rename_i es
        exact .inr (seqs rfl es h)
      · exact h.elim
  · rename_i z
    split at h
    · rename_i n
      split at h
      · rename_i kvs hS
        obtain ⟨rb', _⟩ := id rb
        have eb : b = kV (.inr z) := by cases rb'; rfl
        exact .inl (dics eb rfl hS h)
      · exact h.elim
    · exact h.elim
  · exact h.elim
def notSlice : Expr → Bool
  | .Slice _ _ _ _ => false
  | _ => true
theorem plain_ix {b : Expr} (h : notSlice b = true) : PlainIx b := by
  cases b <;> first | (intro _ _; rfl) | cases h
theorem se_ix {g : W → W → Sto → Res W} (ho : IxOK X A E g) (ha : SE X A E a xa) (hb : SE X A E b xb) (hs : notSlice b = true) : SE X A E (.Subscript a b pos) (xBin g xa xb) := by
  obtain ⟨r, hr, hg⟩ := ho
  obtain ⟨ta, pa, ha⟩ := ha
  obtain ⟨tb, pb, hb⟩ := hb
  refine ⟨_, pe_ix hr pa pb (plain_ix hs), fun μ F S H σ en Q rl er h => ?_⟩
  refine ha μ F S H σ en _ rl er (PP.bind h fun x S1 μ1 F1 H1 v _ t1 rl1 r1 h1 => ?_)
  refine hb μ1 F1 S1 H1 σ en _ rl1 (er.xt t1) (PP.bind h1 fun y S2 μ2 F2 H2 u _ t2 rl2 r2 h2 => ?_)
  exact hg μ2 F2 S2 H2 v u x y Q rl2 (r1.xt t2) r2 h2
abbrev XO := Ev → Sto → Res (Option Int)
def OPR : List Addr → Hp → Option Int → Option Int → Prop := fun _ _ a b => a = b
def SO (X : Cx) (A : Ad) (E : XK) (e : Option Expr) (x : XO) : Prop := ∃ t, PO X e t ∧ ∀ (μ : List Addr) (F : Hp) (S : Sto) (H : Hp) (σ : L2.St) (en : Ev) (Q : Option Int → Hp → Prop), Rl X.K A μ F S H → ER X.K A μ F σ en → PP X.K A OPR E μ F H (x en S) Q → t σ H Q
def oNone : XO := fun _ S => .ok none S
def oSome (a : XE) : XO := fun en S => (a en S).andThen fun x S1 => match x with
  | .d (.int i) => .ok (some i) S1
  | _ => .bad
theorem so_none : SO X A E none oNone := ⟨_, po_none, fun μ F S H σ en Q rl er h => PP.now h rl rfl⟩
theorem so_some (ha : SE X A E a xa) : SO X A E (some a) (oSome xa) := by
  obtain ⟨ta, pa, ha⟩ := ha
  refine ⟨_, po_some pa, fun μ F S H σ en Q rl er h => ?_⟩
  refine ha μ F S H σ en _ rl er (PP.bind h fun x S1 μ1 F1 H1 v _ t1 rl1 r1 h1 => ?_)
  split at h1
  · obtain ⟨r1, _⟩ := r1
    cases r1
    exact ⟨_, rfl, PP.now h1 rl1 rfl⟩
  · exact h1.elim
def slG (cel : Bool) (w : W) (lo hi : Option Int) (S : Sto) : Res W := match w with
  | .d (.str z) => if z.length ≤ cap then .ok (.d (.str (cutS z lo hi))) S else .bad
  | .d (.tuple xs) => .ok (.d (.tuple (cutG xs lo hi))) S
  | w => (match seqOf S w with
    | some (true, ws) => if cel then .ok (.c S.length) (S ++ [.lst (cutG ws lo hi)]) else (match allD (cutG ws lo hi) with
      | some ds => .ok (.d (.list ds)) S
      | none => .bad)
    | _ => .bad)
theorem layAll_mem : ∀ {ds : List D}, PyData.canLayAll0 ds = true ↔ ∀ d ∈ ds, d.canLay0 = true
  | [] => by simp [PyData.canLayAll0]
  | d :: ds => by simp [PyData.canLayAll0, layAll_mem (ds := ds)]
theorem layAll_cut {ds : List D} (h : PyData.canLayAll0 ds = true) (lo hi : Option Int) : PyData.canLayAll0 (cutG ds lo hi) = true :=
  layAll_mem.mpr fun d hd => layAll_mem.mp h d (List.mem_of_mem_drop (List.mem_of_mem_take hd))
theorem cutG_map {α β : Type} (f : α → β) (xs : List α) (lo hi : Option Int) : cutG (xs.map f) lo hi = (cutG xs lo hi).map f := by
  unfold cutG; rw [List.length_map, List.map_take, List.map_drop]
theorem allD_map : ∀ ds : List D, allD (ds.map .d) = some ds
  | [] => rfl
  | d :: ds => by show (match allD (ds.map .d) with | some xs => some (d :: xs) | none => none) = _; rw [allD_map ds]
theorem drs_cut {K : PySem.W.Frag} {F : Hp} {vs : List V} {ds : List D} (h : DRs K F vs ds) (c : PyData.canLayAll0 ds = true) (lo hi : Option Int) : DRs K F (cutV vs lo hi) (cutG ds lo hi) := by
  have w : WRs K ⟨fun _ => none, fun _ => none, fun _ => none, []⟩ [] F vs (ds.map .d) := drs_ws h c
  have := paired_cut lo hi w
  rw [cutG_map] at this
  exact (ws_drs this (allD_map _)).1
theorem str_cut_lay {z : Str} (h : PyData.strOk z = true) (lo hi : Option Int) : PyData.strOk (cutS z lo hi) = true := by
  have h' : z.cps.all (· < 0x110000) = true := h
  show (((z.cps.toList.drop _).take _).toArray).all (· < 0x110000) = true
  rw [List.all_toArray]
  refine List.all_eq_true.mpr fun x hx => ?_
  have hm : x ∈ z.cps := Array.mem_toList_iff.mp (List.mem_of_mem_drop (List.mem_of_mem_take hx))
  exact (Array.all_eq_true_iff_forall_mem.mp h') x hm
theorem cut_whole {α : Type} {xs : List α} {lo hi : Option Int} (h : HT.sIx xs.length 0 lo = 0 ∧ HT.sIx xs.length xs.length hi = xs.length) : cutG xs lo hi = xs := by
  unfold cutG
  rw [h.1, h.2]
  simp
theorem se_sl {cel : Bool} {lo hi : Option Expr} {xl xh : XO} {p2 : Pos} (ha : SE X A E a xa) (hl : SO X A E lo xl) (hh : SO X A E hi xh) :
    SE X A E (.Subscript a (.Slice lo hi none p2) pos) (fun en S => (xa en S).andThen fun w S1 => (xl en S1).andThen fun l S2 => (xh en S2).andThen fun u S3 => slG cel w l u S3) := by
  obtain ⟨ta, pa, ha⟩ := ha
  obtain ⟨tl, pl, hl⟩ := hl
  obtain ⟨th, ph, hh⟩ := hh
  refine ⟨_, pe_slice (sl_str.or (sl_tupA.or sl_list)) pa pl ph, fun μ F S H σ en Q rl er h => ?_⟩
  refine ha μ F S H σ en _ rl er (PP.bind h fun x S1 μ1 F1 H1 v _ t1 rl1 r1 h1 => ?_)
  refine hl μ1 F1 S1 H1 σ en _ rl1 (er.xt t1) (PP.bind h1 fun l S2 μ2 F2 H2 l' _ t2 rl2 r2 h2 => ?_)
  refine hh μ2 F2 S2 H2 σ en _ rl2 (er.xt (t1.trans t2)) (PP.bind h2 fun u S3 μ3 F3 H3 u' _ t3 rl3 r3 h3 => ?_)
  obtain rfl : l' = l := r2
  obtain rfl : u' = u := r3
  have r1' := r1.xt (t2.trans t3)
  unfold slG at h3
  split at h3
  · split at h3
    · rename_i z
      obtain ⟨r1', l1⟩ := r1'
      cases r1'
      exact .inl ⟨_, rfl, cap_le z, PP.now h3 rl3 ⟨.str _, str_cut_lay l1 _ _⟩⟩
    · exact h3.elim
  · obtain ⟨r1', l1⟩ := r1'
    cases r1' with
    | tup s1 d1 =>
      have hl := drs_len d1
      refine .inr (.inl ⟨_, _, rfl, sqT_up rl3.ex s1, fun e => ?_, fun _ p hp => ?_⟩)
      · rw [hl] at e
        refine PP.now h3 rl3 ⟨?_, ?_⟩
        · rw [cut_whole e]; exact .tup s1 d1
        · rw [cut_whole e]; exact l1
      · obtain ⟨rl', xt⟩ := rl3.newF hp (.tup _)
        exact h3 _ _ _ _ xt rl' ⟨.tup (.inl (.inl upd_same)) (drs_up xt.fz _ _ (drs_cut d1 (lay_tup l1) _ _)), tup_lay (layAll_cut (lay_tup l1) _ _)⟩
  · split at h3
    · rename_i ws es
      obtain ⟨p0, vs, rfl, sv, wv⟩ := seq_is rl3 r1' es
      refine .inr (.inr ⟨p0, vs, rfl, .inl (.inl sv), fun p hp => ?_⟩)
      have wc := paired_cut l' u' wv
      cases cel with
      | true =>
        obtain ⟨rl', xt⟩ := rl3.newC hp (.lst (cutV vs l' u')) (.lst (cutG ws l' u')) ⟨_, upd_same, WRs.up (List.prefix_append _ _) (fun _ _ h => h) wc⟩
        exact h3 _ _ _ _ xt rl' ⟨p, by rw [← rl3.len]; simp, rfl⟩
      | false =>
        have h3' : PP X.K A (WR X.K A) E μ3 F3 H3 (match allD (cutG ws l' u') with | some ds => .ok (.d (.list ds)) S3 | none => .bad) Q := h3
        cases ea : allD (cutG ws l' u') with
        | none => rw [ea] at h3'; exact h3'.elim
        | some ds =>
          rw [ea] at h3'
          obtain ⟨d1, l1⟩ := ws_drs wc ea
          obtain ⟨rl', xt⟩ := rl3.newF hp (.lst (cutV vs l' u'))
          exact h3' _ _ _ _ xt rl' ⟨.lst upd_same (drs_up xt.fz _ _ d1), list_lay l1⟩
    · exact h3.elim
end
end Mi
end
section
set_option Elab.async false
set_option linter.all false
set_option maxRecDepth 100000
set_option maxHeartbeats 4000000
namespace Mi
open PySem L2 PyProof.Rows
def noStar : Expr → Bool
  | .Starred _ _ => false
  | _ => true
theorem star_cons {e : Expr} {es : List Expr} {env : Env} (h : noStar e = true) : starEach (e :: es) env = (false, eval e env) :: starEach es env := by
  cases e <;> first | rfl | cases h
theorem star_any {pos : Pos} {env : Env} : ∀ {es : List Expr}, es.all noStar = true → (backTo pos (starEach es env)).any (·.1) = false
  | [], _ => rfl
  | e :: es, h => by
    have h' : noStar e = true ∧ es.all noStar = true := by simpa using h
    rw [star_cons h'.1]
    show (false || (backTo pos (starEach es env)).any (·.1)) = false
    rw [star_any h'.2] <;> rfl
theorem star_all {pos : Pos} {env : Env} : ∀ {es : List Expr}, es.all noStar = true → (backTo pos (starEach es env)).all (fun x => !x.1) = true
  | [], _ => rfl
  | e :: es, h => by
    have h' : noStar e = true ∧ es.all noStar = true := by simpa using h
    rw [star_cons h'.1]
    show (true && (backTo pos (starEach es env)).all (fun x => !x.1)) = true
    rw [star_all h'.2] <;> rfl
def tyN : W → Sto → Option String
  | .d .none, _ => some "NoneType"
  | .d (.bool _), _ => some "bool"
  | .d (.int _), _ => some "int"
  | .d (.str _), _ => some "str"
  | .d (.list _), _ => some "list"
  | .d (.tuple _), _ => some "tuple"
  | .c n, S => (match S[n]? with
    | some (.lst _) => some "list"
    | some (.tup _) => some "tuple"
    | some (.dic _) => some "dict"
    | _ => none)
  | _, _ => none
def isiB (a b : String) : Bool := decide (a = b) || (decide (a = "bool") && decide (b = "int"))
def isiTs : List String := ["int", "str", "bool", "tuple", "list", "dict"]
def isiG (ws : List W) (S : Sto) : Res W := match ws with
  | [x, .t n] => (match tyN x S with
    | some k => if decide (n ∈ isiTs) then .ok (.d (.bool (isiB k n))) S else .bad
    | none => .bad)
  | _ => .bad
def lenG (ws : List W) (S : Sto) : Res W := match ws with
  | [.d (.str z)] => if z.length ≤ cap then .ok (.d (.int z.length)) S else .bad
  | [.c n] => (match S[n]? with
    | some (.dic kvs) => .ok (.d (.int kvs.length)) S
    | some (.lst us) => .ok (.d (.int us.length)) S
    | some (.tup us) => .ok (.d (.int us.length)) S
    | _ => .bad)
  | [w] => (match seqOf S w with
    | some (_, us) => .ok (.d (.int us.length)) S
    | none => .bad)
  | _ => .bad
def absG (ws : List W) (S : Sto) : Res W := match ws with
  | [.d (.int i)] => .ok (.d (.int (if i < 0 then -i else i))) S
  | _ => .bad
def intG (ws : List W) (S : Sto) : Res W := match ws with
  | [.d (.int i)] => .ok (.d (.int i)) S
  | [.d (.bool k)] => .ok (.d (.int (if k then 1 else 0))) S
  | _ => .bad
def allI : List W → Option (List Int)
  | [] => some []
  | .d (.int i) :: r => (match allI r with
    | some is => some (i :: is)
    | none => none)
  | _ :: _ => none
def allB : List W → Option (List Bool)
  | [] => some []
  | .d (.bool i) :: r => (match allB r with
    | some is => some (i :: is)
    | none => none)
  | _ :: _ => none
def intsOf (S : Sto) (w : W) : Option (List Int) := match seqOf S w with
  | some (true, ws) => allI ws
  | _ => none
def boolsOf (S : Sto) (w : W) : Option (List Bool) := match seqOf S w with
  | some (true, ws) => allB ws
  | _ => none
def maxL : List Int → Int
  | [] => 0
  | [x] => x
  | x :: y :: r => if maxL (y :: r) > x then maxL (y :: r) else x
def minL : List Int → Int
  | [] => 0
  | [x] => x
  | x :: y :: r => if minL (y :: r) < x then minL (y :: r) else x
def maxG (ws : List W) (S : Sto) : Res W := match ws with
  | [.d (.int i), .d (.int j)] => .ok (.d (.int (if j > i then j else i))) S
  | [w] => (match intsOf S w with
    | some (x :: r) => .ok (.d (.int (maxL (x :: r)))) S
    | _ => .bad)
  | _ => .bad
def minG (ws : List W) (S : Sto) : Res W := match ws with
  | [.d (.int i), .d (.int j)] => .ok (.d (.int (if j < i then j else i))) S
  | [w] => (match intsOf S w with
    | some (x :: r) => .ok (.d (.int (minL (x :: r)))) S
    | _ => .bad)
  | _ => .bad
def sumG (ws : List W) (S : Sto) : Res W := match ws with
  | [w] => (match intsOf S w with
    | some is => .ok (.d (.int is.sum)) S
    | _ => .bad)
  | _ => .bad
def allG (ws : List W) (S : Sto) : Res W := match ws with
  | [w] => (match boolsOf S w with
    | some is => .ok (.d (.bool (is.all id))) S
    | _ => .bad)
  | _ => .bad
def anyG (ws : List W) (S : Sto) : Res W := match ws with
  | [w] => (match boolsOf S w with
    | some is => .ok (.d (.bool (is.any id))) S
    | _ => .bad)
  | _ => .bad
def inR (i : Int) : Bool := decide (-(2 ^ 62) ≤ i) && decide (i < 2 ^ 62)
def rngG (ws : List W) (S : Sto) : Res W := match ws with
  | [.d (.int j)] => .ok (.r 0 j 1) S
  | [.d (.int i), .d (.int j)] => .ok (.r i j 1) S
  | [.d (.int i), .d (.int j), .d (.int c)] => if decide (c ≠ 0) && decide (c.natAbs < 1073741824) then .ok (.r i j c) S else .bad
  | _ => .bad
def rgN (i j c : Int) : Option Nat := if Builtin.Range.small i j c then (if 0 ≤ Builtin.Range.rangeSize i j c then (if Builtin.Range.rangeSize i j c ≤ cap then some (Builtin.Range.rangeSize i j c).toNat else none) else none) else none
def rgL (i c : Int) (n : Nat) : List D := (List.range n).map fun k => .int (i + (k : Nat) * c)
def lstN (cel : Bool) (ws : List W) (S : Sto) : Res W := if cel then .ok (.c S.length) (S ++ [.lst ws]) else match allD ws with
  | some ds => .ok (.d (.list ds)) S
  | none => .bad
def keyD : Key → D
  | .inl i => .int i
  | .inr x => .str x
def lstG (cel : Bool) (ws : List W) (S : Sto) : Res W := match ws with
  | [.s ns] => lstN cel (ns.map fun i => .d (.int i)) S
  | [.r i j c] => (match rgN i j c with
    | some n => lstN cel ((rgL i c n).map .d) S
    | none => .bad)
  | [w] => (match seqOf S w with
    | some (_, us) => lstN cel us S
    | none => .bad)
  | _ => .bad
def tupG (ws : List W) (S : Sto) : Res W := match ws with
  | [.d (.tuple ds)] => .ok (.d (.tuple ds)) S
  | [.r i j 1] => if inR i && inR j && decide ((j - i).toNat ≤ cap) then .ok (.d (.tuple (rgL i 1 (j - i).toNat))) S else .bad
  | [w] => (match seqOf S w with
    | some (true, us) => (match allD us with
      | some ds => .ok (.d (.tuple ds)) S
      | none => .bad)
    | _ => .bad)
  | _ => .bad
def strG (ws : List W) (S : Sto) : Res W := match ws with
  | [.d (.int i)] => if decide (i.natAbs.log2 < 1920) then .ok (.d (.str (toString i))) S else .bad
  | _ => .bad
def CallOK (X : Cx) (A : Ad) (E : XK) (f : Value) (g : List W → Sto → Res W) : Prop := ∃ r, CallR X f r ∧ ∀ (μ : List Addr) (F : Hp) (S : Sto) (H : Hp) (vs : List V) (ws : List W) (Q : VK), Rl X.K A μ F S H → WRs X.K A μ F vs ws → PP X.K A (WR X.K A) E μ F H (g ws S) Q → r vs H Q
def xCall (g : List W → Sto → Res W) (a : XA) : XE := fun en S => (a en S).andThen g
section
variable {X : Cx} {A : Ad} {E : XK} {e : Expr} {xa xb xc : XE} {es : List Expr} {ya : XA} {pos : Pos}
theorem se_callB {g : List W → Sto → Res W} {x : Str} {id : String} {p : Pos} (ho : CallOK X A E (.builtin id) g) (hg : Gl X x) (hm : X.mg x = none) (hv : bootBuiltins x = some (.builtin id)) (ha : SA X A E (e :: es) ya) (hs : (e :: es).all noStar = true)
    (hn : x ≠ "__name__") (hdb : (x == ("__debug__" : Str)) = false) : SE X A E (.Call (.Name x p) (e :: es) [] pos) (xCall g ya) := by
  obtain ⟨r, hr, hg'⟩ := ho
  obtain ⟨t, pa, ha⟩ := ha
  have hs' : noStar e = true ∧ es.all noStar = true := by simpa using hs
  refine ⟨_, pe_callB hr hg hm hv pa hn hdb (star_cons hs'.1) (star_any hs'.2), fun μ F S H σ en Q rl er h => ?_⟩
  refine ha μ F S H σ en _ rl er (PP.bind h fun ws S1 μ1 F1 H1 vs _ t1 rl1 r1 h1 => ?_)
  exact hg' μ1 F1 S1 H1 vs ws Q rl1 r1 h1
theorem se_callTy {g : List W → Sto → Res W} {x : Str} {T : String} {p : Pos} (ho : CallOK X A E (.type T) g) (hg : Gl X x) (hm : X.mg x = none) (hv : bootBuiltins x = some (.type T)) (ha : SA X A E (e :: es) ya) (hs : (e :: es).all noStar = true)
    (hn : x ≠ "__name__") (hdb : (x == ("__debug__" : Str)) = false) : SE X A E (.Call (.Name x p) (e :: es) [] pos) (xCall g ya) := by
  obtain ⟨r, hr, hg'⟩ := ho
  obtain ⟨t, pa, ha⟩ := ha
  have hs' : noStar e = true ∧ es.all noStar = true := by simpa using hs
  refine ⟨_, pe_callTy hr hg hm hv pa hn hdb (star_cons hs'.1) (star_any hs'.2), fun μ F S H σ en Q rl er h => ?_⟩
  refine ha μ F S H σ en _ rl er (PP.bind h fun ws S1 μ1 F1 H1 vs _ t1 rl1 r1 h1 => ?_)
  exact hg' μ1 F1 S1 H1 vs ws Q rl1 r1 h1
theorem se_ty {x : Str} {n : String} (hg : Gl X x) (hm : X.mg x = none) (hv : bootBuiltins x = some (.type n)) (hn : x ≠ "__name__") (hd : (x == ("__debug__" : Str)) = false) : SE X A E (.Name x pos) (xCon (.t n)) :=
  ⟨_, pe_bltn (v := .ty n) hg hm hv rfl hn hd, fun μ F S H σ en Q rl er h => PP.now h rl rfl⟩
theorem p1 {K : PySem.W.Frag} {μ : List Addr} {F : Hp} {vs : List V} {w : W} (h : WRs K A μ F vs [w]) : ∃ v, vs = [v] ∧ WR K A μ F v w := by
  cases h with
  | cons a b => cases b; exact ⟨_, rfl, a⟩
theorem p2 {K : PySem.W.Frag} {μ : List Addr} {F : Hp} {vs : List V} {w u : W} (h : WRs K A μ F vs [w, u]) : ∃ v z, vs = [v, z] ∧ WR K A μ F v w ∧ WR K A μ F z u := by
  cases h with
  | cons a b => cases b with | cons c d => cases d; exact ⟨_, _, rfl, a, c⟩
theorem p3 {K : PySem.W.Frag} {μ : List Addr} {F : Hp} {vs : List V} {w u x : W} (h : WRs K A μ F vs [w, u, x]) : ∃ v z y, vs = [v, z, y] ∧ WR K A μ F v w ∧ WR K A μ F z u ∧ WR K A μ F y x := by
  cases h with
  | cons a b => cases b with | cons c d => cases d with | cons f g => cases g; exact ⟨_, _, _, rfl, a, c, f⟩
theorem wr_i {K : PySem.W.Frag} {μ : List Addr} {F : Hp} {v : V} {i : Int} (h : WR K A μ F v (.d (.int i))) : v = .int i := by
  obtain ⟨h, _⟩ := h
  cases h; rfl
theorem wr_b {K : PySem.W.Frag} {μ : List Addr} {F : Hp} {v : V} {i : Bool} (h : WR K A μ F v (.d (.bool i))) : v = .bl i := by
  obtain ⟨h, _⟩ := h
  cases h; rfl
theorem ty_sqT {K : PySem.W.Frag} {H : Hp} {a : Addr} {vs : List V} (h : SqT K H a vs) : TyX K H (.ref a) (.type "tuple") := by
  rcases h with (h | ⟨o, h⟩) | ⟨o, its, n, h1, h2, _⟩
  · exact .base (.tup h)
  · exact .fTuple h
  · exact .kTuple h1 h2
theorem tyN_is {K : PySem.W.Frag} {μ : List Addr} {F H : Hp} {S : Sto} {v : V} {w : W} {k : String} (rl : Rl K A μ F S H) (r : WR K A μ F v w) (e : tyN w S = some k) : TyX K H v (.type k) := by
  cases w with
  | d x =>
    obtain ⟨r, _⟩ := r
    cases r with
    | non => cases e; exact .base .non
    | bl b => cases e; exact .base (.bl b)
    | int i => cases e; exact .base (.int i)
    | str z => cases e; exact .base (.str z)
    | lst s _ => cases e; exact .base (.lst (rl.ex _ _ s))
    | tup s _ => cases e; exact ty_sqT (sqT_up rl.ex s)
  | c n =>
    obtain ⟨a, h1, rfl⟩ := r
    have e' : (match S[n]? with | some (.lst _) => some "list" | some (.tup _) => some "tuple" | some (.dic _) => some "dict" | _ => none) = some k := e
    cases q : S[n]? with
    | none => rw [q] at e'; cases e'
    | some o =>
      rw [q] at e'
      have h := rl.ob n a o h1 q
      cases o with
      | lst us => cases e'; obtain ⟨vs, k1, _⟩ := h; exact .base (.lst k1)
      | tup us => cases e'; obtain ⟨vs, k1, _⟩ := h; exact .base (.tup k1)
      | dic kvs => cases e'; obtain ⟨ps, k1, _⟩ := h; exact .base (.dK k1)
      | _ => cases e'
  | f i => cases e
  | s ns => cases e
  | r i j c => cases e
  | t n => cases e
  | fs is => cases e
theorem kit_isi (k n : String) (hk : k ∈ ["NoneType", "bool", "int", "str", "list", "tuple", "dict"]) (hn : n ∈ isiTs) : kitB k n = some (isiB k n) := by
  have h : ((["NoneType", "bool", "int", "str", "list", "tuple", "dict"] : List String).all fun k => isiTs.all fun n => decide (kitB k n = some (isiB k n))) = true := by decide +kernel
  exact of_decide_eq_true (List.all_eq_true.mp (List.all_eq_true.mp h k hk) n hn)
theorem tyN_mem {w : W} {S : Sto} {k : String} (e : tyN w S = some k) : k ∈ ["NoneType", "bool", "int", "str", "list", "tuple", "dict"] := by
  unfold tyN at e
  split at e <;> first
    | (cases e; done)
    | (cases e; decide)
    | (split at e <;> first
      | (cases e; done)
      | (cases e; decide))
theorem ok_isi : CallOK X A E (.builtin "isinstance") isiG := by
  refine ⟨_, call_isi, fun μ F S H vs ws Q rl r h => ?_⟩
  unfold isiG at h
  split at h
  · rename_i x n
    obtain ⟨v, z, rfl, r1, r2⟩ := p2 r
    split at h
    · rename_i k ek
      split at h
      · rename_i hn
        obtain rfl : z = .ty n := r2
        exact ⟨v, .ty n, .type k, .type n, isiB k n, rfl, .ty n, tyN_is rl r1 ek, kit_ty (kit_isi k n (tyN_mem ek) (of_decide_eq_true hn)), PP.now h rl (wr_bl _)⟩
      · exact h.elim
    · exact h.elim
  · exact h.elim
theorem ok_len : CallOK X A E (.builtin "len") lenG := by
  refine ⟨_, call_lenD.or call_len, fun μ F S H vs ws Q rl r h => ?_⟩
  have seqs : ∀ {w : W} {k : Bool} {us : List W} {v : V}, WR X.K A μ F v w → seqOf S w = some (k, us) → Q (.int us.length) H → ∃ x n, [v] = [x] ∧ LenV X.K x H n ∧ Q (.int n) H := fun {w k us v} r es q => by
    obtain ⟨p, vs, rfl, sv, wv⟩ := seq_is rl r es
    refine ⟨_, us.length, rfl, ?_, q⟩
    show (∃ xs, SqL X.K H p xs ∧ us.length = xs.length) ∨ ∃ xs, SqT X.K H p xs ∧ us.length = xs.length
    rcases sv.any with z | z
    · exact .inl ⟨vs, z, (wrs_len wv).symm⟩
    · exact .inr ⟨vs, z, (wrs_len wv).symm⟩
  unfold lenG at h
  split at h
  · obtain ⟨v, rfl, r1⟩ := p1 r
    split at h
    · rename_i z
      obtain ⟨r2, _⟩ := r1
      cases r2
      exact .inr ⟨_, _, rfl, ⟨cap_le z, rfl⟩, PP.now h rl (wr_int _)⟩
    · exact h.elim
  · rename_i n
    obtain ⟨v, rfl, r1⟩ := p1 r
    split at h
    · rename_i kvs hS
      obtain ⟨a, h1, rfl⟩ := r1
      obtain ⟨ps, h2, h3⟩ := rl.ob n a _ h1 hS
      refine .inl ⟨a, ps, rfl, h2, ?_⟩
      rw [Paired.length h3]
      exact PP.now h rl (wr_int _)
    · rename_i us hS
      exact .inr (seqs (k := true) r1 (show obSeq S[n]? = _ by rw [hS]; rfl) (PP.now h rl (wr_int _)))
    · rename_i us hS
      exact .inr (seqs (k := false) r1 (show obSeq S[n]? = _ by rw [hS]; rfl) (PP.now h rl (wr_int _)))
    · exact h.elim
  · obtain ⟨v, rfl, r1⟩ := p1 r
    split at h
    · rename_i es
      exact .inr (seqs r1 es (PP.now h rl (wr_int _)))
    · exact h.elim
  · exact h.elim
theorem ok_abs : CallOK X A E (.builtin "abs") absG := by
  refine ⟨_, call_abs, fun μ F S H vs ws Q rl r h => ?_⟩
  unfold absG at h
  split at h
  · obtain ⟨v, rfl, r1⟩ := p1 r
    obtain rfl := wr_i r1
    exact ⟨_, rfl, PP.now h rl (wr_int _)⟩
  · exact h.elim
theorem ok_int : CallOK X A E (.type "int") intG := by
  refine ⟨_, call_int1, fun μ F S H vs ws Q rl r h => ?_⟩
  unfold intG at h
  split at h
  · obtain ⟨v, rfl, r1⟩ := p1 r
    obtain rfl := wr_i r1
    exact .inl ⟨_, rfl, PP.now h rl (wr_int _)⟩
  · obtain ⟨v, rfl, r1⟩ := p1 r
    obtain rfl := wr_b r1
    exact .inr ⟨_, rfl, PP.now h rl (wr_int _)⟩
  · exact h.elim
theorem toString_lay (i : Int) : PyData.strOk (toString i : String) = true := by
  show ((Str.ofString (toString i)).cps).all (· < 0x110000) = true
  refine Array.all_eq_true_iff_forall_mem.mpr fun c hc => ?_
  have hc' : c ∈ (toString i).toList.map Char.toNat := by
    rw [← signs_ofString]
    exact Array.mem_toList_iff.mpr hc
  obtain ⟨ch, _, rfl⟩ := List.mem_map.mp hc'
  have := ch.valid
  simp only [decide_eq_true_eq]
  rcases this with h | h
  · have : ch.val.toNat < 0xd800 := h
    show ch.val.toNat < _
    omega
  · have : ch.val.toNat < 0x110000 := h.2
    exact this
theorem ok_str : CallOK X A E (.type "str") strG := by
  refine ⟨_, call_str_int, fun μ F S H vs ws Q rl r h => ?_⟩
  unfold strG at h
  split at h
  · obtain ⟨v, rfl, r1⟩ := p1 r
    obtain rfl := wr_i r1
    split at h
    · rename_i z
      exact ⟨_, rfl, of_decide_eq_true z, PP.now h rl ⟨.str _, toString_lay _⟩⟩
    · exact h.elim
  · exact h.elim
theorem allI_is {K : PySem.W.Frag} {μ : List Addr} {F : Hp} : ∀ {ws : List W} {vs : List V} {is : List Int}, WRs K A μ F vs ws → allI ws = some is → vs = is.map V.int
  | [], _, _, h, e => by cases h; cases e; rfl
  | w :: ws, _, is, h, e => by
    cases h with
    | cons a b =>
      unfold allI at e
      split at e
      · rename_i hq
        cases hq
      · rename_i i r heq
        cases heq
        cases q : allI ws with
        | none => rw [q] at e; cases e
        | some js =>
          rw [q] at e; cases e
          obtain rfl := wr_i a
          rw [allI_is b q]; rfl
      · cases e
theorem allB_is {K : PySem.W.Frag} {μ : List Addr} {F : Hp} : ∀ {ws : List W} {vs : List V} {is : List Bool}, WRs K A μ F vs ws → allB ws = some is → vs = is.map V.bl
  | [], _, _, h, e => by cases h; cases e; rfl
  | w :: ws, _, is, h, e => by
    cases h with
    | cons a b =>
      unfold allB at e
      split at e
      · rename_i hq
        cases hq
      · rename_i i r heq
        cases heq
        cases q : allB ws with
        | none => rw [q] at e; cases e
        | some js =>
          rw [q] at e; cases e
          obtain rfl := wr_b a
          rw [allB_is b q]; rfl
      · cases e
theorem intsOf_is {K : PySem.W.Frag} {μ : List Addr} {F H : Hp} {S : Sto} {v : V} {w : W} {is : List Int} (rl : Rl K A μ F S H) (r : WR K A μ F v w) (e : intsOf S w = some is) : ∃ a, v = .ref a ∧ SqL K H a (is.map V.int) := by
  unfold intsOf at e
  split at e
  · rename_i ws es
    obtain ⟨a, vs, rfl, sv, wv⟩ := seq_is rl r es
    refine ⟨a, rfl, ?_⟩
    rw [← allI_is wv e]
    exact .inl (.inl sv)
  · cases e
theorem boolsOf_is {K : PySem.W.Frag} {μ : List Addr} {F H : Hp} {S : Sto} {v : V} {w : W} {is : List Bool} (rl : Rl K A μ F S H) (r : WR K A μ F v w) (e : boolsOf S w = some is) : ∃ a, v = .ref a ∧ SqL K H a (is.map V.bl) := by
  unfold boolsOf at e
  split at e
  · rename_i ws es
    obtain ⟨a, vs, rfl, sv, wv⟩ := seq_is rl r es
    refine ⟨a, rfl, ?_⟩
    rw [← allB_is wv e]
    exact .inl (.inl sv)
  · cases e
theorem maxL_is : ∀ (l : List Int) (m : Int), m ∈ l → (∀ y, y ∈ l → y ≤ m) → maxL l = m
  | [], _, h, _ => by cases h
  | [x], m, h, _ => by
    have e : m = x := by simpa using h
    simp [maxL, e]
  | x :: y :: r, m, h, k => by
    unfold maxL
    have hx := k x List.mem_cons_self
    have key : ∀ z ∈ y :: r, z ≤ maxL (y :: r) := by
      intro z hz
      have : ∀ (l : List Int), ∀ z ∈ l, z ≤ maxL l := by
        intro l
        induction l with
        | nil => intro z hz; cases hz
        | cons a t ih =>
          intro z hz
          cases t with
          | nil => have : z = a := by simpa using hz
                   subst this; exact Int.le_refl _
          | cons b t =>
            unfold maxL
            rcases List.mem_cons.mp hz with e | hz
            · subst e; split <;> omega
            · have := ih z hz; split <;> omega
      exact this _ z hz
    have mem : maxL (y :: r) ∈ y :: r := by
      have : ∀ (l : List Int), l ≠ [] → maxL l ∈ l := by
        intro l
        induction l with
        | nil => intro h; exact absurd rfl h
        | cons a t ih =>
          intro _
          cases t with
          | nil => exact List.mem_cons_self
          | cons b t =>
            unfold maxL
            have := ih (by simp)
            split
            · exact List.mem_cons_of_mem _ this
            · exact List.mem_cons_self
      exact this _ (by simp)
    have hm := k _ (List.mem_cons_of_mem x mem)
    rcases List.mem_cons.mp h with e | h
    · subst e
      rw [if_neg (by omega)]
    · have := key m h
      split <;> omega
theorem minL_is : ∀ (l : List Int) (m : Int), m ∈ l → (∀ y, y ∈ l → m ≤ y) → minL l = m
  | [], _, h, _ => by cases h
  | [x], m, h, _ => by
    have e : m = x := by simpa using h
    simp [minL, e]
  | x :: y :: r, m, h, k => by
    unfold minL
    have hx := k x List.mem_cons_self
    have key : ∀ z ∈ y :: r, minL (y :: r) ≤ z := by
      intro z hz
      have : ∀ (l : List Int), ∀ z ∈ l, minL l ≤ z := by
        intro l
        induction l with
        | nil => intro z hz; cases hz
        | cons a t ih =>
          intro z hz
          cases t with
          | nil => have : z = a := by simpa using hz
                   subst this; exact Int.le_refl _
          | cons b t =>
            unfold minL
            rcases List.mem_cons.mp hz with e | hz
            · subst e; split <;> omega
            · have := ih z hz; split <;> omega
      exact this _ z hz
    have mem : minL (y :: r) ∈ y :: r := by
      have : ∀ (l : List Int), l ≠ [] → minL l ∈ l := by
        intro l
        induction l with
        | nil => intro h; exact absurd rfl h
        | cons a t ih =>
          intro _
          cases t with
          | nil => exact List.mem_cons_self
          | cons b t =>
            unfold minL
            have := ih (by simp)
            split
            · exact List.mem_cons_of_mem _ this
            · exact List.mem_cons_self
      exact this _ (by simp)
    have hm := k _ (List.mem_cons_of_mem x mem)
    rcases List.mem_cons.mp h with e | h
    · subst e
      rw [if_neg (by omega)]
    · have := key m h
      split <;> omega
theorem ok_max (hc : X.calm = true) : CallOK X A E (.builtin "max") maxG := by
  refine ⟨_, (call_max2 hc).or (cr_max hc), fun μ F S H vs ws Q rl r h => ?_⟩
  unfold maxG at h
  split at h
  · obtain ⟨v, z, rfl, r1, r2⟩ := p2 r
    obtain rfl := wr_i r1
    obtain rfl := wr_i r2
    exact .inl ⟨_, _, rfl, PP.now h rl (wr_int _)⟩
  · obtain ⟨v, rfl, r1⟩ := p1 r
    split at h
    · rename_i x l e
      obtain ⟨a, rfl, hs⟩ := intsOf_is rl r1 e
      refine .inr ⟨a, _, rfl, hs, by simp, fun m h1 h2 => ?_⟩
      rw [← maxL_is _ m h1 h2]
      exact PP.now h rl (wr_int _)
    · exact h.elim
  · exact h.elim
theorem ok_min (hc : X.calm = true) : CallOK X A E (.builtin "min") minG := by
  refine ⟨_, (call_min2 hc).or (cr_min hc), fun μ F S H vs ws Q rl r h => ?_⟩
  unfold minG at h
  split at h
  · obtain ⟨v, z, rfl, r1, r2⟩ := p2 r
    obtain rfl := wr_i r1
    obtain rfl := wr_i r2
    exact .inl ⟨_, _, rfl, PP.now h rl (wr_int _)⟩
  · obtain ⟨v, rfl, r1⟩ := p1 r
    split at h
    · rename_i x l e
      obtain ⟨a, rfl, hs⟩ := intsOf_is rl r1 e
      refine .inr ⟨a, _, rfl, hs, by simp, fun m h1 h2 => ?_⟩
      rw [← minL_is _ m h1 h2]
      exact PP.now h rl (wr_int _)
    · exact h.elim
  · exact h.elim
theorem ok_sum (hc : X.calm = true) : CallOK X A E (.builtin "sum") sumG := by
  refine ⟨_, cr_sum hc, fun μ F S H vs ws Q rl r h => ?_⟩
  unfold sumG at h
  split at h
  · obtain ⟨v, rfl, r1⟩ := p1 r
    split at h
    · rename_i is e
      obtain ⟨a, rfl, hs⟩ := intsOf_is rl r1 e
      exact ⟨a, _, rfl, hs, PP.now h rl (wr_int _)⟩
    · exact h.elim
  · exact h.elim
theorem ok_all (hc : X.calm = true) : CallOK X A E (.builtin "all") allG := by
  refine ⟨_, cr_all hc, fun μ F S H vs ws Q rl r h => ?_⟩
  unfold allG at h
  split at h
  · obtain ⟨v, rfl, r1⟩ := p1 r
    split at h
    · rename_i is e
      obtain ⟨a, rfl, hs⟩ := boolsOf_is rl r1 e
      exact ⟨a, _, rfl, hs, PP.now h rl (wr_bl _)⟩
    · exact h.elim
  · exact h.elim
theorem ok_any (hc : X.calm = true) : CallOK X A E (.builtin "any") anyG := by
  refine ⟨_, cr_any hc, fun μ F S H vs ws Q rl r h => ?_⟩
  unfold anyG at h
  split at h
  · obtain ⟨v, rfl, r1⟩ := p1 r
    split at h
    · rename_i is e
      obtain ⟨a, rfl, hs⟩ := boolsOf_is rl r1 e
      exact ⟨a, _, rfl, hs, PP.now h rl (wr_bl _)⟩
    · exact h.elim
  · exact h.elim
end
end Mi
end
section
set_option Elab.async false
set_option linter.all false
set_option maxRecDepth 100000
set_option maxHeartbeats 4000000
namespace Mi
open PySem L2 PyProof.Rows
section
variable {X : Cx} {A : Ad} {E : XK} {e : Expr} {xa xb xc : XE} {es : List Expr} {ya : XA} {pos : Pos}
theorem rgO_new {P : Program} {w : World} {H : Hp} {h : Heap} {a : Addr} {i j c : Int} {t u v : Tok} (e : IsRange h a i j c t u v) : ObjOk P w H h a (RgO a i j c) :=
  ⟨⟨t, u, v, e⟩, ⟨_, e⟩, fun _ _ ⟨t, u, v, e⟩ k => ⟨t, u, v, k _ e⟩⟩
def rRange : List V → Hp → VK → Prop := fun vs H Q =>
  (∃ j, vs = [.int j] ∧ ∀ p, H p = none → Q (.ref p) (upd H p (RgO p 0 j 1))) ∨ (∃ i j, vs = [.int i, .int j] ∧ ∀ p, H p = none → Q (.ref p) (upd H p (RgO p i j 1))) ∨
  ∃ i j c, vs = [.int i, .int j, .int c] ∧ c ≠ 0 ∧ c.natAbs < 1073741824 ∧ ∀ p, H p = none → Q (.ref p) (upd H p (RgO p i j c))
theorem cr_range : CallR X (.type "range") rRange := by
  intro pins s σ H vs us Q I r h
  have fin : ∀ {i j c : Int} {t u v : Tok} {tk : Nat}, (∀ p, H p = none → Q (.ref p) (upd H p (RgO p i j c))) → EP X pins σ Q (.ref s.heap.objs.size) { s with heap := s.heap.push { cls := .type "range", data := .fields #[.int i t, .int j u, .int c v] }, toks := tk } := fun {i j c t u v tk} q =>
    ⟨.ref _, _, I.laid (t' := tk) (fun b o e => Heap.get?_push_of_some _ e) (Nat.le_refl _) (rgO_new (IsRange.new _ _ _ _ _ _ _)), rfl, q _ (I.hok.fresh (Nat.le_refl _))⟩
  rcases h with ⟨j, rfl, q⟩ | ⟨i, j, rfl, q⟩ | ⟨i, j, c, rfl, c0, c1, q⟩
  · obtain ⟨u1, rfl, r1⟩ := vals1 r
    obtain ⟨t, rfl⟩ := r1
    exact call_range_1 (fin q)
  · obtain ⟨u1, u2, rfl, r1, r2⟩ := vals2 r
    obtain ⟨t, rfl⟩ := r1
    obtain ⟨t', rfl⟩ := r2
    exact call_range_2 (fin q)
  · cases r with
    | cons r1 r => cases r with
      | cons r2 r => cases r with
        | cons r3 r =>
          cases r
          obtain ⟨t, rfl⟩ := r1
          obtain ⟨t', rfl⟩ := r2
          obtain ⟨t'', rfl⟩ := r3
          exact call_range_3 c0 (fin q) (.inl (PyProof.noPylong_small c1))
theorem ok_range : CallOK X A E (.type "range") rngG := by
  refine ⟨_, cr_range, fun μ F S H vs ws Q rl r h => ?_⟩
  have fin : ∀ {i j c : Int}, PP X.K A (WR X.K A) E μ F H (.ok (.r i j c) S) Q → ∀ p, H p = none → Q (.ref p) (upd H p (RgO p i j c)) := fun {i j c} h p hp => by
    obtain ⟨rl', xt⟩ := rl.newF hp (RgO p i j c)
    exact h _ _ _ _ xt rl' ⟨p, upd_same, rfl⟩
  unfold rngG at h
  split at h
  · obtain ⟨v, rfl, r1⟩ := p1 r
    obtain rfl := wr_i r1
    exact .inl ⟨_, rfl, fin h⟩
  · obtain ⟨v, z, rfl, r1, r2⟩ := p2 r
    obtain rfl := wr_i r1
    obtain rfl := wr_i r2
    exact .inr (.inl ⟨_, _, rfl, fin h⟩)
  · obtain ⟨v, z, y, rfl, r1, r2, r3⟩ := p3 r
    obtain rfl := wr_i r1
    obtain rfl := wr_i r2
    obtain rfl := wr_i r3
    split at h
    · rename_i hc
      simp only [Bool.and_eq_true, decide_eq_true_eq] at hc
      exact .inr (.inr ⟨_, _, _, rfl, hc.1, hc.2, fin h⟩)
    · exact h.elim
  · exact h.elim
theorem rg_obj {pins : List (Addr × Obj)} {σ : L2.St} {H : Hp} {s : Shared} {a : Addr} {i j c : Int} (I : Inv X pins σ H s) (h : H a = some (RgO a i j c)) : ∃ t u v, IsRange s.heap a i j c t u v :=
  (I.hok a _ h).1
def rgVc (i c : Int) (n : Nat) : List V := (List.range n).map fun k => V.int (i + (k : Nat) * c)
theorem vals_rgc {a c : Int} {n : Nat} {acc : Array Value} (h : ItemsOf (fun i v => ∃ t, v = .int (a + i * c) t) acc n) : Vals (rgVc a c n) acc.toList := by
  have e : acc.toList.length = n := by rw [Array.length_toList]; exact h.1
  unfold rgVc
  rw [← e]
  refine vals_of_get acc.toList _ fun j u hj => ?_
  obtain ⟨t, rfl⟩ := h.2 j u (by rw [← hj, Array.getElem?_toList])
  exact ⟨t, rfl⟩
theorem rgN_is {i j c : Int} {n : Nat} (e : rgN i j c = some n) : Builtin.Range.small i j c = true ∧ Builtin.Range.rangeSize i j c = n ∧ n ≤ cap := by
  unfold rgN at e
  split at e
  · rename_i h1
    split at e
    · rename_i h2
      split at e
      · rename_i h3
        cases e
        exact ⟨h1, by omega, by omega⟩
      · cases e
    · cases e
  · cases e
theorem cr_listRg (hc : X.calm = true) : CallR X (.type "list") (fun xs H Q => ∃ a i j c n, xs = [.ref a] ∧ H a = some (RgO a i j c) ∧ rgN i j c = some n ∧ ∀ q, H q = none → Q (.ref q) (upd H q (.lst (rgVc i c n)))) := by
  intro pins s σ H vs us Q I r h
  obtain ⟨a, i, j, c, n, rfl, ha, hn, q⟩ := h
  obtain ⟨u1, rfl, r1⟩ := vals1 r
  cases r1
  obtain ⟨t, u, v, hr⟩ := rg_obj I ha
  obtain ⟨h1, h2, h3⟩ := rgN_is hn
  refine call_list_range (n := n) (I.ok.hd hc) hr h1 h2 (Nat.le_trans h3 (by decide)) fun h' tk acc c' hk e' hi => ?_
  refine ⟨.ref s.heap.objs.size, upd H s.heap.objs.size (.lst (rgVc i c n)), I.laid hk (Nat.le_refl _) (show ObjOk X.prog X.w _ _ _ (.lst (rgVc i c n)) from ⟨?_, acc.toList, c', vals_rgc hi, ?_⟩), rfl, q _ (I.hok.fresh (Nat.le_refl _))⟩
  · unfold rgVc
    rw [List.length_map, List.length_range]
    exact cap_le h3
  · rw [Array.toArray_toList]; exact e'
theorem drs_rg {K : PySem.W.Frag} {F : Hp} {i c : Int} {n : Nat} : DRs K F (rgVc i c n) (rgL i c n) ∧ PyData.canLayAll0 (rgL i c n) = true := by
  unfold rgVc rgL
  generalize List.range n = l
  induction l with
  | nil => exact ⟨.nil, rfl⟩
  | cons x l ih => exact ⟨.cons (.int _) ih.1, by simp only [List.map_cons, PyData.canLayAll0, PyData.canLay0, Bool.true_and]; exact ih.2⟩
theorem wrs_ints {K : PySem.W.Frag} {μ : List Addr} {F : Hp} : ∀ ns : List Int, WRs K A μ F (ns.map V.int) (ns.map fun i => .d (.int i))
  | [] => .nil
  | n :: ns => .cons (wr_int n) (wrs_ints ns)
theorem lay_rg {i c : Int} {n : Nat} : PyData.canLayAll0 (rgL i c n) = true := by
  unfold rgL
  generalize List.range n = l
  induction l with
  | nil => rfl
  | cons x l ih => simp only [List.map_cons, PyData.canLayAll0, PyData.canLay0, Bool.true_and]; exact ih
theorem lst_new {K : PySem.W.Frag} {cel : Bool} {μ : List Addr} {F H : Hp} {S : Sto} {vs : List V} {ws : List W} {Q : VK} (rl : Rl K A μ F S H) (r : WRs K A μ F vs ws) (h : PP K A (WR K A) E μ F H (lstN cel ws S) Q) : ∀ p, H p = none → Q (.ref p) (upd H p (.lst vs)) := fun p hp => by
  cases cel with
  | true =>
    have h : PP K A (WR K A) E μ F H (.ok (.c S.length) (S ++ [.lst ws])) Q := h
    obtain ⟨rl', xt⟩ := rl.newC hp (.lst vs) (.lst ws) ⟨_, upd_same, r.up (List.prefix_append _ _) fun _ _ h => h⟩
    exact h _ _ _ _ xt rl' ⟨p, by rw [← rl.len]; simp, rfl⟩
  | false =>
    have h : PP K A (WR K A) E μ F H (match allD ws with | some ds => .ok (.d (.list ds)) S | none => .bad) Q := h
    cases e : allD ws with
    | none => rw [e] at h; exact h.elim
    | some ds =>
      rw [e] at h
      obtain ⟨d1, l1⟩ := ws_drs r e
      obtain ⟨rl', xt⟩ := rl.newF hp (.lst vs)
      exact h _ _ _ _ xt rl' ⟨.lst upd_same (drs_up xt.fz _ _ d1), list_lay l1⟩
theorem ok_list (cel : Bool) (hc : X.calm = true) : CallOK X A E (.type "list") (lstG cel) := by
  refine ⟨_, (cr_listRg hc).or call_list_of, fun μ F S H vs ws Q rl r h => ?_⟩
  unfold lstG at h
  split at h
  · obtain ⟨v, rfl, r1⟩ := p1 r
    obtain ⟨a, hs, rfl⟩ := r1
    exact .inr ⟨a, _, rfl, .inl (sqL_up rl.ex hs), lst_new rl (wrs_ints _) h⟩
  · obtain ⟨v, rfl, r1⟩ := p1 r
    split at h
    · rename_i n hn
      obtain ⟨a, ha, rfl⟩ := r1
      exact .inl ⟨a, _, _, _, n, rfl, rl.ex _ _ ha, hn, lst_new rl (drs_ws drs_rg.1 lay_rg) h⟩
    · exact h.elim
  · obtain ⟨v, rfl, r1⟩ := p1 r
    split at h
    · rename_i us es
      obtain ⟨a, vs, rfl, sv, wv⟩ := seq_is rl r1 es
      exact .inr ⟨a, vs, rfl, sv.any, lst_new rl wv h⟩
    · exact h.elim
  · exact h.elim
theorem cr_tupRg (hc : X.calm = true) : CallR X (.type "tuple") (fun xs H Q => ∃ a i j, xs = [.ref a] ∧ H a = some (RgO a i j 1) ∧ RgOk i j ∧ ∀ q, H q = none → Q (.ref q) (upd H q (.tup (rgV i j)))) := by
  intro pins s σ H vs us Q I r h
  obtain ⟨a, i, j, rfl, ha, ok, q⟩ := h
  obtain ⟨u1, rfl, r1⟩ := vals1 r
  cases r1
  obtain ⟨t, u, v, hr⟩ := rg_obj I ha
  obtain ⟨b1, b2, b3, b4, b5⟩ := ok
  refine call_tuple_range (n := (j - i).toNat) (I.ok.hd hc) hr (small_one b1 b2 b3 b4) (rangeSize_nat i j) b5 fun h' tk acc hk hi => ?_
  have I2 : Inv X pins σ H { s with heap := h', toks := tk } := I.kept hk
  refine ⟨.ref h'.objs.size, upd H h'.objs.size (.tup (rgV i j)), I2.laid (t' := tk) (fun c o e => Heap.get?_push_of_some _ e) (Nat.le_refl _) (show ObjOk X.prog X.w _ _ _ (.tup (rgV i j)) from ⟨?_, acc.toList, vals_rg hi, ?_⟩), rfl, q _ (I2.hok.fresh (Nat.le_refl _))⟩
  · rw [rgV_length, sizeLine_eq]; omega
  · rw [Array.toArray_toList]; exact IsTup.new _ _
theorem rgV_c (i j : Int) : rgV i j = rgVc i 1 (j - i).toNat := by
  unfold rgV rgVc
  simp only [Int.mul_one]
theorem ok_tuple (hc : X.calm = true) : CallOK X A E (.type "tuple") tupG := by
  refine ⟨_, (cr_tupRg hc).or call_tuple_of, fun μ F S H vs ws Q rl r h => ?_⟩
  unfold tupG at h
  split at h
  · obtain ⟨v, rfl, r1⟩ := p1 r
    obtain ⟨r2, l2⟩ := r1
    cases r2 with
    | tup s d => exact .inr ⟨_, _, rfl, .inr ⟨sqT_up rl.ex s, PP.now h rl ⟨.tup s d, l2⟩⟩⟩
  · obtain ⟨v, rfl, r1⟩ := p1 r
    obtain ⟨a, ha, rfl⟩ := r1
    split at h
    · rename_i hb
      simp only [inR, Bool.and_eq_true, decide_eq_true_eq] at hb
      refine .inl ⟨a, _, _, rfl, rl.ex _ _ ha, ⟨hb.1.1.1, hb.1.1.2, hb.1.2.1, hb.1.2.2, Nat.le_trans hb.2 (by decide)⟩, fun p hp => ?_⟩
      rw [rgV_c]
      obtain ⟨rl', xt⟩ := rl.newF hp (.tup (rgVc _ 1 _))
      exact h _ _ _ _ xt rl' ⟨.tup (.inl (.inl upd_same)) drs_rg.1, tup_lay lay_rg⟩
    · exact h.elim
  · obtain ⟨v, rfl, r1⟩ := p1 r
    split at h
    · rename_i us es
      obtain ⟨a, vs, rfl, sv, wv⟩ := seq_is rl r1 es
      split at h
      · rename_i ds ea
        refine .inr ⟨a, vs, rfl, .inl ⟨.inl (.inl sv), fun p hp => ?_⟩⟩
        obtain ⟨d1, l1⟩ := ws_drs wv ea
        obtain ⟨rl', xt⟩ := rl.newF hp (.tup vs)
        exact h _ _ _ _ xt rl' ⟨.tup (.inl (.inl upd_same)) (drs_up xt.fz _ _ d1), tup_lay l1⟩
      · exact h.elim
    · exact h.elim
  · exact h.elim

abbrev RunF := Nat → List W → Sto → Res W
def spF (K : PySem.W.Frag) (A : Ad) (m : Nat) (g : List W → Sto → Res W) : Sp := fun vs H Q E => vs.length = m ∧ ∃ μ F S ws, Rl K A μ F S H ∧ WRs K A μ F vs ws ∧ PP K A (WR K A) E μ F H (g ws S) Q
structure FnI where
  name : Str
  ps : List Str
structure FnAt (X : Cx) (A : Ad) (k : Nat) (run : RunF) (i : Nat) (d : FnI) (f : Addr) (fd : FuncData) : Prop where
  at_ : A.fa i = some f
  mg : X.mg d.name = some (.ref f)
  kp : PySem.W.keepIn X.K (.ref f) = true
  bd : Binds X.K fd d.ps []
  ok : FnOk X.prog X.w X.K X.mg X.base (CX X.prog X.w) k f fd d.ps (spF X.K A d.ps.length (run i))
theorem se_call {k i : Nat} {run : RunF} {d : FnI} {f : Addr} {fd : FuncData} {p : Pos} (B : FnAt X A k run i d f fd) (tk : Takes X fun c d _ H => E c d H) (hr : Room k X.A) (hg : Gl X d.name) (ha : SA X A E (e :: es) ya) (hs : (e :: es).all noStar = true) (hl : (e :: es).length = d.ps.length)
    (hdb : (d.name == ("__debug__" : Str)) = false) (hya : ∀ en S ws S', ya en S = .ok ws S' → ws.length = (e :: es).length) : SE X A E (.Call (.Name d.name p) (e :: es) [] pos) (xCall (run i) ya) := by
  obtain ⟨t, pa, ha⟩ := ha
  have hs' : noStar e = true ∧ es.all noStar = true := by simpa using hs
  refine ⟨_, pe_call (E := E) B.ok hr hg B.mg B.kp B.bd .nil (passes_call tk fun _ _ _ _ h => h) pa hdb (star_cons hs'.1) (star_any hs'.2), fun μ F S H σ en Q rl er h => ?_⟩
  refine ha μ F S H σ en _ rl er (PP.bind h fun ws S1 μ1 F1 H1 vs ew t1 rl1 r1 h1 => ?_)
  have hv : vs.length = d.ps.length := by rw [wrs_len r1, hya _ _ _ _ ew, hl]
  exact ⟨by rw [List.append_nil]; exact hv, μ1, F1, S1, ws, rl1, by rw [List.append_nil]; exact r1, h1⟩
theorem se_call0 {k i : Nat} {run : RunF} {d : FnI} {f : Addr} {fd : FuncData} {p : Pos} (B : FnAt X A k run i d f fd) (tk : Takes X fun c d _ H => E c d H) (hr : Room k X.A) (hg : Gl X d.name) (hl : 0 = d.ps.length) (hdb : (d.name == ("__debug__" : Str)) = false) :
    SE X A E (.Call (.Name d.name p) [] [] pos) (xCall (run i) xNil) := by
  refine ⟨_, pe_call0 (E := E) B.ok hr hg B.mg B.kp B.bd .nil (passes_call tk fun _ _ _ _ h => h) hdb, fun μ F S H σ en Q rl er h => ?_⟩
  exact ⟨hl, μ, F, S, [], rl, .nil, h⟩
theorem ya_len_nil (en : Ev) (S : Sto) (ws : List W) (S' : Sto) (h : xNil en S = .ok ws S') : ws.length = 0 := by cases h; rfl
theorem ya_len_cons {n : Nat} (hr : ∀ en S ws S', ya en S = .ok ws S' → ws.length = n) (en : Ev) (S : Sto) (ws : List W) (S' : Sto) (h : xCons xa ya en S = .ok ws S') : ws.length = n + 1 := by
  unfold xCons at h
  cases e1 : xa en S with
  | ok x S1 =>
    rw [e1] at h
    have h : ((ya en S1).andThen fun xs S2 => Res.ok (x :: xs) S2) = .ok ws S' := h
    cases e2 : ya en S1 with
    | ok xs S2 =>
      rw [e2] at h
      cases h
      simp [hr _ _ _ _ e2]
    | exc y S2 => rw [e2] at h; cases h
    | bad => rw [e2] at h; cases h
  | exc y S1 => rw [e1] at h; cases h
  | bad => rw [e1] at h; cases h

def appG (w : W) (ws : List W) (S : Sto) : Res W := match w, ws with
  | .c n, [y] => (match S[n]? with
    | some (.lst us) => if us.length < cap then .ok (.d .none) (S.set n (.lst (us ++ [y]))) else .bad
    | _ => .bad)
  | _, _ => .bad
def popG (w : W) (ws : List W) (S : Sto) : Res W := match w, ws with
  | .c n, [] => (match S[n]? with
    | some (.lst us) => (match us[us.length - 1]? with
      | some y => .ok y (S.set n (.lst us.dropLast))
      | none => .bad)
    | _ => .bad)
  | .c n, [.d (.int i)] => (match S[n]? with
    | some (.lst us) => if decide (0 ≤ i) && decide (i < us.length) && decide (us.length ≤ cap) then (match us[i.toNat]? with
      | some y => .ok y (S.set n (.lst (us.eraseIdx i.toNat)))
      | none => .bad) else .bad
    | _ => .bad)
  | _, _ => .bad
def MtOK (X : Cx) (A : Ad) (E : XK) (T : String) (id : String) (g : W → List W → Sto → Res W) : Prop := ∃ r, MtR X id r ∧ ∀ (μ : List Addr) (F : Hp) (S : Sto) (H : Hp) (v : V) (w : W) (vs : List V) (ws : List W) (Q : VK), Rl X.K A μ F S H → WR X.K A μ F v w → WRs X.K A μ F vs ws → PP X.K A (WR X.K A) E μ F H (g w ws S) Q → r v vs H Q
def RcOK (X : Cx) (A : Ad) (T : String) (k : W → Sto → Bool) : Prop := ∀ (μ : List Addr) (F : Hp) (S : Sto) (H : Hp) (v : V) (w : W), Rl X.K A μ F S H → WR X.K A μ F v w → k w S = true → tyV X.K T v H
def isLst (w : W) (S : Sto) : Bool := match seqOf S w with
  | some (true, _) => true
  | _ => false
theorem rc_list : RcOK X A "list" isLst := fun μ F S H v w rl r h => by
  unfold isLst at h
  split at h
  · rename_i us es
    obtain ⟨a, vs, rfl, sv, _⟩ := seq_is rl r es
    exact .inl ⟨rfl, vs, .inl (.inl sv)⟩
  · cases h
theorem paired_snoc {R : V → W → Prop} {vs : List V} {ws : List W} {v : V} {w : W} (h : Paired R vs ws) (r : R v w) : Paired R (vs ++ [v]) (ws ++ [w]) := Paired.snoc h r
theorem paired_dropLast {R : V → W → Prop} : ∀ {vs : List V} {ws : List W}, Paired R vs ws → Paired R vs.dropLast ws.dropLast
  | _, _, .nil => .nil
  | [_], [_], .cons _ .nil => .nil
  | _ :: _ :: _, _ :: _ :: _, .cons r (.cons a b) => .cons r (paired_dropLast (.cons a b))
theorem paired_erase {R : V → W → Prop} : ∀ {vs : List V} {ws : List W} (i : Nat), Paired R vs ws → Paired R (vs.eraseIdx i) (ws.eraseIdx i)
  | _, _, _, .nil => .nil
  | _, _, 0, .cons _ t => t
  | _, _, i + 1, .cons r t => .cons r (paired_erase i t)
theorem wrs_get {K : PySem.W.Frag} {μ : List Addr} {F : Hp} {vs : List V} {ws : List W} {i : Nat} {w : W} (h : WRs K A μ F vs ws) (e : ws[i]? = some w) : ∃ v, vs[i]? = some v ∧ WR K A μ F v w := paired_get h e
theorem Xt.same (μ : List Addr) (F H H' : Hp) : (∀ a o, H a = some o → a ∉ μ → H' a = some o) → Xt μ F H μ F H' := fun h => ⟨List.prefix_rfl, fun _ _ h => h, fun a o e _ n => ⟨h a o e n, n, fun z => z⟩⟩
theorem ok_app : MtOK X A E "list" "list.append" appG := by
  refine ⟨_, mt_append, fun μ F S H v w vs ws Q rl r rs h => ?_⟩
  unfold appG at h
  split at h
  · rename_i n y
    obtain ⟨u, rfl, r1⟩ := p1 rs
    split at h
    · rename_i us hS
      split at h
      · rename_i z
        obtain ⟨a, h1, rfl⟩ := r
        obtain ⟨xs, h2, h3⟩ := rl.ob n a _ h1 hS
        obtain ⟨rl', xt⟩ := rl.write h1 hS (fun z => nomatch z) (.lst (xs ++ [u])) (.lst (us ++ [y])) ⟨_, upd_same, paired_snoc h3 r1⟩
        exact ⟨a, xs, u, rfl, rfl, h2, by rw [wrs_len h3]; exact cap_lt z, h _ _ _ _ xt rl' wr_non⟩
      · exact h.elim
    · exact h.elim
  · exact h.elim
theorem ok_pop : MtOK X A E "list" "list.pop" popG := by
  refine ⟨_, MtR.or mt_pop mt_popAt, fun μ F S H v w vs ws Q rl r rs h => ?_⟩
  unfold popG at h
  split at h
  · rename_i n
    cases rs
    split at h
    · rename_i us hS
      split at h
      · rename_i y hy
        obtain ⟨a, h1, rfl⟩ := r
        obtain ⟨xs, h2, h3⟩ := rl.ob n a _ h1 hS
        obtain ⟨u, hu, r1⟩ := wrs_get h3 hy
        obtain ⟨rl', xt⟩ := rl.write h1 hS (fun z => nomatch z) (.lst xs.dropLast) (.lst us.dropLast) ⟨_, upd_same, paired_dropLast h3⟩
        exact .inl ⟨a, xs, u, rfl, rfl, h2, by rw [wrs_len h3]; exact hu, h _ _ _ _ xt rl' r1⟩
      · exact h.elim
    · exact h.elim
  · rename_i n i
    obtain ⟨u0, rfl, r0⟩ := p1 rs
    obtain rfl := wr_i r0
    split at h
    · rename_i us hS
      split at h
      · rename_i hb
        simp only [Bool.and_eq_true, decide_eq_true_eq] at hb
        split at h
        · rename_i y hy
          obtain ⟨a, h1, rfl⟩ := r
          obtain ⟨xs, h2, h3⟩ := rl.ob n a _ h1 hS
          obtain ⟨u, hu, r1⟩ := wrs_get h3 hy
          have hl := wrs_len h3
          have hcap : us.length ≤ 16000000 := hb.2
          obtain ⟨rl', xt⟩ := rl.write h1 hS (fun z => nomatch z) (.lst (xs.eraseIdx i.toNat)) (.lst (us.eraseIdx i.toNat)) ⟨_, upd_same, paired_erase _ h3⟩
          exact .inr ⟨a, xs, i, i.toNat, u, rfl, rfl, h2, by omega, by omega, seqIndex_of hb.1.1 (by omega), hu, h _ _ _ _ xt rl' r1⟩
        · exact h.elim
      · exact h.elim
    · exact h.elim
  · exact h.elim
end
end Mi
end
section
set_option Elab.async false
set_option linter.all false
set_option maxRecDepth 100000
set_option maxHeartbeats 4000000
namespace Mi
open PySem L2 PyProof.Rows
def okBase : Expr → Bool
  | .Name _ _ => true
  | .Attribute _ _ _ => true
  | .Subscript _ _ _ => true
  | _ => false
theorem base_eq {o : Expr} {n : Str} {env : Env} (h : okBase o = true) : attributeBase o n env (eval o env) = eval o env := by
  cases o <;> first | rfl | cases h
def few (n : Nat) : Bool := decide (n < 29)
theorem form_ok {env : Env} {pos : Pos} {es : List Expr} (hs : es.all noStar = true) (hn : es.length < 29) : methodCallForm (es.length + ([] : List Keyword).length) (backTo pos (starEach es env)) (backToKw pos (keywordEach [] env)) = true := by
  unfold methodCallForm
  rw [star_all hs]
  have : (backToKw pos (keywordEach [] env)) = [] := rfl
  rw [this]
  simp
  omega
theorem meth_eq {o : Expr} {m : Str} {apos pos : Pos} {env : Env} {es : List Expr} (hb : okBase o = true) (hl : (apos.endLine == pos.line) = true) (hs : es.all noStar = true) (hn : es.length < 29) :
    eval (.Call (.Attribute o m apos) es [] pos) env = (do
      let ov ← eval o env
      standAt apos.atName
      let (f, first) ← holding [ov] (getMethod ov m (plainOf o env))
      callWith pos f first (backTo pos (starEach es env)) (backToKw pos (keywordEach [] env))) := by
  show (do
      let ov ← attributeBase o m env (eval o env)
      standAt apos.atName
      methodCall o m apos pos env ov (es.length + ([] : List Keyword).length) (backTo pos (starEach es env)) (backToKw pos (keywordEach [] env))) = _
  rw [base_eq hb]
  have e : (fun ov => (do
      standAt apos.atName
      methodCall o m apos pos env ov (es.length + ([] : List Keyword).length) (backTo pos (starEach es env)) (backToKw pos (keywordEach [] env)) : Sem Value)) = fun ov => (do
      standAt apos.atName
      let (f, first) ← holding [ov] (getMethod ov m (plainOf o env))
      callWith pos f first (backTo pos (starEach es env)) (backToKw pos (keywordEach [] env))) := by
    funext ov
    rw [mcall_line (form_ok hs hn) hl]
  rw [e]
def putA {α : Type} (f : Str) (v : α) : List (Str × α) → List (Str × α)
  | [] => [(f, v)]
  | (g, x) :: r => if g = f then (g, v) :: r else (g, x) :: putA f v r
section
variable {K : PySem.W.Frag} {A : Ad} {μ : List Addr} {F : Hp}
abbrev FR (K : PySem.W.Frag) (A : Ad) (μ : List Addr) (F : Hp) : Str × V → Str × W → Prop := fun p q => p.1 = q.1 ∧ WR K A μ F p.2 q.2
theorem put_is {f : Str} {v : V} {w : W} (r : WR K A μ F v w) : ∀ {gs : List (Str × V)} {fs : List (Str × W)}, Paired (FR K A μ F) gs fs → Paired (FR K A μ F) (putF f v gs) (putA f w fs)
  | _, _, .nil => .cons ⟨rfl, r⟩ .nil
  | _, _, .cons (a := p) (b := q) h t => by
    obtain ⟨g, x⟩ := p
    obtain ⟨g', y⟩ := q
    obtain ⟨e, hx⟩ := h
    have e : g = g' := e
    subst e
    unfold putF putA
    by_cases z : g = f
    · rw [if_pos z, if_pos z]; exact .cons ⟨rfl, r⟩ t
    · rw [if_neg z, if_neg z]; exact .cons ⟨rfl, hx⟩ (put_is r t)
theorem look_is {f : Str} {w : W} : ∀ {gs : List (Str × V)} {fs : List (Str × W)}, Paired (FR K A μ F) gs fs → fs.lookup f = some w → ∃ v, gs.lookup f = some v ∧ WR K A μ F v w
  | _, _, .nil, e => by cases e
  | _, _, .cons (a := p) (b := q) h t, e => by
    obtain ⟨g, x⟩ := p
    obtain ⟨g', y⟩ := q
    obtain ⟨e', hx⟩ := h
    have e' : g = g' := e'
    subst e'
    rw [List.lookup_cons] at e ⊢
    cases z : (f == g) with
    | true => rw [z] at e; cases e; exact ⟨x, rfl, hx⟩
    | false => rw [z] at e; exact look_is t e
theorem look_no {f : Str} : ∀ {gs : List (Str × V)} {fs : List (Str × W)}, Paired (FR K A μ F) gs fs → fs.lookup f = none → gs.lookup f = none
  | _, _, .nil, e => rfl
  | _, _, .cons (a := p) (b := q) h t, e => by
    obtain ⟨g, x⟩ := p
    obtain ⟨g', y⟩ := q
    obtain ⟨e', hx⟩ := h
    have e' : g = g' := e'
    subst e'
    rw [List.lookup_cons] at e ⊢
    cases z : (f == g) with
    | true => rw [z] at e; cases e
    | false => rw [z] at e; exact look_no t e
end
def fldG (k : Nat) (f : Str) (w : W) (S : Sto) : Res W := match w with
  | .c n => (match S[n]? with
    | some (.ins j fs) => if j = k then (match fs.lookup f with
      | some v => .ok v S
      | none => .bad) else .bad
    | _ => .bad)
  | _ => .bad
def setG (k : Nat) (f : Str) (w y : W) (S : Sto) : Res Unit := match w with
  | .c n => (match S[n]? with
    | some (.ins j fs) => if j = k ∧ fs.length < 1000 then .ok () (S.set n (.ins k (putA f y fs))) else .bad
    | _ => .bad)
  | _ => .bad
def isIns (k : Nat) (m : Str) (w : W) (S : Sto) : Bool := match w with
  | .c n => (match S[n]? with
    | some (.ins j fs) => decide (j = k) && (fs.lookup m).isNone
    | _ => false)
  | _ => false
def xMth (k : W → Sto → Bool) (g : W → List W → Sto → Res W) (o : XE) (a : XA) : XE := fun en S => (o en S).andThen fun w S1 => if k w S1 then (a en S1).andThen fun ws S2 => g w ws S2 else .bad
def xMk (k : Nat) (init : List W → Sto → Res W) (a : XA) : XE := fun en S => (a en S).andThen fun ws S1 => (init (.c S1.length :: ws) (S1 ++ [.ins k []])).andThen fun v S2 => match v with
  | .d .none => .ok (.c S1.length) S2
  | _ => .bad
section
variable {X : Cx} {A : Ad} {E : XK} {o e : Expr} {xo xa xb xc : XE} {es : List Expr} {ya : XA} {pos apos : Pos}
theorem Rl.extra {K : PySem.W.Frag} {μ : List Addr} {F H : Hp} {S : Sto} (rl : Rl K A μ F S H) {p : Addr} (hp : H p = none) (u : HO) : Rl K A μ F S (upd H p u) ∧ Xt μ F H μ F (upd H p u) := by
  refine ⟨⟨rl.len, rl.nd, fun a v e => upd_up hp a v (rl.ex a v e), fun a ha => ?_, rl.off, fun n a b h1 h2 => OR.up List.prefix_rfl (fun _ _ h => h) (upd_up hp a) (rl.ob n a b h1 h2), rl.nt, tabs_new rl.tb hp u⟩, ⟨List.prefix_rfl, fun _ _ h => h, fun a v e _ n => ⟨upd_up hp a v e, n, fun z => z⟩⟩⟩
  by_cases h : a = p
  · subst h; exact absurd ha (rl.mp hp)
  · rw [upd_ne h]; exact rl.on a ha
theorem se_fld {k : Nat} {C : Addr} {f : Str} (hk : A.ca k = some C) (cl : Cls X.K C) (na : NoAttr X.K C f) (ho : SE X A E o xo) (hb : okBase o = true) : SE X A E (.Attribute o f pos) (xUn (fldG k f) xo) := by
  obtain ⟨t, p, ho⟩ := ho
  refine ⟨_, pe_fld p (base_eq hb), fun μ F S H σ en Q rl er h => ?_⟩
  refine ho μ F S H σ en _ rl er (PP.bind h fun w S1 μ1 F1 H1 v ew0 t1 rl1 r1 h1 => ?_)
  unfold fldG at h1
  split at h1
  · rename_i n
    split at h1
    · rename_i j fs hS
      split at h1
      · rename_i hj
        subst hj
        split at h1
        · rename_i y hy
          obtain ⟨a, k1, rfl⟩ := r1
          obtain ⟨C', dx, gs, k2, k3, k4⟩ := rl1.ob n a _ k1 hS
          rw [hk] at k3; cases k3
          obtain ⟨z, hz, rz⟩ := look_is k4 hy
          exact ⟨a, C, dx, gs, z, rfl, k2, cl, na, hz, PP.now h1 rl1 rz⟩
        · exact h1.elim
      · exact h1.elim
    · exact h1.elim
  · exact h1.elim
theorem se_mth {T id : String} {m : Str} {kk : W → Sto → Bool} {g : W → List W → Sto → Res W} (pa : PlainAttrs T) (slot : Slot T m id) (hty : typeOf (.builtin id) = pure (.type "method_descriptor")) (hm : MtOK X A E T id g) (hr : RcOK X A T kk) (ho : SE X A E o xo) (ha : SA X A E (e :: es) ya)
    (hb : okBase o = true) (hl : (apos.endLine == pos.line) = true) (hs : (e :: es).all noStar = true) (hn : (e :: es).length < 29) : SE X A E (.Call (.Attribute o m apos) (e :: es) [] pos) (xMth kk g xo ya) := by
  obtain ⟨r, hr', hg⟩ := hm
  obtain ⟨to, po, ho⟩ := ho
  obtain ⟨ta, pa', ha⟩ := ha
  have hs' : noStar e = true ∧ es.all noStar = true := by simpa using hs
  refine ⟨_, pe_bm pa slot hty hr' po pa' (base_eq hb) ?_ hl (star_cons hs'.1) (star_any hs'.2), fun μ F S H σ en Q rl er h => ?_⟩
  · have := form_ok (env := X.env) (pos := pos) hs hn
    unfold methodCallForm at this
    exact this
  refine ho μ F S H σ en _ rl er (PP.bind h fun w S1 μ1 F1 H1 v _ t1 rl1 r1 h1 => ?_)
  split at h1
  · rename_i hk
    refine ⟨hr μ1 F1 S1 H1 v w rl1 r1 hk, ?_⟩
    refine ha μ1 F1 S1 H1 σ en _ rl1 (er.xt t1) (PP.bind h1 fun ws S2 μ2 F2 H2 vs _ t2 rl2 r2 h2 => ?_)
    exact hg μ2 F2 S2 H2 v w vs ws Q rl2 (r1.xt t2) r2 h2
  · exact h1.elim
theorem se_mth0 {T id : String} {m : Str} {kk : W → Sto → Bool} {g : W → List W → Sto → Res W} (pa : PlainAttrs T) (slot : Slot T m id) (hty : typeOf (.builtin id) = pure (.type "method_descriptor")) (hm : MtOK X A E T id g) (hr : RcOK X A T kk) (ho : SE X A E o xo)
    (hb : okBase o = true) (hl : (apos.endLine == pos.line) = true) : SE X A E (.Call (.Attribute o m apos) [] [] pos) (xMth kk g xo xNil) := by
  obtain ⟨r, hr', hg⟩ := hm
  obtain ⟨to, po, ho⟩ := ho
  refine ⟨_, pe_bm0 pa slot hty hr' po (base_eq hb) hl, fun μ F S H σ en Q rl er h => ?_⟩
  refine ho μ F S H σ en _ rl er (PP.bind h fun w S1 μ1 F1 H1 v _ t1 rl1 r1 h1 => ?_)
  split at h1
  · rename_i hk
    exact ⟨hr μ1 F1 S1 H1 v w rl1 r1 hk, hg μ1 F1 S1 H1 v w [] [] Q rl1 r1 .nil h1⟩
  · exact h1.elim
structure MtAt (X : Cx) (A : Ad) (lv : Nat) (run : RunF) (k : Nat) (C : Addr) (m : Str) (i : Nat) (ps : List Str) (f : Addr) (fd : FuncData) : Prop where
  ca : A.ca k = some C
  cl : Cls X.K C
  mt : Meth X.K C m f
  bd : Binds X.K fd ps []
  ok : FnOk X.prog X.w X.K X.mg X.base (CX X.prog X.w) lv f fd ps (spF X.K A ps.length (run i))
def gMet (run : RunF) (i : Nat) : W → List W → Sto → Res W := fun w ws S => run i (w :: ws) S
theorem met_run {k i lv : Nat} {run : RunF} {C : Addr} {m : Str} {ps : List Str} {f : Addr} {fd : FuncData} {ta : TA} (B : MtAt X A lv run k C m i ps f fd)
    (ha : ∀ (μ : List Addr) (F : Hp) (S : Sto) (H : Hp) (σ : L2.St) (en : Ev) (Q : List V → Hp → Prop), Rl X.K A μ F S H → ER X.K A μ F σ en → PP X.K A (WRs X.K A) E μ F H (ya en S) Q → ta σ H Q)
    {to : TE} (ho : ∀ (μ : List Addr) (F : Hp) (S : Sto) (H : Hp) (σ : L2.St) (en : Ev) (Q : VK), Rl X.K A μ F S H → ER X.K A μ F σ en → PP X.K A (WR X.K A) E μ F H (xo en S) Q → to σ H Q)
    {n : Nat} (hl : n + 1 = ps.length) (hya : ∀ en S ws S', ya en S = .ok ws S' → ws.length = n)
    {μ : List Addr} {F : Hp} {S : Sto} {H : Hp} {σ : L2.St} {en : Ev} {Q : VK} (rl : Rl X.K A μ F S H) (er : ER X.K A μ F σ en) (h : PP X.K A (WR X.K A) E μ F H (xMth (isIns k m) (gMet run i) xo ya en S) Q) :
    tMeth C m (spF X.K A ps.length (run i)) [] E to ta σ H Q := by
  refine ho μ F S H σ en _ rl er (PP.bind h fun w S1 μ1 F1 H1 v ew0 t1 rl1 r1 h1 => ?_)
  split at h1
  · rename_i hk
    unfold isIns at hk
    split at hk
    · rename_i c
      split at hk
      · rename_i j fs hS
        simp only [Bool.and_eq_true, decide_eq_true_eq, Option.isNone_iff_eq_none] at hk
        obtain ⟨rfl, hno⟩ := hk
        obtain ⟨a, k1, rfl⟩ := id r1
        obtain ⟨C', dx, gs, k2, k3, k4⟩ := rl1.ob c a _ k1 hS
        rw [B.ca] at k3; cases k3
        refine ⟨a, dx, gs, rfl, k2, look_no k4 hno, ?_⟩
        refine ha μ1 F1 S1 H1 σ en _ rl1 (er.xt t1) (PP.bind h1 fun ws S2 μ2 F2 H2 vs ew t2 rl2 r2 h2 => ?_)
        refine ⟨?_, μ2, F2, S2, _ :: ws, rl2, .cons (r1.xt t2) (by rw [List.append_nil]; exact r2), h2⟩
        rw [List.append_nil, List.length_cons, wrs_len r2, hya _ _ _ _ ew, hl]
      · cases hk
    · cases hk
  · exact h1.elim
theorem se_met {k i lv : Nat} {run : RunF} {C : Addr} {m : Str} {ps : List Str} {f : Addr} {fd : FuncData} (B : MtAt X A lv run k C m i ps f fd) (tk : Takes X fun c d _ H => E c d H) (hr : Room lv X.A) (ho : SE X A E o xo) (ha : SA X A E (e :: es) ya) (hb : okBase o = true) (hl : (apos.endLine == pos.line) = true)
    (hs : (e :: es).all noStar = true) (hn : (e :: es).length < 29) (hp : (e :: es).length + 1 = ps.length) (hya : ∀ en S ws S', ya en S = .ok ws S' → ws.length = (e :: es).length) : SE X A E (.Call (.Attribute o m apos) (e :: es) [] pos) (xMth (isIns k m) (gMet run i) xo ya) := by
  obtain ⟨to, po, ho⟩ := ho
  obtain ⟨ta, pa', ha⟩ := ha
  have hs' : noStar e = true ∧ es.all noStar = true := by simpa using hs
  exact ⟨_, pe_meth (E := E) po B.cl B.mt B.ok hr B.bd .nil (passes_call tk fun _ _ _ _ h => h) pa' (star_cons hs'.1) (star_any hs'.2) (meth_eq hb hl hs hn), fun μ F S H σ en Q rl er h => met_run B ha ho hp hya rl er h⟩
theorem se_met0 {k i lv : Nat} {run : RunF} {C : Addr} {m : Str} {ps : List Str} {f : Addr} {fd : FuncData} (B : MtAt X A lv run k C m i ps f fd) (tk : Takes X fun c d _ H => E c d H) (hr : Room lv X.A) (ho : SE X A E o xo) (hb : okBase o = true) (hl : (apos.endLine == pos.line) = true)
    (hp : 1 = ps.length) : SE X A E (.Call (.Attribute o m apos) [] [] pos) (xMth (isIns k m) (gMet run i) xo xNil) := by
  obtain ⟨to, po, ho⟩ := ho
  exact ⟨_, pe_meth0 (E := E) po B.cl B.mt B.ok hr B.bd .nil (passes_call tk fun _ _ _ _ h => h) (meth_eq hb hl rfl (by decide)), fun μ F S H σ en Q rl er h => met_run (ya := xNil) (n := 0) B (fun μ F S H σ en Q rl er h => PP.now h rl .nil) ho hp (fun en S ws S' h => ya_len_nil en S ws S' h) rl er h⟩
theorem mk_run {k i : Nat} {run : RunF} {C : Addr} {ps : List Str} (hk : A.ca k = some C) {n : Nat} (hl : n + 1 = ps.length) {ws : List W} {vs : List V} (hw : ws.length = n)
    {μ : List Addr} {F : Hp} {S : Sto} {H : Hp} {Q : VK} (rl : Rl X.K A μ F S H) (r : WRs X.K A μ F vs ws)
    (h : PP X.K A (WR X.K A) E μ F H ((run i (.c S.length :: ws) (S ++ [.ins k []])).andThen fun v S2 => match v with | .d .none => .ok (.c S.length) S2 | _ => .bad) Q) :
    ∀ x dx, H x = none → H dx = none → dx ≠ x → spF X.K A ps.length (run i) (.ref x :: (vs ++ [])) (upd (upd H dx (.own x)) x (.ins C dx [])) (fun v H2 => v = .non ∧ Q (.ref x) H2) E := fun x dx hx hd hne => by
  obtain ⟨rl1, xt1⟩ := rl.extra hd (.own x)
  have hx' : upd H dx (.own x) x = none := by rw [upd_ne (Ne.symm hne)]; exact hx
  obtain ⟨rl2, xt2⟩ := rl1.newC hx' (.ins C dx []) (.ins k []) ⟨C, dx, [], upd_same, hk, .nil⟩
  have xt := xt1.trans xt2
  refine ⟨by simp [wrs_len r, hw, hl], μ ++ [x], F, S ++ [.ins k []], .c S.length :: ws, rl2, .cons ⟨x, by rw [← rl.len]; simp, rfl⟩ (by rw [List.append_nil]; exact r.xt xt), ?_⟩
  refine PP.bind (PP.xt xt h) fun v S2 μ2 F2 H2 v' _ t2 rl3 r3 h3 => ?_
  split at h3
  · obtain ⟨r3, _⟩ := r3
    cases r3
    refine ⟨rfl, PP.now h3 rl3 ⟨x, pre_get t2.pre (by rw [← rl.len]; simp), rfl⟩⟩
  · exact h3.elim
theorem se_mk {k i lv : Nat} {run : RunF} {C : Addr} {x : Str} {ps : List Str} {f : Addr} {fd : FuncData} {p : Pos} (hk : A.ca k = some C) (M : Mk X.K C f) (hm : X.mg x = some (.ref C)) (bd : Binds X.K fd ps []) (ok : FnOk X.prog X.w X.K X.mg X.base (CX X.prog X.w) lv f fd ps (spF X.K A ps.length (run i)))
    (tk : Takes X fun c d _ H => E c d H) (hr : Room (lv + 1) X.A) (hg : Gl X x) (ha : SA X A E (e :: es) ya) (hs : (e :: es).all noStar = true) (hp : (e :: es).length + 1 = ps.length) (hdb : (x == ("__debug__" : Str)) = false) (hya : ∀ en S ws S', ya en S = .ok ws S' → ws.length = (e :: es).length) :
    SE X A E (.Call (.Name x p) (e :: es) [] pos) (xMk k (run i) ya) := by
  obtain ⟨ta, pa', ha⟩ := ha
  have hs' : noStar e = true ∧ es.all noStar = true := by simpa using hs
  refine ⟨_, pe_make (E := E) M ok hr hg hm bd .nil (passes_call tk fun _ _ _ _ h => h) pa' hdb (star_cons hs'.1) (star_any hs'.2), fun μ F S H σ en Q rl er h => ?_⟩
  refine ha μ F S H σ en _ rl er (PP.bind h fun ws S1 μ1 F1 H1 vs ew t1 rl1 r1 h1 => ?_)
  exact mk_run hk hp (hya _ _ _ _ ew) rl1 r1 h1

abbrev XG := W → Ev → Sto → Res Ev
def STG (X : Cx) (A : Ad) (E : XK) (tg : Expr) (g : XG) : Prop := ∃ t, PG X tg t ∧ ∀ (μ : List Addr) (F : Hp) (S : Sto) (H : Hp) (σ : L2.St) (en : Ev) (v : V) (w : W) (Q : L2.St → Hp → Prop), Rl X.K A μ F S H → ER X.K A μ F σ en → WR X.K A μ F v w → PP X.K A (ER X.K A) E μ F H (g w en S) Q → t v σ H Q
abbrev XGs := List W → Ev → Sto → Res Ev
def STGs (X : Cx) (A : Ad) (E : XK) (ts : List Expr) (g : XGs) : Prop := ∃ t, PGs X ts t ∧ ∀ (μ : List Addr) (F : Hp) (S : Sto) (H : Hp) (σ : L2.St) (en : Ev) (vs : List V) (ws : List W) (Q : L2.St → Hp → Prop), Rl X.K A μ F S H → ER X.K A μ F σ en → WRs X.K A μ F vs ws → PP X.K A (ER X.K A) E μ F H (g ws en S) Q → t vs σ H Q
def gNm (i : Nat) : XG := fun w en S => .ok (en.set i (some w)) S
def gsNil : XGs := fun ws en S => match ws with
  | [] => .ok en S
  | _ => .bad
def gsCons (g : XG) (r : XGs) : XGs := fun ws en S => match ws with
  | w :: ws => (g w en S).andThen fun en1 S1 => r ws en1 S1
  | [] => .bad
def gTp (n : Nat) (g : XGs) : XG := fun w en S => match seqOf S w with
  | some (_, ws) => if ws.length = n then g ws en S else .bad
  | none => .bad
def gSb (set : W → W → W → Sto → Res Unit) (o i : XE) : XG := fun w en S => (o en S).andThen fun x S1 => (i en S1).andThen fun y S2 => (set x y w S2).andThen fun _ S3 => .ok en S3
def gFd (k : Nat) (f : Str) (o : XE) : XG := fun w en S => (o en S).andThen fun x S1 => (setG k f x w S1).andThen fun _ S2 => .ok en S2
def kput (k : Key) (v : W) (kvs : List (Key × W)) : List (Key × W) :=
  if (kvs.any fun p => decide (p.1 = k)) = true then kvs.map (fun p => if p.1 = k then (p.1, v) else p) else kvs ++ [(k, v)]
def setIx (o i v : W) (S : Sto) : Res Unit := match o with
  | .c n => (match S[n]? with
    | some (.lst ws) => (match i with
      | .d (.int j) => (match ixN ws.length j with
        | some m => .ok () (S.set n (.lst (ws.set m v)))
        | none => .bad)
      | _ => .bad)
    | some (.dic kvs) => (match i with
      | .d x => (match keyOf x with
        | some k => if kvs.length < cap then .ok () (S.set n (.dic (kput k v kvs))) else .bad
        | none => .bad)
      | _ => .bad)
    | _ => .bad)
  | _ => .bad
theorem stg_nm {i : Nat} {x : Str} (hN : X.N.Nodup) (hi : X.N[i]? = some x) (hx : Loc X.env.scope x) (hf : X.fn x = true ∨ X.env.scope.names.lookup x = some .local) : STG X A E (.Name x pos) (gNm i) :=
  ⟨_, pg_name hN hi hx hf, fun μ F S H σ en v w Q rl er r h => PP.now h rl (er.set i r)⟩
theorem stgs_nil : STGs X A E [] gsNil := ⟨_, pgs_nil, fun μ F S H σ en vs ws Q rl er r h => by
  cases r with
  | nil => exact ⟨rfl, PP.now h rl er⟩
  | cons => exact h.elim⟩
theorem each_cons {e : Expr} {es : List Expr} {env : Env} (h : noStar e = true) : assignEach (e :: es) env = (false, assign e env) :: assignEach es env := by
  cases e <;> first | rfl | cases h
theorem each_len {env : Env} : ∀ {es : List Expr}, es.all noStar = true → (assignEach es env).length = es.length
  | [], _ => rfl
  | e :: es, h => by
    have h' : noStar e = true ∧ es.all noStar = true := by simpa using h
    rw [each_cons h'.1, List.length_cons, each_len h'.2, List.length_cons]
theorem each_find {env : Env} : ∀ {es : List Expr}, es.all noStar = true → (assignEach es env).findIdx? (·.1) = none
  | [], _ => rfl
  | e :: es, h => by
    have h' : noStar e = true ∧ es.all noStar = true := by simpa using h
    rw [each_cons h'.1, List.findIdx?_cons]
    simp [each_find h'.2]
theorem stgs_cons {g : XG} {r : XGs} (h1 : STG X A E e g) (h2 : STGs X A E es r) (hs : noStar e = true) : STGs X A E (e :: es) (gsCons g r) := by
  obtain ⟨t, p, h1⟩ := h1
  obtain ⟨u, q, h2⟩ := h2
  refine ⟨_, pgs_cons p q (by rw [each_cons hs]; rfl), fun μ F S H σ en vs ws Q rl er r h => ?_⟩
  cases r with
  | nil => exact h.elim
  | cons a b =>
    refine ⟨_, _, rfl, h1 μ F S H σ en _ _ _ rl er a (PP.bind h fun en1 S1 μ1 F1 H1 σ1 _ t1 rl1 r1 hh => ?_)⟩
    exact h2 μ1 F1 S1 H1 σ1 en1 _ _ Q rl1 r1 (WRs.xt t1 b) hh
theorem pg_or {tg : Expr} {t u : TG} (h : PG X tg t) (k : PG X tg u) : PG X tg (fun v σ H Q => t v σ H Q ∨ u v σ H Q) := ⟨fun pins s σ H v u Q I r q => by
  rcases q with q | q
  · exact h.run pins s σ H v u Q I r q
  · exact k.run pins s σ H v u Q I r q⟩
theorem stg_tp {g : XGs} {k : Nat} (hc : X.calm = true) (h : STGs X A E es g) (hs : es.all noStar = true) : STG X A E (.Tuple es k pos) (gTp es.length g) := by
  obtain ⟨t, p, h⟩ := h
  refine ⟨_, pg_or (pg_tup hc p (each_len hs) (each_find hs)) (pg_lst hc p (each_len hs) (each_find hs)), fun μ F S H σ en v w Q rl er r q => ?_⟩
  unfold gTp at q
  split at q
  · rename_i b ws es'
    split at q
    · rename_i hl
      obtain ⟨a, vs, rfl, sv, wv⟩ := seq_is rl r es'
      rcases sv.any with z | z
      · exact .inr ⟨a, vs, rfl, z, by rw [wrs_len wv, hl], h μ F S H σ en vs ws Q rl er wv q⟩
      · exact .inl ⟨a, vs, rfl, z, by rw [wrs_len wv, hl], h μ F S H σ en vs ws Q rl er wv q⟩
    · exact q.elim
  · exact q.elim
def SetOK (X : Cx) (A : Ad) (E : XK) (g : W → W → W → Sto → Res Unit) : Prop := ∃ t, PSet X t ∧ ∀ (μ : List Addr) (F : Hp) (S : Sto) (H : Hp) (o i v : V) (x y w : W) (Q : Hp → Prop), Rl X.K A μ F S H → WR X.K A μ F o x → WR X.K A μ F i y → WR X.K A μ F v w → PP X.K A (fun _ _ (_ : Unit) _ => True) E μ F H (g x y w S) (fun _ H' => Q H') → t o i v H Q
theorem pset_dict (hu : X.A.units + 1 < cLine) : PSet X (fun o i v H Q => ∃ a H', o = .ref a ∧ DPut H a i v H' ∧ Q H') := by
  intro pins s σ H o i v ov iv u Q I ro ri rv h
  obtain ⟨a, H', rfl, g, q⟩ := h
  cases ro
  exact d_setItem hu I g ri rv fun s' I' => ⟨H', I', q⟩
theorem pset_or {t u : TSet} (h : PSet X t) (k : PSet X u) : PSet X (fun o i v H Q => t o i v H Q ∨ u o i v H Q) := by
  intro pins s σ H o i v ov iv z Q I ro ri rv q
  rcases q with q | q
  · exact h pins s σ H o i v ov iv z Q I ro ri rv q
  · exact k pins s σ H o i v ov iv z Q I ro ri rv q
abbrev KR (K : PySem.W.Frag) (A : Ad) (μ : List Addr) (F : Hp) : Key × V → Key × W → Prop := fun p q => p.1 = q.1 ∧ WR K A μ F p.2 q.2
theorem kput_is {K : PySem.W.Frag} {μ : List Addr} {F : Hp} {k : Key} {v : V} {w : W} (r : WR K A μ F v w) {ps : List (Key × V)} {kvs : List (Key × W)} (h : Paired (KR K A μ F) ps kvs) : Paired (KR K A μ F) (putK ps k v) (kput k w kvs) := by
  have ha : (ps.any fun kv => decide (kv.1 = k)) = (kvs.any fun p => decide (p.1 = k)) := by
    induction h with
    | nil => rfl
    | cons hpq t ih => rw [List.any_cons, List.any_cons, ih, hpq.1]
  have hm : Paired (KR K A μ F) (ps.map fun kv => if kv.1 = k then (kv.1, v) else kv) (kvs.map fun p => if p.1 = k then (p.1, w) else p) := by
    clear ha
    induction h with
    | nil => exact .nil
    | @cons p q l m hpq t ih =>
      rw [List.map_cons, List.map_cons]
      refine .cons ?_ ih
      by_cases z : p.1 = k
      · rw [if_pos z, if_pos (hpq.1 ▸ z)]; exact ⟨hpq.1, r⟩
      · rw [if_neg z, if_neg (fun y => z (hpq.1.trans y))]; exact hpq
  unfold putK kput
  rw [ha]
  split
  · exact hm
  · exact Paired.snoc h ⟨rfl, r⟩
theorem paired_set {R : V → W → Prop} {v : V} {w : W} (r : R v w) : ∀ {vs : List V} {ws : List W} (i : Nat), Paired R vs ws → Paired R (vs.set i v) (ws.set i w)
  | _, _, _, .nil => .nil
  | _, _, 0, .cons _ t => .cons r t
  | _, _, i + 1, .cons q t => .cons q (paired_set r i t)
theorem ok_set (hu : X.A.units + 1 < cLine) : SetOK X A E setIx := by
  refine ⟨_, pset_or set_list (pset_dict hu), fun μ F S H o i v x y w Q rl ro ri rv h => ?_⟩
  unfold setIx at h
  split at h
  · rename_i n
    split at h
    · rename_i ws hS
      split at h
      · rename_i j
        split at h
        · rename_i m hm
          obtain ⟨a, h1, rfl⟩ := ro
          obtain rfl := wr_i ri
          obtain ⟨xs, h2, h3⟩ := rl.ob n a _ h1 hS
          obtain ⟨rl', xt⟩ := rl.write h1 hS (fun z => nomatch z) (.lst (xs.set m v)) (.lst (ws.set m w)) ⟨_, upd_same, paired_set rv m h3⟩
          exact .inl ⟨a, xs, j, m, rfl, rfl, h2, by rw [wrs_len h3]; exact hm, h _ _ _ () xt rl' trivial⟩
        · exact h.elim
      · exact h.elim
    · rename_i kvs hS
      split at h
      · rename_i x0
        split at h
        · rename_i k ek
          split at h
          · rename_i hl
            obtain ⟨a, h1, rfl⟩ := ro
            obtain ⟨ps, h2, h3⟩ := rl.ob n a _ h1 hS
            have ev := key_is ri.1 ek
            subst ev
            obtain ⟨rl', xt⟩ := rl.write h1 hS (fun z => nomatch z) (.dK (putK ps k v)) (.dic (kput k w kvs)) ⟨_, upd_same, kput_is rv h3⟩
            exact .inr ⟨a, _, rfl, DPut.k h2 (by rw [Paired.length h3]; exact cap_lt hl), h _ _ _ () xt rl' trivial⟩
          · exact h.elim
        · exact h.elim
      · exact h.elim
    · exact h.elim
  · exact h.elim
theorem stg_sub {set : W → W → W → Sto → Res Unit} {i : Expr} {xi : XE} (hs : SetOK X A E set) (ho : SE X A E o xo) (hi : SE X A E i xi) (hn : notSlice i = true) : STG X A E (.Subscript o i pos) (gSb set xo xi) := by
  obtain ⟨t, p, hs⟩ := hs
  obtain ⟨to, po, ho⟩ := ho
  obtain ⟨ti, pi, hi⟩ := hi
  refine ⟨_, pg_sub po pi p (by intro v; cases i <;> first | rfl | cases hn), fun μ F S H σ en v w Q rl er r h => ?_⟩
  refine ho μ F S H σ en _ rl er (PP.bind h fun x S1 μ1 F1 H1 v1 _ t1 rl1 r1 h1 => ?_)
  refine hi μ1 F1 S1 H1 σ en _ rl1 (er.xt t1) (PP.bind h1 fun y S2 μ2 F2 H2 v2 _ t2 rl2 r2 h2 => ?_)
  refine hs μ2 F2 S2 H2 v1 v2 v x y w _ rl2 (r1.xt t2) r2 ((r.xt t1).xt t2) (PP.bind h2 fun _ S3 μ3 F3 H3 _ _ t3 rl3 _ h3 => ?_)
  exact PP.now h3 rl3 (er.xt ((t1.trans t2).trans t3))
def gFld (K : PySem.W.Frag) (to : TE) (f : Str) : TG := fun v σ H Q => to σ H fun x H2 => ∃ a C dx fs, x = .ref a ∧ H2 a = some (.ins C dx fs) ∧ Cls K C ∧ NoAttr K C f ∧ fs.length < 1000 ∧ Q σ (upd H2 a (.ins C dx (putF f v fs)))
theorem pg_fld {f : Str} {to : TE} (ho : PE X o to) : PG X (.Attribute o f pos) (gFld X.K to f) := by
  refine ⟨fun pins s σ H v u Q I r h => ?_⟩
  show wpAny (model X.prog X.w) X.A (do
    let ov ← holding [u] (eval o X.env)
    standAt pos.atName
    holding [u, ov] (setAttr ov f u)
    release [u, ov] []) _ _ _
  refine wpAny_bind (wpAny_holding (thn (ho.run pins s σ H _ I h) fun ov s1 ⟨x, H1, I1, r1, a, C, dx, fs, ex, ea, c, n, l, q⟩ => ?_))
  subst ex
  obtain rfl : ov = Value.ref a := r1
  refine wpAny_bind (wpAny_standAt (wpAny_bind (wpAny_holding (setattr_ok I1 ea c n l r fun s3 I3 => ?_))))
  exact wpAny_release ⟨σ, _, I3, q⟩
theorem stg_fld {k : Nat} {C : Addr} {f : Str} (hk : A.ca k = some C) (cl : Cls X.K C) (na : NoAttr X.K C f) (ho : SE X A E o xo) : STG X A E (.Attribute o f pos) (gFd k f xo) := by
  obtain ⟨to, po, ho⟩ := ho
  refine ⟨_, pg_fld po, fun μ F S H σ en v w Q rl er r h => ?_⟩
  refine ho μ F S H σ en _ rl er (PP.bind h fun x S1 μ1 F1 H1 v1 ew0 t1 rl1 r1 h1 => ?_)
  unfold setG at h1
  split at h1
  · rename_i n
    split at h1
    · rename_i j fs hS
      split at h1
      · rename_i hj
        obtain ⟨rfl, hl⟩ := hj
        obtain ⟨a, k1, rfl⟩ := r1
        obtain ⟨C', dx, gs, k2, k3, k4⟩ := rl1.ob n a _ k1 hS
        rw [hk] at k3; cases k3
        obtain ⟨rl', xt⟩ := rl1.write k1 hS (fun z => nomatch z) (.ins C dx (putF f v gs)) (.ins j (putA f w fs)) ⟨C, dx, _, upd_same, hk, put_is (r.xt t1) k4⟩
        exact ⟨a, C, dx, gs, rfl, k2, cl, na, by rw [Paired.length k4]; exact hl, PP.now (PP.xt xt h1) rl' (er.xt (t1.trans xt))⟩
      · exact h1.elim
    · exact h1.elim
  · exact h1.elim
end
end Mi
end
section
set_option Elab.async false
set_option linter.all false
set_option maxRecDepth 100000
set_option maxHeartbeats 4000000
namespace Mi
open PySem L2 PyProof.Rows
inductive Out where
  | nx (en : Ev) (S : Sto) | rt (w : W) (S : Sto) | bk (en : Ev) (S : Sto) | ct (en : Ev) (S : Sto) | exc (x : Nat) (S : Sto) | bad
abbrev XS := Ev → Sto → Out
def Res.thenO {α : Type} (r : Res α) (k : α → Sto → Out) : Out := match r with
  | .ok a S => k a S
  | .exc x S => .exc x S
  | .bad => .bad
def PD (K : PySem.W.Frag) (A : Ad) (E : XK) (μ : List Addr) (F H : Hp) (o : Out) (D : Ends) : Prop := match o with
  | .nx en S' => ∀ μ' F' H' σ', Xt μ F H μ' F' H' → Rl K A μ' F' S' H' → ER K A μ' F' σ' en → D.nx σ' H'
  | .bk en S' => ∀ μ' F' H' σ', Xt μ F H μ' F' H' → Rl K A μ' F' S' H' → ER K A μ' F' σ' en → D.bk σ' H'
  | .ct en S' => ∀ μ' F' H' σ', Xt μ F H μ' F' H' → Rl K A μ' F' S' H' → ER K A μ' F' σ' en → D.ct σ' H'
  | .rt w S' => ∀ μ' F' H' v, Xt μ F H μ' F' H' → Rl K A μ' F' S' H' → WR K A μ' F' v w → D.rt v H'
  | .exc x S' => ∀ μ' F' H', Xt μ F H μ' F' H' → Rl K A μ' F' S' H' → ∃ c, A.xa x = some c ∧ E (.ref c) none H'
  | .bad => False
section
variable {K : PySem.W.Frag} {A : Ad} {E : XK} {μ μ' : List Addr} {F H F' H' : Hp} {S : Sto}
theorem PD.xt {o : Out} {D : Ends} (t : Xt μ F H μ' F' H') (h : PD K A E μ F H o D) : PD K A E μ' F' H' o D := by
  cases o with
  | nx en S' => exact fun μ2 F2 H2 σ t2 rl r => h μ2 F2 H2 σ (t.trans t2) rl r
  | bk en S' => exact fun μ2 F2 H2 σ t2 rl r => h μ2 F2 H2 σ (t.trans t2) rl r
  | ct en S' => exact fun μ2 F2 H2 σ t2 rl r => h μ2 F2 H2 σ (t.trans t2) rl r
  | rt w S' => exact fun μ2 F2 H2 v t2 rl r => h μ2 F2 H2 v (t.trans t2) rl r
  | exc x S' => exact fun μ2 F2 H2 t2 rl => h μ2 F2 H2 (t.trans t2) rl
  | bad => exact h
theorem PD.bind {α β : Type} {R1 : List Addr → Hp → β → α → Prop} {r : Res α} {k : α → Sto → Out} {D : Ends} {Q1 : β → Hp → Prop} (h : PD K A E μ F H (r.thenO k) D)
    (step : ∀ a S1 μ1 F1 H1 v, r = .ok a S1 → Xt μ F H μ1 F1 H1 → Rl K A μ1 F1 S1 H1 → R1 μ1 F1 v a → PD K A E μ1 F1 H1 (k a S1) D → Q1 v H1) : PP K A R1 E μ F H r Q1 := by
  cases r with
  | ok a S1 => exact fun μ1 F1 H1 v t rl rr => step a S1 μ1 F1 H1 v rfl t rl rr (PD.xt (o := k a S1) t h)
  | exc x S1 => exact h
  | bad => exact h
theorem PD.now {en : Ev} {σ : L2.St} {D : Ends} (h : PD K A E μ F H (.nx en S) D) (rl : Rl K A μ F S H) (r : ER K A μ F σ en) : D.nx σ H := h μ F H σ (Xt.refl ..) rl r
theorem PD.rtn {w : W} {v : V} {D : Ends} (h : PD K A E μ F H (.rt w S) D) (rl : Rl K A μ F S H) (r : WR K A μ F v w) : D.rt v H := h μ F H v (Xt.refl ..) rl r
end
def SS (X : Cx) (A : Ad) (E : XK) (st : Stmt) (s : XS) : Prop := ∃ t, PS X st t ∧ ∀ (μ : List Addr) (F : Hp) (S : Sto) (H : Hp) (σ : L2.St) (en : Ev) (D : Ends), Rl X.K A μ F S H → ER X.K A μ F σ en → PD X.K A E μ F H (s en S) D → t D σ H
def SSs (X : Cx) (A : Ad) (E : XK) (st : List Stmt) (s : XS) : Prop := ∃ t, PSs X st t ∧ ∀ (μ : List Addr) (F : Hp) (S : Sto) (H : Hp) (σ : L2.St) (en : Ev) (D : Ends), Rl X.K A μ F S H → ER X.K A μ F σ en → PD X.K A E μ F H (s en S) D → t D σ H
def sNil : XS := fun en S => .nx en S
def sSeq (s r : XS) : XS := fun en S => match s en S with
  | .nx en1 S1 => r en1 S1
  | o => o
def sAsg (g : XG) (x : XE) : XS := fun en S => (x en S).thenO fun w S1 => (g w en S1).thenO fun en1 S2 => .nx en1 S2
def sPar (g : XGs) (a : XA) : XS := fun en S => (a en S).thenO fun ws S1 => (g ws en S1).thenO fun en1 S2 => .nx en1 S2
def sExp (x : XE) : XS := fun en S => (x en S).thenO fun _ S1 => .nx en S1
def sRet (x : XE) : XS := fun en S => (x en S).thenO fun w S1 => .rt w S1
def sRetN : XS := fun _ S => .rt (.d .none) S
def sIf (c : XT) (a b : XS) : XS := fun en S => (c en S).thenO fun k S1 => if k then a en S1 else b en S1
def sBrk : XS := fun en S => .bk en S
def sCnt : XS := fun en S => .ct en S
def whileD (c : XT) (b : XS) : Nat → Ev → Sto → Out
  | 0, _, _ => .bad
  | m + 1, en, S => (c en S).thenO fun k S1 => if k then (match b en S1 with
    | .nx en2 S2 => whileD c b m en2 S2
    | .ct en2 S2 => whileD c b m en2 S2
    | .bk en2 S2 => .nx en2 S2
    | o => o) else .nx en S1
def forD (g : XG) (b : XS) : List W → Ev → Sto → Out
  | [], en, S => .nx en S
  | w :: ws, en, S => (g w en S).thenO fun en1 S1 => match b en1 S1 with
    | .nx en2 S2 => forD g b ws en2 S2
    | .ct en2 S2 => forD g b ws en2 S2
    | .bk en2 S2 => .nx en2 S2
    | o => o
def forC (g : XG) (b : XS) (n : Nat) : Nat → Nat → Ev → Sto → Out
  | 0, _, _, _ => .bad
  | m + 1, i, en, S => match S[n]? with
    | some (.lst ws) => (match ws[i]? with
      | none => .nx en S
      | some w => (g w en S).thenO fun en1 S1 => match b en1 S1 with
        | .nx en2 S2 => forC g b n m (i + 1) en2 S2
        | .ct en2 S2 => forC g b n m (i + 1) en2 S2
        | .bk en2 S2 => .nx en2 S2
        | o => o)
    | _ => .bad
inductive ItV where
  | fx (ws : List W) | cel (n : Nat)
abbrev XI := Ev → Sto → Res ItV
def signs (z : Str) : List W := z.cps.toList.map fun c => .d (.str ⟨#[c]⟩)
def itG (w : W) (S : Sto) : Res ItV := match w with
  | .d (.list ds) => .ok (.fx (ds.map .d)) S
  | .d (.tuple ds) => .ok (.fx (ds.map .d)) S
  | .d (.str z) => .ok (.fx (signs z)) S
  | .r i j c => (match rgN i j c with
    | some n => .ok (.fx ((rgL i c n).map .d)) S
    | none => .bad)
  | .fs is => .ok (.fx (is.map .f)) S
  | .c n => (match S[n]? with
    | some (.lst _) => .ok (.cel n) S
    | _ => .bad)
  | _ => .bad
def iVal (x : XE) : XI := fun en S => (x en S).andThen itG
def pairW (a b : W) : Option W := match a, b with
  | .d x, .d y => some (.d (.tuple [x, y]))
  | _, _ => none
def zipW : List W → List W → Option (List W)
  | .d x :: xs, .d y :: ys => (match zipW xs ys with
    | some r => some (.d (.tuple [x, y]) :: r)
    | none => none)
  | [], _ => some []
  | _ :: _, [] => some []
  | _, _ => none
def frzS (S : Sto) : W → Option (Bool × List W)
  | .d (.list ds) => some (true, ds.map .d)
  | .d (.tuple ds) => some (false, ds.map .d)
  | _ => none
def iZipX (a b : XE) : XI := fun en S => (a en S).andThen fun x S1 => (b en S1).andThen fun y S2 => match frzS S2 x, frzS S2 y with
  | some (p, xs), some (q, ys) => if p = q then (match zipW xs ys with
    | some r => .ok (.fx r) S2
    | none => .bad) else .bad
  | _, _ => .bad
def iEnuX (a : XE) : XI := fun en S => (a en S).andThen fun x S1 => match frzS S1 x with
  | some (true, xs) => (match zipW ((List.range xs.length).map fun i => .d (.int (i : Nat))) xs with
    | some r => .ok (.fx r) S1
    | none => .bad)
  | _ => .bad
def sFor (fuel : Nat) (g : XG) (i : XI) (b : XS) : XS := fun en S => (i en S).thenO fun v S1 => match v with
  | .fx ws => forD g b ws en S1
  | .cel n => forC g b n fuel 0 en S1
structure Sup (K : PySem.W.Frag) (A : Ad) (μ : List Addr) (F : Hp) (J : L2.It) (ws : List W) : Prop where
  go : ∀ (μ' : List Addr) (F' : Hp) (S' : Sto) (H' : Hp) (i : Nat) (w : W), μ <+: μ' → (∀ a o, F a = some o → F' a = some o) → Rl K A μ' F' S' H' → ws[i]? = some w →
    J.go i H' ∧ ∀ x H2, J.yld i H' x H2 → ∃ F2, Xt μ' F' H' μ' F2 H2 ∧ Rl K A μ' F2 S' H2 ∧ WR K A μ' F2 x w
  stop : ∀ (μ' : List Addr) (F' : Hp) (S' : Sto) (H' : Hp), μ <+: μ' → (∀ a o, F a = some o → F' a = some o) → Rl K A μ' F' S' H' → J.stop ws.length H'
def IR (K : PySem.W.Frag) (A : Ad) : List Addr → Hp → L2.It → ItV → Prop := fun μ F J v => match v with
  | .fx ws => Sup K A μ F J ws
  | .cel n => ∃ a, μ[n]? = some a ∧ J = Itl K a
def SI (X : Cx) (A : Ad) (E : XK) (tg e : Expr) (x : XI) : Prop := ∃ wi, PI X tg e wi ∧ ∀ (μ : List Addr) (F : Hp) (S : Sto) (H : Hp) (σ : L2.St) (en : Ev) (R : L2.It → Hp → Prop), Rl X.K A μ F S H → ER X.K A μ F σ en → PP X.K A (IR X.K A) E μ F H (x en S) R → wi σ H R
section
variable {X : Cx} {A : Ad} {E : XK} {tg o e c a b : Expr} {xo xa xb xc : XE} {es : List Expr} {ya : XA} {pos apos : Pos} {st : Stmt} {rest body : List Stmt} {s r : XS} {g : XG} {ct : XT} {ii : XI}
theorem sss_nil : SSs X A E [] sNil := ⟨_, pss_nil, fun μ F S H σ en D rl er h => PD.now h rl er⟩
theorem sss_cons (h : SS X A E st s) (k : SSs X A E rest r) : SSs X A E (st :: rest) (sSeq s r) := by
  obtain ⟨t, p, h⟩ := h
  obtain ⟨u, q, k⟩ := k
  refine ⟨_, pss_cons p q, fun μ F S H σ en D rl er hd => ?_⟩
  refine h μ F S H σ en { D with nx := u D } rl er ?_
  unfold sSeq at hd
  cases e : s en S with
  | nx en1 S1 =>
    rw [e] at hd
    exact fun μ' F' H' σ' t' rl' er' => k μ' F' S1 H' σ' en1 D rl' er' (PD.xt t' hd)
  | bk en1 S1 => rw [e] at hd; exact hd
  | ct en1 S1 => rw [e] at hd; exact hd
  | rt w S1 => rw [e] at hd; exact hd
  | exc x S1 => rw [e] at hd; exact hd
  | bad => rw [e] at hd; exact hd
theorem ss_set {i : Nat} {x : Str} {pos' : Pos} (hN : X.N.Nodup) (hi : X.N[i]? = some x) (hx : Loc X.env.scope x) (hf : X.fn x = true ∨ X.env.scope.names.lookup x = some .local) (he : SE X A E e xa) (hs : swapsWith e (some (.Name x pos')) pos.line X.env = pure false) :
    SS X A E (.Assign [.Name x pos'] e pos) (sAsg (gNm i) xa) := by
  obtain ⟨t, p, he⟩ := he
  refine ⟨_, ps_set hN hi hx p hs hf, fun μ F S H σ en D rl er h => ?_⟩
  refine he μ F S H σ en _ rl er (PD.bind h fun w S1 μ1 F1 H1 v _ t1 rl1 r1 h1 => ?_)
  exact PD.now h1 rl1 ((er.xt t1).set i r1)
theorem ss_asg (hg : STG X A E tg g) (he : SE X A E e xa) (hs : swapsWithSole [tg] e pos.line X.env = pure false) (hw : swappedStores [tg] e X.env = pure none) (h1 : (assignEach [tg] X.env).map (·.2) = [assign tg X.env]) :
    SS X A E (.Assign [tg] e pos) (sAsg g xa) := by
  obtain ⟨t, p, he⟩ := he
  obtain ⟨u, q, hg⟩ := hg
  refine ⟨_, ps_asg p q hs hw h1, fun μ F S H σ en D rl er h => ?_⟩
  refine he μ F S H σ en _ rl er (PD.bind h fun w S1 μ1 F1 H1 v _ t1 rl1 r1 h1 => ?_)
  refine hg μ1 F1 S1 H1 σ en v w _ rl1 (er.xt t1) r1 (PD.bind h1 fun en1 S2 μ2 F2 H2 σ2 _ t2 rl2 r2 h2 => ?_)
  exact PD.now h2 rl2 r2
theorem ss_par {ts : List Expr} {gs : XGs} {k k2 : Nat} {p1 p2 : Pos} (hc : X.calm = true) (hg : STGs X A E ts gs) (ha : SA X A E es ya) (hst : ts.all noStar = true) (hl : es.length = ts.length) (hcap : es.length ≤ 1000) (hya : ∀ en S ws S', ya en S = .ok ws S' → ws.length = es.length)
    (hs : swapsWithSole [.Tuple ts k p1] (.Tuple es k2 p2) pos.line X.env = pure false) (hw : swappedStores [.Tuple ts k p1] (.Tuple es k2 p2) X.env = pure none) :
    SS X A E (.Assign [.Tuple ts k p1] (.Tuple es k2 p2) pos) (sPar gs ya) := by
  obtain ⟨t, p, ha⟩ := ha
  obtain ⟨u, q, hg⟩ := hg
  refine ⟨_, ps_asg (pe_tup p) (pg_tup hc q (each_len hst) (each_find hst)) hs hw rfl, fun μ F S H σ en D rl er h => ?_⟩
  refine ha μ F S H σ en _ rl er (PD.bind h fun ws S1 μ1 F1 H1 vs ew t1 rl1 r1 h1 => ?_)
  have hlen : vs.length = es.length := by rw [wrs_len r1, hya _ _ _ _ ew]
  refine ⟨by rw [hlen, sizeLine_eq]; omega, fun p0 hp0 => ?_⟩
  obtain ⟨rl', xt⟩ := rl1.extra hp0 (.tup vs)
  refine ⟨p0, vs, rfl, .inl (.inl upd_same), by rw [hlen, hl], ?_⟩
  refine hg μ1 F1 S1 _ σ en vs ws _ rl' (er.xt t1) r1 (PD.bind (PD.xt xt h1) fun en1 S2 μ2 F2 H2 σ2 _ t2 rl2 r2 h2 => ?_)
  exact PD.now h2 rl2 r2
theorem ss_par2 {i j : Nat} {x y : Str} {px py pt pt2 : Pos} {kt k2 : Nat} (hc : X.calm = true) (hN : X.N.Nodup) (hi : X.N[i]? = some x) (hj : X.N[j]? = some y) (hij : i ≠ j) (hx : X.env.scope.names.lookup x = some .local) (hy : X.env.scope.names.lookup y = some .local) (ha : SA X A E [a, b] ya)
    (hw : swappedStores [.Tuple [.Name x px, .Name y py] kt pt] (.Tuple [a, b] k2 pt2) X.env = pure (some [x, y])) (hs : swapsWithSole [.Tuple [.Name x px, .Name y py] kt pt] (.Tuple [a, b] k2 pt2) pos.line X.env = pure false) :
    SS X A E (.Assign [.Tuple [.Name x px, .Name y py] kt pt] (.Tuple [a, b] k2 pt2) pos) (sPar (gsCons (gNm i) (gsCons (gNm j) gsNil)) ya) := by
  obtain ⟨t, p, ha⟩ := ha
  refine ⟨_, ps_par hc hN hi hj hij hx hy p hw hs, fun μ F S H σ en D rl er h => ?_⟩
  refine ha μ F S H σ en _ rl er (PD.bind h fun ws S1 μ1 F1 H1 vs ew t1 rl1 r1 h1 => ?_)
  cases r1 with
  | nil => exact h1.elim
  | cons r1 r => cases r with
    | nil => exact h1.elim
    | cons r2 r => cases r with
      | nil => exact ⟨_, _, rfl, PD.now h1 rl1 (((er.xt t1).set i r1).set j r2)⟩
      | cons => exact h1.elim
theorem ss_par3 {i j l : Nat} {x y z : Str} {px py pz pt pt2 : Pos} {kt k2 : Nat} (hc : X.calm = true) (hN : X.N.Nodup) (hi : X.N[i]? = some x) (hj : X.N[j]? = some y) (hl : X.N[l]? = some z) (hij : i ≠ j) (hil : i ≠ l) (hjl : j ≠ l) (hx : X.env.scope.names.lookup x = some .local) (hy : X.env.scope.names.lookup y = some .local) (hz : X.env.scope.names.lookup z = some .local) (ha : SA X A E [a, b, c] ya)
    (hw : swappedStores [.Tuple [.Name x px, .Name y py, .Name z pz] kt pt] (.Tuple [a, b, c] k2 pt2) X.env = pure (some [x, y, z])) (hs : swapsWithSole [.Tuple [.Name x px, .Name y py, .Name z pz] kt pt] (.Tuple [a, b, c] k2 pt2) pos.line X.env = pure false) :
    SS X A E (.Assign [.Tuple [.Name x px, .Name y py, .Name z pz] kt pt] (.Tuple [a, b, c] k2 pt2) pos) (sPar (gsCons (gNm i) (gsCons (gNm j) (gsCons (gNm l) gsNil))) ya) := by
  obtain ⟨t, p, ha⟩ := ha
  refine ⟨_, ps_par3 hc hN hi hj hl hij hil hjl hx hy hz p hw hs, fun μ F S H σ en D rl er h => ?_⟩
  refine ha μ F S H σ en _ rl er (PD.bind h fun ws S1 μ1 F1 H1 vs ew t1 rl1 r1 h1 => ?_)
  cases r1 with
  | nil => exact h1.elim
  | cons r1 r => cases r with
    | nil => exact h1.elim
    | cons r2 r => cases r with
      | nil => exact h1.elim
      | cons r3 r => cases r with
        | nil => exact ⟨_, _, _, rfl, PD.now h1 rl1 ((((er.xt t1).set i r1).set j r2).set l r3)⟩
        | cons => exact h1.elim
theorem ss_exp (he : SE X A E e xa) (hs : swapsWith e none pos.line X.env = pure false) : SS X A E (.Expr e pos) (sExp xa) := by
  obtain ⟨t, p, he⟩ := he
  refine ⟨_, ps_expr p hs, fun μ F S H σ en D rl er h => ?_⟩
  refine he μ F S H σ en _ rl er (PD.bind h fun w S1 μ1 F1 H1 v _ t1 rl1 r1 h1 => ?_)
  exact PD.now h1 rl1 (er.xt t1)
theorem ss_ret (he : SE X A E e xa) : SS X A E (.Return (some e) pos) (sRet xa) := by
  obtain ⟨t, p, he⟩ := he
  refine ⟨_, ps_ret p, fun μ F S H σ en D rl er h => ?_⟩
  refine he μ F S H σ en _ rl er (PD.bind h fun w S1 μ1 F1 H1 v _ t1 rl1 r1 h1 => ?_)
  exact PD.rtn h1 rl1 r1
theorem ss_retN : SS X A E (.Return none pos) sRetN := ⟨_, ps_retN, fun μ F S H σ en D rl er h => PD.rtn h rl wr_non⟩
theorem ss_pass : SS X A E (.Pass pos) sNil := ⟨_, ps_pass, fun μ F S H σ en D rl er h => PD.now h rl er⟩
theorem ss_brk : SS X A E (.Break pos) sBrk := ⟨_, ps_break, fun μ F S H σ en D rl er h => h μ F H σ (Xt.refl ..) rl er⟩
theorem ss_cnt : SS X A E (.Continue pos) sCnt := ⟨_, ps_continue, fun μ F S H σ en D rl er h => h μ F H σ (Xt.refl ..) rl er⟩
theorem ss_if {p q : List Stmt} {sp sq : XS} (hc : ST X A E c ct) (hp : SSs X A E p sp) (hq : SSs X A E q sq) : SS X A E (.If c p q pos) (sIf ct sp sq) := by
  obtain ⟨tc, pc, hc⟩ := hc
  obtain ⟨tp, pp, hp⟩ := hp
  obtain ⟨tq, pq, hq⟩ := hq
  refine ⟨_, ps_if pc pp pq, fun μ F S H σ en D rl er h => ?_⟩
  refine hc μ F S H σ en _ rl er (PD.bind h fun k S1 μ1 F1 H1 v _ t1 rl1 r1 h1 => ?_)
  obtain rfl : v = k := r1
  cases v with
  | true => exact iteT (hp μ1 F1 S1 H1 σ en D rl1 (er.xt t1) h1)
  | false => exact iteF (hq μ1 F1 S1 H1 σ en D rl1 (er.xt t1) h1)
theorem PD.turn {K : PySem.W.Frag} {μ : List Addr} {F H : Hp} {o : Out} {D : Ends} {k : Ev → Sto → Out} {N : L2.St → Hp → Prop}
    (h : PD K A E μ F H (match o with | .nx en2 S2 => k en2 S2 | .ct en2 S2 => k en2 S2 | .bk en2 S2 => .nx en2 S2 | o => o) D)
    (hN : ∀ en2 S2 μ' F' H' σ', Xt μ F H μ' F' H' → Rl K A μ' F' S2 H' → ER K A μ' F' σ' en2 → PD K A E μ' F' H' (k en2 S2) D → N σ' H') : PD K A E μ F H o { D with nx := N, ct := N, bk := D.nx } := by
  cases o with
  | nx en2 S2 => exact fun μ' F' H' σ' t rl er => hN en2 S2 μ' F' H' σ' t rl er (PD.xt t h)
  | ct en2 S2 => exact fun μ' F' H' σ' t rl er => hN en2 S2 μ' F' H' σ' t rl er (PD.xt t h)
  | bk en2 S2 => exact h
  | rt w S2 => exact h
  | exc x S2 => exact h
  | bad => exact h
theorem ss_while {fuel : Nat} (hp : PassesOwn (model X.prog X.w) X.A X.env X.xe) (hc : ST X A E c ct) (hb : SSs X A E body s) : SS X A E (.While c body [] pos) (whileD ct s fuel) := by
  obtain ⟨tc, pc, hc⟩ := hc
  obtain ⟨tb, pb, hb⟩ := hb
  refine ⟨_, ps_while hp pc pb, fun μ F S H σ en D rl er h => ?_⟩
  refine ⟨fun m σ' H' => ∃ μ' F' S' en', Rl X.K A μ' F' S' H' ∧ ER X.K A μ' F' σ' en' ∧ PD X.K A E μ' F' H' (whileD ct s m en' S') D, ⟨fuel, μ, F, S, en, rl, er, h⟩, fun m σ' H' hW => ?_⟩
  obtain ⟨μ1, F1, S1, en1, rl1, er1, h1⟩ := hW
  cases m with
  | zero => exact h1.elim
  | succ m =>
    refine hc μ1 F1 S1 H' σ' en1 _ rl1 er1 (PD.bind h1 fun k S2 μ2 F2 H2 v _ t2 rl2 r2 h2 => ?_)
    obtain rfl : v = k := r2
    cases v with
    | true =>
      refine iteT ⟨fun σ3 H3 => ∃ μ' F' S' en', Rl X.K A μ' F' S' H3 ∧ ER X.K A μ' F' σ3 en' ∧ PD X.K A E μ' F' H3 (whileD ct s m en' S') D, fun σ3 H3 hN => ⟨m, Nat.lt_succ_self m, hN⟩, ?_⟩
      refine hb μ2 F2 S2 H2 σ' en1 _ rl2 (er1.xt t2) (PD.turn h2 fun en2 S3 μ' F' H3 σ3 _ rl3 er3 h3 => ⟨μ', F', S3, en2, rl3, er3, h3⟩)
    | false => exact iteF (PD.now h2 rl2 (er1.xt t2))
theorem for_sup {J : L2.It} {gg : TG} {tb : TS} (hg : ∀ (μ : List Addr) (F : Hp) (S : Sto) (H : Hp) (σ : L2.St) (en : Ev) (v : V) (w : W) (Q : L2.St → Hp → Prop), Rl X.K A μ F S H → ER X.K A μ F σ en → WR X.K A μ F v w → PP X.K A (ER X.K A) E μ F H (g w en S) Q → gg v σ H Q)
    (hb : ∀ (μ : List Addr) (F : Hp) (S : Sto) (H : Hp) (σ : L2.St) (en : Ev) (D : Ends), Rl X.K A μ F S H → ER X.K A μ F σ en → PD X.K A E μ F H (s en S) D → tb D σ H)
    {μ : List Addr} {F : Hp} {S : Sto} {H : Hp} {σ : L2.St} {en : Ev} {D : Ends} {ws : List W} (rl : Rl X.K A μ F S H) (er : ER X.K A μ F σ en) (sup : Sup X.K A μ F J ws) (h : PD X.K A E μ F H (forD g s ws en S) D) :
    ∃ W : Nat → Nat → L2.St → Hp → Prop, (∃ m, W 0 m σ H) ∧ ∀ i m σ H, W i m σ H →
      (J.stop i H ∧ D.nx σ H) ∨ (J.go i H ∧ ∃ N : L2.St → Hp → Prop, (∀ σ' H', N σ' H' → ∃ m', m' < m ∧ W (i + 1) m' σ' H') ∧ ∀ x H', J.yld i H x H' → gg x σ H' fun σ2 H2 => tb { D with nx := N, ct := N, bk := D.nx } σ2 H2) := by
  refine ⟨fun i m σ' H' => m = ws.length - i ∧ i ≤ ws.length ∧ ∃ μ' F' S' en', μ <+: μ' ∧ (∀ a o, F a = some o → F' a = some o) ∧ Rl X.K A μ' F' S' H' ∧ ER X.K A μ' F' σ' en' ∧ PD X.K A E μ' F' H' (forD g s (ws.drop i) en' S') D,
    ⟨ws.length, by simp, by simp, μ, F, S, en, List.prefix_rfl, fun _ _ h => h, rl, er, h⟩, fun i m σ' H' hW => ?_⟩
  obtain ⟨rfl, hi, μ1, F1, S1, en1, p1, f1, rl1, er1, h1⟩ := hW
  by_cases hlt : i < ws.length
  · have ew : ws[i]? = some ws[i] := List.getElem?_eq_getElem hlt
    obtain ⟨go, yl⟩ := sup.go μ1 F1 S1 H' i ws[i] p1 f1 rl1 ew
    refine .inr ⟨go, fun σ2 H2 => ∃ μ' F' S' en', μ <+: μ' ∧ (∀ a o, F a = some o → F' a = some o) ∧ Rl X.K A μ' F' S' H2 ∧ ER X.K A μ' F' σ2 en' ∧ PD X.K A E μ' F' H2 (forD g s (ws.drop (i + 1)) en' S') D,
      fun σ2 H2 hN => ⟨ws.length - (i + 1), by omega, rfl, hlt, hN⟩, fun x H2 hy => ?_⟩
    obtain ⟨F2, t2, rl2, r2⟩ := yl x H2 hy
    rw [List.drop_eq_getElem_cons hlt] at h1
    refine hg μ1 F2 S1 H2 σ' en1 x ws[i] _ rl2 (er1.xt t2) r2 (PD.bind (PD.xt t2 h1) fun en3 S3 μ3 F3 H3 σ3 _ t3 rl3 er3 h3 => ?_)
    refine hb μ3 F3 S3 H3 σ3 en3 _ rl3 er3 (PD.turn h3 fun en4 S4 μ4 F4 H4 σ4 t4 rl4 er4 h4 => ?_)
    exact ⟨μ4, F4, S4, en4, p1.trans (t3.pre.trans t4.pre), fun a o e => t4.fz a o (t3.fz a o (t2.fz a o (f1 a o e))), rl4, er4, h4⟩
  · have e : i = ws.length := by omega
    subst e
    rw [List.drop_length] at h1
    exact .inl ⟨sup.stop μ1 F1 S1 H' p1 f1 rl1, PD.now h1 rl1 er1⟩
theorem for_cel {gg : TG} {tb : TS} (hg : ∀ (μ : List Addr) (F : Hp) (S : Sto) (H : Hp) (σ : L2.St) (en : Ev) (v : V) (w : W) (Q : L2.St → Hp → Prop), Rl X.K A μ F S H → ER X.K A μ F σ en → WR X.K A μ F v w → PP X.K A (ER X.K A) E μ F H (g w en S) Q → gg v σ H Q)
    (hb : ∀ (μ : List Addr) (F : Hp) (S : Sto) (H : Hp) (σ : L2.St) (en : Ev) (D : Ends), Rl X.K A μ F S H → ER X.K A μ F σ en → PD X.K A E μ F H (s en S) D → tb D σ H)
    {μ : List Addr} {F : Hp} {S : Sto} {H : Hp} {σ : L2.St} {en : Ev} {D : Ends} {n fuel : Nat} {a : Addr} (rl : Rl X.K A μ F S H) (er : ER X.K A μ F σ en) (ha : μ[n]? = some a) (h : PD X.K A E μ F H (forC g s n fuel 0 en S) D) :
    ∃ W : Nat → Nat → L2.St → Hp → Prop, (∃ m, W 0 m σ H) ∧ ∀ i m σ H, W i m σ H →
      ((Itl X.K a).stop i H ∧ D.nx σ H) ∨ ((Itl X.K a).go i H ∧ ∃ N : L2.St → Hp → Prop, (∀ σ' H', N σ' H' → ∃ m', m' < m ∧ W (i + 1) m' σ' H') ∧ ∀ x H', (Itl X.K a).yld i H x H' → gg x σ H' fun σ2 H2 => tb { D with nx := N, ct := N, bk := D.nx } σ2 H2) := by
  refine ⟨fun i m σ' H' => ∃ μ' F' S' en', μ <+: μ' ∧ Rl X.K A μ' F' S' H' ∧ ER X.K A μ' F' σ' en' ∧ PD X.K A E μ' F' H' (forC g s n m i en' S') D, ⟨fuel, μ, F, S, en, List.prefix_rfl, rl, er, h⟩, fun i m σ' H' hW => ?_⟩
  obtain ⟨μ1, F1, S1, en1, p1, rl1, er1, h1⟩ := hW
  cases m with
  | zero => exact h1.elim
  | succ m =>
    unfold forC at h1
    have ha1 := pre_get p1 ha
    cases hS : S1[n]? with
    | none => rw [hS] at h1; exact h1.elim
    | some ob =>
      rw [hS] at h1
      have hob := rl1.ob n a ob ha1 hS
      cases ob with
      | lst ws =>
        obtain ⟨vs, k1, k2⟩ := hob
        have hl := wrs_len k2
        have h1 : PD X.K A E μ1 F1 H' (match ws[i]? with
          | none => .nx en1 S1
          | some w => (g w en1 S1).thenO fun en1 S1 => match s en1 S1 with
            | .nx en2 S2 => forC g s n m (i + 1) en2 S2
            | .ct en2 S2 => forC g s n m (i + 1) en2 S2
            | .bk en2 S2 => .nx en2 S2
            | o => o) D := h1
        cases hw : ws[i]? with
        | none =>
          rw [hw] at h1
          exact .inl ⟨⟨vs, .inl (.inl k1), by rw [hl]; exact List.getElem?_eq_none_iff.mp hw⟩, PD.now h1 rl1 er1⟩
        | some w =>
          rw [hw] at h1
          obtain ⟨v, hv, rv⟩ := wrs_get k2 hw
          refine .inr ⟨⟨vs, v, .inl (.inl k1), hv⟩, fun σ2 H2 => ∃ μ' F' S' en', μ <+: μ' ∧ Rl X.K A μ' F' S' H2 ∧ ER X.K A μ' F' σ2 en' ∧ PD X.K A E μ' F' H2 (forC g s n m (i + 1) en' S') D, fun σ2 H2 hN => ⟨m, Nat.lt_succ_self m, hN⟩, fun x H2 hy => ?_⟩
          obtain ⟨rfl, hy⟩ := hy
          have ex : v = x := Option.some.inj (hv.symm.trans (hy vs (.inl (.inl k1))))
          subst ex
          refine hg μ1 F1 S1 _ σ' en1 v w _ rl1 er1 rv (PD.bind h1 fun en3 S3 μ3 F3 H3 σ3 _ t3 rl3 er3 h3 => ?_)
          refine hb μ3 F3 S3 H3 σ3 en3 _ rl3 er3 (PD.turn h3 fun en4 S4 μ4 F4 H4 σ4 t4 rl4 er4 h4 => ?_)
          exact ⟨μ4, F4, S4, en4, p1.trans (t3.pre.trans t4.pre), rl4, er4, h4⟩
      | _ => exact h1.elim
theorem ss_for {fuel : Nat} (hp : PassesOwn (model X.prog X.w) X.A X.env X.xe) (hc : X.calm = true) (hi : SI X A E tg e ii) (hg : STG X A E tg g) (hb : SSs X A E body s) (hs : ∀ x, foldedSetIterable e X.env x = pure x) : SS X A E (.For tg e body [] pos) (sFor fuel g ii s) := by
  obtain ⟨wi, pi, hi⟩ := hi
  obtain ⟨tgg, pg, hg⟩ := hg
  obtain ⟨tb, pb, hb⟩ := hb
  refine ⟨_, ps_for hp hc pi pg pb hs, fun μ F S H σ en D rl er h => ?_⟩
  refine hi μ F S H σ en _ rl er (PD.bind h fun v S1 μ1 F1 H1 J _ t1 rl1 r1 h1 => ?_)
  cases v with
  | fx ws => exact for_sup hg hb rl1 (er.xt t1) r1 h1
  | cel n =>
    obtain ⟨a, ha, rfl⟩ := r1
    exact for_cel hg hb rl1 (er.xt t1) ha h1
def IterR (X : Cx) (r : V → Hp → (L2.It → Hp → Prop) → Prop) : Prop := ∀ (tg : Expr) (pins : List (Addr × Obj)) (s : Shared) (σ : L2.St) (H : Hp) (x : V) (v : Value) (R : L2.It → Hp → Prop), Inv X pins σ H s → RelV x v → r x H R → wpAny (model X.prog X.w) X.A (pyIter v) (PIE X pins σ tg R) X.xe s
theorem IterR.or {r r' : V → Hp → (L2.It → Hp → Prop) → Prop} (h : IterR X r) (k : IterR X r') : IterR X (fun x H R => r x H R ∨ r' x H R) := by
  intro tg pins s σ H x v R I rx q
  rcases q with q | q
  · exact h tg pins s σ H x v R I rx q
  · exact k tg pins s σ H x v R I rx q
theorem pi_of {r : V → Hp → (L2.It → Hp → Prop) → Prop} {te : TE} (hr : IterR X r) (he : PE X e te) : PI X tg e (fun σ H R => te σ H fun x H1 => r x H1 R) := by
  refine ⟨fun pins s σ H R I h => ?_⟩
  exact thn (he.run pins s σ H _ I h) fun v s1 ⟨x, H1, I1, r1, q1⟩ => hr tg pins s1 σ H1 x v R I1 r1 q1
theorem it_list : IterR X (fun x H R => ∃ a, x = .ref a ∧ (∃ xs, SqL X.K H a xs) ∧ R (Itl X.K a) H) := by
  intro tg pins s σ H x v R I rx h
  obtain ⟨a, rfl, ⟨xs, hq⟩, q⟩ := h
  cases rx
  obtain ⟨its, rv, p, hz⟩ := I.list hq
  exact wpAny_pyIter_list p.isList (pi_one (tk := s.toks) I _ (turn_list a _) ⟨_, Heap.get?_push_size _ rfl, rfl, rfl⟩ q)
theorem it_tup : IterR X (fun x H R => ∃ a, x = .ref a ∧ (∃ xs, SqT X.K H a xs) ∧ R (Itt X.K a) H) := by
  intro tg pins s σ H x v R I rx h
  obtain ⟨a, rfl, ⟨xs, hq⟩, q⟩ := h
  cases rx
  obtain ⟨its, rv, p, hz⟩ := I.tuple hq
  exact wpAny_pyIter_tuple (show s.heap.IsTuple a its.toArray from p) (pi_one (tk := s.toks) I _ (turn_tuple a _) ⟨_, Heap.get?_push_size _ rfl, rfl, rfl⟩ q)
theorem it_str : IterR X (fun x H R => ∃ z, x = .str z ∧ R (Its z) H) := by
  intro tg pins s σ H x v R I rx h
  obtain ⟨z, rfl, q⟩ := h
  obtain ⟨t, rfl⟩ := rx
  cases ha : z.cps.all (· < 128)
  · exact wpAny_pyIter_wide ha (pi_one (tk := s.toks) I _ (turn_str _ z t "str_iterator" (.inr rfl)) ⟨_, Heap.get?_push_size _ rfl, rfl, rfl⟩ q)
  · exact wpAny_pyIter_ascii ha (pi_one (tk := s.toks) I _ (turn_str _ z t "str_ascii_iterator" (.inl rfl)) ⟨_, Heap.get?_push_size _ rfl, rfl, rfl⟩ q)
theorem it_range : IterR X (fun x H R => ∃ a i j c n, x = .ref a ∧ H a = some (RgO a i j c) ∧ rgN i j c = some n ∧ R (Itc i c n) H) := by
  intro tg pins s σ H x v R I rx h
  obtain ⟨a, i, j, c, n, rfl, ha, hn, q⟩ := h
  cases rx
  obtain ⟨t, u, w, hr⟩ := rg_obj I ha
  obtain ⟨h1, h2, h3⟩ := rgN_is hn
  refine wpAny_pyIter_range hr h1 (pi_one (tk := s.toks) I _ (turn_rangeC _ i c n) ?_ q)
  have e1 : i + ((0 : Nat) : Int) * c = i := by simp
  have e2 : (n : Int) - ((0 : Nat) : Int) = Builtin.Range.rangeSize i j c := by rw [h2]; simp
  show IsRangeIter _ _ (i + ((0 : Nat) : Int) * c) ((n : Int) - ((0 : Nat) : Int)) c
  rw [e1, e2]
  exact Heap.get?_push_size _ rfl
theorem sup_list {K : PySem.W.Frag} {μ : List Addr} {F : Hp} {a : Addr} {xs : List V} {ds : List D} (h : F a = some (.lst xs)) (d : DRs K F xs ds) (c : PyData.canLayAll0 ds = true) : Sup K A μ F (Itl K a) (ds.map .d) where
  go := fun μ' F' S' H' i w p f rl e => by
    have r : WRs K A μ F xs (ds.map .d) := drs_ws d c
    obtain ⟨v, hv, rv⟩ := wrs_get r e
    have q : SqL K H' a xs := .inl (.inl (rl.ex _ _ (f _ _ h)))
    refine ⟨⟨xs, v, q, hv⟩, fun x H2 hy => ?_⟩
    obtain ⟨rfl, hy⟩ := hy
    have ex : v = x := Option.some.inj (hv.symm.trans (hy xs q))
    subst ex
    exact ⟨F', Xt.refl .., rl, rv.up p f⟩
  stop := fun μ' F' S' H' p f rl => ⟨xs, .inl (.inl (rl.ex _ _ (f _ _ h))), by rw [List.length_map, drs_len d]; exact Nat.le_refl _⟩
theorem sup_tup {K : PySem.W.Frag} {μ : List Addr} {F : Hp} {a : Addr} {xs : List V} {ds : List D} (h : SqT K F a xs) (d : DRs K F xs ds) (c : PyData.canLayAll0 ds = true) : Sup K A μ F (Itt K a) (ds.map .d) where
  go := fun μ' F' S' H' i w p f rl e => by
    have r : WRs K A μ F xs (ds.map .d) := drs_ws d c
    obtain ⟨v, hv, rv⟩ := wrs_get r e
    have q : SqT K H' a xs := sqT_up rl.ex (sqT_up f h)
    refine ⟨⟨xs, v, q, hv⟩, fun x H2 hy => ?_⟩
    obtain ⟨rfl, hy⟩ := hy
    have ex : v = x := Option.some.inj (hv.symm.trans (hy xs q))
    subst ex
    exact ⟨F', Xt.refl .., rl, rv.up p f⟩
  stop := fun μ' F' S' H' p f rl => ⟨xs, sqT_up rl.ex (sqT_up f h), by rw [List.length_map, drs_len d]; exact Nat.le_refl _⟩
theorem sup_fs {K : PySem.W.Frag} {μ : List Addr} {F : Hp} {a : Addr} {xs : List V} {is : List Nat} (h : F a = some (.tup xs)) (d : Paired (fun v i => ∃ f, A.fa i = some f ∧ v = .ref f) xs is) : Sup K A μ F (Itt K a) (is.map .f) where
  go := fun μ' F' S' H' i w p f rl e => by
    rw [List.getElem?_map] at e
    cases ei : is[i]? with
    | none => rw [ei] at e; cases e
    | some j =>
      rw [ei] at e; cases e
      obtain ⟨v, hv, g, e1, rfl⟩ := paired_get d ei
      have q : SqT K H' a xs := .inl (.inl (rl.ex _ _ (f _ _ h)))
      refine ⟨⟨xs, _, q, hv⟩, fun x H2 hy => ?_⟩
      obtain ⟨rfl, hy⟩ := hy
      have ex : V.ref g = x := Option.some.inj (hv.symm.trans (hy xs q))
      subst ex
      exact ⟨F', Xt.refl .., rl, g, e1, rfl⟩
  stop := fun μ' F' S' H' p f rl => ⟨xs, .inl (.inl (rl.ex _ _ (f _ _ h))), by rw [List.length_map, Paired.length d]; exact Nat.le_refl _⟩
theorem sign_lay {z : Str} {c : Nat} (h : PyData.strOk z = true) (hm : c ∈ z.cps) : PyData.strOk ⟨#[c]⟩ = true := by
  have h' : z.cps.all (· < 0x110000) = true := h
  have := (Array.all_eq_true_iff_forall_mem.mp h') c hm
  show (#[c] : Array Nat).all (· < 0x110000) = true
  simpa using this
theorem sup_str {K : PySem.W.Frag} {μ : List Addr} {F : Hp} {z : Str} (h : PyData.strOk z = true) : Sup K A μ F (Its z) (signs z) where
  go := fun μ' F' S' H' i w p f rl e => by
    unfold signs at e
    rw [List.getElem?_map] at e
    cases ec : z.cps.toList[i]? with
    | none => rw [ec] at e; cases e
    | some c =>
      rw [ec] at e; cases e
      have hm : c ∈ z.cps := Array.mem_toList_iff.mp (List.mem_of_getElem? ec)
      have hi : i < z.cps.size := by
        obtain ⟨hl, _⟩ := List.getElem?_eq_some_iff.mp ec
        simpa using hl
      refine ⟨hi, fun x H2 hy => ?_⟩
      obtain ⟨rfl, c', h1, rfl⟩ := hy
      have : c' = c := by
        have h2 : z.cps.toList[i]? = some c' := by rw [Array.getElem?_toList]; exact h1
        rw [ec] at h2; exact (Option.some.inj h2).symm
      subst this
      exact ⟨F', Xt.refl .., rl, .str _, sign_lay h hm⟩
  stop := fun μ' F' S' H' p f rl => by
    show z.cps.size ≤ (signs z).length
    unfold signs; simp
theorem sup_rg {K : PySem.W.Frag} {μ : List Addr} {F : Hp} {i c : Int} {n : Nat} : Sup K A μ F (Itc i c n) ((rgL i c n).map .d) where
  go := fun μ' F' S' H' j w p f rl e => by
    unfold rgL at e
    rw [List.getElem?_map, List.getElem?_map] at e
    have hj : j < n := by
      by_cases hj : j < n
      · exact hj
      · rw [List.getElem?_eq_none (by simp; omega)] at e; cases e
    rw [List.getElem?_range hj] at e
    cases e
    refine ⟨hj, fun x H2 hy => ?_⟩
    obtain ⟨rfl, rfl⟩ := hy
    exact ⟨F', Xt.refl .., rl, wr_int _⟩
  stop := fun μ' F' S' H' p f rl => by
    show n ≤ _
    unfold rgL; simp
theorem si_val (he : SE X A E e xa) : SI X A E tg e (iVal xa) := by
  obtain ⟨t, p, he⟩ := he
  refine ⟨_, pi_of (it_list.or (it_tup.or (it_str.or it_range))) p, fun μ F S H σ en R rl er h => ?_⟩
  refine he μ F S H σ en _ rl er (PP.bind h fun w S1 μ1 F1 H1 v ew t1 rl1 r1 h1 => ?_)
  unfold itG at h1
  split at h1
  · obtain ⟨r1, l1⟩ := r1
    cases r1 with
    | lst hs hd => exact .inl ⟨_, rfl, ⟨_, .inl (.inl (rl1.ex _ _ hs))⟩, PP.now h1 rl1 (sup_list hs hd (lay_list l1))⟩
  · obtain ⟨r1, l1⟩ := r1
    cases r1 with
    | tup hs hd => exact .inr (.inl ⟨_, rfl, ⟨_, sqT_up rl1.ex hs⟩, PP.now h1 rl1 (sup_tup hs hd (lay_tup l1))⟩)
  · obtain ⟨r1, l1⟩ := r1
    cases r1
    exact .inr (.inr (.inl ⟨_, rfl, PP.now h1 rl1 (sup_str l1)⟩))
  · split at h1
    · rename_i n hn
      obtain ⟨a, ha, rfl⟩ := r1
      exact .inr (.inr (.inr ⟨a, _, _, _, n, rfl, rl1.ex _ _ ha, hn, PP.now h1 rl1 sup_rg⟩))
    · exact h1.elim
  · obtain ⟨a, vs, k1, rfl, k2⟩ := r1
    exact .inr (.inl ⟨a, rfl, ⟨_, .inl (.inl (rl1.ex _ _ k1))⟩, PP.now h1 rl1 (sup_fs k1 k2)⟩)
  · rename_i n
    split at h1
    · rename_i ws hS
      obtain ⟨a, ha, rfl⟩ := r1
      obtain ⟨vs, k1, k2⟩ := rl1.ob n a _ ha hS
      exact .inl ⟨a, rfl, ⟨vs, .inl (.inl k1)⟩, PP.now h1 rl1 ⟨a, ha, rfl⟩⟩
    · exact h1.elim
  · exact h1.elim
end
end Mi
end
section
set_option Elab.async false
set_option linter.all false
set_option maxRecDepth 100000
set_option maxHeartbeats 4000000
namespace Mi
open PySem L2 PyProof.Rows
def wipeE (en : Ev) : List Nat → Ev
  | [] => en
  | v :: vs => (wipeE en vs).set v none
def noX {α : Type} : Res α → Res α
  | .exc _ _ => .bad
  | r => r
def lcD (g : XG) (t : XT) (el : XE) (en : Ev) : List W → Sto → Res (List W)
  | [], S => .ok [] S
  | w :: ws, S => (noX (g w en S)).andThen fun en1 S1 => (noX (t en1 S1)).andThen fun b S2 => if b then (noX (el en1 S2)).andThen fun y S3 => (lcD g t el en ws S3).andThen fun r S4 => .ok (y :: r) S4 else lcD g t el en ws S2
def celL (n : Nat) (S : Sto) : Option (List W) := match S[n]? with
  | some (.lst ws) => some ws
  | _ => none
def lcC (g : XG) (t : XT) (el : XE) (en : Ev) (n : Nat) : Nat → Nat → Sto → Res (List W)
  | 0, _, _ => .bad
  | m + 1, i, S => match S[n]? with
    | some (.lst ws) => (match ws[i]? with
      | none => .ok [] S
      | some w => (noX (g w en S)).andThen fun en1 S1 => (noX (t en1 S1)).andThen fun b S2 => if b then (noX (el en1 S2)).andThen fun y S3 => (lcC g t el en n m (i + 1) S3).andThen fun r S4 => .ok (y :: r) S4 else lcC g t el en n m (i + 1) S2)
    | _ => .bad
def tYesX : XT := fun _ S => .ok true S
def xLc (cel : Bool) (own : List Nat) (g : XG) (i : XI) (t : XT) (el : XE) : XE := fun en S => (i en S).andThen fun v S1 => match v with
  | .fx ws => if ws.length ≤ cap then (lcD g t el (wipeE en own) ws S1).andThen fun r S2 => lstN cel r S2 else .bad
  | .cel n => (match celL n S1 with
    | some ws => if ws.length ≤ 1000000 then (lcC g t el (wipeE en own) n (ws.length + 1) 0 S1).andThen fun r S2 => lstN cel r S2 else .bad
    | none => .bad)
def tE (K : PySem.W.Frag) (A : Ad) (E : XK) (x : XE) : TE := fun σ H Q => ∃ μ F S en, Rl K A μ F S H ∧ ER K A μ F σ en ∧ PP K A (WR K A) E μ F H (x en S) Q
def tTt (K : PySem.W.Frag) (A : Ad) (E : XK) (x : XT) : TT := fun σ H Q => ∃ μ F S en, Rl K A μ F S H ∧ ER K A μ F σ en ∧ PP K A BR E μ F H (x en S) Q
def tGw (K : PySem.W.Frag) (A : Ad) (E : XK) (vs : List Nat) (g : XG) : TG := fun v σ H Q => ∃ μ F S en w, Rl K A μ F S H ∧ ER K A μ F σ en ∧ WR K A μ F v w ∧ PP K A (ER K A) E μ F H (g w en S) fun σ' H' => wipe σ' vs = wipe σ vs → Q σ' H'
def STGW (X : Cx) (A : Ad) (E : XK) (own : List Nat) (tg : Expr) (g : XG) : Prop := ∃ t, PG X tg t ∧ ∀ (μ : List Addr) (F : Hp) (S : Sto) (H : Hp) (σ : L2.St) (en : Ev) (v : V) (w : W) (Q : L2.St → Hp → Prop), Rl X.K A μ F S H → ER X.K A μ F σ en → WR X.K A μ F v w →
  PP X.K A (ER X.K A) E μ F H (g w en S) (fun σ' H' => wipe σ' own = wipe σ own → Q σ' H') → t v σ H Q
def STGWs (X : Cx) (A : Ad) (E : XK) (own : List Nat) (ts : List Expr) (g : XGs) : Prop := ∃ t, PGs X ts t ∧ ∀ (μ : List Addr) (F : Hp) (S : Sto) (H : Hp) (σ : L2.St) (en : Ev) (vs : List V) (ws : List W) (Q : L2.St → Hp → Prop), Rl X.K A μ F S H → ER X.K A μ F σ en → WRs X.K A μ F vs ws →
  PP X.K A (ER X.K A) E μ F H (g ws en S) (fun σ' H' => wipe σ' own = wipe σ own → Q σ' H') → t vs σ H Q
theorem wipe_set {σ : L2.St} {i : Nat} {v : Option V} : ∀ {vs : List Nat}, i ∈ vs → wipe (σ.set i v) vs = wipe σ vs
  | [], h => by cases h
  | j :: vs, h => by
    unfold wipe
    by_cases hi : i ∈ vs
    · rw [wipe_set hi]
    · have e : i = j := by
        rcases List.mem_cons.mp h with e | e
        · exact e
        · exact absurd e hi
      subst e
      have key : ∀ {vs : List Nat}, i ∉ vs → wipe (σ.set i v) vs = (wipe σ vs).set i v := by
        intro vs
        induction vs with
        | nil => intro _; rfl
        | cons k ks ih =>
          intro hk
          have hk' : i ≠ k ∧ i ∉ ks := by simpa using hk
          unfold wipe
          rw [ih hk'.2, List.set_comm _ _ hk'.1]
      rw [key hi, List.set_set]
theorem ER.unset {K : PySem.W.Frag} {A : Ad} {μ : List Addr} {F : Hp} {σ : L2.St} {en : Ev} (h : ER K A μ F σ en) (i : Nat) : ER K A μ F (σ.set i none) (en.set i none) := by
  refine ⟨by rw [List.length_set, List.length_set, h.1], fun j w' e => ?_⟩
  by_cases hij : i = j
  · subst hij
    by_cases hl : i < en.length
    · rw [List.getElem?_set_self hl] at e; cases e
    · rw [List.getElem?_eq_none (by rw [List.length_set]; omega)] at e; cases e
  · rw [List.getElem?_set_ne hij] at e
    obtain ⟨v', h1, h2⟩ := h.2 j w' e
    exact ⟨v', by rw [List.getElem?_set_ne hij]; exact h1, h2⟩
theorem ER.wipe {K : PySem.W.Frag} {A : Ad} {μ : List Addr} {F : Hp} {σ : L2.St} {en : Ev} (h : ER K A μ F σ en) : ∀ vs : List Nat, ER K A μ F (L2.wipe σ vs) (wipeE en vs)
  | [] => h
  | v :: vs => (ER.wipe h vs).unset v
section
variable {X : Cx} {A : Ad} {E : XK} {tg e elt it c : Expr} {own : List Nat} {xa : XE} {xt : XT} {es : List Expr} {pos : Pos} {g : XG} {ii : XI}
theorem SE.pe (h : SE X A E e xa) : PE X e (tE X.K A E xa) := by
  obtain ⟨t, p, h⟩ := h
  exact ⟨fun pins s σ H Q I q => by
    obtain ⟨μ, F, S, en, rl, er, q⟩ := q
    exact p.run pins s σ H Q I (h μ F S H σ en Q rl er q)⟩
theorem ST.pt (h : ST X A E e xt) : PT X e (tTt X.K A E xt) := by
  obtain ⟨t, p, h⟩ := h
  exact ⟨fun pins s σ H Q I q => by
    obtain ⟨μ, F, S, en, rl, er, q⟩ := q
    exact p.run pins s σ H Q I (h μ F S H σ en Q rl er q)⟩
theorem STGW.pg (h : STGW X A E own tg g) : PG X tg (tGw X.K A E own g) := by
  obtain ⟨t, p, h⟩ := h
  exact ⟨fun pins s σ H v u Q I r q => by
    obtain ⟨μ, F, S, en, w, rl, er, rw, q⟩ := q
    exact p.run pins s σ H v u Q I r (h μ F S H σ en v w Q rl er rw q)⟩
theorem gw_nm {i : Nat} {x : Str} (hN : X.N.Nodup) (hi : X.N[i]? = some x) (hx : Loc X.env.scope x) (hf : X.fn x = true ∨ X.env.scope.names.lookup x = some .local) (hm : i ∈ own) : STGW X A E own (.Name x pos) (gNm i) :=
  ⟨_, pg_name hN hi hx hf, fun μ F S H σ en v w Q rl er r h => PP.now h rl (er.set i r) (wipe_set hm)⟩
theorem gws_nil : STGWs X A E own [] gsNil := ⟨_, pgs_nil, fun μ F S H σ en vs ws Q rl er r h => by
  cases r with
  | nil => exact ⟨rfl, PP.now h rl er rfl⟩
  | cons => exact h.elim⟩
theorem gws_cons {r : XGs} (h1 : STGW X A E own e g) (h2 : STGWs X A E own es r) (hs : noStar e = true) : STGWs X A E own (e :: es) (gsCons g r) := by
  obtain ⟨t, p, h1⟩ := h1
  obtain ⟨u, q, h2⟩ := h2
  refine ⟨_, pgs_cons p q (by rw [each_cons hs]; rfl), fun μ F S H σ en vs ws Q rl er r h => ?_⟩
  cases r with
  | nil => exact h.elim
  | cons a b =>
    refine ⟨_, _, rfl, h1 μ F S H σ en _ _ _ rl er a (PP.bind h fun en1 S1 μ1 F1 H1 σ1 _ t1 rl1 r1 hh hw => ?_)⟩
    refine h2 μ1 F1 S1 H1 σ1 en1 _ _ Q rl1 r1 (WRs.xt t1 b) ?_
    cases e2 : r _ en1 S1 with
    | ok en2 S2 =>
      rw [e2] at hh
      exact fun μ2 F2 H2 σ2 t2 rl2 r2 hw2 => hh μ2 F2 H2 σ2 t2 rl2 r2 (hw2.trans hw)
    | exc y S2 => rw [e2] at hh; exact hh
    | bad => rw [e2] at hh; exact hh
theorem gw_tp {gs : XGs} {k : Nat} (hc : X.calm = true) (h : STGWs X A E own es gs) (hs : es.all noStar = true) : STGW X A E own (.Tuple es k pos) (gTp es.length gs) := by
  obtain ⟨t, p, h⟩ := h
  refine ⟨_, pg_or (pg_tup hc p (each_len hs) (each_find hs)) (pg_lst hc p (each_len hs) (each_find hs)), fun μ F S H σ en v w Q rl er r q => ?_⟩
  unfold gTp at q
  split at q
  · rename_i b ws es'
    split at q
    · rename_i hl
      obtain ⟨a, vs, rfl, sv, wv⟩ := seq_is rl r es'
      rcases sv.any with z | z
      · exact .inr ⟨a, vs, rfl, z, by rw [wrs_len wv, hl], h μ F S H σ en vs ws Q rl er wv q⟩
      · exact .inl ⟨a, vs, rfl, z, by rw [wrs_len wv, hl], h μ F S H σ en vs ws Q rl er wv q⟩
    · exact q.elim
  · exact q.elim
theorem PP.bindB {α β γ δ : Type} {K : PySem.W.Frag} {R1 : List Addr → Hp → β → α → Prop} {R2 : List Addr → Hp → δ → γ → Prop} {r : Res α} {k : α → Sto → Res γ} {Q : δ → Hp → Prop} {Q1 : β → Hp → Prop} {μ0 μ : List Addr} {F0 H0 F H : Hp}
    (h : PP K A R2 E μ0 F0 H0 ((noX r).andThen k) Q)
    (step : ∀ a S1 μ1 F1 H1 v, Xt μ F H μ1 F1 H1 → Rl K A μ1 F1 S1 H1 → R1 μ1 F1 v a → PP K A R2 E μ0 F0 H0 (k a S1) Q → Q1 v H1) : PP K A R1 E0 μ F H r Q1 := by
  cases r with
  | ok a S1 => exact fun μ1 F1 H1 v t rl rr => step a S1 μ1 F1 H1 v t rl rr h
  | exc x S1 => exact h.elim
  | bad => exact h.elim
theorem andThen_assoc {α β γ : Type} (r : Res α) (k : α → Sto → Res β) (l : β → Sto → Res γ) : (r.andThen k).andThen l = r.andThen fun a S => (k a S).andThen l := by cases r <;> rfl
theorem Rl.other {K : PySem.W.Frag} {μ : List Addr} {F H : Hp} {S : Sto} (rl : Rl K A μ F S H) {p : Addr} (hm : p ∉ μ) (hf : F p = none) (o : HO) (hq : ∀ u, H p = some u → Pl u) : Rl K A μ F S (upd H p o) := by
  refine ⟨rl.len, rl.nd, fun a u e => ?_, fun a ha => ?_, rl.off, fun n a u h1 h2 => ?_, rl.nt, tabs_write rl.tb hq⟩
  · rw [upd_ne (ne_of_none e hf)]; exact rl.ex a u e
  · have h : a ≠ p := fun z => hm (z ▸ ha)
    rw [upd_ne h]; exact rl.on a ha
  · have h : a ≠ p := fun z => hm (z ▸ List.mem_of_getElem? h1)
    exact OR.up List.prefix_rfl (fun _ _ h => h) (fun v e => by rw [upd_ne h]; exact e) (rl.ob n a u h1 h2)
theorem Xt.other {μ μ' : List Addr} {F H F' H' : Hp} (t : Xt μ F H μ' F' H') {p : Addr} (hp : H p = none) (o : HO) : Xt μ F H μ' F' (upd H' p o) :=
  ⟨t.pre, t.fz, fun a u e p n => by
    obtain ⟨h1, h2, h3⟩ := t.fr a u e p n
    exact ⟨by rw [upd_ne (ne_of_none e hp)]; exact h1, h2, h3⟩⟩
def LcW (K : PySem.W.Frag) (A : Ad) (E : XK) (cel : Bool) (μ0 : List Addr) (F0 H0 : Hp) (σ0 : L2.St) (en0 : Ev) (Q : VK) (D : Addr) (f : Sto → Res (List W)) (n : Nat) (H : Hp) : Prop :=
  ∃ μ F S acc vs, acc.length ≤ n ∧ Xt μ0 F0 H0 μ F H ∧ Rl K A μ F S H ∧ ER K A μ F σ0 en0 ∧ H D = some (.lst vs) ∧ D ∉ μ ∧ F D = none ∧ WRs K A μ F vs acc ∧ PP K A (WR K A) E μ0 F0 H0 ((f S).andThen fun r S' => lstN cel (acc ++ r) S') Q
theorem lc_end {K : PySem.W.Frag} {cel : Bool} {μ0 : List Addr} {F0 H0 : Hp} {σ0 : L2.St} {en0 : Ev} {Q : VK} {D : Addr} {H : Hp} {f : Sto → Res (List W)} {n : Nat} (hD : H0 D = none) (hf : ∀ S, f S = .ok [] S) (h : LcW K A E cel μ0 F0 H0 σ0 en0 Q D f n H) : Q (.ref D) H := by
  obtain ⟨μ, F, S, acc, vs, _, t, rl, er, hd, hm, hfd, r, q⟩ := h
  rw [hf] at q
  have q : PP K A (WR K A) E μ0 F0 H0 (lstN cel (acc ++ []) S) Q := q
  rw [List.append_nil] at q
  cases cel with
  | true =>
    have q : PP K A (WR K A) E μ0 F0 H0 (.ok (.c S.length) (S ++ [.lst acc])) Q := q
    have hpre : μ <+: μ ++ [D] := List.prefix_append _ _
    refine q (μ ++ [D]) F H (.ref D) ⟨t.pre.trans hpre, t.fz, fun a u e p n => ?_⟩ ⟨by simp [rl.len], ?_, rl.ex, fun a ha => ?_, fun n a u h1 h2 h3 => ?_, fun n a u h1 h2 => ?_, rl.nt, rl.tb⟩ ⟨D, by rw [← rl.len]; simp, rfl⟩
    · obtain ⟨h1, h2, h3⟩ := t.fr a u e p n
      refine ⟨h1, fun z => ?_, h3⟩
      rcases List.mem_append.mp z with z | z
      · exact h2 z
      · have : a = D := by simpa using z
        subst this; rw [hD] at e; cases e
    · refine List.nodup_append.mpr ⟨rl.nd, by simp, fun a ha b hb => ?_⟩
      have e : b = D := by simpa using hb
      subst e
      exact fun z => hm (z ▸ ha)
    · rcases List.mem_append.mp ha with h | h
      · exact rl.on a h
      · have e : a = D := by simpa using h
        subst e; exact ⟨_, hd, fun _ z => (nomatch z), fun _ z => (nomatch z)⟩
    · by_cases hn : n < μ.length
      · rw [List.getElem?_append_left hn] at h1
        rw [List.getElem?_append_left (by rw [← rl.len]; exact hn)] at h2
        exact rl.off n a u h1 h2 h3
      · rw [List.getElem?_append_right (by omega)] at h1
        have e : a = D := by simpa using List.mem_of_getElem? h1
        subst e; exact hfd
    · by_cases hn : n < μ.length
      · rw [List.getElem?_append_left hn] at h1
        rw [List.getElem?_append_left (by rw [← rl.len]; exact hn)] at h2
        exact OR.up hpre (fun _ _ h => h) (fun _ h => h) (rl.ob n a u h1 h2)
      · rw [List.getElem?_append_right (by omega)] at h1
        rw [List.getElem?_append_right (by rw [← rl.len]; omega)] at h2
        have e : a = D := by simpa using List.mem_of_getElem? h1
        have e2 : u = .lst acc := by simpa using List.mem_of_getElem? h2
        subst e e2
        exact ⟨vs, hd, r.up hpre fun _ _ h => h⟩
  | false =>
    have q : PP K A (WR K A) E μ0 F0 H0 (match allD acc with | some ds => .ok (.d (.list ds)) S | none => .bad) Q := q
    cases ea : allD acc with
    | none => rw [ea] at q; exact q.elim
    | some ds =>
      rw [ea] at q
      obtain ⟨d1, l1⟩ := ws_drs r ea
      have up := upd_up (o := HO.lst vs) hfd
      refine q μ (upd F D (.lst vs)) H (.ref D) ⟨t.pre, fun a u e => up a u (t.fz a u e), fun a u e p n => ?_⟩ ⟨rl.len, rl.nd, fun a u e => ?_, rl.on, fun n a u h1 h2 h3 => ?_, fun n a u h1 h2 => OR.up List.prefix_rfl up (fun _ h => h) (rl.ob n a u h1 h2), nt_upd rl.nt (fun _ z => nomatch z), rl.tb⟩ ⟨.lst upd_same (drs_up up _ _ d1), list_lay l1⟩
      · obtain ⟨h1, h2, h3⟩ := t.fr a u e p n
        refine ⟨h1, h2, fun z => ?_⟩
        rw [upd_ne (ne_of_none e hD)]; exact h3 z
      · by_cases z : a = D
        · subst z; rw [upd_same] at e; rw [← e]; exact hd
        · rw [upd_ne z] at e; exact rl.ex a u e
      · have z : a ≠ D := fun z => hm (z ▸ List.mem_of_getElem? h1)
        rw [upd_ne z]; exact rl.off n a u h1 h2 h3
theorem lc_turn {K : PySem.W.Frag} {cel : Bool} {μ0 : List Addr} {F0 H0 : Hp} {σ0 : L2.St} {en0 : Ev} {Q : VK} {D : Addr} {f : Sto → Res (List W)} {n : Nat} {own : List Nat} {t : XT} {el : XE}
    (hD : H0 D = none) {μ : List Addr} {F : Hp} {S : Sto} {acc : List W} {vs : List V} {H : Hp} {v : V} {w : W} (t0 : Xt μ0 F0 H0 μ F H) (rl : Rl K A μ F S H) (er : ER K A μ F σ0 en0) (hd : H D = some (.lst vs)) (hm : D ∉ μ) (hfd : F D = none) (r : WRs K A μ F vs acc) (hn : acc.length ≤ n) (hacc : n < cap) (rw0 : WR K A μ F v w)
    (h : PP K A (WR K A) E μ0 F0 H0 (((noX (g w en0 S)).andThen fun en1 S1 => (noX (t en1 S1)).andThen fun b S2 => if b then (noX (el en1 S2)).andThen fun y S3 => (f S3).andThen fun r S4 => .ok (y :: r) S4 else f S2).andThen fun r S' => lstN cel (acc ++ r) S') Q) :
    tGw K A E0 own g v σ0 H fun σ2 H2 => wipe σ2 own = wipe σ0 own ∧ tTt K A E0 t σ2 H2 fun b H3 =>
      if b = true then tE K A E0 el σ2 H3 fun y H4 => ∃ acc', H4 D = some (.lst acc') ∧ acc'.length < sizeLine ∧ LcW K A E cel μ0 F0 H0 σ0 en0 Q D f (n + 1) (upd H4 D (.lst (acc' ++ [y]))) else LcW K A E cel μ0 F0 H0 σ0 en0 Q D f (n + 1) H3 := by
  rw [andThen_assoc] at h
  refine ⟨μ, F, S, en0, w, rl, er, rw0, PP.bindB h fun en1 S1 μ1 F1 H1 σ1 t1 rl1 r1 h1 hw => ⟨hw, ?_⟩⟩
  rw [andThen_assoc] at h1
  obtain ⟨d1, m1, f1⟩ := t1.fr D _ hd (fun _ z => nomatch z) hm
  refine ⟨μ1, F1, S1, en1, rl1, r1, PP.bindB h1 fun b S2 μ2 F2 H2 b' t2 rl2 r2 h2 => ?_⟩
  obtain rfl : b' = b := r2
  obtain ⟨d2, m2, f2⟩ := t2.fr D _ d1 (fun _ z => nomatch z) m1
  cases b' with
  | false =>
    refine iteF ⟨μ2, F2, S2, acc, vs, Nat.le_succ_of_le hn, (t0.trans t1).trans t2, rl2, (er.xt t1).xt t2, d2, m2, f2 (f1 hfd), (WRs.xt t2 (WRs.xt t1 r)), h2⟩
  | true =>
    have h2 : PP K A (WR K A) E μ0 F0 H0 (((noX (el en1 S2)).andThen fun y S3 => (f S3).andThen fun r S4 => .ok (y :: r) S4).andThen fun r S' => lstN cel (acc ++ r) S') Q := h2
    rw [andThen_assoc] at h2
    refine iteT ⟨μ2, F2, S2, en1, rl2, r1.xt t2, PP.bindB h2 fun y S3 μ3 F3 H3 v3 t3 rl3 r3 h3 => ?_⟩
    obtain ⟨d3, m3, f3⟩ := t3.fr D _ d2 (fun _ z => nomatch z) m2
    have r' := WRs.xt t3 (WRs.xt t2 (WRs.xt t1 r))
    refine ⟨vs, d3, by rw [wrs_len r]; exact cap_lt (Nat.lt_of_le_of_lt hn hacc), μ3, F3, S3, acc ++ [y], vs ++ [v3], by simp; omega, ?_, rl3.other m3 (f3 (f2 (f1 hfd))) _ (fun u z => by rw [d3] at z; cases z; exact ⟨fun _ z => (nomatch z), fun _ z => (nomatch z)⟩), ((er.xt t1).xt t2).xt t3, upd_same, m3, f3 (f2 (f1 hfd)), paired_snoc r' r3, ?_⟩
    · exact (((t0.trans t1).trans t2).trans t3).other hD _
    · rw [andThen_assoc] at h3
      have e : (fun r S4 => (Res.ok (y :: r) S4).andThen fun r S' => lstN cel (acc ++ r) S') = fun r S' => lstN cel ((acc ++ [y]) ++ r) S' := by
        funext r S4
        show lstN cel (acc ++ y :: r) S4 = _
        rw [List.append_assoc] <;> rfl
      rw [e] at h3
      exact h3
theorem wipe_idem (σ : L2.St) (vs : List Nat) : wipe (wipe σ vs) vs = wipe σ vs := by
  have key : ∀ (vs us : List Nat) (τ : L2.St), (∀ i ∈ vs, i ∈ us) → wipe (wipe τ vs) us = wipe τ us := by
    intro vs
    induction vs with
    | nil => intro us τ _; rfl
    | cons v vs ih =>
      intro us τ h
      show wipe ((wipe τ vs).set v none) us = _
      rw [wipe_set (h v List.mem_cons_self), ih us τ fun i hi => h i (List.mem_cons_of_mem _ hi)]
  exact key vs vs σ fun _ h => h
theorem lc_fx {K : PySem.W.Frag} {cel : Bool} {t : XT} {el : XE} {J : L2.It} {ws : List W} {μ : List Addr} {F : Hp} {S : Sto} {H : Hp} {σ : L2.St} {en : Ev} {Q : VK} (hcap : ws.length ≤ cap) (rl : Rl K A μ F S H) (er : ER K A μ F σ en) (sup : Sup K A μ F J ws)
    (h : PP K A (WR K A) E μ F H ((lcD g t el (wipeE en own) ws S).andThen fun r S2 => lstN cel r S2) Q) (D : Addr) (hD : H D = none) :
    ∃ W : Nat → Nat → Hp → Prop, (∃ m, W 0 m (upd H D (.lst []))) ∧ ∀ i m H, W i m H → (J.stop i H ∧ Q (.ref D) H) ∨ (J.go i H ∧ ∃ Nx : Hp → Prop, (∀ H', Nx H' → ∃ m', m' < m ∧ W (i + 1) m' H') ∧ ∀ x H', J.yld i H x H' → tGw K A E0 own g x (wipe σ own) H' fun σ2 H2 => wipe σ2 own = wipe σ own ∧ tTt K A E0 t σ2 H2 fun b H3 =>
      if b = true then tE K A E0 el σ2 H3 fun y H4 => ∃ acc, H4 D = some (.lst acc) ∧ acc.length < sizeLine ∧ Nx (upd H4 D (.lst (acc ++ [y]))) else Nx H3) := by
  have erw := er.wipe own
  refine ⟨fun i m H' => m = ws.length - i ∧ i ≤ ws.length ∧ LcW K A E cel μ F H (wipe σ own) (wipeE en own) Q D (lcD g t el (wipeE en own) (ws.drop i)) i H', ⟨ws.length, by simp, by simp, ?_⟩, fun i m H' hW => ?_⟩
  · exact ⟨μ, F, S, [], [], Nat.le_refl _, (Xt.refl μ F H).other hD _, rl.other (rl.mp hD) (rl.fp hD) _ (fun u z => by rw [hD] at z; cases z), erw, upd_same, rl.mp hD, rl.fp hD, .nil, h⟩
  · obtain ⟨rfl, hi, hL⟩ := hW
    by_cases hlt : i < ws.length
    · obtain ⟨μ1, F1, S1, acc, vs, ha0, t1, rl1, er1, hd, hm, hfd, r, q⟩ := hL
      have ew : ws[i]? = some ws[i] := List.getElem?_eq_getElem hlt
      obtain ⟨go, yl⟩ := sup.go μ1 F1 S1 H' i ws[i] t1.pre t1.fz rl1 ew
      refine .inr ⟨go, LcW K A E cel μ F H (wipe σ own) (wipeE en own) Q D (lcD g t el (wipeE en own) (ws.drop (i + 1))) (i + 1), fun H2 hN => ⟨ws.length - (i + 1), by omega, rfl, hlt, hN⟩, fun x H2 hy => ?_⟩
      obtain ⟨F2, t2, rl2, r2⟩ := yl x H2 hy
      obtain ⟨d2, m2, f2⟩ := t2.fr D _ hd (fun _ z => nomatch z) hm
      rw [List.drop_eq_getElem_cons hlt] at q
      have key := lc_turn (g := g) (own := own) (t := t) (el := el) (f := lcD g t el (wipeE en own) (ws.drop (i + 1))) (n := i) hD (t1.trans t2) rl2 (er1.xt t2) d2 m2 (f2 hfd) (WRs.xt t2 r) ha0 (by omega) r2 q
      rw [wipe_idem] at key
      exact key
    · have e : i = ws.length := by omega
      subst e
      have hL' := hL
      obtain ⟨μ1, F1, S1, acc, vs, ha0, t1, rl1, er1, hd, hm, hfd, r, q⟩ := hL
      rw [List.drop_length] at hL'
      exact .inl ⟨sup.stop μ1 F1 S1 H' t1.pre t1.fz rl1, lc_end hD (fun S => rfl) hL'⟩
theorem lc_cel {K : PySem.W.Frag} {cel : Bool} {t : XT} {el : XE} {a : Addr} {n fuel : Nat} {μ : List Addr} {F : Hp} {S : Sto} {H : Hp} {σ : L2.St} {en : Ev} {Q : VK} (hcap : fuel ≤ cap) (rl : Rl K A μ F S H) (er : ER K A μ F σ en) (ha : μ[n]? = some a)
    (h : PP K A (WR K A) E μ F H ((lcC g t el (wipeE en own) n fuel 0 S).andThen fun r S2 => lstN cel r S2) Q) (D : Addr) (hD : H D = none) :
    ∃ W : Nat → Nat → Hp → Prop, (∃ m, W 0 m (upd H D (.lst []))) ∧ ∀ i m H, W i m H → ((Itl K a).stop i H ∧ Q (.ref D) H) ∨ ((Itl K a).go i H ∧ ∃ Nx : Hp → Prop, (∀ H', Nx H' → ∃ m', m' < m ∧ W (i + 1) m' H') ∧ ∀ x H', (Itl K a).yld i H x H' → tGw K A E0 own g x (wipe σ own) H' fun σ2 H2 => wipe σ2 own = wipe σ own ∧ tTt K A E0 t σ2 H2 fun b H3 =>
      if b = true then tE K A E0 el σ2 H3 fun y H4 => ∃ acc, H4 D = some (.lst acc) ∧ acc.length < sizeLine ∧ Nx (upd H4 D (.lst (acc ++ [y]))) else Nx H3) := by
  have erw := er.wipe own
  refine ⟨fun i m H' => i + m = fuel ∧ LcW K A E cel μ F H (wipe σ own) (wipeE en own) Q D (lcC g t el (wipeE en own) n m i) i H', ⟨fuel, by simp, ?_⟩, fun i m H' hW => ?_⟩
  · exact ⟨μ, F, S, [], [], Nat.le_refl _, (Xt.refl μ F H).other hD _, rl.other (rl.mp hD) (rl.fp hD) _ (fun u z => by rw [hD] at z; cases z), erw, upd_same, rl.mp hD, rl.fp hD, .nil, h⟩
  · obtain ⟨hfu, hL⟩ := hW
    have hL' := hL
    obtain ⟨μ1, F1, S1, acc, vs, ha0, t1, rl1, er1, hd, hm, hfd, r, q⟩ := hL
    have ha1 := pre_get t1.pre ha
    cases m with
    | zero => exact q.elim
    | succ m =>
      unfold lcC at q
      cases hS : S1[n]? with
      | none => rw [hS] at q; exact q.elim
      | some ob =>
        rw [hS] at q
        have hob := rl1.ob n a ob ha1 hS
        cases ob with
        | lst us =>
          obtain ⟨xs, k1, k2⟩ := hob
          have hl := wrs_len k2
          have q : PP K A (WR K A) E μ F H ((match us[i]? with
            | none => Res.ok ([] : List W) S1
            | some w => (noX (g w (wipeE en own) S1)).andThen fun en1 S1 => (noX (t en1 S1)).andThen fun b S2 => if b then (noX (el en1 S2)).andThen fun y S3 => (lcC g t el (wipeE en own) n m (i + 1) S3).andThen fun r S4 => .ok (y :: r) S4 else lcC g t el (wipeE en own) n m (i + 1) S2).andThen fun r S' => lstN cel (acc ++ r) S') Q := q
          cases hw : us[i]? with
          | none =>
            rw [hw] at q
            refine .inl ⟨⟨xs, .inl (.inl k1), by rw [hl]; exact List.getElem?_eq_none_iff.mp hw⟩, ?_⟩
            exact lc_end (σ0 := wipe σ own) (en0 := wipeE en own) (f := fun S => Res.ok [] S) hD (fun S => rfl) ⟨μ1, F1, S1, acc, vs, ha0, t1, rl1, er1, hd, hm, hfd, r, q⟩
          | some w =>
            rw [hw] at q
            obtain ⟨v, hv, rv⟩ := wrs_get k2 hw
            refine .inr ⟨⟨xs, v, .inl (.inl k1), hv⟩, LcW K A E cel μ F H (wipe σ own) (wipeE en own) Q D (lcC g t el (wipeE en own) n m (i + 1)) (i + 1), fun H2 hN => ⟨m, Nat.lt_succ_self m, by omega, hN⟩, fun x H2 hy => ?_⟩
            obtain ⟨rfl, hy⟩ := hy
            have ex : v = x := Option.some.inj (hv.symm.trans (hy xs (.inl (.inl k1))))
            subst ex
            have key := lc_turn (g := g) (own := own) (t := t) (el := el) (f := lcC g t el (wipeE en own) n m (i + 1)) (n := i) hD t1 rl1 er1 hd hm hfd r ha0 (by omega) rv q
            rw [wipe_idem] at key
            exact key
        | _ => exact q.elim
structure LcP (X : Cx) (A : Ad) (scope : Scope) (own : List (Str × Nat)) (tg elt : Expr) (ifs : List Expr) (g : XG) (t : XT) (el : XE) : Prop where
  blk : BlkOk X.N X.env.scope scope own
  tg : ∀ (s : Shared) (H : Hp) (C : Addr) (cl : List (Str × Addr)) (fp : List Addr), STGW (X.blk s H scope (compEnvC scope cl C X.env) fp) A E0 (own.map (·.2)) tg g
  ts : ∀ (s : Shared) (H : Hp) (C : Addr) (cl : List (Str × Addr)) (fp : List Addr), PTs (X.blk s H scope (compEnvC scope cl C X.env) fp) ifs (tTt X.K A E0 t)
  el : ∀ (s : Shared) (H : Hp) (C : Addr) (cl : List (Str × Addr)) (fp : List Addr), SE (X.blk s H scope (compEnvC scope cl C X.env) fp) A E0 elt el
theorem lc_run {cel : Bool} {t : XT} {el : XE} {wi : TI} {μ : List Addr} {F : Hp} {S : Sto} {H : Hp} {σ : L2.St} {en : Ev} {Q : VK}
    (hi : ∀ (μ : List Addr) (F : Hp) (S : Sto) (H : Hp) (σ : L2.St) (en : Ev) (R : L2.It → Hp → Prop), Rl X.K A μ F S H → ER X.K A μ F σ en → PP X.K A (IR X.K A) E μ F H (ii en S) R → wi σ H R)
    (rl : Rl X.K A μ F S H) (er : ER X.K A μ F σ en) (h : PP X.K A (WR X.K A) E μ F H (xLc cel own g ii t el en S) Q) : tLc wi (tGw X.K A E0 own g) (tTt X.K A E0 t) (tE X.K A E0 el) own σ H Q := by
  refine hi μ F S H σ en _ rl er (PP.bind h fun v S1 μ1 F1 H1 J _ t1 rl1 r1 h1 D hD => ?_)
  cases v with
  | fx ws =>
    have h1 : PP X.K A (WR X.K A) E μ1 F1 H1 (if ws.length ≤ cap then (lcD g t el (wipeE en own) ws S1).andThen fun r S2 => lstN cel r S2 else .bad) Q := h1
    split at h1
    · rename_i hc
      exact lc_fx hc rl1 (er.xt t1) r1 h1 D hD
    · exact h1.elim
  | cel n =>
    obtain ⟨a, ha, rfl⟩ := r1
    have h1 : PP X.K A (WR X.K A) E μ1 F1 H1 (match celL n S1 with
      | some ws => if ws.length ≤ 1000000 then (lcC g t el (wipeE en own) n (ws.length + 1) 0 S1).andThen fun r S2 => lstN cel r S2 else .bad
      | none => .bad) Q := h1
    split at h1
    · split at h1
      · rename_i ws _ hc
        exact lc_cel (by unfold cap; omega) rl1 (er.xt t1) ha h1 D hD
      · exact h1.elim
    · exact h1.elim
theorem se_lc {cel : Bool} {scope : Scope} {ow : List (Str × Nat)} {ifs : List Expr} {t : XT} {el : XE} (hc : X.calm = true) (hN : X.N.Nodup) (hi : SI X A E tg it ii) (P : LcP X A scope ow tg elt ifs g t el) (hs : ∀ x, foldedSetIterable it X.env x = pure x) :
    SE X A E (.ListComp elt [⟨tg, it, ifs, 0⟩] scope pos) (xLc cel (ow.map (·.2)) g ii t el) := by
  obtain ⟨wi, pi, hi⟩ := hi
  exact ⟨_, pe_lc (g := tGw X.K A E0 (ow.map (·.2)) g) (tt := tTt X.K A E0 t) (te := tE X.K A E0 el) hc hN pi P.blk (fun s H C cl fp => (P.tg s H C cl fp).pg) P.ts (fun s H C cl fp => (P.el s H C cl fp).pe) hs, fun μ F S H σ en Q rl er h => lc_run hi rl er h⟩
theorem ss_setLc {cel : Bool} {i : Nat} {y : Str} {py spos : Pos} {scope : Scope} {ow : List (Str × Nat)} {ifs : List Expr} {t : XT} {el : XE} (hc : X.calm = true) (hN : X.N.Nodup) (hy : X.N[i]? = some y) (hyl : X.env.scope.names.lookup y = some .local)
    (hsw : swapsWith (.ListComp elt [⟨tg, it, ifs, 0⟩] scope pos) (some (.Name y py)) spos.line X.env = pure true) (hi : SI X A E tg it ii) (P : LcP X A scope ow tg elt ifs g t el) (hs : ∀ x, foldedSetIterable it X.env x = pure x) :
    SS X A E (.Assign [.Name y py] (.ListComp elt [⟨tg, it, ifs, 0⟩] scope pos) spos) (sAsg (gNm i) (xLc cel (ow.map (·.2)) g ii t el)) := by
  obtain ⟨wi, pi, hi⟩ := hi
  refine ⟨_, ps_setLc (g := tGw X.K A E0 (ow.map (·.2)) g) (tt := tTt X.K A E0 t) (te := tE X.K A E0 el) hc hN hy hyl hsw pi P.blk (fun s H C cl fp => (P.tg s H C cl fp).pg) P.ts (fun s H C cl fp => (P.el s H C cl fp).pe) hs, fun μ F S H σ en D rl er h => ?_⟩
  refine lc_run hi rl er (PD.bind (R1 := WR X.K A) h fun w S1 μ1 F1 H1 v _ t1 rl1 r1 h1 => ?_)
  exact PD.now h1 rl1 ((er.xt t1).set i r1)
end
end Mi
end
section
set_option Elab.async false
set_option linter.all false
set_option maxRecDepth 100000
set_option maxHeartbeats 4000000
namespace Mi
open PySem L2 PyProof.Rows
inductive Src where
  | l (a : Addr)
  | t (a : Addr)
  | z (x : Str) (k : Tok)
def Src.ads : Src → List Addr
  | .l a => [a]
  | .t a => [a]
  | .z _ _ => []
def Src.val : Src → Value
  | .l a => .ref a
  | .t a => .ref a
  | .z x k => .str x k
def sgV (x : Str) : List V := x.cps.toList.map fun c => .str ⟨#[c]⟩
def SrcAt (K : PySem.W.Frag) (H : Hp) : Src → List V → Prop
  | .l a, xs => SqL K H a xs
  | .t a, xs => SqT K H a xs
  | .z x _, xs => xs = sgV x
def SrcTn (it : Addr) (i : Nat) (h : Heap) : Src → Prop
  | .l a => h.IsListIter it a i
  | .t a => h.IsTupleIter it a i
  | .z x k => h.IsStrIter it (strIterType x) x k i
def SrcHas (h : Heap) (its : List Value) : Src → Prop
  | .l a => h.IsList a its.toArray
  | .t a => h.IsTuple a its.toArray
  | .z _ _ => True
def Src.obj : Src → Obj
  | .l a => { cls := .type "list_iterator", data := .fields #[.ref a, .int 0 0] }
  | .t a => { cls := .type "tuple_iterator", data := .fields #[.ref a, .int 0 0] }
  | .z x k => { cls := .type (strIterType x), data := .fields #[.str x k, .int 0 0] }
section
variable {X : Cx} {pins : List (Addr × Obj)} {σ : L2.St} {H : Hp} {s : Shared} {xs ys : List V} {k : Src} {it : Addr} {i : Nat} {h h' : Heap}
theorem src_inj (I : Inv X pins σ H s) (p : SrcAt X.K H k xs) (q : SrcAt X.K H k ys) : xs = ys := by
  cases k with
  | l a => exact I.list_inj p q
  | t a => exact I.tuple_inj p q
  | z x k => exact Eq.trans p (Eq.symm q)
theorem tn_at (st : SrcTn it i h k) (e : ∀ o, h.get? it = some o → h'.get? it = some o) : SrcTn it i h' k := by
  cases k with
  | l a => exact Heap.IsListIter.at st e
  | t a => exact Heap.IsTupleIter.at st e
  | z x k =>
    obtain ⟨o, ho, r⟩ := st
    exact ⟨o, e o ho, r⟩
theorem tn_ob (st : SrcTn it i h k) : ∃ o, h.get? it = some o ∧ ∀ v, o.data ≠ .cell v := by
  cases k with
  | l a => obtain ⟨o, e, _, d⟩ := st; exact ⟨o, e, fun v q => by rw [d] at q; cases q⟩
  | t a => obtain ⟨o, e, _, d⟩ := st; exact ⟨o, e, fun v q => by rw [d] at q; cases q⟩
  | z x k => obtain ⟨o, e, _, d⟩ := st; exact ⟨o, e, fun v q => by rw [d] at q; cases q⟩
theorem tn_lt (st : SrcTn it i h k) : it < h.objs.size := by
  obtain ⟨o, e, _⟩ := tn_ob st
  exact Heap.lt_size e
theorem src_has (I : Inv X pins σ H s) (q : SrcAt X.K H k xs) : ∃ its, SrcHas s.heap its k ∧ its.length = xs.length ∧ (∀ a ∈ k.ads, a < s.heap.objs.size) ∧
    (match k with | .z _ _ => True | _ => Vals xs its) := by
  cases k with
  | l a =>
    obtain ⟨its, r, p, _⟩ := I.list q
    obtain ⟨o, n, e, w⟩ := id p
    exact ⟨its, p.isList, r.length.symm, fun b hb => by have : b = a := by simpa [Src.ads] using hb
                                                        subst this; exact Heap.lt_size e, r⟩
  | t a =>
    obtain ⟨its, r, p, _⟩ := I.tuple q
    obtain ⟨o, e, w⟩ := id p
    exact ⟨its, p, r.length.symm, fun b hb => by have : b = a := by simpa [Src.ads] using hb
                                                 subst this; exact Heap.lt_size e, r⟩
  | z x k => exact ⟨List.replicate xs.length .none, True.intro, by simp, fun b hb => by simp [Src.ads] at hb, True.intro⟩
theorem begins_src (its : List Value) : Begins k.val k.obj (fun h => SrcHas h its k) := by
  cases k with
  | l a => exact begins_list a its.toArray
  | t a => exact begins_tuple a its.toArray
  | z x k => exact begins_text x k
theorem tn_0 (e : h.get? it = some k.obj) : SrcTn it 0 h k := by
  cases k with
  | l a => exact ⟨_, e, rfl, rfl⟩
  | t a => exact ⟨_, e, rfl, rfl⟩
  | z x k => exact ⟨_, e, rfl, rfl⟩
theorem sg_get {x : Str} {c : Nat} (e : x.cps[i]? = some c) : (sgV x)[i]? = some (.str ⟨#[c]⟩) := by
  unfold sgV
  rw [List.getElem?_map, Array.getElem?_toList, e]
  rfl
theorem src_draws {A : Around} (hh : A.handled = none) (I : Inv X pins σ H s) (q : SrcAt X.K H k xs) (hne : it ∉ k.ads) :
    ∃ P St, Draws X.prog X.w A it (it :: k.ads) xs.length P St ∧ (∀ i, SrcTn it i s.heap k → St i s.heap) ∧ (∀ i h, St i h → SrcTn it i h k) ∧ ∀ i v, P i v → ∃ x, xs[i]? = some x ∧ RelV x v := by
  cases k with
  | l a =>
    obtain ⟨its, r, p, _⟩ := I.list q
    have hn : a ≠ it := fun e => hne (by simp [Src.ads, e])
    have D := Draws.list (prog := X.prog) (w := X.w) hh it a hn its.toArray
    have e : its.toArray.size = xs.length := by rw [r.length]; simp
    rw [e] at D
    refine ⟨_, _, D, fun i st => ⟨st, p.isList⟩, fun i h st => st.1, fun i v hv => ?_⟩
    have hv' : its[i]? = some v := by simpa using hv
    exact paired_get r hv'
  | t a =>
    obtain ⟨its, r, p, _⟩ := I.tuple q
    have hn : a ≠ it := fun e => hne (by simp [Src.ads, e])
    have D := Draws.tuple (prog := X.prog) (w := X.w) hh it a hn its.toArray
    have e : its.toArray.size = xs.length := by rw [r.length]; simp
    rw [e] at D
    refine ⟨_, _, D, fun i st => ⟨st, p⟩, fun i h st => st.1, fun i v hv => ?_⟩
    have hv' : its[i]? = some v := by simpa using hv
    exact paired_get r hv'
  | z x k =>
    have q : xs = sgV x := q
    have D := Draws.text (prog := X.prog) (w := X.w) hh it x k
    have e : x.cps.size = xs.length := by rw [q]; simp [sgV]
    rw [e] at D
    refine ⟨_, _, D, fun i st => st, fun i h st => st, fun i v hv => ?_⟩
    obtain ⟨c, u, hc, rfl⟩ := hv
    exact ⟨.str ⟨#[c]⟩, by rw [q]; exact sg_get hc, _, rfl⟩
def Itz2 (K : PySem.W.Frag) (k1 k2 : Src) : L2.It :=
  ⟨fun i H => ∃ (xs ys : List V) (x y : V), SrcAt K H k1 xs ∧ SrcAt K H k2 ys ∧ xs[i]? = some x ∧ ys[i]? = some y,
    fun i H v H' => ∃ T x y, v = .ref T ∧ H T = none ∧ H' = upd H T (.tup [x, y]) ∧ (∀ xs, SrcAt K H k1 xs → xs[i]? = some x) ∧ ∀ ys, SrcAt K H k2 ys → ys[i]? = some y,
    fun i H => ∃ xs ys : List V, SrcAt K H k1 xs ∧ SrcAt K H k2 ys ∧ i = min xs.length ys.length⟩
theorem zip_wr {z TI TO i1 i2 : Addr} (c : Addr) (h : c ∈ [z, TO, i1, i2]) : c ∈ [z, TI, TO, i1, i2] := by
  simp only [List.mem_cons] at h ⊢
  rcases h with h | h | h | h
  · exact .inl h
  · exact .inr (.inr (.inl h))
  · exact .inr (.inr (.inr (.inl h)))
  · exact .inr (.inr (.inr (.inr h)))
theorem turn_zip2 {P : Program} {w : World} {K : PySem.W.Frag} {elts : List Expr} {kk : Nat} {tpos : Pos} {k1 k2 : Src} {z TI TO i1 i2 : Addr} (D : ZipSep2 z TI TO i1 i2 (i1 :: k1.ads) (i2 :: k2.ads)) (n1 : i1 ∉ k1.ads) (n2 : i2 ∉ k2.ads) :
    Turn P w K (.Tuple elts kk tpos) (Itz2 K k1 k2) [z, TI, TO, i1, i2] z (fun i h => IsZip h z TI TO .none ∧ IsTupOf2 h TI (.ref i1) (.ref i2) ∧ (∃ x y, IsTupOf2 h TO x y) ∧ SrcTn i1 i h k1 ∧ SrcTn i2 i h k2) where
  mem := by simp
  obj := fun i h st c hc => by
    obtain ⟨hz, hTI, ⟨x, y, hTO⟩, h1, h2⟩ := st
    have e' : c = z ∨ c = TI ∨ c = TO ∨ c = i1 ∨ c = i2 := by simpa using hc
    rcases e' with q | q | q | q | q
    · subst q; exact ⟨_, hz, fun v q => nomatch q⟩
    · subst q; exact ⟨_, hTI, fun v q => nomatch q⟩
    · subst q; exact ⟨_, hTO, fun v q => nomatch q⟩
    · subst q; exact tn_ob h1
    · subst q; exact tn_ob h2
  keep := fun i h h' st k => by
    obtain ⟨hz, hTI, ⟨x, y, hTO⟩, h1, h2⟩ := st
    exact ⟨k z (by simp) _ hz, k TI (by simp) _ hTI, ⟨x, y, k TO (by simp) _ hTO⟩, tn_at h1 (k i1 (by simp)), tn_at h2 (k i2 (by simp))⟩
  item := by
    intro X hP hw hK hc i pins s σ H E I hf st hg
    subst hP hw hK
    obtain ⟨hz, hTI, hTO, h1, h2⟩ := st
    obtain ⟨xs, ys, x, y, hqx, hqy, hx, hy⟩ := hg
    have hh : X.A.in1.handled = none := I.ok.hd hc
    obtain ⟨P1, S1, D1, a1, b1, c1⟩ := src_draws (A := X.A.in1) hh I hqx n1
    obtain ⟨P2, S2, D2, a2, b2, c2⟩ := src_draws (A := X.A.in1) hh I hqy n2
    have l1 := (List.getElem?_eq_some_iff.mp hx).1
    have l2 := (List.getElem?_eq_some_iff.mp hy).1
    have hfr : ∀ c ∈ [z, TI, TO, i1, i2], c < s.heap.objs.size := fun c hcm => by
      have e' : c = z ∨ c = TI ∨ c = TO ∨ c = i1 ∨ c = i2 := by simpa using hcm
      rcases e' with q | q | q | q | q
      · subst q; exact Heap.lt_size hz
      · subst q; exact Heap.lt_size hTI
      · subst q; obtain ⟨_, _, q⟩ := hTO; exact Heap.lt_size q
      · subst q; exact tn_lt h1
      · subst q; exact tn_lt h2
    refine (WalksT.zipD2 D D1 D2).item i s _ _ (by omega) ⟨hz, hTI, hTO, a1 i h1, a2 i h2⟩ fun T vals h' tk pv hT tup mid hk => ⟨_, rfl, ?_⟩
    obtain ⟨u1, u2, p1, p2, rfl⟩ := pv
    refine (WalksT.zipD2 D D1 D2).go elts kk tpos i T _ _ _ mid fun h'' st' hk' => ?_
    obtain ⟨x', ex, rx⟩ := c1 i u1 p1
    obtain ⟨y', ey, ry⟩ := c2 i u2 p2
    have ex' : x' = x := Option.some.inj (ex.symm.trans hx)
    have ey' : y' = y := Option.some.inj (ey.symm.trans hy)
    subst ex' ey'
    have hTn : T ∉ [z, TO, i1, i2] := (WalksT.zipD2 D D1 D2).apart i T h' mid
    have tup' : IsTup h'' T #[u1, u2] := tup.at fun o e => hk' T o hTn e
    have new : ObjOk X.prog X.w (upd H T (.tup [x', y'])) h'' T (.tup [x', y']) := ⟨by show 2 ≤ sizeLine; decide, [u1, u2], .cons rx (.cons ry .nil), tup'⟩
    have I1 : Inv X pins σ (upd H T (.tup [x', y'])) { s with heap := h'', toks := tk } :=
      I.turnedNew (ch := [z, TI, TO, i1, i2]) (fun c o hb q => hk' c o (fun q' => hb (zip_wr c q')) (hk c o (fun q' => hb (zip_wr c q')) q)) hf hT new
    refine ⟨.ref T, _, I1, rfl, ⟨T, x', y', rfl, I.hok.fresh hT, rfl, fun l hl => by rw [src_inj I hl hqx]; exact hx, fun l hl => by rw [src_inj I hl hqy]; exact hy⟩, ?_, fun c hcm => ?_⟩
    · obtain ⟨q1, q2, q3, q4, q5⟩ := st'
      exact ⟨q1, q2, q3, b1 _ _ q4, b2 _ _ q5⟩
    · rw [upd_ne (Nat.ne_of_lt (Nat.lt_of_lt_of_le (hfr c hcm) hT))]
      exact (hf c hcm).1
  done := by
    intro X hP hw hK hc i pins s σ H E I hf st hg
    subst hP hw hK
    obtain ⟨hz, hTI, hTO, h1, h2⟩ := st
    obtain ⟨xs, ys, hqx, hqy, rfl⟩ := hg
    have hh : X.A.in1.handled = none := I.ok.hd hc
    obtain ⟨P1, S1, D1, a1, b1, c1⟩ := src_draws (A := X.A.in1) hh I hqx n1
    obtain ⟨P2, S2, D2, a2, b2, c2⟩ := src_draws (A := X.A.in1) hh I hqy n2
    refine (WalksT.zipD2 D D1 D2).done s _ _ ⟨hz, hTI, hTO, a1 _ h1, a2 _ h2⟩ fun h' tk hk => ⟨rfl, ?_⟩
    exact I.turnedL (ch := [z, TI, TO, i1, i2]) (fun c o hb q => hk c o (fun q' => hb (zip_wr c q')) q) hf
  self := fun A i s Q E st h => wpAny_pyIter_zip st.1 h
def SrcFit (K : PySem.W.Frag) (H : Hp) (v : V) (f : Tok → Src) (xs : List V) : Prop := (∀ u, RelV v u → ∃ t, u = (f t).val) ∧ ∀ t, SrcAt K H (f t) xs
def iZip2 (K : PySem.W.Frag) (ta : TA) : TI := fun σ H R => ta σ H fun vs H1 => ∃ v1 v2 f1 f2 xs ys, vs = [v1, v2] ∧ SrcFit K H1 v1 f1 xs ∧ SrcFit K H1 v2 f2 ys ∧ ∀ t1 t2, R (Itz2 K (f1 t1) (f2 t2)) H1
theorem pi_zip2 {X : Cx} {e e2 : Expr} {ta : TA} {p pos tpos : Pos} {elts : List Expr} {kk : Nat} (hg : Gl X "zip") (hm : X.mg "zip" = none) (ha : PA X [e, e2] ta)
    (hs : starEach [e, e2] X.env = (false, eval e X.env) :: starEach [e2] X.env) (hpl : (backTo pos (starEach [e2] X.env)).any (·.1) = false) :
    PI X (.Tuple elts kk tpos) (.Call (.Name "zip" p) [e, e2] [] pos) (iZip2 X.K ta) := by
  constructor
  intro pins s σ H R I h
  refine Call_ (ld_blt I hg hm PyProof.Rows.boot_zip (PyProof.Rows.callWith_type1 (thn (ha.run pos pins s σ H _ I h) fun us s1 ⟨vs, H1, I1, r1, q1⟩ => ?_) hs hpl))
  obtain ⟨v1, v2, f1, f2, xs, ys, rfl, ⟨g1, k1⟩, ⟨g2, k2⟩, q⟩ := q1
  cases r1 with
  | cons r rr =>
  cases rr with
  | cons r' rr =>
  cases rr
  obtain ⟨t1, rfl⟩ := g1 _ r
  obtain ⟨t2, rfl⟩ := g2 _ r'
  obtain ⟨its1, a1, _, b1, _⟩ := src_has I1 (k1 t1)
  obtain ⟨its2, a2, _, b2, _⟩ := src_has I1 (k2 t2)
  refine zip_begins2 (begins_src its1) (begins_src its2) a1 a2 fun h' hz hTI hTO h1 h2 hsz hk => wpAny_pyIter_zip hz ?_
  refine ⟨s1.heap.objs.size + 4, [s1.heap.objs.size + 4, s1.heap.objs.size + 2, s1.heap.objs.size + 3, s1.heap.objs.size, s1.heap.objs.size + 1], _, _, H1, rfl, I1.kept (t' := s1.toks) hk, turn_zip2 (zip_sep2 b1 b2) (fun z => Nat.lt_irrefl _ (b1 _ z)) (fun z => absurd (b2 _ z) (Nat.not_lt_of_le (Nat.le_succ _))), ⟨hz, hTI, ⟨_, _, hTO⟩, tn_0 h1, tn_0 h2⟩, fun c hcm => ?_, q t1 t2⟩
  have hle : s1.heap.objs.size ≤ c := by
    simp only [List.mem_cons, List.not_mem_nil, or_false] at hcm
    rcases hcm with z | z | z | z | z <;> rw [z] <;> first | exact Nat.le_add_right _ _ | exact Nat.le_refl _
  exact I1.fpOk hle (I1.hok.fresh hle)
def Ite2 (K : PySem.W.Frag) (k : Src) : L2.It :=
  ⟨fun i H => ∃ (xs : List V) (x : V), SrcAt K H k xs ∧ xs[i]? = some x,
    fun i H v H' => ∃ T x, v = .ref T ∧ H T = none ∧ H' = upd H T (.tup [.int (i : Nat), x]) ∧ ∀ xs, SrcAt K H k xs → xs[i]? = some x,
    fun i H => ∃ xs : List V, SrcAt K H k xs ∧ i = xs.length⟩
theorem turn_enum2 {P : Program} {w : World} {K : PySem.W.Frag} {elts : List Expr} {kk : Nat} {tpos : Pos} {k : Src} {e it : Addr} (hei : e ≠ it) (hek : e ∉ k.ads) (hik : it ∉ k.ads) :
    Turn P w K (.Tuple elts kk tpos) (Ite2 K k) [e, it] e (fun i h => (∃ old, IsEnum h e it (0 + (i : Int)) old) ∧ SrcTn it i h k) where
  mem := by simp
  obj := fun i h st c hc => by
    obtain ⟨⟨old, he⟩, h1⟩ := st
    have e' : c = e ∨ c = it := by simpa using hc
    rcases e' with q | q
    · subst q; exact ⟨_, he, fun v q => nomatch q⟩
    · subst q; exact tn_ob h1
  keep := fun i h h' st k => by
    obtain ⟨⟨old, he⟩, h1⟩ := st
    exact ⟨⟨old, k e (by simp) _ he⟩, tn_at h1 (k it (by simp))⟩
  item := by
    intro X hP hw hK hc i pins s σ H E I hf st hg
    subst hP hw hK
    obtain ⟨he, h1⟩ := st
    obtain ⟨xs, x, hqx, hx⟩ := hg
    have hh : X.A.in1.handled = none := I.ok.hd hc
    obtain ⟨P1, S1, D1, a1, b1, c1⟩ := src_draws (A := X.A.in1) hh I hqx hik
    have l1 := (List.getElem?_eq_some_iff.mp hx).1
    have hef : e ∉ it :: k.ads := fun z => by
      rcases List.mem_cons.mp z with z | z
      · exact hei z
      · exact hek z
    have W := WalksT.enumFrom 0 D1 e hei hef List.mem_cons_self
    refine W.item i s _ _ l1 ⟨he, a1 i h1⟩ fun T vals h' tk pv hT tup mid hk => ⟨_, rfl, ?_⟩
    obtain ⟨t, u, p1, rfl⟩ := pv
    refine W.go elts kk tpos i T _ _ _ mid fun h'' st' hk' => ?_
    obtain ⟨x', ex, rx⟩ := c1 i u p1
    have ex' : x' = x := Option.some.inj (ex.symm.trans hx)
    subst ex'
    have hTn : T ∉ [e, it] := W.apart i T h' mid
    have tup' : IsTup h'' T #[.int (0 + (i : Int)) t, u] := tup.at fun o z => hk' T o hTn z
    have new : ObjOk X.prog X.w (upd H T (.tup [.int (i : Nat), x'])) h'' T (.tup [.int (i : Nat), x']) :=
      ⟨by show 2 ≤ sizeLine; decide, [.int (0 + (i : Int)) t, u], .cons ⟨t, by rw [Int.zero_add]⟩ (.cons rx .nil), tup'⟩
    have I1 : Inv X pins σ (upd H T (.tup [.int (i : Nat), x'])) { s with heap := h'', toks := tk } :=
      I.turnedNew (ch := [e, it]) (fun c o hb q => hk' c o hb (hk c o hb q)) hf hT new
    refine ⟨.ref T, _, I1, rfl, ⟨T, x', rfl, I.hok.fresh hT, rfl, fun l hl => by rw [src_inj I hl hqx]; exact hx⟩, ?_, fun c hcm => ?_⟩
    · obtain ⟨q1, q2⟩ := st'
      exact ⟨q1, b1 _ _ q2⟩
    · have hlt : c < s.heap.objs.size := by
        have e' : c = e ∨ c = it := by simpa using hcm
        rcases e' with q | q
        · subst q; obtain ⟨_, q⟩ := he; exact Heap.lt_size q
        · subst q; exact tn_lt h1
      rw [upd_ne (Nat.ne_of_lt (Nat.lt_of_lt_of_le hlt hT))]
      exact (hf c hcm).1
  done := by
    intro X hP hw hK hc i pins s σ H E I hf st hg
    subst hP hw hK
    obtain ⟨he, h1⟩ := st
    obtain ⟨xs, hqx, rfl⟩ := hg
    have hh : X.A.in1.handled = none := I.ok.hd hc
    obtain ⟨P1, S1, D1, a1, b1, c1⟩ := src_draws (A := X.A.in1) hh I hqx hik
    have hef : e ∉ it :: k.ads := fun z => by
      rcases List.mem_cons.mp z with z | z
      · exact hei z
      · exact hek z
    refine (WalksT.enumFrom 0 D1 e hei hef List.mem_cons_self).done s _ _ ⟨he, a1 _ h1⟩ fun h' tk hk => ⟨rfl, I.turnedL (ch := [e, it]) hk hf⟩
  self := fun A i s Q E st h => by
    obtain ⟨⟨old, he⟩, _⟩ := st
    exact wpAny_pyIter_enum he h
set_option maxHeartbeats 8000000 in
theorem meets_enum1 {v : Value} {o : Obj} {H : Heap → Prop} (B : Begins v o H) :
    Meets (Builtin.«enumerate.__new__» { pos := [.type "enumerate", v], kw := [] }) (fun _ R s => H s.heap ∧ R (.ok (.ret (.ref (s.heap.push o).objs.size))) { s with heap := (s.heap.push o).push { cls := .type "enumerate", data := .fields #[.none, .bool false, .ref s.heap.objs.size, rawInt 0, .none, .none] } }) := by
  apply Meets.of_wp
  intro prog w A R s h
  obtain ⟨hp, g, d, tk, os⟩ := s
  obtain ⟨h1, h⟩ := h
  have key := sub_enumerate
  have q1 : ∀ {A' : Around} {E Q : Value → Shared → Prop}, Q (.ref hp.objs.size) ⟨hp.push o, g, d, tk, os⟩ → wpAny (model prog w) A' (pyIter v) Q E ⟨hp, g, d, tk, os⟩ := fun q => B.iter prog w _ _ ⟨hp, g, d, tk, os⟩ _ h1 q
  wp_walk using q1
  refine wpAny_stack_any fun st => wpAny_pure ?_
  split
  · rename_i c _ _ _ _ _
    cases (c == Value.type "enumerate") <;> (wp_walk using q1; exact ⟨_, rfl, h⟩)
  · wp_walk using q1
    exact ⟨_, rfl, h⟩
theorem enum1 {prog : Program} {w : World} {A : Around} {E Q : Value → Shared → Prop} {s : Shared} {v : Value} {o : Obj} {H : Heap → Prop} (B : Begins v o H) (h1 : H s.heap)
    (h : ∀ h', IsEnum h' (s.heap.objs.size + 1) s.heap.objs.size 0 .none → h'.get? s.heap.objs.size = some o → (∀ b o, s.heap.get? b = some o → h'.get? b = some o) → Q (.ref (s.heap.objs.size + 1)) { s with heap := h' }) :
    wpAny (model prog w) A (call (.type "enumerate") [v]) Q E s := by
  apply callType_new F.called_enumerate (by decide) (F.typeCall_enumerate_1 _) (F.newCall_enumerate_1 _) (fun obj => F.args_object_init_2 obj _) F.entry_enumerate_new (meets_enum1 B)
  refine ⟨h1, ?_⟩
  have hz : (s.heap.push o).objs.size = s.heap.objs.size + 1 := Heap.size_push ..
  have he := Heap.get?_push_size (s.heap.push o) (o := { cls := .type "enumerate", data := .fields #[.none, .bool false, .ref s.heap.objs.size, rawInt 0, .none, .none] }) rfl
  rw [hz] at he
  show _ ∧ _
  rw [hz]
  exact ⟨⟨_, he, rfl⟩, h _ he (Heap.get?_push_of_some _ (Heap.get?_push_size _ B.free)) fun b o x => Heap.get?_push_of_some _ (Heap.get?_push_of_some _ x)⟩
def iEnum2 (K : PySem.W.Frag) (ta : TA) : TI := fun σ H R => ta σ H fun vs H1 => ∃ v f xs, vs = [v] ∧ SrcFit K H1 v f xs ∧ ∀ t, R (Ite2 K (f t)) H1
theorem pi_enum2 {X : Cx} {e : Expr} {ta : TA} {p pos tpos : Pos} {elts : List Expr} {kk : Nat} (hg : Gl X "enumerate") (hm : X.mg "enumerate" = none) (ha : PA X [e] ta) (hs : starEach [e] X.env = [(false, eval e X.env)]) :
    PI X (.Tuple elts kk tpos) (.Call (.Name "enumerate" p) [e] [] pos) (iEnum2 X.K ta) := by
  constructor
  intro pins s σ H R I h
  refine Call_ (ld_blt I hg hm boot_enumerate (PyProof.Rows.callWith_type1 (thn (ha.run pos pins s σ H _ I h) fun us s1 ⟨vs, H1, I1, r1, q1⟩ => ?_) hs rfl))
  obtain ⟨v, f, xs, rfl, ⟨g1, k1⟩, q⟩ := q1
  cases r1 with
  | cons r rr =>
  cases rr
  obtain ⟨t, rfl⟩ := g1 _ r
  obtain ⟨its, a1, _, b1, _⟩ := src_has I1 (k1 t)
  refine enum1 (begins_src its) a1 fun h' he h1 hk => wpAny_pyIter_enum he ?_
  refine ⟨s1.heap.objs.size + 1, [s1.heap.objs.size + 1, s1.heap.objs.size], _, _, H1, rfl, I1.kept (t' := s1.toks) hk, turn_enum2 (Nat.succ_ne_self _) (fun z => absurd (b1 _ z) (Nat.not_lt_of_le (Nat.le_succ _))) (fun z => Nat.lt_irrefl _ (b1 _ z)), ⟨⟨.none, he⟩, tn_0 h1⟩, fun c hcm => ?_, q t⟩
  have hle : s1.heap.objs.size ≤ c := by
    simp only [List.mem_cons, List.not_mem_nil, or_false] at hcm
    rcases hcm with z | z <;> rw [z] <;> first | exact Nat.le_add_right _ _ | exact Nat.le_refl _
  exact I1.fpOk hle (I1.hok.fresh hle)
end
def srcG : W → Option (List D)
  | .d (.list ds) => some ds
  | .d (.tuple ds) => some ds
  | .d (.str z) => some (z.cps.toList.map fun c => .str ⟨#[c]⟩)
  | _ => none
def pairD (x y : D) : D := .tuple [x, y]
def zipD (xs ys : List D) : List W := (List.zipWith pairD xs ys).map .d
def enuD (xs : List D) : List W := (List.zipWith pairD ((List.range xs.length).map fun i => .int (i : Nat)) xs).map .d
def iZipM (ya : XA) : XI := fun en S => (ya en S).andThen fun ws S1 => match ws with
  | [x, y] => (match srcG x, srcG y with
    | some xs, some ys => .ok (.fx (zipD xs ys)) S1
    | _, _ => .bad)
  | _ => .bad
def iEnuM (ya : XA) : XI := fun en S => (ya en S).andThen fun ws S1 => match ws with
  | [x] => (match srcG x with
    | some xs => .ok (.fx (enuD xs)) S1
    | none => .bad)
  | _ => .bad
section
variable {K : PySem.W.Frag} {A : Ad} {μ : List Addr} {F H : Hp} {S : Sto} {v v' : V} {w w' : W} {xs ys : List V} {ds es : List D}
def SrcF (K : PySem.W.Frag) (F : Hp) : Src → List V → Prop
  | .l a, xs => F a = some (.lst xs)
  | .t a, xs => SqT K F a xs
  | .z x _, xs => xs = sgV x
theorem SrcF.at {k : Src} (h : SrcF K F k xs) (f : ∀ a o, F a = some o → H a = some o) : SrcAt K H k xs := by
  cases k with
  | l a => exact .inl (.inl (f _ _ h))
  | t a => exact sqT_up f h
  | z x k => exact h
theorem drs_sg {x : Str} (h : PyData.strOk x = true) : DRs K F (sgV x) (x.cps.toList.map fun c => .str ⟨#[c]⟩) ∧ PyData.canLayAll0 (x.cps.toList.map fun c => PyData.str ⟨#[c]⟩) = true := by
  have key : ∀ l : List Nat, (∀ c ∈ l, c ∈ x.cps) → DRs K F (l.map fun c => V.str ⟨#[c]⟩) (l.map fun c => .str ⟨#[c]⟩) ∧ PyData.canLayAll0 (l.map fun c => PyData.str ⟨#[c]⟩) = true := by
    intro l
    induction l with
    | nil => exact fun _ => ⟨.nil, rfl⟩
    | cons c l ih =>
      intro hl
      obtain ⟨a, b⟩ := ih fun c' h' => hl c' (List.mem_cons_of_mem _ h')
      refine ⟨.cons (.str _) a, ?_⟩
      show (PyData.canLay0 (PyData.str ⟨#[c]⟩) && PyData.canLayAll0 _) = true
      rw [b, Bool.and_true]
      exact sign_lay h (hl c List.mem_cons_self)
  exact key _ fun c hc => Array.mem_toList_iff.mp hc
theorem src_fit (r : WR K A μ F v w) (h : srcG w = some ds) : ∃ (f : Tok → Src) (xs : List V), (∀ u, RelV v u → ∃ t, u = (f t).val) ∧ (∀ t, SrcF K F (f t) xs) ∧ DRs K F xs ds ∧ PyData.canLayAll0 ds = true := by
  unfold srcG at h
  split at h
  · obtain ⟨r, l⟩ := r
    cases r with
    | lst hs hd => cases h; exact ⟨fun _ => .l _, _, fun u hu => ⟨0, hu⟩, fun t => hs, hd, lay_list l⟩
  · obtain ⟨r, l⟩ := r
    cases r with
    | tup hs hd => cases h; exact ⟨fun _ => .t _, _, fun u hu => ⟨0, hu⟩, fun t => hs, hd, lay_tup l⟩
  · rename_i z
    obtain ⟨r, l⟩ := r
    cases r
    cases h
    obtain ⟨a, b⟩ := drs_sg (K := K) (F := F) l
    exact ⟨fun t => .z z t, _, fun u hu => hu, fun t => rfl, a, b⟩
  · cases h
theorem drs_get : ∀ {ds : List D} {xs : List V} {i : Nat} {d : D}, DRs K F xs ds → ds[i]? = some d → ∃ x, xs[i]? = some x ∧ DR K F x d
  | [], _, _, _, _, e => by cases e
  | _ :: _, _, i, _, h, e => by
    cases h with
    | cons a b =>
      cases i with
      | zero => cases e; exact ⟨_, rfl, a⟩
      | succ i =>
        obtain ⟨x, h1, h2⟩ := drs_get (i := i) b (by simpa using e)
        exact ⟨x, by simpa using h1, h2⟩
theorem lay_get : ∀ {ds : List D} {i : Nat} {d : D}, PyData.canLayAll0 ds = true → ds[i]? = some d → PyData.canLay0 d = true
  | [], _, _, _, e => by cases e
  | x :: ds, i, d, c, e => by
    have c' : (PyData.canLay0 x && PyData.canLayAll0 ds) = true := c
    rw [Bool.and_eq_true] at c'
    cases i with
    | zero => cases e; exact c'.1
    | succ i => exact lay_get c'.2 (by simpa using e)
theorem pair_new {H' : Hp} {T : Addr} {x y : V} {d e : D} (rl : Rl K A μ F S H) (hT : H T = none) (hx : DR K F x d) (hy : DR K F y e) (cx : PyData.canLay0 d = true) (cy : PyData.canLay0 e = true) (eH : H' = upd H T (.tup [x, y])) :
    ∃ F2, Xt μ F H μ F2 H' ∧ Rl K A μ F2 S H' ∧ WR K A μ F2 (.ref T) (.d (pairD d e)) := by
  subst eH
  have hfd := rl.fp hT
  have up := upd_up (o := HO.tup [x, y]) hfd
  obtain ⟨rl', xt⟩ := rl.newF hT (.tup [x, y])
  refine ⟨upd F T (.tup [x, y]), xt, rl', ?_, ?_⟩
  · exact .tup (.inl (.inl upd_same)) (.cons (dr_up up _ _ hx) (.cons (dr_up up _ _ hy) .nil))
  · show (PyData.canLay0 d && (PyData.canLay0 e && true)) = true
    rw [cx, cy]; rfl
theorem sup_zip {k1 k2 : Src} (h1 : SrcF K F k1 xs) (h2 : SrcF K F k2 ys) (d1 : DRs K F xs ds) (d2 : DRs K F ys es) (c1 : PyData.canLayAll0 ds = true) (c2 : PyData.canLayAll0 es = true) : Sup K A μ F (Itz2 K k1 k2) (zipD ds es) where
  go := fun μ' F' S' H' i w p f rl e => by
    have q1 : SrcAt K H' k1 xs := SrcF.at h1 fun a o z => rl.ex a o (f a o z)
    have q2 : SrcAt K H' k2 ys := SrcF.at h2 fun a o z => rl.ex a o (f a o z)
    unfold zipD at e
    rw [List.getElem?_map, List.getElem?_zipWith] at e
    cases e1 : ds[i]? with
    | none => rw [e1] at e; cases e
    | some d =>
      cases e2 : es[i]? with
      | none => rw [e1, e2] at e; cases e
      | some d' =>
        rw [e1, e2] at e
        cases e
        obtain ⟨x, ex, rx⟩ := drs_get d1 e1
        obtain ⟨y, ey, ry⟩ := drs_get d2 e2
        refine ⟨⟨xs, ys, x, y, q1, q2, ex, ey⟩, fun v H2 hy => ?_⟩
        obtain ⟨T, x', y', rfl, hT, eH, g1, g2⟩ := hy
        have a1 : x = x' := Option.some.inj (ex.symm.trans (g1 xs q1))
        have a2 : y = y' := Option.some.inj (ey.symm.trans (g2 ys q2))
        subst a1 a2
        exact pair_new rl hT (dr_up f _ _ rx) (dr_up f _ _ ry) (lay_get c1 e1) (lay_get c2 e2) eH
  stop := fun μ' F' S' H' p f rl => ⟨xs, ys, SrcF.at h1 fun a o z => rl.ex a o (f a o z), SrcF.at h2 fun a o z => rl.ex a o (f a o z), by
    unfold zipD
    rw [List.length_map, List.length_zipWith, drs_len d1, drs_len d2]⟩
theorem sup_enum {k : Src} (h1 : SrcF K F k xs) (d1 : DRs K F xs ds) (c1 : PyData.canLayAll0 ds = true) : Sup K A μ F (Ite2 K k) (enuD ds) where
  go := fun μ' F' S' H' i w p f rl e => by
    have q1 : SrcAt K H' k xs := SrcF.at h1 fun a o z => rl.ex a o (f a o z)
    unfold enuD at e
    rw [List.getElem?_map, List.getElem?_zipWith, List.getElem?_map] at e
    cases e1 : ds[i]? with
    | none => rw [e1] at e; revert e; cases ((List.range ds.length)[i]?) <;> intro e <;> cases e
    | some d =>
      have hl := (List.getElem?_eq_some_iff.mp e1).1
      rw [e1, List.getElem?_range hl] at e
      cases e
      obtain ⟨x, ex, rx⟩ := drs_get d1 e1
      refine ⟨⟨xs, x, q1, ex⟩, fun v H2 hy => ?_⟩
      obtain ⟨T, x', rfl, hT, eH, g1⟩ := hy
      have a1 : x = x' := Option.some.inj (ex.symm.trans (g1 xs q1))
      subst a1
      exact pair_new rl hT (.int _) (dr_up f _ _ rx) rfl (lay_get c1 e1) eH
  stop := fun μ' F' S' H' p f rl => ⟨xs, SrcF.at h1 fun a o z => rl.ex a o (f a o z), by
    unfold enuD
    rw [List.length_map, List.length_zipWith, List.length_map, List.length_range, drs_len d1]; omega⟩
end
section
variable {X : Cx} {A : Ad} {E : XK} {a b : Expr} {ya : XA} {pos tpos p : Pos} {elts : List Expr} {kk : Nat}
theorem si_zip (hg : Gl X "zip") (hm : X.mg "zip" = none) (ha : SA X A E [a, b] ya) (na : noStar a = true) (nb : noStar b = true) : SI X A E (.Tuple elts kk tpos) (.Call (.Name "zip" p) [a, b] [] pos) (iZipM ya) := by
  obtain ⟨t, q, ha⟩ := ha
  refine ⟨_, pi_zip2 hg hm q (star_cons na) ?_, fun μ F S H σ en R rl er h => ?_⟩
  · exact star_any (es := [b]) (by simp [nb])
  · refine ha μ F S H σ en _ rl er (PP.bind h fun ws S1 μ1 F1 H1 vs _ t1 rl1 r1 h1 => ?_)
    unfold iZipM at h1
    split at h1
    · split at h1
      · rename_i x y xs ys e1 e2
        cases r1 with
        | cons ra r1 =>
        cases r1 with
        | cons rb r1 =>
        cases r1
        obtain ⟨f1, xs1, g1, k1, d1, c1⟩ := src_fit ra e1
        obtain ⟨f2, xs2, g2, k2, d2, c2⟩ := src_fit rb e2
        exact ⟨_, _, f1, f2, xs1, xs2, rfl, ⟨g1, fun t => SrcF.at (k1 t) rl1.ex⟩, ⟨g2, fun t => SrcF.at (k2 t) rl1.ex⟩, fun t1 t2 => PP.now h1 rl1 (sup_zip (k1 t1) (k2 t2) d1 d2 c1 c2)⟩
      · exact h1.elim
    · exact h1.elim
theorem si_enum (hg : Gl X "enumerate") (hm : X.mg "enumerate" = none) (ha : SA X A E [a] ya) (na : noStar a = true) : SI X A E (.Tuple elts kk tpos) (.Call (.Name "enumerate" p) [a] [] pos) (iEnuM ya) := by
  obtain ⟨t, q, ha⟩ := ha
  refine ⟨_, pi_enum2 hg hm q (star_cons na), fun μ F S H σ en R rl er h => ?_⟩
  refine ha μ F S H σ en _ rl er (PP.bind h fun ws S1 μ1 F1 H1 vs _ t1 rl1 r1 h1 => ?_)
  unfold iEnuM at h1
  split at h1
  · split at h1
    · rename_i x xs e1
      cases r1 with
      | cons ra r1 =>
      cases r1
      obtain ⟨f1, xs1, g1, k1, d1, c1⟩ := src_fit ra e1
      exact ⟨_, f1, xs1, rfl, ⟨g1, fun t => SrcF.at (k1 t) rl1.ex⟩, fun t => PP.now h1 rl1 (sup_enum (k1 t) d1 c1)⟩
    · exact h1.elim
  · exact h1.elim
end
end Mi
end
section
set_option Elab.async false
set_option linter.all false
set_option maxRecDepth 100000
set_option maxHeartbeats 4000000
namespace Mi
open PySem PySem.Spec L2 LamX PyProof.Rows
def TRef (K : PySem.W.Frag) (CS CN : Addr) (b0 : Bool) : (XK → Hp → VK → Prop) → Hp → VK → Prop := fun tl H Q =>
  tl (fun cls d H' => ∃ (D : Addr) (b : Bool), cls = .ref D ∧ d = none ∧ ExcC K D ∧ PySem.W.exmOne K cls (.ref CS) = some true ∧ PySem.W.kitOne K (.ref D) (.ref CN) = some b ∧ Q (.bl b) H') H (fun _ H' => Q (.bl b0) H')
section
variable {X : Cx}
theorem refused_gives {Ng : List Str} {x a n e q cn : Str} {sg : Scope} {g CS CN : Addr} {cdg : Value} {j i : Nat} {b0 : Bool} {p1 p2 p3 p4 p5 p6 p7 p8 p9 p10 p11 p12 p13 : Pos}
    (hge : sg.names.lookup e = some .globalImplicit) (hme : X.mg e = some (.ref CS)) (hde : (e == ("__debug__" : Str)) = false)
    (hgn : sg.names.lookup cn = some .globalImplicit) (hmn : X.mg cn = some (.ref CN)) (hdn : (cn == ("__debug__" : Str)) = false)
    (hgi : sg.names.lookup ("isinstance" : Str) = some .globalImplicit) (hmi : X.mg "isinstance" = none)
    (hN : Ng.Nodup) (hi : Ng[i]? = some n) (hl : sg.names.lookup n = some .local) (hi0 : i ≠ 0) (hil : i < Ng.length) (hdb : (n == ("__debug__" : Str)) = false) (hcd : (n == ("__classdict__" : Str)) = false)
    (h0 : ∀ f : Addr, (L2.start Ng [V.ref f])[0]? = some (some (V.ref f))) :
    GivesTo X Ng x sg g cdg [.Try [.Expr (.Call (.Name a p1) [] [] p2) p3] [.ExceptHandler (some (.Name e p4)) (some n) [.Return (some (.Call (.Name "isinstance" p5) [.Name n p6, .Name cn p7] [] p8)) p9] p10] [] [] p11, .Return (some (.Constant (.bool b0) j p12)) p13] a q (TRef X.K CS CN b0) := by
  intro f c' s H Q tl act hc h
  have hgl : Gl (cxOf C8.CX0 X.prog X.w X.K X.mg X.base Ng x sg g cdg X.A X.stack s H C8.E0).nox e := hge
  refine ⟨_, pss_cons (ps_try_as (X := (cxOf C8.CX0 X.prog X.w X.K X.mg X.base Ng x sg g cdg X.A X.stack s H C8.E0).nox) (c := .ref CS) (i := i)
      (tb := fun W D σ H => ∃ Ech : XK, (∀ cls d σ' H', Ech cls d H' → W cls d σ' H') ∧ σ[0]? = some (some (.ref f)) ∧ H c' = some (CodeO c' q) ∧ tl Ech H (fun _ H' => D.nx σ H'))
      (ts := fun a cls d D σ H => ∃ (D' : Addr) (b : Bool), cls = .ref D' ∧ d = none ∧ ExcC X.K D' ∧ PySem.W.kitOne X.K (.ref D') (.ref CN) = some b ∧ (∃ σ' : L2.St, σ = σ'.set i (some (.ref a))) ∧ D.rt (.bl b) H)
      rfl rfl hN hi hl ⟨hgl, hde, .inl hme⟩ LamX.takes0 (fun W pn xe tk _ => ?_) (fun a oe cls d pn hz hf => ?_)) (pss_one (ps_ret pe_bl)), ?_⟩
  · refine ⟨fun pins s' σ H' D I h' => ?_⟩
    obtain ⟨Ech, hW, h1, h2, h3⟩ := h'
    have hp := act W pn xe Ech p1 p2 tk hW
    have hq := pss_one (ps_expr (pos := p3) hp)
    exact hq.run pins s' σ H' D I ⟨h1, h2, h3⟩
  · refine ⟨fun pins s' σ H' D I h' => ?_⟩
    obtain ⟨D', b, rfl, rfl, C, hk, ⟨σ', h1⟩, h2⟩ := h'
    have hln : σ.length = Ng.length := I.len
    have h1 : σ[i]? = some (some (.ref a)) := by
      rw [h1, List.length_set] at hln
      rw [h1, List.getElem?_set_self (by omega)]
    have pe := pe_callB (p := p5) (pos := p8) (call_isE (X := (cxOf C8.CX0 X.prog X.w X.K X.mg X.base Ng x sg g cdg X.A X.stack s H C8.E0).nox) (a := a) (pn := pn) C hz hf) (x := "isinstance") hgi hmi boot_isinstance
      (pa_cons (pe_var (pos := p6) (i := i) hi (.inl hl) hdb hcd) (pa_cons (pe_glob (v := .ref CN) (pos := p7) hgn hmn rfl hdn) pa_nil))
    refine (pss_one (ps_ret (pos := p9) pe)).run pins s' σ H' D I ?_
    exact ⟨_, h1, ⟨.ref CN, .ref CN, b, rfl, fun u r => by cases r; rfl, hk, h2⟩⟩
  · refine ⟨fun cls d H' => ∃ (D : Addr) (b : Bool), cls = .ref D ∧ d = none ∧ ExcC X.K D ∧ PySem.W.exmOne X.K cls (.ref CS) = some true ∧ PySem.W.kitOne X.K (.ref D) (.ref CN) = some b ∧ Q (.bl b) H', fun cls d σ' H' hx => ?_, h0 f, hc, h⟩
    obtain ⟨D', b, e1, e2, e3, e4, e5, e6⟩ := hx
    exact ⟨true, e4, fun _ a _ => ⟨D', b, e1, e2, e3, e5, ⟨σ', rfl⟩, e6⟩, fun z => nomatch z⟩
end
def catW (ct : Option Nat → Option D) : Res W → Res W
  | .ok _ S => (match ct none with
    | some d => .ok (.d d) S
    | none => .bad)
  | .exc x S => (match ct (some x) with
    | some d => .ok (.d d) S
    | none => .bad)
  | .bad => .bad
def xLam (ct : Option Nat → Option D) (x : XE) : XE := fun en S => catW ct (x en S)
def CatAt (K : PySem.W.Frag) (mg : Str → Option Value) (A : Ad) (y : Str) (ct : Option Nat → Option D) : Prop :=
  ∃ (g : Addr) (a : Str) (pg : Arguments) (bg : List Stmt) (sg : Scope) (dV kV doc pm cdv ct' oc : Value) (an od : Option Addr) (osl : Array (Option Value)) (Ng : List Str) (Ex : VK → XK) (On : VK → VK),
    mg y = some (.ref g) ∧ PySem.W.keepIn K (.ref g) = true ∧ K.lookup g = some ⟨oc, od, .func (PySem.W.fnOf y y pg bg sg dV kV doc pm an cdv ct'), osl⟩ ∧ PySem.W.codeIn K cdv y = true ∧ L2.Binds K (PySem.W.fnOf y y pg bg sg dV kV doc pm an cdv ct') [a] [] ∧
    FnScope Ng [a] sg ∧ Ng[0]? = some a ∧ Vis sg a ∧ (a == ("__debug__" : Str)) = false ∧ (a == ("__classdict__" : Str)) = false ∧
    (∀ (X : Cx) (q : Str), X.K = K → X.mg = mg → GivesTo X Ng y sg g cdv bg a q fun tl H Q => tl (Ex Q) H (On Q)) ∧
    (∀ k d, ct (some k) = some d → ∃ c v, A.xa k = some c ∧ (∀ μ F, WR K A μ F v (.d d)) ∧ ∀ Q H', Q v H' → Ex Q (.ref c) none H') ∧
    (∀ d, ct none = some d → ∃ v, (∀ μ F, WR K A μ F v (.d d)) ∧ ∀ u Q H', Q v H' → On Q u H')
def noPar : Arguments → Bool
  | ⟨[], [], none, [], [], none, []⟩ => true
  | _ => false
theorem Rl.lam {K : PySem.W.Frag} {A : Ad} {μ : List Addr} {F H H1 : Hp} {S : Sto} (rl : Rl K A μ F S H) (e : ExtN H H1) (t : Tabs A.tbs H1) : Rl K A μ F S H1 ∧ Xt μ F H μ F H1 := by
  refine ⟨⟨rl.len, rl.nd, fun a o h => e a o (rl.ex a o h) fun ps z => rl.nt a ps (z ▸ h), fun a ha => ?_, rl.off, fun n a o h1 h2 => ?_, rl.nt, t⟩, ⟨List.prefix_rfl, fun _ _ h => h, fun a o h p n => ⟨e a o h p, n, fun z => z⟩⟩⟩
  · obtain ⟨o, h, p⟩ := rl.on a ha
    exact ⟨o, e a o h p.1, p⟩
  · obtain ⟨v, h, p⟩ := rl.on a (List.mem_of_getElem? h1)
    exact OR.up List.prefix_rfl (fun _ _ h => h) (fun u hu => by
      rw [h] at hu; cases hu
      exact e a _ h p.1) (rl.ob n a o h1 h2)
theorem se_lam {X : Cx} {A : Ad} {E : XK} {y : Str} {ct : Option Nat → Option D} {x : XE} {c P : Addr} {k : Nat} {params : Arguments} {body : Expr} {scope : Scope} {p lpos pos : Pos} (C : CatAt X.K X.mg A y ct) (hg : Gl X y) (hdb : (y == ("__debug__" : Str)) = false)
    (TB : TabB X.base X.mg c P) (hcode : X.env.code = .ref c) (hm : (P, X.env.qual ++ "<lambda>") ∈ A.tbs) (hu : ∀ p ∈ A.tbs, p.1 = P → p.2 = X.env.qual ++ "<lambda>") (hr : Room (k + 2) X.A) (L : LamS X.env.scope scope) (hp : noPar params = true)
    (hbody : ∀ (A' : Around) (outer : List Env) (s : Shared) (H : Hp) (E : XK) (f c' : Addr), Room k (A'.deeper (lamEnv X scope s.heap.objs.size f c')) → SE (lamCx X A' outer s H E scope f c') A E body x) :
    SE X A E (.Call (.Name y p) [.Lambda params body scope lpos] [] pos) (xLam ct x) := by
  obtain ⟨g, a, pg, bg, sg, dV, kV, doc, pm, cdv, ct', oc, an, od, osl, Ng, Ex, On, h1, h2, h3, h4, h5, h6, h7, h8, h9, h10, h11, h12, h13⟩ := C
  have hp' : params = ⟨[], [], none, [], [], none, []⟩ := by
    unfold noPar at hp
    split at hp
    · rfl
    · cases hp
  subst hp'
  refine ⟨_, pe_lamcall (t := fun E => tE X.K A E x) hg h1 h2 h3 h4 h5 h6 h7 h8 (h11 X _ rfl rfl) TB hcode hm hu hr L rfl (fun q cl pm cv ctv => rfl) (fun A' outer s H E f c' hr' => (hbody A' outer s H E f c' hr').pe) hdb h9 h10, fun μ F S H σ en Q rl er h => ?_⟩
  refine ⟨rl.tb, fun H1 eN T1 => ?_⟩
  obtain ⟨rl1, xt1⟩ := rl.lam eN T1
  refine ⟨μ, F, S, en, rl1, er, ?_⟩
  have h : PP X.K A (WR X.K A) E μ F H (catW ct (x en S)) Q := h
  cases q : x en S with
  | ok w S' =>
    rw [q] at h
    have h : PP X.K A (WR X.K A) E μ F H (match ct none with | some d => .ok (.d d) S' | none => .bad) Q := h
    cases q2 : ct none with
    | none => rw [q2] at h; exact h.elim
    | some d =>
      rw [q2] at h
      obtain ⟨v, hv, ho⟩ := h13 d q2
      exact fun μ' F' H' u t rl' r => ho u Q H' (h μ' F' H' v (xt1.trans t) rl' (hv _ _))
  | exc j S' =>
    rw [q] at h
    have h : PP X.K A (WR X.K A) E μ F H (match ct (some j) with | some d => .ok (.d d) S' | none => .bad) Q := h
    cases q2 : ct (some j) with
    | none => rw [q2] at h; exact h.elim
    | some d =>
      rw [q2] at h
      obtain ⟨c, v, hc, hv, ho⟩ := h12 j d q2
      exact fun μ' F' H' t rl' => ⟨c, hc, ho Q H' (h μ' F' H' v (xt1.trans t) rl' (hv _ _))⟩
  | bad => rw [q] at h; exact h
theorem cat_ref {K : PySem.W.Frag} {mg : Str → Option Value} {A : Ad} {y a n e cn : Str} {pg : Arguments} {sg : Scope} {g CS CN : Addr} {dV kV doc pm cdv ct' oc : Value} {an od : Option Addr} {osl : Array (Option Value)} {Ng : List Str} {j i : Nat} {b0 : Bool} {p1 p2 p3 p4 p5 p6 p7 p8 p9 p10 p11 p12 p13 : Pos} {ct : Option Nat → Option D} {bg : List Stmt}
    (ebg : bg = [.Try [.Expr (.Call (.Name a p1) [] [] p2) p3] [.ExceptHandler (some (.Name e p4)) (some n) [.Return (some (.Call (.Name "isinstance" p5) [.Name n p6, .Name cn p7] [] p8)) p9] p10] [] [] p11, .Return (some (.Constant (.bool b0) j p12)) p13])
    (h1 : mg y = some (.ref g)) (h2 : PySem.W.keepIn K (.ref g) = true) (h3 : K.lookup g = some ⟨oc, od, .func (PySem.W.fnOf y y pg bg sg dV kV doc pm an cdv ct'), osl⟩) (h4 : PySem.W.codeIn K cdv y = true) (h5 : L2.Binds K (PySem.W.fnOf y y pg bg sg dV kV doc pm an cdv ct') [a] [])
    (h6 : FnScope Ng [a] sg) (h7 : Ng = [a, n]) (h8 : Vis sg a) (h9 : (a == ("__debug__" : Str)) = false) (h10 : (a == ("__classdict__" : Str)) = false)
    (hge : sg.names.lookup e = some .globalImplicit) (hme : mg e = some (.ref CS)) (hde : (e == ("__debug__" : Str)) = false)
    (hgn : sg.names.lookup cn = some .globalImplicit) (hmn : mg cn = some (.ref CN)) (hdn : (cn == ("__debug__" : Str)) = false)
    (hgi : sg.names.lookup ("isinstance" : Str) = some .globalImplicit) (hmi : mg "isinstance" = none) (hl : sg.names.lookup n = some .local) (hdb : (n == ("__debug__" : Str)) = false) (hcd : (n == ("__classdict__" : Str)) = false)
    (hx : ∀ k d, ct (some k) = some d → ∃ (D' : Addr) (b : Bool), d = .bool b ∧ A.xa k = some D' ∧ ExcC K D' ∧ PySem.W.exmOne K (.ref D') (.ref CS) = some true ∧ PySem.W.kitOne K (.ref D') (.ref CN) = some b) (hn : ct none = some (.bool b0)) : CatAt K mg A y ct := by
  subst ebg h7
  refine ⟨g, a, pg, _, sg, dV, kV, doc, pm, cdv, ct', oc, an, od, osl, [a, n], fun Q cls d H' => ∃ (D : Addr) (b : Bool), cls = .ref D ∧ d = none ∧ ExcC K D ∧ PySem.W.exmOne K cls (.ref CS) = some true ∧ PySem.W.kitOne K (.ref D) (.ref CN) = some b ∧ Q (.bl b) H', fun Q _ H' => Q (.bl b0) H',
    h1, h2, h3, h4, h5, h6, rfl, h8, h9, h10, fun X q eK em => ?_, fun k d hk => ?_, fun d hd => ?_⟩
  · subst eK em
    exact refused_gives (i := 1) hge hme hde hgn hmn hdn hgi hmi h6.nd rfl hl (by decide) (by simp) hdb hcd (fun f => rfl)
  · obtain ⟨D', b, rfl, e1, e2, e3, e4⟩ := hx k d hk
    exact ⟨D', .bl b, e1, fun μ F => ⟨.bl b, rfl⟩, fun Q H' q => ⟨D', b, rfl, rfl, e2, e3, e4, q⟩⟩
  · rw [hn] at hd; cases hd
    exact ⟨.bl b0, fun μ F => ⟨.bl b0, rfl⟩, fun u Q H' q => q⟩
def xCal (v : Nat) (is : List Nat) (run : RunF) (ya : XA) : XE := fun en S => match en[v]? with
  | some (some (.f i)) => if i ∈ is then (ya en S).andThen fun ws S1 => run i ws S1 else .bad
  | _ => .bad
theorem se_cal {X : Cx} {A : Ad} {E : XK} {v k : Nat} {is : List Nat} {run : RunF} {ya : XA} {x : Str} {p pos : Pos} {e : Expr} {es : List Expr}
    (hF : ∀ i ∈ is, ∃ f fd ps, ps.length = (e :: es).length ∧ A.fa i = some f ∧ PySem.W.keepIn X.K (.ref f) = true ∧ L2.Binds X.K fd ps [] ∧ FnOk X.prog X.w X.K X.mg X.base (L2.CX X.prog X.w) k f fd ps (spF X.K A ps.length (run i)))
    (tk : Takes X fun c d _ H => E c d H) (hr : Room k X.A) (hN : X.N[v]? = some x) (hv : Vis X.env.scope x) (ha : SA X A E (e :: es) ya) (hs : (e :: es).all noStar = true) (hdb : (x == ("__debug__" : Str)) = false) (hcd : (x == ("__classdict__" : Str)) = false)
    (hya : ∀ en S ws S', ya en S = .ok ws S' → ws.length = (e :: es).length) : SE X A E (.Call (.Name x p) (e :: es) [] pos) (xCal v is run ya) := by
  obtain ⟨t, pa, ha⟩ := ha
  have hs' : noStar e = true ∧ es.all noStar = true := by simpa using hs
  refine ⟨fun σ H Q => ∃ i f, i ∈ is ∧ A.fa i = some f ∧ σ[v]? = some (some (.ref f)) ∧ t σ H fun vs H1 => spF X.K A (e :: es).length (run i) vs H1 Q E, ⟨fun pins s σ H Q I h => ?_⟩, fun μ F S H σ en Q rl er h => ?_⟩
  · obtain ⟨i, f, hi, hf, h1, h2⟩ := h
    obtain ⟨f', fd, ps, q1, q2, q3, q4, q5⟩ := hF i hi
    rw [hf] at q2; cases q2
    rw [q1] at q5
    refine (pe_callL (p := p) (pos := pos) (E := E) (i := v) (dvs := []) q5 hr hN hv q3 q4 .nil (passes_call tk fun _ _ _ _ h => h) pa hdb hcd (star_cons hs'.1) (star_any hs'.2)).run pins s σ H Q I ⟨h1, ?_⟩
    have e0 : (fun (vs : List V) (H1 : Hp) => spF X.K A (e :: es).length (run i) (vs ++ []) H1 Q E) = fun vs H1 => spF X.K A (e :: es).length (run i) vs H1 Q E := by
      funext vs H1
      rw [List.append_nil]
    rw [e0]
    exact h2
  · unfold xCal at h
    split at h
    · rename_i i ei
      split at h
      · rename_i hi
        obtain ⟨u, h1, f, h2, rfl⟩ := er.2 v _ ei
        refine ⟨i, f, hi, h2, h1, ?_⟩
        refine ha μ F S H σ en _ rl er (PP.bind h fun ws S1 μ1 F1 H1 vs ew t1 rl1 r1 h1 => ?_)
        have hv : vs.length = (e :: es).length := by rw [wrs_len r1, hya _ _ _ _ ew]
        exact ⟨hv, μ1, F1, S1, ws, rl1, r1, h1⟩
      · exact h.elim
    · exact h.elim
theorem se_fnv {X : Cx} {A : Ad} {E : XK} {i : Nat} {f : Addr} {x : Str} {pos : Pos} (hg : Gl X x) (hm : X.mg x = some (.ref f)) (hf : A.fa i = some f) (hdb : (x == ("__debug__" : Str)) = false) : SE X A E (.Name x pos) (xCon (.f i)) :=
  ⟨_, pe_glob hg hm (v := .ref f) rfl hdb, fun μ F S H σ en Q rl er h => PP.now h rl ⟨f, hf, rfl⟩⟩
end Mi
end
section
set_option Elab.async false
set_option linter.all false
set_option maxRecDepth 100000
set_option maxHeartbeats 4000000
namespace Mi
open PySem L2 PyProof.Rows
inductive Bi where
  | isi | len | abs | int | str | min | max | sum | all | any | rng | lst (cel : Bool) | tup
inductive Mt where
  | app | pop
inductive Tn where
  | int | str | bool | tuple | list | dict
mutual
inductive Ex where
  | bad
  | var (i : Nat)
  | con (d : D)
  | glb (i : Nat)
  | ty (t : Tn)
  | bin (o : Operator) (a b : Ex)
  | neg (a : Ex)
  | cmp (o : CmpOp) (a b : Ex)
  | chn (o p : CmpOp) (a b c : Ex)
  | and (a b : Ex)
  | or (a b : Ex)
  | one (a : Ex)
  | not (a : Ex)
  | ite (c a b : Ex)
  | tup (cel : Bool) (es : Exs)
  | lst (cel : Bool) (es : Exs)
  | dic
  | ix (a b : Ex)
  | sl (cel : Bool) (a : Ex) (lo hi : OEx)
  | bi (f : Bi) (es : Exs)
  | fn (i : Nat) (es : Exs)
  | fld (k : Nat) (f : Str) (o : Ex)
  | mth (t : Mt) (o : Ex) (es : Exs)
  | met (k : Nat) (m : Str) (i : Nat) (o : Ex) (es : Exs)
  | mk (k i : Nat) (es : Exs)
  | lc (cel : Bool) (own : List (Str × Nat)) (g : Gx) (it : Ix) (t : OEx) (el : Ex)
  | lam (i : Nat) (e : Ex)
  | cal (v : Nat) (is : List Nat) (es : Exs)
  | fnv (i : Nat)
inductive Exs where
  | nil
  | cons (e : Ex) (es : Exs)
inductive OEx where
  | no
  | yes (e : Ex)
inductive Ix where
  | val (e : Ex)
  | zip (es : Exs)
  | enu (es : Exs)
inductive Gx where
  | nm (i : Nat)
  | tp (gs : Gxs)
  | sub (o i : Ex)
  | fd (k : Nat) (f : Str) (o : Ex)
inductive Gxs where
  | nil
  | cons (g : Gx) (gs : Gxs)
end
def Exs.len : Exs → Nat
  | .nil => 0
  | .cons _ es => es.len + 1
def Gxs.len : Gxs → Nat
  | .nil => 0
  | .cons _ gs => gs.len + 1
mutual
inductive Sx where
  | bad
  | asg (g : Gx) (e : Ex)
  | par (gs : Gxs) (es : Exs)
  | exp (e : Ex)
  | ret (e : Ex)
  | retN
  | pass
  | brk
  | cnt
  | ifs (c : Ex) (a b : Sxs)
  | whl (fuel : Nat) (c : Ex) (b : Sxs)
  | for (fuel : Nat) (g : Gx) (it : Ix) (b : Sxs)
  | rse (x : Nat)
inductive Sxs where
  | nil
  | cons (s : Sx) (ss : Sxs)
end
def Tn.nm : Tn → String
  | .int => "int"
  | .str => "str"
  | .bool => "bool"
  | .tuple => "tuple"
  | .list => "list"
  | .dict => "dict"
def Bi.nm : Bi → String
  | .isi => "isinstance"
  | .len => "len"
  | .abs => "abs"
  | .int => "int"
  | .str => "str"
  | .min => "min"
  | .max => "max"
  | .sum => "sum"
  | .all => "all"
  | .any => "any"
  | .rng => "range"
  | .lst _ => "list"
  | .tup => "tuple"
def Bi.go : Bi → List W → Sto → Res W
  | .isi => isiG
  | .len => lenG
  | .abs => absG
  | .int => intG
  | .str => strG
  | .min => minG
  | .max => maxG
  | .sum => sumG
  | .all => allG
  | .any => anyG
  | .rng => rngG
  | .lst cel => lstG cel
  | .tup => tupG
def Mt.nm : Mt → String
  | .app => "append"
  | .pop => "pop"
def Mt.rc : Mt → W → Sto → Bool
  | .app => isLst
  | .pop => isLst
def Mt.go : Mt → W → List W → Sto → Res W
  | .app => appG
  | .pop => popG
def repW (a b : W) (S : Sto) : Res W := match a, b with
  | .d (.tuple ds), .d (.int k) => if ds ≠ [] ∧ 2 ≤ k ∧ k ≤ 1000000 ∧ k.toNat * ds.length ≤ 1000000 then .ok (.d (.tuple (List.replicate k.toNat ds).flatten)) S else .bad
  | _, _ => mulW a b S
def opG : Operator → Option (W → W → Sto → Res W)
  | .Add => some addW
  | .Sub => some subW
  | .Mult => some repW
  | .FloorDiv => some divW
  | .Mod => some modW
  | .Pow => some powW
  | _ => none
def cmG : CmpOp → W → W → Sto → Res W
  | .Eq => eqW false
  | .NotEq => eqW true
  | .Lt => ordW fun i j => decide (i < j)
  | .LtE => ordW fun i j => decide (i ≤ j)
  | .Gt => ordW fun i j => decide (j < i)
  | .GtE => ordW fun i j => decide (j ≤ i)
  | .Is => isW false
  | .IsNot => isW true
  | .In => inW false
  | .NotIn => inW true
def ngG (w : W) (S : Sto) : Res W := match w with
  | .d (.int i) => .ok (.d (.int (-i))) S
  | _ => .bad
def xBad : XE := fun _ _ => .bad
def tBad : XT := fun _ _ => .bad
abbrev XP := XE × XT
def pv (x : XE) : XP := (x, tVal x)
structure Mo where
  con : List (Str × D)
  run : RunF
  cat : Nat → Option Nat → Option D
  sub : RunF
def Mo.low (T : Mo) : Mo := { T with run := T.sub, sub := fun _ _ _ => .bad }
mutual
def et : Mo → Ex → XP
  | T, .bad => (xBad, tBad)
  | T, .var i => pv (xVar i)
  | T, .con d => pv (xCon (.d d))
  | T, .glb i => pv (match T.con[i]? with
    | some (_, d) => xCon (.d d)
    | none => xBad)
  | T, .ty t => (xCon (.t t.nm), tBad)
  | T, .bin o a b => pv (match opG o with
    | some g => xBin g (et T a).1 (et T b).1
    | none => xBad)
  | T, .neg a => (xUn ngG (et T a).1, tBad)
  | T, .cmp o a b => (xBin (cmG o) (et T a).1 (et T b).1, tBool (xBin (cmG o) (et T a).1 (et T b).1))
  | T, .chn o p a b c => (xChn (cmG o) (cmG p) (et T a).1 (et T b).1 (et T c).1, tBool (xChn (cmG o) (cmG p) (et T a).1 (et T b).1 (et T c).1))
  | T, .and a b => (xAnd (et T a).1 (et T b).1, tAnd (et T a).2 (et T b).2)
  | T, .or a b => (xOr (et T a).1 (et T b).1, tOr (et T a).2 (et T b).2)
  | T, .one a => et T a
  | T, .not a => (xNot (et T a).1, tNot (et T a).2)
  | T, .ite c a b => (xIte (et T c).2 (et T a).1 (et T b).1, tBad)
  | T, .tup cel es => pv (xTup cel (ets T es))
  | T, .lst cel es => pv (xLst cel (ets T es))
  | T, .dic => pv xDic
  | T, .ix a b => pv (xBin ixG (et T a).1 (et T b).1)
  | T, .sl cel a lo hi => pv (fun en S => ((et T a).1 en S).andThen fun w S1 => ((eto T lo).1 en S1).andThen fun l S2 => ((eto T hi).1 en S2).andThen fun u S3 => slG cel w l u S3)
  | T, .bi f es => pv (xCall f.go (ets T es))
  | T, .fn i es => pv (xCall (T.run i) (ets T es))
  | T, .fld k f o => pv (xUn (fldG k f) (et T o).1)
  | T, .mth t o es => pv (xMth t.rc t.go (et T o).1 (ets T es))
  | T, .met k m i o es => pv (xMth (isIns k m) (gMet T.run i) (et T o).1 (ets T es))
  | T, .mk k i es => pv (xMk k (T.run i) (ets T es))
  | T, .lam i e => pv (xLam (T.cat i) (et T.low e).1)
  | T, .cal v is es => pv (xCal v is T.run (ets T es))
  | _, .fnv i => (xCon (.f i), tBad)
  | T, .lc cel own g it t el => pv (xLc cel (own.map (·.2)) (eg T g) (ei T it) (eto T t).2 (et T el).1)
def ets : Mo → Exs → XA
  | T, .nil => xNil
  | T, .cons e es => xCons (et T e).1 (ets T es)
def eto : Mo → OEx → XO × XT
  | T, .no => (oNone, tYesX)
  | T, .yes e => (oSome (et T e).1, (et T e).2)
def ei : Mo → Ix → XI
  | T, .val e => iVal (et T e).1
  | T, .zip es => iZipM (ets T es)
  | T, .enu es => iEnuM (ets T es)
def eg : Mo → Gx → XG
  | T, .nm i => gNm i
  | T, .tp gs => gTp gs.len (egs T gs)
  | T, .sub o i => gSb setIx (et T o).1 (et T i).1
  | T, .fd k f o => gFd k f (et T o).1
def egs : Mo → Gxs → XGs
  | T, .nil => gsNil
  | T, .cons g gs => gsCons (eg T g) (egs T gs)
end
def sBad : XS := fun _ _ => .bad
mutual
def es (T : Mo) : Sx → XS
  | .bad => sBad
  | .asg g e => sAsg (eg T g) (et T e).1
  | .par gs es => sPar (egs T gs) (ets T es)
  | .exp e => sExp (et T e).1
  | .ret e => sRet (et T e).1
  | .retN => sRetN
  | .pass => sNil
  | .brk => sBrk
  | .cnt => sCnt
  | .ifs c a b => sIf (et T c).2 (ess T a) (ess T b)
  | .whl fuel c b => whileD (et T c).2 (ess T b) fuel
  | .for fuel g it b => sFor fuel (eg T g) (ei T it) (ess T b)
  | .rse x => fun _ S => .exc x S
def ess (T : Mo) : Sxs → XS
  | .nil => sNil
  | .cons s ss => sSeq (es T s) (ess T ss)
end
structure FnB where
  par : Nat
  slots : Nat
  body : Sxs
def outR : Out → Res W
  | .rt w S => .ok w S
  | .nx _ S => .ok (.d .none) S
  | .exc x S => .exc x S
  | _ => .bad
structure Kt where
  con : List (Str × D)
  cat : Nat → Option Nat → Option D
def runP (kt : Kt) (tb : List FnB) : Nat → RunF × RunF
  | 0 => (fun _ _ _ => .bad, fun _ _ _ => .bad)
  | n + 1 => (fun i ws S => match tb[i]? with
    | some b => if ws.length = b.par then outR (ess ⟨kt.con, (runP kt tb n).1, kt.cat, (runP kt tb n).2⟩ b.body (ws.map some ++ List.replicate (b.slots - ws.length) none) S) else .bad
    | none => .bad, (runP kt tb n).1)
def runN (kt : Kt) (tb : List FnB) (n : Nat) : RunF := (runP kt tb n).1
def subN (kt : Kt) (tb : List FnB) (n : Nat) : RunF := (runP kt tb n).2
end Mi
end
section
set_option Elab.async false
set_option linter.all false
set_option maxRecDepth 100000
set_option maxHeartbeats 8000000
namespace Mi
open PySem L2 PyProof.Rows
structure Mn where
  con : List (Str × D)
  fns : List (Str × Nat)
  met : List (Nat × Str × Nat × Nat)
  fld : List (Nat × Str)
  mks : List (Nat × Str × Nat × Nat)
  blt : List Str
  exn : List Str
  cats : List Str
structure Wh where
  N : List Str
  sc : Scope
  fn : Str → Bool
  lam : Bool
def visB (sc : Scope) (x : Str) : Bool := match sc.names.lookup x with
  | some .local => true
  | some .cell => true
  | some .free => true
  | _ => false
def locB (sc : Scope) (x : Str) : Bool := match sc.names.lookup x with
  | some .local => true
  | some .cell => true
  | _ => false
def lclB (sc : Scope) (x : Str) : Bool := match sc.names.lookup x with
  | some .local => true
  | _ => false
def gloB (sc : Scope) (x : Str) : Bool := match sc.names.lookup x with
  | some .globalImplicit => true
  | _ => false
def okNm (x : Str) : Bool := !(x == ("__debug__" : Str)) && !(x == ("__classdict__" : Str)) && !(decide (x = ("__name__" : Str)))
def chC : Const → D → Bool
  | .none, .none => true
  | .bool a, .bool b => decide (a = b)
  | .int a, .int b => decide (a = b)
  | .str a, .str b => decide (a = b) && PyData.strOk a
  | _, _ => false
def noFold : Expr → Bool
  | .Set _ _ _ => false
  | _ => true
def Wh.blk (c : Wh) (scope : Scope) : Wh := ⟨c.N, relS scope c.sc, fun x => scope.names.lookup x == some .cell, c.lam⟩
def bltB (M : Mn) (c : Wh) (x : Str) (s : String) : Bool := decide (x = (s : Str)) && gloB c.sc x && okNm x && decide (x ∈ M.blt)
mutual
def chE (M : Mn) (c : Wh) : Ex → Expr → Bool
  | .bad, _ => true
  | .var i, e => (match e with
    | .Name x _ => decide (c.N[i]? = some x) && visB c.sc x && okNm x
    | _ => false)
  | .con d, e => (match e with
    | .Constant k _ _ => chC k d
    | _ => false)
  | .glb i, e => (match e with
    | .Name x _ => (match M.con[i]? with
      | some (y, _) => decide (x = y) && gloB c.sc x && okNm x
      | none => false)
    | _ => false)
  | .ty t, e => (match e with
    | .Name x _ => bltB M c x t.nm
    | _ => false)
  | .bin o a b, e => (match e with
    | .BinOp x p y _ => decide (p = o) && chE M c a x && chE M c b y
    | _ => false)
  | .neg a, e => (match e with
    | .UnaryOp .USub x _ => chE M c a x
    | _ => false)
  | .cmp o a b, e => (match e with
    | .Compare x [p] [y] _ => decide (p = o) && !(behindInMarks p y) && chE M c a x && chE M c b y
    | _ => false)
  | .chn o p a b d, e => (match e with
    | .Compare x [o', p'] [y, z] _ => decide (o' = o) && decide (p' = p) && !(behindInMarks p' z) && chE M c a x && chE M c b y && chE M c d z
    | _ => false)
  | .and a b, e => (match e with
    | .BoolOp .And (x :: y :: r) pos => chE M c a x && chE M c b (.BoolOp .And (y :: r) pos)
    | _ => false)
  | .or a b, e => (match e with
    | .BoolOp .Or (x :: y :: r) pos => chE M c a x && chE M c b (.BoolOp .Or (y :: r) pos)
    | _ => false)
  | .one a, e => (match e with
    | .BoolOp _ [x] _ => chE M c a x
    | _ => false)
  | .not a, e => (match e with
    | .UnaryOp .Not x _ => chE M c a x
    | _ => false)
  | .ite k a b, e => (match e with
    | .IfExp x y z _ => chE M c k x && chE M c a y && chE M c b z
    | _ => false)
  | .tup _ es, e => (match e with
    | .Tuple xs _ _ => chs M c es xs
    | _ => false)
  | .lst _ es, e => (match e with
    | .List xs _ => chs M c es xs
    | _ => false)
  | .dic, e => (match e with
    | .Dict [] [] _ => true
    | _ => false)
  | .ix a b, e => (match e with
    | .Subscript x y _ => notSlice y && chE M c a x && chE M c b y
    | _ => false)
  | .sl _ a lo hi, e => (match e with
    | .Subscript x (.Slice l h none _) _ => chE M c a x && chO M c lo l && chO M c hi h
    | _ => false)
  | .bi f es, e => (match e with
    | .Call (.Name x _) (a :: r) [] _ => bltB M c x f.nm && (a :: r).all noStar && chs M c es (a :: r)
    | _ => false)
  | .fn i es, e => (match e with
    | .Call (.Name x _) xs [] _ => (match M.fns[i]? with
      | some (y, n) => decide (x = y) && decide (xs.length = n) && gloB c.sc x && okNm x && xs.all noStar && chs M c es xs
      | none => false)
    | _ => false)
  | .fld k f o, e => (match e with
    | .Attribute x g _ => decide (g = f) && decide ((k, f) ∈ M.fld) && okBase x && chE M c o x
    | _ => false)
  | .mth t o es, e => (match e with
    | .Call (.Attribute x m apos) xs [] pos => decide (m = (t.nm : Str)) && okBase x && (apos.endLine == pos.line) && xs.all noStar && decide (xs.length < 29) && chE M c o x && chs M c es xs
    | _ => false)
  | .met k m i o es, e => (match e with
    | .Call (.Attribute x n apos) xs [] pos => decide (n = m) && decide ((k, m, i, xs.length + 1) ∈ M.met) && okBase x && (apos.endLine == pos.line) && xs.all noStar && decide (xs.length < 29) && chE M c o x && chs M c es xs
    | _ => false)
  | .mk k i es, e => (match e with
    | .Call (.Name x _) (a :: r) [] _ => decide ((k, x, i, (a :: r).length + 1) ∈ M.mks) && gloB c.sc x && okNm x && (a :: r).all noStar && chs M c es (a :: r)
    | _ => false)
  | .lam i b, e => (match e with
    | .Call (.Name y _) [.Lambda ps body scope _] [] _ => c.lam && decide (M.cats[i]? = some y) && gloB c.sc y && okNm y && noPar ps && LamX.lamSB c.sc scope && chE M ⟨c.N, scope, fun _ => false, false⟩ b body
    | _ => false)
  | .cal v is es, e => (match e with
    | .Call (.Name x _) (a :: r) [] _ => decide (c.N[v]? = some x) && visB c.sc x && okNm x && (is.all fun i => (match M.fns[i]? with
      | some (_, n) => decide (n = (a :: r).length)
      | none => false)) && (a :: r).all noStar && chs M c es (a :: r)
    | _ => false)
  | .fnv i, e => (match e with
    | .Name x _ => (match M.fns[i]? with
      | some (y, _) => decide (x = y) && gloB c.sc x && okNm x
      | none => false)
    | _ => false)
  | .lc _ own g it t el, e => (match e with
    | .ListComp elt [⟨tg, i, ifs, 0⟩] scope _ => blkC c.N c.sc scope own && noFold i && chI M c it tg i && chW (c.blk scope) (own.map (·.2)) g tg && chT M (c.blk scope) t ifs && chE M (c.blk scope) el elt
    | _ => false)
def chs (M : Mn) (c : Wh) : Exs → List Expr → Bool
  | .nil, xs => xs.isEmpty
  | .cons e es, xs => (match xs with
    | x :: r => noStar x && chE M c e x && chs M c es r
    | [] => false)
def chO (M : Mn) (c : Wh) : OEx → Option Expr → Bool
  | .no, o => o.isNone
  | .yes e, o => (match o with
    | some x => chE M c e x
    | none => false)
def chT (M : Mn) (c : Wh) : OEx → List Expr → Bool
  | .no, l => l.isEmpty
  | .yes e, l => (match l with
    | [x] => chE M c e x
    | _ => false)
def chI (M : Mn) (c : Wh) : Ix → Expr → Expr → Bool
  | .val e, _, i => chE M c e i
  | .zip es, tg, i => (match tg with
    | .Tuple _ _ _ => (match i with
      | .Call (.Name x _) [a, b] [] _ => bltB M c x "zip" && chs M c es [a, b]
      | _ => false)
    | _ => false)
  | .enu es, tg, i => (match tg with
    | .Tuple _ _ _ => (match i with
      | .Call (.Name x _) [a] [] _ => bltB M c x "enumerate" && chs M c es [a]
      | _ => false)
    | _ => false)
def chW (c : Wh) (own : List Nat) : Gx → Expr → Bool
  | .nm i, e => (match e with
    | .Name x _ => decide (c.N[i]? = some x) && locB c.sc x && (c.fn x || lclB c.sc x) && decide (i ∈ own)
    | _ => false)
  | .tp gs, e => (match e with
    | .Tuple xs _ _ => decide (xs.length = gs.len) && xs.all noStar && chWs c own gs xs
    | _ => false)
  | _, _ => false
def chWs (c : Wh) (own : List Nat) : Gxs → List Expr → Bool
  | .nil, xs => xs.isEmpty
  | .cons g gs, xs => (match xs with
    | x :: r => noStar x && chW c own g x && chWs c own gs r
    | [] => false)
end
structure Tb (M : Mn) (run : RunF) (ct : Nat → Option Nat → Option D) (P : Program) (w : World) (K : PySem.W.Frag) (mg : Str → Option Value) (base : Heap) (A : Ad) (lv : Nat) : Prop where
  fn : ∀ (i : Nat) (x : Str) (n : Nat), M.fns[i]? = some (x, n) → ∃ f fd ps, ps.length = n ∧ A.fa i = some f ∧ mg x = some (.ref f) ∧ PySem.W.keepIn K (.ref f) = true ∧ Binds K fd ps [] ∧ FnOk P w K mg base (CX P w) lv f fd ps (spF K A ps.length (run i))
  met : ∀ k m i n, (k, m, i, n) ∈ M.met → ∃ C f fd ps, ps.length = n ∧ A.ca k = some C ∧ Cls K C ∧ Meth K C m f ∧ Binds K fd ps [] ∧ FnOk P w K mg base (CX P w) lv f fd ps (spF K A ps.length (run i))
  fld : ∀ k f, (k, f) ∈ M.fld → ∃ C, A.ca k = some C ∧ Cls K C ∧ NoAttr K C f
  mks : ∀ k x i n, (k, x, i, n) ∈ M.mks → ∃ C f fd ps, ps.length = n ∧ A.ca k = some C ∧ Mk K C f ∧ mg x = some (.ref C) ∧ Binds K fd ps [] ∧ FnOk P w K mg base (CX P w) lv f fd ps (spF K A ps.length (run i))
  con : ∀ (i : Nat) (x : Str) (d : D), M.con[i]? = some (x, d) → ∃ v u, mg x = some u ∧ RelV v u ∧ ∀ μ F, WR K A μ F v (.d d)
  blt : ∀ x, x ∈ M.blt → mg x = none
  exn : ∀ (x : Nat) (y : Str), M.exn[x]? = some y → ∃ C, A.xa x = some C ∧ mg y = some (.ref C) ∧ PySem.W.excIn K C He.veBase "ValueError.__new__" = true ∧ PySem.W.keepIn K (.ref C) = true ∧ PySem.W.subIn K (.ref C) (.type "BaseException") = some true ∧ PySem.W.typeIn K (.ref C) = some (.type "type")
  cat : ∀ (i : Nat) (y : Str), M.cats[i]? = some y → CatAt K mg A y (ct i)
structure Gd (M : Mn) (T : Mo) (lv : Nat) (X : Cx) (A : Ad) (E : XK) (c : Wh) : Prop where
  tab : Tb M T.run T.cat X.prog X.w X.K X.mg X.base A lv
  con : T.con = M.con
  N : X.N = c.N
  sc : X.env.scope = c.sc
  fn : X.fn = c.fn
  nd : X.N.Nodup
  calm : X.calm = true
  kd : X.env.scope.kind = .function
  room : Room (lv + 1) X.A
  tk : Takes X fun a d _ H => E a d H
  lam : c.lam = true → ∃ c0 P lv2, LamX.TabB X.base X.mg c0 P ∧ X.env.code = .ref c0 ∧ (P, X.env.qual ++ "<lambda>") ∈ A.tbs ∧ (∀ p ∈ A.tbs, p.1 = P → p.2 = X.env.qual ++ "<lambda>") ∧ Tb M T.sub T.cat X.prog X.w X.K X.mg X.base A lv2 ∧ Room (lv2 + 3) X.A
section
variable {X : Cx} {A : Ad} {E : XK} {M : Mn} {T : Mo} {lv : Nat} {c : Wh}
theorem se_bad {e : Expr} : SE X A E e xBad := ⟨fun _ _ _ => False, ⟨fun pins s σ H Q I h => h.elim⟩, fun μ F S H σ en Q rl er h => h⟩
theorem st_bad {e : Expr} : ST X A E e tBad := ⟨fun _ _ _ => False, ⟨fun pins s σ H Q I h => h.elim⟩, fun μ F S H σ en Q rl er h => h⟩
theorem sw_bad {e : Expr} : SW X A E e tBad := ⟨fun _ _ _ => False, ⟨fun wh pins s σ H Q I h => h.elim⟩, fun μ F S H σ en Q rl er h => h⟩
theorem Gd.blk (G : Gd M T lv X A E c) {scope : Scope} (hk : scope.kind = .function) (s : Shared) (H : Hp) (C : Addr) (cl : List (Str × Addr)) (fp : List Addr) : Gd M T lv (X.blk s H scope (compEnvC scope cl C X.env) fp) A E0 (c.blk scope) where
  tab := G.tab
  con := G.con
  N := G.N
  sc := by
    show relabel scope X.env = relS scope c.sc
    rw [← G.sc]; rfl
  fn := rfl
  nd := G.nd
  calm := G.calm
  kd := hk
  room := G.room
  tk := fun u s' ⟨a, B, sI, pins, σ, H, cls, d, e, I, nb, up, sky, na, os, ag, w⟩ => w
  lam := G.lam
theorem vis_of {sc : Scope} {x : Str} (h : visB sc x = true) : Vis sc x := by
  unfold visB at h
  split at h
  · exact .inl (by assumption)
  · exact .inr (.inl (by assumption))
  · exact .inr (.inr (by assumption))
  · cases h
theorem loc_of {sc : Scope} {x : Str} (h : locB sc x = true) : Loc sc x := by
  unfold locB at h
  split at h
  · exact .inl (by assumption)
  · exact .inr (by assumption)
  · cases h
theorem lcl_of {sc : Scope} {x : Str} (h : lclB sc x = true) : sc.names.lookup x = some .local := by
  unfold lclB at h
  split at h
  · assumption
  · cases h
theorem Gd.gl (G : Gd M T lv X A E c) {x : Str} (h : gloB c.sc x = true) : Gl X x := by
  unfold gloB at h
  split at h
  · show X.env.scope.names.lookup x = _
    rw [G.sc]; assumption
  · cases h
theorem nm_of {x : Str} (h : okNm x = true) : (x == ("__debug__" : Str)) = false ∧ (x == ("__classdict__" : Str)) = false ∧ x ≠ "__name__" := by
  unfold okNm at h
  simp only [Bool.and_eq_true, Bool.not_eq_true', decide_eq_false_iff_not] at h
  exact ⟨h.1.1, h.1.2, h.2⟩
theorem Gd.blt (G : Gd M T lv X A E c) {x : Str} {s : String} (h : bltB M c x s = true) : x = (s : Str) ∧ Gl X x ∧ (x == ("__debug__" : Str)) = false ∧ x ≠ "__name__" ∧ X.mg x = none := by
  unfold bltB at h
  simp only [Bool.and_eq_true, decide_eq_true_eq] at h
  obtain ⟨a, _, b⟩ := nm_of h.1.2
  exact ⟨h.1.1.1, G.gl h.1.1.2, a, b, G.tab.blt x h.2⟩
theorem Gd.un (G : Gd M T lv X A E c) : X.A.units + 64 < cLine := by have := G.room.un; omega
theorem Gd.un1 (G : Gd M T lv X A E c) : X.A.units + 1 < cLine := by have := G.room.un; omega
theorem nofold_eq {e : Expr} {env : Env} (h : noFold e = true) : ∀ x, foldedSetIterable e env x = pure x := by
  cases e <;> first | (intro _; rfl) | cases h
def manyT (K : PySem.W.Frag) : R2 := fun a b H Q => ∃ (p : Addr) (k : Int) (vs : List V), a = .ref p ∧ b = .int k ∧ SqT K H p vs ∧ vs ≠ [] ∧ 2 ≤ k ∧ k ≤ 1000000 ∧ k.toNat * vs.length ≤ 1000000 ∧ ∀ q, H q = none → Q (.ref q) (upd H q (.tup (List.replicate k.toNat vs).flatten))
theorem op_many : OpR X (binaryOp .Mult) (manyT X.K) := by
  intro pins s σ H x y v u Q I rx ry h
  obtain ⟨p, k, vs, rfl, rfl, hT, hne, k2, k3, kz, fin⟩ := h
  cases rx
  obtain ⟨tk, rfl⟩ := ry
  obtain ⟨us, rr, ⟨⟨c0, c1, c2, c3⟩, got, hcls, n, hdat⟩, small⟩ := I.tuple hT
  simp only at hcls hdat
  subst hcls
  subst hdat
  have len : us.length = vs.length := rr.length.symm
  have pos : 0 < us.length := by
    rw [len]
    exact List.length_pos_iff.mpr hne
  have ne0 : us.toArray.isEmpty = false := by
    cases us with
    | nil => simp at pos
    | cons _ _ => rfl
  have sz : us.toArray.size = vs.length := by rw [List.size_toArray, len]
  have hk : k = ((k.toNat : Nat) : Int) := by omega
  have prod : ((us.toArray.size : Nat) : Int) * k ≤ 1000000 := by
    rw [sz]
    have a : ((vs.length : Nat) : Int) * k = ((k.toNat * vs.length : Nat) : Int) := by rw [Int.natCast_mul, ← hk, Int.mul_comm]
    rw [a]
    omega
  have flat : (List.replicate k.toNat us).flatten.length ≤ sizeLine := by
    rw [PyProof.Rows.lm_len_rep_flat]
    rw [len]
    have := sizeLine_eq
    omega
  have g0 : (decide (k < -(2 ^ 63)) || decide (k ≥ 2 ^ 63)) = false := by simp; omega
  have g1 : (us.toArray.isEmpty || k == 1) = false := by
    rw [ne0]
    simp
    omega
  have g2 : (decide (k ≤ 0) || us.toArray.isEmpty) = false := by
    rw [ne0]
    simp
    omega
  have g4 : Builtin.Tuple.tupleTooMany (((us.toArray.size : Nat) : Int) * k) = false := by
    unfold Builtin.Tuple.tupleTooMany
    have := sizeLine_eq
    exact decide_eq_false (by omega)
  have e := size_rep us k.toNat
  have room := fun s' => typeIs_int s' k tk
  have ht : s.TypeIs (.ref p) "tuple" := ⟨_, got, rfl⟩
  apply wpAny_binaryOp_repeat_ref (T := "tuple") (U := "int") (by decide) ht room noFill_tuple_mul F.fills_int_mul F.slot_int_rmul repeat_tuple F.slot_int_index.lookup
  apply call_meets F.slot_int_rmul (typeIs_int s k tk) F.entry_int_rmul (F.args_int_rmul_2 _ _) (int_rmul_tuple k tk p us.toArray n c1 c3)
  refine ⟨got, rfl, ht, ?_⟩
  apply call_meets F.slot_tuple_mul ht F.entry_tuple_mul (F.args_tuple_mul_2 _ _) (tuple_mulW p us.toArray n c1 c3 k tk g0 g1 g2 (by omega) g4 (by rw [e, List.size_toArray]; exact flat))
  refine ⟨got, ?_⟩
  rw [e]
  have fresh := I.hok.fresh (Nat.le_refl s.heap.objs.size)
  have laid := I.laid (t' := s.toks) (o := .tup (List.replicate k.toNat vs).flatten) (fun b ob q => Heap.get?_push_of_some { cls := Value.type "tuple", data := Data.seq (List.replicate k.toNat us).flatten.toArray } q) (Nat.le_refl _) ⟨by rw [PyProof.Rows.lm_len_rep_flat]; have := sizeLine_eq; omega, _, rr.rep k.toNat, IsTup.new _ _⟩
  exact ⟨.ref s.heap.objs.size, _, laid, rfl, fin _ fresh⟩
theorem ok_rep : OpOK X A E (binaryOp .Mult) repW := by
  obtain ⟨r, hr, hg⟩ := ok_mul (X := X) (A := A) (E := E)
  refine ⟨_, hr.or op_many, fun μ F S H a b x y Q rl ra rb h => ?_⟩
  unfold repW at h
  split at h
  · rename_i ds k
    split at h
    · rename_i z
      obtain ⟨z1, z2, z3, z4⟩ := z
      obtain ⟨ra, la⟩ := ra
      obtain ⟨rb, _⟩ := rb
      cases rb
      cases ra with
      | tup hs hd =>
        rename_i a xs
        refine .inr ⟨a, k, xs, rfl, rfl, sqT_up rl.ex hs, fun e => z1 ?_, z2, z3, by rw [drs_len hd]; exact z4, fun p hp => ?_⟩
        · have := drs_len hd
          rw [e] at this
          exact List.length_eq_zero_iff.mp this.symm
        · have hd' : DRs X.K F (List.replicate k.toNat xs).flatten (List.replicate k.toNat ds).flatten := by
            induction k.toNat with
            | zero => exact .nil
            | succ n ih =>
              rw [List.replicate_succ, List.replicate_succ, List.flatten_cons, List.flatten_cons]
              exact drs_app hd ih
          have hl : PyData.canLayAll0 (List.replicate k.toNat ds).flatten = true := by
            induction k.toNat with
            | zero => rfl
            | succ n ih => rw [List.replicate_succ, List.flatten_cons, layAll_app, lay_tup la, ih]; rfl
          obtain ⟨rl', xt⟩ := rl.newF hp (.tup (List.replicate k.toNat xs).flatten)
          exact PP.now (PP.xt xt h) rl' ⟨.tup (.inl (.inl upd_same)) (drs_up (upd_up (rl.fp hp)) _ _ hd'), tup_lay hl⟩
    · exact h.elim
  · exact .inl (hg μ F S H a b x y Q rl ra rb h)
end
end Mi
end
section
set_option Elab.async false
set_option linter.all false
set_option maxRecDepth 100000
set_option maxHeartbeats 16000000
namespace Mi
open PySem L2 PyProof.Rows
section
variable {X : Cx} {A : Ad} {E : XK} {M : Mn} {T : Mo} {lv : Nat} {c : Wh}
theorem ets_len (T : Mo) : ∀ (m : Exs) (en : Ev) (S : Sto) (ws : List W) (S' : Sto), ets T m en S = .ok ws S' → ws.length = m.len
  | .nil, en, S, ws, S', h => ya_len_nil en S ws S' h
  | .cons e m, en, S, ws, S', h => ya_len_cons (fun en S ws S' h => ets_len T m en S ws S' h) en S ws S' h
theorem chs_len : ∀ (m : Exs) (xs : List Expr), chs M c m xs = true → xs.length = m.len
  | .nil, xs, h => by
    unfold chs at h
    cases xs with
    | nil => rfl
    | cons => cases h
  | .cons e m, xs, h => by
    unfold chs at h
    cases xs with
    | nil => cases h
    | cons x r =>
      simp only [Bool.and_eq_true] at h
      show r.length + 1 = m.len + 1
      rw [chs_len m r h.2]
theorem chs_star : ∀ (m : Exs) {xs : List Expr}, chs M c m xs = true → xs.all noStar = true
  | .nil, xs, h => by
    unfold chs at h
    cases xs with
    | nil => rfl
    | cons => cases h
  | .cons e m, xs, h => by
    unfold chs at h
    cases xs with
    | nil => cases h
    | cons x r =>
      simp only [Bool.and_eq_true] at h
      rw [List.all_cons, h.1.1, chs_star m h.2]; rfl
theorem se_con {k : Const} {d : D} {j : Nat} {pos : Pos} (h : chC k d = true) : SE X A E (.Constant k j pos) (xCon (.d d)) := by
  unfold chC at h
  split at h
  · exact se_non
  · obtain rfl := of_decide_eq_true h
    exact se_bl
  · obtain rfl := of_decide_eq_true h
    exact se_int
  · rw [Bool.and_eq_true] at h
    obtain rfl := of_decide_eq_true h.1
    exact se_str h.2
  · cases h
theorem se_neg {e : Expr} {x : XE} {pos : Pos} (h : SE X A E e x) : SE X A E (.UnaryOp .USub e pos) (xUn ngG x) := by
  obtain ⟨t, p, h⟩ := h
  refine ⟨_, pe_un un_neg p, fun μ F S H σ en Q rl er q => ?_⟩
  refine h μ F S H σ en _ rl er (PP.bind q fun w S1 μ1 F1 H1 v _ t1 rl1 r1 h1 => ?_)
  unfold ngG at h1
  split at h1
  · obtain ⟨r1, _⟩ := r1
    cases r1
    exact ⟨_, rfl, PP.now h1 rl1 (wr_int _)⟩
  · exact h1.elim
theorem op_ok (G : Gd M T lv X A E c) {o : Operator} {g : W → W → Sto → Res W} (h : opG o = some g) : OpOK X A E (binaryOp o) g := by
  unfold opG at h
  split at h
  · cases h; exact ok_add
  · cases h; exact ok_sub
  · cases h; exact ok_rep
  · cases h; exact ok_div
  · cases h; exact ok_mod
  · cases h; exact ok_pow
  · cases h
theorem cm_ok (G : Gd M T lv X A E c) (o : CmpOp) : OpOK X A E (compareOp o) (cmG o) := by
  cases o
  · exact ok_eq G.un
  · exact ok_ne G.un
  · exact ok_lt
  · exact ok_le
  · exact ok_gt
  · exact ok_ge
  · exact ok_is
  · exact ok_isn
  · exact ok_in G.un1
  · exact ok_nin G.un1
theorem se_ty1 (G : Gd M T lv X A E c) {t : Tn} {x : Str} {pos : Pos} (h : bltB M c x t.nm = true) : SE X A E (.Name x pos) (xCon (.t t.nm)) := by
  obtain ⟨rfl, hg, hd, hn, hm⟩ := G.blt h
  refine se_ty hg hm ?_ hn hd
  cases t
  · exact boot_int
  · exact boot_str
  · exact boot_bool
  · exact boot_tuple
  · exact boot_list
  · exact boot_dict
theorem se_bi (G : Gd M T lv X A E c) {f : Bi} {x : Str} {a : Expr} {r : List Expr} {ya : XA} {p pos : Pos} (h : bltB M c x f.nm = true) (hs : (a :: r).all noStar = true) (ha : SA X A E (a :: r) ya) : SE X A E (.Call (.Name x p) (a :: r) [] pos) (xCall f.go ya) := by
  obtain ⟨rfl, hg, hd, hn, hm⟩ := G.blt h
  cases f
  · exact se_callB ok_isi hg hm boot_isinstance ha hs hn hd
  · exact se_callB ok_len hg hm boot_len ha hs hn hd
  · exact se_callB ok_abs hg hm boot_abs ha hs hn hd
  · exact se_callTy ok_int hg hm boot_int ha hs hn hd
  · exact se_callTy ok_str hg hm boot_str ha hs hn hd
  · exact se_callB (ok_min G.calm) hg hm boot_min ha hs hn hd
  · exact se_callB (ok_max G.calm) hg hm boot_max ha hs hn hd
  · exact se_callB (ok_sum G.calm) hg hm boot_sum ha hs hn hd
  · exact se_callB (ok_all G.calm) hg hm boot_all ha hs hn hd
  · exact se_callB (ok_any G.calm) hg hm boot_any ha hs hn hd
  · exact se_callTy ok_range hg hm boot_range ha hs hn hd
  · exact se_callTy (ok_list _ G.calm) hg hm boot_list ha hs hn hd
  · exact se_callTy (ok_tuple G.calm) hg hm boot_tuple ha hs hn hd
theorem mt_ok {t : Mt} : ∃ id : String, Slot "list" (t.nm : Str) id ∧ typeOf (.builtin id) = pure (.type "method_descriptor") ∧ MtOK X A E "list" id t.go ∧ RcOK X A "list" t.rc := by
  cases t
  · exact ⟨"list.append", PySem.F.slot_list_append, PySem.F.type_list_append, ok_app, rc_list⟩
  · exact ⟨"list.pop", PySem.F.slot_list_pop, PySem.F.type_list_pop, ok_pop, rc_list⟩
def isBop : Expr → Bool
  | .BoolOp _ _ _ => true
  | _ => false
def Kp (X : Cx) (A : Ad) (E : XK) (e : Expr) (x : XP) : Prop := SE X A E e x.1 ∧ ST X A E e x.2 ∧ (isBop e = true → SW X A E e x.2)
theorem kp_val {e : Expr} {x : XE} (h : SE X A E e x) (hb : isBop e = false) (he : ∀ whole, isTrue e X.env whole = (do let v ← whole; standAt e.pos; holding [v] (truthy v))) : Kp X A E e (pv x) :=
  ⟨h, st_val h he, fun q => by rw [hb] at q; cases q⟩
theorem kp_nt {e : Expr} {x : XE} (h : SE X A E e x) (hb : isBop e = false) : Kp X A E e (x, tBad) := ⟨h, st_bad, fun q => by rw [hb] at q; cases q⟩
theorem kp_bad {e : Expr} : Kp X A E e (xBad, tBad) := ⟨se_bad, st_bad, fun _ => sw_bad⟩
end
mutual
theorem snd_e {M : Mn} {A : Ad} : ∀ (m : Ex) {T : Mo} {lv : Nat} {X : Cx} {E : XK} {c : Wh} {e : Expr}, Gd M T lv X A E c → chE M c m e = true → Kp X A E e (et T m)
  | .bad, T, lv, X, E, c, e, G, h => kp_bad
  | .var i, T, lv, X, E, c, e, G, h => by
    unfold chE at h
    split at h
    · simp only [Bool.and_eq_true, decide_eq_true_eq] at h
      obtain ⟨a, b, _⟩ := nm_of h.2
      exact kp_val (se_var (by rw [G.N]; exact h.1.1) (by rw [G.sc]; exact vis_of h.1.2) a b) rfl fun _ => rfl
    · cases h
  | .con d, T, lv, X, E, c, e, G, h => by
    unfold chE at h
    split at h
    · exact kp_val (se_con h) rfl fun _ => rfl
    · cases h
  | .glb i, T, lv, X, E, c, e, G, h => by
    unfold chE at h
    split at h
    · split at h
      · rename_i y d hy
        simp only [Bool.and_eq_true, decide_eq_true_eq] at h
        obtain ⟨⟨rfl, hg⟩, hn⟩ := h
        obtain ⟨a, _, _⟩ := nm_of hn
        obtain ⟨v, u, hm, r, hw⟩ := G.tab.con i _ d hy
        have e1 : et T (.glb i) = pv (xCon (.d d)) := by
          unfold et
          rw [G.con, hy]
        rw [e1]
        exact kp_val (se_glob (G.gl hg) hm r a hw) rfl fun _ => rfl
      · cases h
    · cases h
  | .ty t, T, lv, X, E, c, e, G, h => by
    unfold chE at h
    split at h
    · exact kp_nt (se_ty1 G h) rfl
    · cases h
  | .bin o a b, T, lv, X, E, c, e, G, h => by
    unfold chE at h
    split at h
    · rename_i x p y pos
      simp only [Bool.and_eq_true, decide_eq_true_eq] at h
      obtain ⟨⟨rfl, h1⟩, h2⟩ := h
      have k1 := snd_e a G h1
      have k2 := snd_e b G h2
      unfold et
      split
      · rename_i g hg
        exact kp_val (se_bin (op_ok G hg) k1.1 k2.1) rfl fun _ => rfl
      · exact kp_val se_bad rfl fun _ => rfl
    · cases h
  | .neg a, T, lv, X, E, c, e, G, h => by
    unfold chE at h
    split at h
    · exact kp_nt (se_neg (snd_e a G h).1) rfl
    · cases h
  | .cmp o a b, T, lv, X, E, c, e, G, h => by
    unfold chE at h
    split at h
    · simp only [Bool.and_eq_true, decide_eq_true_eq, Bool.not_eq_true'] at h
      obtain ⟨⟨⟨rfl, hm⟩, h1⟩, h2⟩ := h
      have k1 := snd_e a G h1
      have k2 := snd_e b G h2
      exact ⟨se_cmp (cm_ok G _) k1.1 k2.1 hm, st_cmp (cm_ok G _) k1.1 k2.1 hm, fun q => by cases q⟩
    · cases h
  | .chn o p a b d, T, lv, X, E, c, e, G, h => by
    unfold chE at h
    split at h
    · simp only [Bool.and_eq_true, decide_eq_true_eq, Bool.not_eq_true'] at h
      obtain ⟨⟨⟨⟨⟨rfl, rfl⟩, hm⟩, h1⟩, h2⟩, h3⟩ := h
      have k1 := snd_e a G h1
      have k2 := snd_e b G h2
      have k3 := snd_e d G h3
      exact ⟨se_chn (cm_ok G _) (cm_ok G _) k1.1 k2.1 k3.1 hm, st_chn (cm_ok G _) (cm_ok G _) k1.1 k2.1 k3.1 hm, fun q => by cases q⟩
    · cases h
  | .and a b, T, lv, X, E, c, e, G, h => by
    unfold chE at h
    split at h
    · simp only [Bool.and_eq_true] at h
      have k1 := snd_e a G h.1
      have k2 := snd_e b G h.2
      exact ⟨se_and k1.1 k2.1, (sw_and k1.2.1 (k2.2.2 rfl)).st, fun _ => sw_and k1.2.1 (k2.2.2 rfl)⟩
    · cases h
  | .or a b, T, lv, X, E, c, e, G, h => by
    unfold chE at h
    split at h
    · simp only [Bool.and_eq_true] at h
      have k1 := snd_e a G h.1
      have k2 := snd_e b G h.2
      exact ⟨se_or k1.1 k2.1, (sw_or k1.2.1 (k2.2.2 rfl)).st, fun _ => sw_or k1.2.1 (k2.2.2 rfl)⟩
    · cases h
  | .one a, T, lv, X, E, c, e, G, h => by
    unfold chE at h
    split at h
    · rename_i op x pos
      have k1 := snd_e a G h
      have sw : SW X A E (.BoolOp op [x] pos) (et T a).2 := by
        cases op
        · exact sw_and1 k1.2.1
        · exact sw_or1 k1.2.1
      exact ⟨se_one k1.1, sw.st, fun _ => sw⟩
    · cases h
  | .not a, T, lv, X, E, c, e, G, h => by
    unfold chE at h
    split at h
    · have k1 := snd_e a G h
      exact ⟨se_not k1.1, st_not k1.2.1, fun q => by cases q⟩
    · cases h
  | .ite k a b, T, lv, X, E, c, e, G, h => by
    unfold chE at h
    split at h
    · simp only [Bool.and_eq_true] at h
      exact kp_nt (se_ite (snd_e k G h.1.1).2.1 (snd_e a G h.1.2).1 (snd_e b G h.2).1) rfl
    · cases h
  | .tup cel es, T, lv, X, E, c, e, G, h => by
    unfold chE at h
    split at h
    · exact kp_val (se_tup (snd_s es G h)) rfl fun _ => rfl
    · cases h
  | .lst cel es, T, lv, X, E, c, e, G, h => by
    unfold chE at h
    split at h
    · exact kp_val (se_lst (snd_s es G h)) rfl fun _ => rfl
    · cases h
  | .dic, T, lv, X, E, c, e, G, h => by
    unfold chE at h
    split at h
    · exact kp_val se_dic rfl fun _ => rfl
    · cases h
  | .ix a b, T, lv, X, E, c, e, G, h => by
    unfold chE at h
    split at h
    · simp only [Bool.and_eq_true] at h
      exact kp_val (se_ix (ok_ix G.un1) (snd_e a G h.1.2).1 (snd_e b G h.2).1 h.1.1) rfl fun _ => rfl
    · cases h
  | .sl cel a lo hi, T, lv, X, E, c, e, G, h => by
    unfold chE at h
    split at h
    · simp only [Bool.and_eq_true] at h
      exact kp_val (se_sl (snd_e a G h.1.1).1 (snd_o lo G h.1.2) (snd_o hi G h.2)) rfl fun _ => rfl
    · cases h
  | .bi f es, T, lv, X, E, c, e, G, h => by
    unfold chE at h
    split at h
    · simp only [Bool.and_eq_true] at h
      exact kp_val (se_bi G h.1.1 (by simpa using h.1.2) (snd_s es G h.2)) rfl fun _ => rfl
    · cases h
  | .fn i es, T, lv, X, E, c, e, G, h => by
    unfold chE at h
    split at h
    · rename_i x p xs pos
      split at h
      · rename_i y n hy
        simp only [Bool.and_eq_true, decide_eq_true_eq] at h
        obtain ⟨⟨⟨⟨⟨rfl, rfl⟩, hg⟩, hn⟩, hs⟩, hc⟩ := h
        obtain ⟨a, _, _⟩ := nm_of hn
        obtain ⟨f, fd, ps, hl, h1, h2, h3, h4, h5⟩ := G.tab.fn i x _ hy
        have B : FnAt X A lv T.run i ⟨x, ps⟩ f fd := ⟨h1, h2, h3, h4, h5⟩
        have ka := snd_s es G hc
        have hlen := chs_len es xs hc
        refine kp_val ?_ rfl fun _ => rfl
        cases xs with
        | nil =>
          cases es with
          | nil => exact se_call0 B G.tk (G.room.mono (Nat.le_succ _)) (G.gl hg) hl.symm a
          | cons => cases hlen
        | cons x0 r => exact se_call B G.tk (G.room.mono (Nat.le_succ _)) (G.gl hg) ka hs hl.symm a fun en S ws S' q => (ets_len T es en S ws S' q).trans hlen.symm
      · cases h
    · cases h
  | .fld k f o, T, lv, X, E, c, e, G, h => by
    unfold chE at h
    split at h
    · simp only [Bool.and_eq_true, decide_eq_true_eq] at h
      obtain ⟨⟨⟨rfl, hf⟩, hb⟩, ho⟩ := h
      obtain ⟨C, h1, h2, h3⟩ := G.tab.fld k _ hf
      exact kp_val (se_fld h1 h2 h3 (snd_e o G ho).1 hb) rfl fun _ => rfl
    · cases h
  | .mth t o es, T, lv, X, E, c, e, G, h => by
    unfold chE at h
    split at h
    · rename_i x m apos xs pos
      simp only [Bool.and_eq_true, decide_eq_true_eq] at h
      obtain ⟨⟨⟨⟨⟨⟨rfl, hb⟩, hl⟩, hs⟩, hn⟩, ho⟩, hc⟩ := h
      obtain ⟨id, s1, s2, s3, s4⟩ := mt_ok (X := X) (A := A) (E := E) (t := t)
      have ka := snd_s es G hc
      have hlen := chs_len es xs hc
      refine kp_val ?_ rfl fun _ => rfl
      cases xs with
      | nil =>
        cases es with
        | nil => exact se_mth0 PySem.F.plainAttrs_list s1 s2 s3 s4 (snd_e o G ho).1 hb hl
        | cons => cases hlen
      | cons x0 r => exact se_mth PySem.F.plainAttrs_list s1 s2 s3 s4 (snd_e o G ho).1 ka hb hl hs hn
    · cases h
  | .met k m i o es, T, lv, X, E, c, e, G, h => by
    unfold chE at h
    split at h
    · rename_i x n apos xs pos
      simp only [Bool.and_eq_true, decide_eq_true_eq] at h
      obtain ⟨⟨⟨⟨⟨⟨⟨rfl, hm⟩, hb⟩, hl⟩, hs⟩, hn⟩, ho⟩, hc⟩ := h
      obtain ⟨C, f, fd, ps, hp, h1, h2, h3, h4, h5⟩ := G.tab.met k _ i _ hm
      have B : MtAt X A lv T.run k C n i ps f fd := ⟨h1, h2, h3, h4, h5⟩
      have ka := snd_s es G hc
      have hlen := chs_len es xs hc
      refine kp_val ?_ rfl fun _ => rfl
      cases xs with
      | nil =>
        cases es with
        | nil => exact se_met0 B G.tk (G.room.mono (Nat.le_succ _)) (snd_e o G ho).1 hb hl hp.symm
        | cons => cases hlen
      | cons x0 r => exact se_met B G.tk (G.room.mono (Nat.le_succ _)) (snd_e o G ho).1 ka hb hl hs hn hp.symm fun en S ws S' q => (ets_len T es en S ws S' q).trans hlen.symm
    · cases h
  | .mk k i es, T, lv, X, E, c, e, G, h => by
    unfold chE at h
    split at h
    · rename_i x p a r pos
      simp only [Bool.and_eq_true, decide_eq_true_eq] at h
      obtain ⟨⟨⟨⟨hm, hg⟩, hn⟩, hs⟩, hc⟩ := h
      obtain ⟨a1, _, _⟩ := nm_of hn
      obtain ⟨C, f, fd, ps, hp, h1, h2, h3, h4, h5⟩ := G.tab.mks k _ i _ hm
      have hlen := chs_len es (a :: r) hc
      exact kp_val (se_mk h1 h2 h3 h4 h5 G.tk G.room (G.gl hg) (snd_s es G hc) (by simpa using hs) hp.symm a1 fun en S ws S' q => (ets_len T es en S ws S' q).trans hlen.symm) rfl fun _ => rfl
    · cases h
  | .lam i m, T, lv, X, E, c, e, G, h => by
    unfold chE at h
    split at h
    · rename_i y p ps body scope lp pos
      simp only [Bool.and_eq_true, decide_eq_true_eq] at h
      obtain ⟨⟨⟨⟨⟨⟨hl, hy⟩, hg⟩, hn⟩, hp⟩, hs⟩, hc⟩ := h
      obtain ⟨a1, _, _⟩ := nm_of hn
      obtain ⟨c0, P, lv2, TB, hcd, hm, hu, B2, room⟩ := G.lam hl
      have L : LamX.LamS X.env.scope scope := by rw [G.sc]; exact LamX.lamS_by hs
      refine kp_val (se_lam (k := lv2 + 1) (G.tab.cat i y hy) (G.gl hg) a1 TB hcd hm hu room L hp fun A' outer s H E' f c' hr' => ?_) rfl fun _ => rfl
      have G' : Gd M T.low lv2 (LamX.lamCx X A' outer s H E' scope f c') A E' ⟨c.N, scope, fun _ => false, false⟩ :=
        ⟨B2, G.con, G.N, rfl, rfl, G.nd, rfl, L.kind, hr', takes_of rfl rfl rfl rfl, fun z => nomatch z⟩
      exact (snd_e m G' hc).1
    · cases h
  | .cal v is es, T, lv, X, E, c, e, G, h => by
    unfold chE at h
    split at h
    · rename_i x p a r pos
      simp only [Bool.and_eq_true, decide_eq_true_eq] at h
      obtain ⟨⟨⟨⟨⟨hN, hv⟩, hn⟩, his⟩, hs⟩, hc⟩ := h
      obtain ⟨a1, a2, _⟩ := nm_of hn
      have hlen := chs_len es (a :: r) hc
      refine kp_val (se_cal (k := lv) (fun i hi => ?_) G.tk (G.room.mono (Nat.le_succ _)) (by rw [G.N]; exact hN) (by rw [G.sc]; exact vis_of hv) (snd_s es G hc) hs a1 a2 fun en S ws S' q => (ets_len T es en S ws S' q).trans hlen.symm) rfl fun _ => rfl
      have z := List.all_eq_true.mp his i hi
      split at z
      · rename_i y n hy
        have z := of_decide_eq_true z
        obtain ⟨f, fd, ps, hl, h1, h2, h3, h4, h5⟩ := G.tab.fn i _ _ hy
        exact ⟨f, fd, ps, hl.trans z, h1, h3, h4, h5⟩
      · cases z
    · cases h
  | .fnv i, T, lv, X, E, c, e, G, h => by
    unfold chE at h
    split at h
    · split at h
      · rename_i y n hy
        simp only [Bool.and_eq_true, decide_eq_true_eq] at h
        obtain ⟨⟨rfl, hg⟩, hn⟩ := h
        obtain ⟨a1, _, _⟩ := nm_of hn
        obtain ⟨f, fd, ps, hl, h1, h2, h3, h4, h5⟩ := G.tab.fn i _ _ hy
        exact kp_nt (se_fnv (G.gl hg) h2 h1 a1) rfl
      · cases h
    · cases h
  | .lc cel own g it t el, T, lv, X, E, c, e, G, h => by
    unfold chE at h
    split at h
    · rename_i elt tg i ifs scope pos
      simp only [Bool.and_eq_true] at h
      obtain ⟨⟨⟨⟨⟨hb, hf⟩, hi⟩, hw⟩, ht⟩, he⟩ := h
      have bk : BlkOk X.N X.env.scope scope own := by rw [G.N, G.sc]; exact blkOk_by hb
      have P : LcP X A scope own tg elt ifs (eg T g) (eto T t).2 (et T el).1 :=
        ⟨bk, fun s H C cl fp => snd_w g (G.blk bk.kind s H C cl fp) hw, fun s H C cl fp => snd_t t (G.blk bk.kind s H C cl fp) ht, fun s H C cl fp => (snd_e el (G.blk bk.kind s H C cl fp) he).1⟩
      exact kp_val (se_lc G.calm G.nd (snd_i it G hi) P (nofold_eq hf)) rfl fun _ => rfl
    · cases h
theorem snd_s {M : Mn} {A : Ad} : ∀ (m : Exs) {T : Mo} {lv : Nat} {X : Cx} {E : XK} {c : Wh} {xs : List Expr}, Gd M T lv X A E c → chs M c m xs = true → SA X A E xs (ets T m)
  | .nil, T, lv, X, E, c, xs, G, h => by
    unfold chs at h
    cases xs with
    | nil => exact sa_nil
    | cons => cases h
  | .cons e m, T, lv, X, E, c, xs, G, h => by
    unfold chs at h
    split at h
    · simp only [Bool.and_eq_true] at h
      exact sa_cons (snd_e e G h.1.2).1 (snd_s m G h.2) (star_cons h.1.1)
    · cases h
theorem snd_o {M : Mn} {A : Ad} : ∀ (m : OEx) {T : Mo} {lv : Nat} {X : Cx} {E : XK} {c : Wh} {o : Option Expr}, Gd M T lv X A E c → chO M c m o = true → SO X A E o (eto T m).1
  | .no, T, lv, X, E, c, o, G, h => by
    unfold chO at h
    cases o with
    | none => exact so_none
    | some => cases h
  | .yes e, T, lv, X, E, c, o, G, h => by
    unfold chO at h
    split at h
    · exact so_some (snd_e e G h).1
    · cases h
theorem snd_t {M : Mn} {A : Ad} : ∀ (m : OEx) {T : Mo} {lv : Nat} {X : Cx} {E : XK} {c : Wh} {l : List Expr}, Gd M T lv X A E c → chT M c m l = true → PTs X l (tTt X.K A E (eto T m).2)
  | .no, T, lv, X, E, c, l, G, h => by
    unfold chT at h
    cases l with
    | nil => exact ⟨fun pins s σ H Q I q => by
        obtain ⟨μ, F, S, en, rl, er, q⟩ := q
        have q : PP X.K A BR E μ F H (.ok true S) Q := q
        exact pts_nil.run pins s σ H Q I (PP.now (v := true) q rl rfl)⟩
    | cons => cases h
  | .yes e, T, lv, X, E, c, l, G, h => by
    unfold chT at h
    split at h
    · exact pts_one (snd_e e G h).2.1.pt
    · cases h
theorem snd_i {M : Mn} {A : Ad} : ∀ (m : Ix) {T : Mo} {lv : Nat} {X : Cx} {E : XK} {c : Wh} {tg i : Expr}, Gd M T lv X A E c → chI M c m tg i = true → SI X A E tg i (ei T m)
  | .val e, T, lv, X, E, c, tg, i, G, h => by
    unfold chI at h
    exact si_val (snd_e e G h).1
  | .zip es, T, lv, X, E, c, tg, i, G, h => by
    unfold chI at h
    split at h
    · split at h
      · simp only [Bool.and_eq_true] at h
        obtain ⟨rfl, hg, _, _, hm⟩ := G.blt h.1
        have hs := h.2
        have h2 := snd_s es G hs
        have ns : ∀ {m : Exs} {xs : List Expr}, chs M c m xs = true → xs.all noStar = true := fun {m} => chs_star m
        have n2 := ns hs
        simp only [List.all_cons, Bool.and_eq_true] at n2
        exact si_zip hg hm h2 n2.1 n2.2.1
      · cases h
    · cases h
  | .enu es, T, lv, X, E, c, tg, i, G, h => by
    unfold chI at h
    split at h
    · split at h
      · simp only [Bool.and_eq_true] at h
        obtain ⟨rfl, hg, _, _, hm⟩ := G.blt h.1
        have hs := h.2
        have h2 := snd_s es G hs
        have n2 := chs_star es hs
        simp only [List.all_cons, Bool.and_eq_true] at n2
        exact si_enum hg hm h2 n2.1
      · cases h
    · cases h
theorem snd_w {M : Mn} {A : Ad} {own : List Nat} : ∀ (m : Gx) {T : Mo} {lv : Nat} {X : Cx} {E : XK} {c : Wh} {e : Expr}, Gd M T lv X A E c → chW c own m e = true → STGW X A E own e (eg T m)
  | .nm i, T, lv, X, E, c, e, G, h => by
    unfold chW at h
    split at h
    · rename_i x pos
      simp only [Bool.and_eq_true, decide_eq_true_eq, Bool.or_eq_true] at h
      obtain ⟨⟨⟨h1, h2⟩, h3⟩, h4⟩ := h
      refine gw_nm G.nd (by rw [G.N]; exact h1) (by rw [G.sc]; exact loc_of h2) ?_ h4
      rcases h3 with z | z
      · exact .inl (by rw [G.fn]; exact z)
      · exact .inr (by rw [G.sc]; exact lcl_of z)
    · cases h
  | .tp gs, T, lv, X, E, c, e, G, h => by
    unfold chW at h
    split at h
    · simp only [Bool.and_eq_true, decide_eq_true_eq] at h
      obtain ⟨⟨h1, h2⟩, h3⟩ := h
      unfold eg
      rw [← h1]
      exact gw_tp G.calm (snd_ws gs G h3) h2
    · cases h
  | .sub _ _, T, lv, X, E, c, e, G, h => by unfold chW at h; cases h
  | .fd _ _ _, T, lv, X, E, c, e, G, h => by unfold chW at h; cases h
theorem snd_ws {M : Mn} {A : Ad} {own : List Nat} : ∀ (m : Gxs) {T : Mo} {lv : Nat} {X : Cx} {E : XK} {c : Wh} {xs : List Expr}, Gd M T lv X A E c → chWs c own m xs = true → STGWs X A E own xs (egs T m)
  | .nil, T, lv, X, E, c, xs, G, h => by
    unfold chWs at h
    cases xs with
    | nil => exact gws_nil
    | cons => cases h
  | .cons g gs, T, lv, X, E, c, xs, G, h => by
    unfold chWs at h
    split at h
    · simp only [Bool.and_eq_true] at h
      exact gws_cons (snd_w g G h.1.2) (snd_ws gs G h.2) h.1.1
    · cases h
end
end Mi
end
section
set_option Elab.async false
set_option linter.all false
set_option maxRecDepth 100000
set_option maxHeartbeats 16000000
namespace Mi
open PySem L2 PyProof.Rows
def noComp : Expr → Bool
  | .ListComp _ _ _ _ => false
  | .SetComp _ _ _ _ => false
  | .DictComp _ _ _ _ _ => false
  | _ => true
def noTup : Expr → Bool
  | .Tuple _ _ _ => false
  | _ => true
def noNam : Expr → Bool
  | .Name _ _ => false
  | _ => true
def swpB (sc : Scope) (e : Expr) (x : Str) (py : Pos) : Bool := match e with
  | .ListComp _ _ s pos => (match sc.names.lookup x with | some .local => true | _ => false) && (py.line == pos.line) && !(s.names.any fun p => p.1 == x && (p.2 == .local || p.2 == .cell))
  | _ => false
def isStar : Expr → Bool
  | .Starred _ _ => true
  | _ => false
def nmsOf (sc : Scope) (ts : List Expr) : List Str := ts.filterMap fun
    | .Name id pos => if sc.names.lookup id == some .local && pos.line == ((ts.head?.map (·.pos.line)).getD 0) then some id else none
    | _ => none
def swpK (sc : Scope) (ts vs : List Expr) : Nat :=
  if (!(ts.length == 2 || ts.length == 3) || vs.length != ts.length) = true then 0 else
  if vs.any isStar = true then 0 else
  if ((nmsOf sc ts).length != ts.length || (nmsOf sc ts).eraseDups.length != (nmsOf sc ts).length) = true then 0 else
  if vs.all (foldedForSure 8) = true then 0 else
  if vs.all (constantsAlone 8) = true then 2 else 1
mutual
def chG (M : Mn) (c : Wh) : Gx → Expr → Bool
  | .nm i, e => (match e with
    | .Name x _ => decide (c.N[i]? = some x) && locB c.sc x && (c.fn x || lclB c.sc x)
    | _ => false)
  | .tp gs, e => (match e with
    | .Tuple xs _ _ => decide (xs.length = gs.len) && xs.all noStar && chGs M c gs xs
    | _ => false)
  | .sub o i, e => (match e with
    | .Subscript x y _ => notSlice y && chE M c o x && chE M c i y
    | _ => false)
  | .fd k f o, e => (match e with
    | .Attribute x g _ => decide (g = f) && decide ((k, f) ∈ M.fld) && chE M c o x
    | _ => false)
def chGs (M : Mn) (c : Wh) : Gxs → List Expr → Bool
  | .nil, xs => xs.isEmpty
  | .cons g gs, xs => (match xs with
    | x :: r => noStar x && chG M c g x && chGs M c gs r
    | [] => false)
end
def nmsB (c : Wh) : Gxs → List Expr → Bool
  | .cons (.nm i) (.cons (.nm j) .nil), [.Name x _, .Name y _] => decide (c.N[i]? = some x) && decide (c.N[j]? = some y) && decide (i ≠ j) && lclB c.sc x && lclB c.sc y
  | .cons (.nm i) (.cons (.nm j) (.cons (.nm l) .nil)), [.Name x _, .Name y _, .Name z _] => decide (c.N[i]? = some x) && decide (c.N[j]? = some y) && decide (c.N[l]? = some z) && decide (i ≠ j) && decide (i ≠ l) && decide (j ≠ l) && lclB c.sc x && lclB c.sc y && lclB c.sc z
  | _, _ => false
mutual
def chS (M : Mn) (c : Wh) : Sx → Stmt → Bool
  | .bad, _ => true
  | .asg g e, s => (match s with
    | .Assign [tg] v pos => chG M c g tg && chE M c e v && (match tg with
      | .Name x py => true
      | .Tuple _ _ _ => noTup v
      | _ => noNam tg)
    | _ => false)
  | .par gs es, s => (match s with
    | .Assign [.Tuple ts _ _] (.Tuple vs _ _) pos => chs M c es vs && decide (vs.length = ts.length) && (match swpK c.sc ts vs with
      | 0 => chGs M c gs ts && ts.all noStar && decide (vs.length ≤ 1000)
      | 1 => nmsB c gs ts
      | _ => false)
    | _ => false)
  | .exp e, s => (match s with
    | .Expr v _ => noComp v && chE M c e v
    | _ => false)
  | .ret e, s => (match s with
    | .Return (some v) _ => chE M c e v
    | _ => false)
  | .rse x, s => (match s with
    | .Raise (some (.Call (.Name y _) [.Constant (.str _) _ _] [] _)) none _ => decide (M.exn[x]? = some y) && gloB c.sc y && okNm y
    | _ => false)
  | .retN, s => (match s with
    | .Return none _ => true
    | _ => false)
  | .pass, s => (match s with
    | .Pass _ => true
    | _ => false)
  | .brk, s => (match s with
    | .Break _ => true
    | _ => false)
  | .cnt, s => (match s with
    | .Continue _ => true
    | _ => false)
  | .ifs k a b, s => (match s with
    | .If x p q _ => chE M c k x && chSs M c a p && chSs M c b q
    | _ => false)
  | .whl _ k b, s => (match s with
    | .While x p [] _ => chE M c k x && chSs M c b p
    | _ => false)
  | .for _ g it b, s => (match s with
    | .For tg i p [] _ => noFold i && chI M c it tg i && chG M c g tg && chSs M c b p
    | _ => false)
def chSs (M : Mn) (c : Wh) : Sxs → List Stmt → Bool
  | .nil, l => l.isEmpty
  | .cons s ss, l => (match l with
    | st :: r => chS M c s st && chSs M c ss r
    | [] => false)
end
def isLc : Ex → Bool
  | .lc _ _ _ _ _ _ => true
  | _ => false
def isBad : Ex → Bool
  | .bad => true
  | _ => false
theorem nc_of {M : Mn} {c : Wh} {e : Ex} {v : Expr} (h : chE M c e v = true) (h1 : isBad e = false) (h2 : isLc e = false) : noComp v = true := by
  cases v <;> first | rfl | (cases e <;> first | exact (Bool.false_ne_true h1.symm).elim | exact (Bool.false_ne_true h2.symm).elim | (unfold chE at h; exact absurd h Bool.false_ne_true))
theorem lc_of {M : Mn} {c : Wh} {e : Ex} {v : Expr} (h : chE M c e v = true) (h1 : isBad e = false) (h2 : noComp v = false) : isLc e = true := by
  cases q : isLc e with
  | true => rfl
  | false => rw [nc_of h h1 q] at h2; cases h2
section
variable {X : Cx} {A : Ad} {E : XK} {M : Mn} {T : Mo} {lv : Nat} {c : Wh}
theorem ss_bad {st : Stmt} {s : XS} (h : ∀ en S, s en S = .bad) : SS X A E st s := ⟨fun _ _ _ => False, ⟨fun pins s σ H D I h => h.elim⟩, fun μ F S H σ en D rl er q => by
  rw [h] at q; exact q⟩
theorem swp_nc {e : Expr} {t : Option Expr} {l : Nat} {env : Env} (h : noComp e = true) : swapsWith e t l env = pure false := by
  cases e <;> first | rfl | cases h
theorem swp_nm {e t : Expr} {l : Nat} {env : Env} (h : noNam t = true) : swapsWith e (some t) l env = pure false := by
  cases t <;> first | exact (Bool.false_ne_true h).elim | (cases e <;> rfl)
theorem Gd.bk (G : Gd M T lv X A E c) : X.env.blockKind = .function := by
  unfold Env.blockKind
  rw [G.kd]; rfl
theorem asg_nm (G : Gd M T lv X A E c) {i : Nat} {e : Ex} {x : Str} {py pos : Pos} {v : Expr} (h1 : chG M c (.nm i) (.Name x py) = true) (h2 : chE M c e v = true) : SS X A E (.Assign [.Name x py] v pos) (sAsg (gNm i) (et T e).1) := by
  unfold chG at h1
  simp only [Bool.and_eq_true, decide_eq_true_eq, Bool.or_eq_true] at h1
  obtain ⟨⟨a1, a2⟩, a3⟩ := h1
  have b1 : X.N[i]? = some x := by rw [G.N]; exact a1
  have b2 : Loc X.env.scope x := by rw [G.sc]; exact loc_of a2
  have b3 : X.fn x = true ∨ X.env.scope.names.lookup x = some .local := by
    rcases a3 with z | z
    · exact .inl (by rw [G.fn]; exact z)
    · exact .inr (by rw [G.sc]; exact lcl_of z)
  cases hb : isBad e with
  | true =>
    cases e <;> first | exact (Bool.false_ne_true hb).elim | exact ss_bad fun _ _ => rfl
  | false =>
    cases hn : noComp v with
    | true => exact ss_set G.nd b1 b2 b3 (snd_e e G h2).1 (swp_nc hn)
    | false =>
      have hl := lc_of h2 hb hn
      cases e <;> first | exact (Bool.false_ne_true hl).elim | skip
      rename_i cel own g it t el
      have K := snd_e _ G h2
      unfold chE at h2
      split at h2
      · rename_i elt tg i0 ifs scope lpos
        simp only [Bool.and_eq_true] at h2
        obtain ⟨⟨⟨⟨⟨hbk, hf⟩, hi⟩, hw⟩, ht⟩, he⟩ := h2
        have bk : BlkOk X.N X.env.scope scope own := by rw [G.N, G.sc]; exact blkOk_by hbk
        have P : LcP X A scope own tg elt ifs (eg T g) (eto T t).2 (et T el).1 :=
          ⟨bk, fun s H C cl fp => snd_w g (G.blk bk.kind s H C cl fp) hw, fun s H C cl fp => snd_t t (G.blk bk.kind s H C cl fp) ht, fun s H C cl fp => (snd_e el (G.blk bk.kind s H C cl fp) he).1⟩
        have key : swapsWith (.ListComp elt [⟨tg, i0, ifs, 0⟩] scope lpos) (some (.Name x py)) pos.line X.env = pure (decide (X.env.scope.names.lookup x = some .local) && ((py.line == lpos.line) && !(scope.names.any fun p => p.1 == x && (p.2 == .local || p.2 == .cell)))) := by
          show (pure (X.env.blockKind == ScopeKind.function && X.env.kindOf x == some NameKind.local && py.line == lpos.line && !(scope.names.any fun p => p.1 == x && (p.2 == .local || p.2 == .cell))) : Sem Bool) = _
          rw [G.bk]
          have q : (X.env.kindOf x == some NameKind.local) = decide (X.env.scope.names.lookup x = some .local) := by
            show (X.env.scope.names.lookup x == some NameKind.local) = _
            rw [Bool.eq_iff_iff]; simp
          rw [q]
          congr 1
          cases decide (X.env.scope.names.lookup x = some .local) <;> cases (py.line == lpos.line) <;> rfl
        cases hsw : (decide (X.env.scope.names.lookup x = some .local) && ((py.line == lpos.line) && !(scope.names.any fun p => p.1 == x && (p.2 == .local || p.2 == .cell)))) with
        | true =>
          rw [hsw] at key
          have hx : X.env.scope.names.lookup x = some .local := by
            rw [Bool.and_eq_true] at hsw
            exact of_decide_eq_true hsw.1
          exact ss_setLc G.calm G.nd b1 hx key (snd_i it G hi) P (nofold_eq hf)
        | false =>
          rw [hsw] at key
          exact ss_set G.nd b1 b2 b3 K.1 key
      · cases h2
end
mutual
theorem snd_g {M : Mn} {T : Mo} {lv : Nat} {A : Ad} : ∀ (m : Gx) {X : Cx} {E : XK} {c : Wh} {e : Expr}, Gd M T lv X A E c → chG M c m e = true → STG X A E e (eg T m)
  | .nm i, X, E, c, e, G, h => by
    unfold chG at h
    split at h
    · simp only [Bool.and_eq_true, decide_eq_true_eq, Bool.or_eq_true] at h
      obtain ⟨⟨h1, h2⟩, h3⟩ := h
      refine stg_nm G.nd (by rw [G.N]; exact h1) (by rw [G.sc]; exact loc_of h2) ?_
      rcases h3 with z | z
      · exact .inl (by rw [G.fn]; exact z)
      · exact .inr (by rw [G.sc]; exact lcl_of z)
    · cases h
  | .tp gs, X, E, c, e, G, h => by
    unfold chG at h
    split at h
    · simp only [Bool.and_eq_true, decide_eq_true_eq] at h
      obtain ⟨⟨h1, h2⟩, h3⟩ := h
      unfold eg
      rw [← h1]
      exact stg_tp G.calm (snd_gs gs G h3) h2
    · cases h
  | .sub o i, X, E, c, e, G, h => by
    unfold chG at h
    split at h
    · simp only [Bool.and_eq_true] at h
      exact stg_sub (ok_set G.un1) (snd_e o G h.1.2).1 (snd_e i G h.2).1 h.1.1
    · cases h
  | .fd k f o, X, E, c, e, G, h => by
    unfold chG at h
    split at h
    · simp only [Bool.and_eq_true, decide_eq_true_eq] at h
      obtain ⟨⟨rfl, hf⟩, ho⟩ := h
      obtain ⟨C, h1, h2, h3⟩ := G.tab.fld k _ hf
      exact stg_fld h1 h2 h3 (snd_e o G ho).1
    · cases h
theorem snd_gs {M : Mn} {T : Mo} {lv : Nat} {A : Ad} : ∀ (m : Gxs) {X : Cx} {E : XK} {c : Wh} {xs : List Expr}, Gd M T lv X A E c → chGs M c m xs = true → STGs X A E xs (egs T m)
  | .nil, X, E, c, xs, G, h => by
    unfold chGs at h
    cases xs with
    | nil => exact stgs_nil
    | cons => cases h
  | .cons g gs, X, E, c, xs, G, h => by
    unfold chGs at h
    split at h
    · simp only [Bool.and_eq_true] at h
      exact stgs_cons (snd_g g G h.1.2) (snd_gs gs G h.2) h.1.1
    · cases h
end
section
variable {X : Cx} {A : Ad} {E : XK} {M : Mn} {T : Mo} {lv : Nat} {c : Wh}
theorem swp_eq {ts vs : List Expr} {k k2 : Nat} {p1 p2 : Pos} (hb : X.env.blockKind = .function) : swappedStores [.Tuple ts k p1] (.Tuple vs k2 p2) X.env =
    (if (!(ts.length == 2 || ts.length == 3) || vs.length != ts.length) = true then pure none else if vs.any isStar = true then pure none else
      if ((nmsOf X.env.scope ts).length != ts.length || (nmsOf X.env.scope ts).eraseDups.length != (nmsOf X.env.scope ts).length) = true then pure none else
      if vs.all (foldedForSure 8) = true then pure none else
      if vs.all (constantsAlone 8) = true then (do unsupported "assign.tuple-of-constant-expressions:order-of-the-stores"; pure (some (nmsOf X.env.scope ts))) else pure (some (nmsOf X.env.scope ts))) := by
  unfold swappedStores
  rw [hb]
  have e1 : ∀ b : Bool, (b || (ScopeKind.function != ScopeKind.function)) = b := fun b => by cases b <;> rfl
  have e2 : (vs.any fun | .Starred .. => true | _ => false) = vs.any isStar := rfl
  rw [← e1 (!(ts.length == 2 || ts.length == 3) || vs.length != ts.length), ← e2]
  rfl
theorem swp_sole {t e : Expr} {l : Nat} {env : Env} : swapsWithSole [t] e l env = swapsWith e (some t) l env := rfl
theorem swp0 (hb : X.env.blockKind = .function) {ts vs : List Expr} {k k2 : Nat} {p1 p2 : Pos} (h : swpK X.env.scope ts vs = 0) : swappedStores [.Tuple ts k p1] (.Tuple vs k2 p2) X.env = pure none := by
  rw [swp_eq hb]
  unfold swpK at h
  split
  · rfl
  · rename_i h1
    rw [if_neg h1] at h
    split
    · rfl
    · rename_i h2
      rw [if_neg h2] at h
      split
      · rfl
      · rename_i h3
        rw [if_neg h3] at h
        split
        · rfl
        · rename_i h4
          rw [if_neg h4] at h
          split at h <;> cases h
theorem swp1 (hb : X.env.blockKind = .function) {ts vs : List Expr} {k k2 : Nat} {p1 p2 : Pos} (h : swpK X.env.scope ts vs = 1) : swappedStores [.Tuple ts k p1] (.Tuple vs k2 p2) X.env = pure (some (nmsOf X.env.scope ts)) ∧ (nmsOf X.env.scope ts).length = ts.length ∧ vs.length = ts.length := by
  rw [swp_eq hb]
  unfold swpK at h
  split at h
  · cases h
  · rename_i h1
    split at h
    · cases h
    · rename_i h2
      split at h
      · cases h
      · rename_i h3
        split at h
        · cases h
        · rename_i h4
          split at h
          · cases h
          · rename_i h5
            rw [if_neg h1, if_neg h2, if_neg h3, if_neg h4, if_neg h5]
            refine ⟨rfl, ?_, ?_⟩
            · simp only [Bool.not_eq_true, Bool.or_eq_false_iff, bne_eq_false_iff_eq] at h3
              exact h3.1
            · simp only [Bool.not_eq_true, Bool.or_eq_false_iff, bne_eq_false_iff_eq] at h1
              exact h1.2
theorem nms_all {sc : Scope} {line : Nat} : ∀ {us : List Expr} {xs : List Str}, (us.filterMap fun
    | .Name id pos => if sc.names.lookup id == some NameKind.local && pos.line == line then some id else none
    | _ => none).length = us.length → (us.map fun | .Name x _ => some x | _ => none) = xs.map some → (us.filterMap fun
    | .Name id pos => if sc.names.lookup id == some NameKind.local && pos.line == line then some id else none
    | _ => none) = xs
  | [], xs, h, e => by cases xs with
    | nil => rfl
    | cons => cases e
  | u :: us, [], h, e => by cases e
  | u :: us, x :: xs, h, e => by
    have hle := List.length_filterMap_le (fun
    | Expr.Name id pos => if sc.names.lookup id == some NameKind.local && pos.line == line then some id else none
    | _ => none) us
    rw [List.map_cons, List.map_cons, List.cons.injEq] at e
    rw [List.filterMap_cons] at h ⊢
    split at h
    · simp only [List.length_cons] at h
      omega
    · rename_i b hb
      rw [List.length_cons, List.length_cons, Nat.add_right_cancel_iff] at h
      rw [nms_all h e.2]
      congr 1
      cases u <;> first | (cases e.1; done) | skip
      rename_i id pos
      cases e.1
      dsimp only at hb
      split at hb
      · exact (Option.some.inj hb).symm
      · cases hb
theorem par_nms (G : Gd M T lv X A E c) {gs : Gxs} {ts vs : List Expr} {ya : XA} {k k2 : Nat} {p1 p2 pos : Pos} (h : nmsB c gs ts = true) (hk : swpK c.sc ts vs = 1) (ha : SA X A E vs ya) : SS X A E (.Assign [.Tuple ts k p1] (.Tuple vs k2 p2) pos) (sPar (egs T gs) ya) := by
  rw [← G.sc] at hk
  obtain ⟨s1, s2, s3⟩ := swp1 (k := k) (k2 := k2) (p1 := p1) (p2 := p2) G.bk hk
  unfold nmsB at h
  split at h
  · rename_i i j x px y py
    simp only [Bool.and_eq_true, decide_eq_true_eq] at h
    obtain ⟨⟨⟨⟨a1, a2⟩, a3⟩, a4⟩, a5⟩ := h
    rw [← G.N] at a1 a2
    have l1 := lcl_of a4
    have l2 := lcl_of a5
    rw [← G.sc] at l1 l2
    have e : nmsOf X.env.scope [.Name x px, .Name y py] = [x, y] := nms_all s2 rfl
    rw [e] at s1
    cases vs with
    | nil => cases s3
    | cons v vs => cases vs with
      | nil => cases s3
      | cons u vs => cases vs with
        | nil => exact ss_par2 G.calm G.nd a1 a2 a3 l1 l2 ha s1 rfl
        | cons => cases s3
  · rename_i i j l x px y py z pz
    simp only [Bool.and_eq_true, decide_eq_true_eq] at h
    obtain ⟨⟨⟨⟨⟨⟨⟨⟨a1, a2⟩, a3⟩, b1⟩, b2⟩, b3⟩, a4⟩, a5⟩, a6⟩ := h
    rw [← G.N] at a1 a2 a3
    have l1 := lcl_of a4
    have l2 := lcl_of a5
    have l3 := lcl_of a6
    rw [← G.sc] at l1 l2 l3
    have e : nmsOf X.env.scope [.Name x px, .Name y py, .Name z pz] = [x, y, z] := nms_all s2 rfl
    rw [e] at s1
    cases vs with
    | nil => cases s3
    | cons v vs => cases vs with
      | nil => cases s3
      | cons u vs => cases vs with
        | nil => cases s3
        | cons t vs => cases vs with
          | nil => exact ss_par3 G.calm G.nd a1 a2 a3 b1 b2 b3 l1 l2 l3 ha s1 rfl
          | cons => cases s3
  · cases h
end
mutual
theorem snd_st {M : Mn} {T : Mo} {lv : Nat} {A : Ad} : ∀ (m : Sx) {X : Cx} {E : XK} {c : Wh} {s : Stmt}, Gd M T lv X A E c → PassesOwn (model X.prog X.w) X.A X.env X.xe → chS M c m s = true → SS X A E s (es T m)
  | .bad, X, E, c, s, G, hp, h => ss_bad fun _ _ => rfl
  | .asg g e, X, E, c, s, G, hp, h => by
    unfold chS at h
    split at h
    · rename_i tg v pos
      simp only [Bool.and_eq_true] at h
      obtain ⟨⟨h1, h2⟩, h3⟩ := h
      split at h3
      · rename_i x py
        cases g with
        | nm i => exact asg_nm G h1 h2
        | tp gs => unfold chG at h1; exact absurd h1 Bool.false_ne_true
        | sub o i => unfold chG at h1; exact absurd h1 Bool.false_ne_true
        | fd k f o => unfold chG at h1; exact absurd h1 Bool.false_ne_true
      · refine ss_asg (snd_g g G h1) (snd_e e G h2).1 (swp_sole.trans (swp_nm rfl)) ?_ rfl
        cases v <;> first | rfl | exact (Bool.false_ne_true h3).elim
      · rename_i h4 h5
        refine ss_asg (snd_g g G h1) (snd_e e G h2).1 (swp_sole.trans (swp_nm h3)) ?_ ?_
        · cases tg <;> first | rfl | exact absurd rfl (h5 _ _ _) | (unfold chG at h1; cases g <;> exact absurd h1 Bool.false_ne_true)
        · cases tg <;> first | rfl | (unfold chG at h1; cases g <;> exact absurd h1 Bool.false_ne_true)
    · cases h
  | .par gs es, X, E, c, s, G, hp, h => by
    unfold chS at h
    split at h
    · rename_i ts k p1 vs k2 p2 pos
      simp only [Bool.and_eq_true, decide_eq_true_eq] at h
      obtain ⟨⟨h1, h2⟩, h3⟩ := h
      have ha := snd_s es G h1
      split at h3
      · rename_i hk
        simp only [Bool.and_eq_true, decide_eq_true_eq] at h3
        rw [← G.sc] at hk
        exact ss_par G.calm (snd_gs gs G h3.1.1) ha h3.1.2 h2 h3.2 (fun en S ws S' q => (ets_len T es en S ws S' q).trans (chs_len es vs h1).symm) rfl (swp0 G.bk hk)
      · rename_i hk
        exact par_nms G h3 hk ha
      · cases h3
    · cases h
  | .exp e, X, E, c, s, G, hp, h => by
    unfold chS at h
    split at h
    · simp only [Bool.and_eq_true] at h
      exact ss_exp (snd_e e G h.2).1 (swp_nc h.1)
    · cases h
  | .ret e, X, E, c, s, G, hp, h => by
    unfold chS at h
    split at h
    · exact ss_ret (snd_e e G h).1
    · cases h
  | .rse x, X, E, c, s, G, hp, h => by
    unfold chS at h
    split at h
    · rename_i y p m j p2 p3 p4
      simp only [Bool.and_eq_true, decide_eq_true_eq] at h
      obtain ⟨⟨hy, hg⟩, hn⟩ := h
      obtain ⟨a1, _, _⟩ := nm_of hn
      obtain ⟨C, e1, e2, e3, e4, e5, e6⟩ := G.tab.exn x y hy
      refine ⟨_, ps_raise G.calm G.tk (pmk_own PySem.F.excBase_ValueError e3 e2 e4 (raises_own e5 e6) (G.gl hg) a1), fun μ F S H σ en D rl er q => ?_⟩
      have q : PD X.K A E μ F H (.exc x S) D := q
      obtain ⟨c', k1, k2⟩ := q μ F H (Xt.refl ..) rl
      rw [e1] at k1; cases k1
      exact k2
    · cases h
  | .retN, X, E, c, s, G, hp, h => by
    unfold chS at h
    split at h
    · exact ss_retN
    · cases h
  | .pass, X, E, c, s, G, hp, h => by
    unfold chS at h
    split at h
    · exact ss_pass
    · cases h
  | .brk, X, E, c, s, G, hp, h => by
    unfold chS at h
    split at h
    · exact ss_brk
    · cases h
  | .cnt, X, E, c, s, G, hp, h => by
    unfold chS at h
    split at h
    · exact ss_cnt
    · cases h
  | .ifs k a b, X, E, c, s, G, hp, h => by
    unfold chS at h
    split at h
    · simp only [Bool.and_eq_true] at h
      exact ss_if (snd_e k G h.1.1).2.1 (snd_ss a G hp h.1.2) (snd_ss b G hp h.2)
    · cases h
  | .whl fuel k b, X, E, c, s, G, hp, h => by
    unfold chS at h
    split at h
    · simp only [Bool.and_eq_true] at h
      exact ss_while hp (snd_e k G h.1).2.1 (snd_ss b G hp h.2)
    · cases h
  | .for fuel g it b, X, E, c, s, G, hp, h => by
    unfold chS at h
    split at h
    · simp only [Bool.and_eq_true] at h
      obtain ⟨⟨⟨h1, h2⟩, h3⟩, h4⟩ := h
      exact ss_for hp G.calm (snd_i it G h2) (snd_g g G h3) (snd_ss b G hp h4) (nofold_eq h1)
    · cases h
theorem snd_ss {M : Mn} {T : Mo} {lv : Nat} {A : Ad} : ∀ (m : Sxs) {X : Cx} {E : XK} {c : Wh} {l : List Stmt}, Gd M T lv X A E c → PassesOwn (model X.prog X.w) X.A X.env X.xe → chSs M c m l = true → SSs X A E l (ess T m)
  | .nil, X, E, c, l, G, hp, h => by
    unfold chSs at h
    cases l with
    | nil => exact sss_nil
    | cons => cases h
  | .cons s ss, X, E, c, l, G, hp, h => by
    unfold chSs at h
    split at h
    · simp only [Bool.and_eq_true] at h
      exact sss_cons (snd_st s G hp h.1) (snd_ss ss G hp h.2)
    · cases h
end
end Mi
end
section
set_option Elab.async false
set_option linter.all false
set_option maxRecDepth 100000
set_option maxHeartbeats 16000000
namespace Mi
open PySem L2 PyProof.Rows
section
variable {P : Program} {w : World} {K : PySem.W.Frag} {mg : Str → Option Value} {base : Heap} {A : Ad}
theorem er_start {μ : List Addr} {F : Hp} {vs : List V} {ws : List W} {N : List Str} (r : WRs K A μ F vs ws) : ER K A μ F (L2.start N vs) (ws.map some ++ List.replicate (N.length - ws.length) none) := by
  have hl := wrs_len r
  refine ⟨by unfold L2.start; simp [hl], fun i w e => ?_⟩
  by_cases hi : i < ws.length
  · rw [List.getElem?_append_left (by simpa using hi), List.getElem?_map] at e
    cases ew : ws[i]? with
    | none => rw [ew] at e; cases e
    | some u =>
      rw [ew] at e
      cases e
      obtain ⟨v, hv, rv⟩ := wrs_get r ew
      refine ⟨v, ?_, rv⟩
      unfold L2.start
      rw [List.getElem?_append_left (by rw [List.length_map, hl]; exact hi), List.getElem?_map, hv]
      rfl
  · rw [List.getElem?_append_right (by simp; omega), List.getElem?_replicate] at e
    split at e <;> cases e
theorem pd_of {μ : List Addr} {F H : Hp} {o : Out} {E : XK} {Q : VK} (h : PP K A (WR K A) E μ F H (outR o) Q) : PD K A E μ F H o { nx := fun _ H' => Q .non H', rt := Q } := by
  cases o with
  | nx en S => exact fun μ' F' H' σ' t rl er => h μ' F' H' .non t rl wr_non
  | rt v S => exact h
  | bk en S => exact h.elim
  | ct en S => exact h.elim
  | exc x S => exact h
  | bad => exact h.elim
def LamB (base : Heap) (mg : Str → Option Value) (A : Ad) (fd : FuncData) (qual : Str) : Prop := ∃ c0 P, fd.code = .ref c0 ∧ LamX.TabB base mg c0 P ∧ (P, (qual ++ ".<locals>.") ++ "<lambda>") ∈ A.tbs ∧ ∀ p ∈ A.tbs, p.1 = P → p.2 = (qual ++ ".<locals>.") ++ "<lambda>"
theorem fn_step {M : Mn} {kt : Kt} {tb : List FnB} {n i : Nat} {b : FnB} {x qual : Str} {params : Arguments} {body : List Stmt} {scope : Scope} {dvs : List V} {kws : List (Str × V)} {f : Addr} {fd : FuncData} {N ps : List Str} {lam : Bool}
    (F : FunD K x qual params body scope dvs kws f fd) (S : FnScope N ps scope) (hc : kt.con = M.con) (hb : tb[i]? = some b) (hp : b.par = ps.length) (hs : b.slots = N.length) (hch : chSs M ⟨N, scope, fun _ => true, lam⟩ b.body body = true)
    (B : Tb M (runN kt tb n) kt.cat P w K mg base A (2 * n + 2)) (B2 : Tb M (subN kt tb n) kt.cat P w K mg base A (2 * n)) (hl : lam = true → LamB base mg A fd qual) : FnOk P w K mg base (L2.CX P w) (2 * n + 4) f fd ps (spF K A ps.length (runN kt tb (n + 1) i)) := by
  obtain ⟨oc, od, dV, kV, doc, pm, an, cdv, ct, osl, rfl, lk, hcd, _, _⟩ := F.ex
  refine fn_of lk hcd S (fun vs H Q E h => h.1) fun Ar outer s H vs Q E hr h => ?_
  obtain ⟨hl', μ, Fz, St, ws, rl, rw0, h⟩ := h
  have G : Gd M ⟨kt.con, runN kt tb n, kt.cat, subN kt tb n⟩ (2 * n + 2) (cxOf (L2.CX P w) P w K mg base N qual scope f cdv Ar outer s H E) A E ⟨N, scope, fun _ => true, lam⟩ :=
    ⟨B, hc, rfl, rfl, rfl, S.nd, rfl, S.kind, hr, takes_of rfl rfl rfl rfl, fun z => by
      obtain ⟨c0, P0, e1, e2, e3, e4⟩ := hl z
      exact ⟨c0, P0, 2 * n, e2, e1, e3, e4, B2, hr⟩⟩
  obtain ⟨t, p, q⟩ := snd_ss b.body G (passes_of rfl) hch
  refine ⟨t, p, q μ Fz St H _ _ _ rl (er_start rw0) (pd_of ?_)⟩
  have e : runN kt tb (n + 1) i ws St = outR (ess ⟨kt.con, runN kt tb n, kt.cat, subN kt tb n⟩ b.body (ws.map some ++ List.replicate (N.length - ws.length) none) St) := by
    show (match tb[i]? with
      | some b => if ws.length = b.par then outR (ess ⟨kt.con, runN kt tb n, kt.cat, subN kt tb n⟩ b.body (ws.map some ++ List.replicate (b.slots - ws.length) none) St) else .bad
      | none => .bad) = _
    rw [hb]
    show (if ws.length = b.par then _ else _) = _
    rw [if_pos (by rw [hp, ← wrs_len rw0, hl']), hs]
  rw [e] at h
  exact h
theorem fn_zero {i lv : Nat} {f : Addr} {fd : FuncData} {ps : List Str} : FnOk P w K mg base (L2.CX P w) lv f fd ps (spF K A ps.length (fun _ _ => Res.bad)) :=
  ⟨fun vs H Q E h => h.1, fun Ar outer s H args us vs Q E hr e0 hb r h => by
    obtain ⟨_, μ, F, St, ws, _, _, h⟩ := h
    exact h.elim⟩
structure At (LB : FuncData → Str → Prop) (K : PySem.W.Frag) (A : Ad) (tb : List FnB) (M : Mn) (i : Nat) (b : FnB) (f : Addr) (fu : FuncData) (N ps : List Str) (x qual : Str) (params : Arguments) (body : List Stmt) (scope : Scope) : Prop where
  fd : FunD K x qual params body scope [] [] f fu
  fs : FnScope N ps scope
  tb : tb[i]? = some b
  par : b.par = ps.length
  slots : b.slots = N.length
  chk : ∃ lam, chSs M ⟨N, scope, fun _ => true, lam⟩ b.body body = true ∧ (lam = true → LB fu qual)
structure Md (LB : FuncData → Str → Prop) (M : Mn) (ct : Nat → Option Nat → Option D) (tb : List FnB) (K : PySem.W.Frag) (mg : Str → Option Value) (A : Ad) : Prop where
  fn : ∀ (i : Nat) (x : Str) (n : Nat), M.fns[i]? = some (x, n) → ∃ b f fd N ps q params body scope, At LB K A tb M i b f fd N ps x q params body scope ∧ ps.length = n ∧ A.fa i = some f ∧ mg x = some (.ref f) ∧ Binds K fd ps []
  met : ∀ k m i n, (k, m, i, n) ∈ M.met → ∃ C b f fd N ps x q params body scope, At LB K A tb M i b f fd N ps x q params body scope ∧ ps.length = n ∧ A.ca k = some C ∧ Cls K C ∧ Meth K C m f ∧ Binds K fd ps []
  fld : ∀ k f, (k, f) ∈ M.fld → ∃ C, A.ca k = some C ∧ Cls K C ∧ NoAttr K C f
  mks : ∀ k y i n, (k, y, i, n) ∈ M.mks → ∃ C b f fd N ps x q params body scope, At LB K A tb M i b f fd N ps x q params body scope ∧ ps.length = n ∧ A.ca k = some C ∧ Mk K C f ∧ mg y = some (.ref C) ∧ Binds K fd ps []
  con : ∀ (i : Nat) (x : Str) (d : D), M.con[i]? = some (x, d) → ∃ v u, mg x = some u ∧ RelV v u ∧ ∀ μ F, WR K A μ F v (.d d)
  blt : ∀ x, x ∈ M.blt → mg x = none
  exn : ∀ (x : Nat) (y : Str), M.exn[x]? = some y → ∃ C, A.xa x = some C ∧ mg y = some (.ref C) ∧ PySem.W.excIn K C He.veBase "ValueError.__new__" = true ∧ PySem.W.keepIn K (.ref C) = true ∧ PySem.W.subIn K (.ref C) (.type "BaseException") = some true ∧ PySem.W.typeIn K (.ref C) = some (.type "type")
  cat : ∀ (i : Nat) (y : Str), M.cats[i]? = some y → CatAt K mg A y (ct i)
theorem md_0 {LB : FuncData → Str → Prop} {M : Mn} {ct : Nat → Option Nat → Option D} {tb : List FnB} {lv : Nat} (D : Md LB M ct tb K mg A) : Tb M (fun _ _ _ => Res.bad) ct P w K mg base A lv :=
  ⟨fun i x n h => by
      obtain ⟨b, f, fd, N, ps, q, pa, bo, sc, a, h1, h2, h3, h4⟩ := D.fn i x n h
      exact ⟨f, fd, ps, h1, h2, h3, a.fd.kp, h4, fn_zero (i := i)⟩,
    fun k m i n h => by
      obtain ⟨C, b, f, fd, N, ps, x, q, pa, bo, sc, a, h1, h2, h3, h4, h5⟩ := D.met k m i n h
      exact ⟨C, f, fd, ps, h1, h2, h3, h4, h5, fn_zero (i := i)⟩,
    D.fld,
    fun k y i n h => by
      obtain ⟨C, b, f, fd, N, ps, x, q, pa, bo, sc, a, h1, h2, h3, h4, h5⟩ := D.mks k y i n h
      exact ⟨C, f, fd, ps, h1, h2, h3, h4, h5, fn_zero (i := i)⟩,
    D.con, D.blt, D.exn, D.cat⟩
theorem md_s {M : Mn} {kt : Kt} {tb : List FnB} (D : Md (LamB base mg A) M kt.cat tb K mg A) (hc : kt.con = M.con) {m : Nat} (B : Tb M (runN kt tb m) kt.cat P w K mg base A (2 * m + 2)) (B2 : Tb M (subN kt tb m) kt.cat P w K mg base A (2 * m)) : Tb M (runN kt tb (m + 1)) kt.cat P w K mg base A (2 * (m + 1) + 2) :=
    ⟨fun i x n h => by
      obtain ⟨b, f, fd, N, ps, q, pa, bo, sc, a, h1, h2, h3, h4⟩ := D.fn i x n h
      obtain ⟨lam, c1, c2⟩ := a.chk
      exact ⟨f, fd, ps, h1, h2, h3, a.fd.kp, h4, fn_step a.fd a.fs hc a.tb a.par a.slots c1 B B2 c2⟩,
    fun k me i n h => by
      obtain ⟨C, b, f, fd, N, ps, x, q, pa, bo, sc, a, h1, h2, h3, h4, h5⟩ := D.met k me i n h
      obtain ⟨lam, c1, c2⟩ := a.chk
      exact ⟨C, f, fd, ps, h1, h2, h3, h4, h5, fn_step a.fd a.fs hc a.tb a.par a.slots c1 B B2 c2⟩,
    D.fld,
    fun k y i n h => by
      obtain ⟨C, b, f, fd, N, ps, x, q, pa, bo, sc, a, h1, h2, h3, h4, h5⟩ := D.mks k y i n h
      obtain ⟨lam, c1, c2⟩ := a.chk
      exact ⟨C, f, fd, ps, h1, h2, h3, h4, h5, fn_step a.fd a.fs hc a.tb a.par a.slots c1 B B2 c2⟩,
    D.con, D.blt, D.exn, D.cat⟩
theorem md_tb {M : Mn} {kt : Kt} {tb : List FnB} (D : Md (LamB base mg A) M kt.cat tb K mg A) (hc : kt.con = M.con) : ∀ n, Tb M (runN kt tb n) kt.cat P w K mg base A (2 * n + 2) ∧ Tb M (subN kt tb n) kt.cat P w K mg base A (2 * n)
  | 0 => ⟨md_0 D, md_0 D⟩
  | m + 1 => by
    obtain ⟨B, B2⟩ := md_tb D hc m
    exact ⟨md_s D hc B B2, B⟩
end
end Mi
end
section
set_option Elab.async false
set_option linter.all false
set_option maxRecDepth 100000
set_option maxHeartbeats 16000000
namespace Mi
open PySem L2 PyProof.Rows
mutual
def conV (K : PySem.W.Frag) : D → Value → Bool
  | .none, v => (match v with | .none => true | _ => false)
  | .bool b, v => (match v with | .bool c => decide (b = c) | _ => false)
  | .int i, v => (match v with | .int j _ => decide (i = j) | _ => false)
  | .str z, v => (match v with | .str y _ => decide (z = y) && PyData.strOk z | _ => false)
  | .tuple ds, v => (match v with
    | .ref a => (match K.lookup a with
      | some ⟨.type c, _, .seq its _, _⟩ => decide (c = "tuple") && (decide (its.size ≤ sizeLine) && conVs K ds its.toList)
      | _ => false)
    | _ => false)
  | _, _ => false
def conVs (K : PySem.W.Frag) : List D → List Value → Bool
  | [], vs => vs.isEmpty
  | d :: ds, vs => (match vs with
    | v :: r => conV K d v && conVs K ds r
    | [] => false)
end
mutual
theorem conV_ok {K : PySem.W.Frag} : ∀ (d : D) (v : Value), conV K d v = true → ∃ x : V, RelV x v ∧ PyData.canLay0 d = true ∧ ∀ F, DR K F x d
  | .none, v, h => by
    unfold conV at h
    split at h
    · exact ⟨.non, rfl, rfl, fun F => .non⟩
    · cases h
  | .bool b, v, h => by
    unfold conV at h
    split at h
    · obtain rfl := of_decide_eq_true h
      exact ⟨.bl b, rfl, rfl, fun F => .bl b⟩
    · cases h
  | .int i, v, h => by
    unfold conV at h
    split at h
    · obtain rfl := of_decide_eq_true h
      exact ⟨.int i, ⟨_, rfl⟩, rfl, fun F => .int i⟩
    · cases h
  | .str z, v, h => by
    unfold conV at h
    split at h
    · rw [Bool.and_eq_true] at h
      obtain rfl := of_decide_eq_true h.1
      exact ⟨.str z, ⟨_, rfl⟩, h.2, fun F => .str z⟩
    · cases h
  | .tuple ds, v, h => by
    unfold conV at h
    split at h
    · rename_i a
      split at h
      · rename_i c od its n sl q
        simp only [Bool.and_eq_true, decide_eq_true_eq] at h
        obtain ⟨rfl, h2, h3⟩ := h
        obtain ⟨xs, r, l, f⟩ := conVs_ok ds its.toList h3
        exact ⟨.ref a, rfl, tup_lay l, fun F => .tup (.inr ⟨_, its, n, q, rfl, rfl, h2, r⟩) (f F)⟩
      · cases h
    · cases h
  | .list _, v, h => by unfold conV at h; exact (Bool.false_ne_true h).elim
  | .dict _, v, h => by unfold conV at h; exact (Bool.false_ne_true h).elim
theorem conVs_ok {K : PySem.W.Frag} : ∀ (ds : List D) (vs : List Value), conVs K ds vs = true → ∃ xs : List V, Vals xs vs ∧ PyData.canLayAll0 ds = true ∧ ∀ F, DRs K F xs ds
  | [], vs, h => by
    unfold conVs at h
    cases vs with
    | nil => exact ⟨[], .nil, rfl, fun F => .nil⟩
    | cons => cases h
  | d :: ds, vs, h => by
    unfold conVs at h
    split at h
    · rw [Bool.and_eq_true] at h
      obtain ⟨x, r, l, f⟩ := conV_ok d _ h.1
      obtain ⟨xs, rs, ls, fs⟩ := conVs_ok ds _ h.2
      refine ⟨x :: xs, .cons r rs, ?_, fun F => .cons (f F) (fs F)⟩
      show (PyData.canLay0 d && PyData.canLayAll0 ds) = true
      rw [l, ls]; rfl
    · cases h
end
def conB (K : PySem.W.Frag) (p : Str × D) : Bool := match PySem.W.nsIn K mainGlobals p.1 with
  | some (some v) => conV K p.2 v
  | _ => false
theorem conB_is {K : PySem.W.Frag} {h : Heap} {mg : Str → Option Value} {A : Ad} (X : K.In h) (G : h.Ns mainGlobals mg) {x : Str} {d : D} (c : conB K (x, d) = true) : ∃ v u, mg x = some u ∧ RelV v u ∧ ∀ μ F, WR K A μ F v (.d d) := by
  unfold conB at c
  split at c
  · rename_i v q
    obtain ⟨y, r, l, f⟩ := conV_ok d v c
    exact ⟨y, v, PySem.W.mg_of X G q, r, fun μ F => ⟨f F, l⟩⟩
  · cases c
structure Ds where
  at_ : Str × Option Str
  qual : Str
  st : Stmt
  N : List Str
  ps : List Str
  slots : Nat
  b : Sxs
  lam : Bool := false
structure CatD where
  ix : Nat
  a : Str
  n : Str
  e : Str
  cn : Str
  b0 : Bool
  tell : List (Option Bool)
def Ds.name (d : Ds) : Str := match d.st with
  | .FunctionDef n _ _ _ _ _ _ _ _ _ => n
  | _ => Str.empty
def Ds.dd (d : Ds) : He.DefD := ⟨d.at_, d.name, d.qual, defArgs d.st, defBody d.st, defScope d.st, [], []⟩
def Ds.fb (d : Ds) : FnB := ⟨d.ps.length, d.slots, d.b⟩
def fsB (N ps : List Str) (sc : Scope) : Bool := decide (sc.kind = .function) && !sc.isCoroutine && !sc.isGenerator && decide N.Nodup && decide (N.take ps.length = ps) && (ps.all fun x => locB sc x) && sc.names.all fun y => !(decide (y.2 = .free))
theorem fsB_ok {N ps : List Str} {sc : Scope} (h : fsB N ps sc = true) : FnScope N ps sc := by
  unfold fsB at h
  simp only [Bool.and_eq_true, decide_eq_true_eq, Bool.not_eq_true', List.all_eq_true, decide_eq_false_iff_not] at h
  obtain ⟨⟨⟨⟨⟨⟨h1, h2⟩, h3⟩, h4⟩, h5⟩, h6⟩, h7⟩ := h
  exact ⟨h1, h2, h3, h4, h5, fun x hx => loc_of (h6 x hx), fun y hy => h7 y hy⟩
def Ds.binds (d : Ds) : Prop := ∀ (kV doc pm : Value) (an : Option Addr) (cdv ct : Value) (us : List Value), us.length = d.ps.length → bindArgs (PySem.W.fnOf d.name d.qual (defArgs d.st) (defBody d.st) (defScope d.st) .none kV doc pm an cdv ct) ⟨us, []⟩ = pure (d.ps.zip us)
structure Tbl where
  ds : List Ds
  np : Nat
  cls : List Str
  con : List (Str × D)
  blt : List Str
  fld : List (Nat × Str)
  met : List (Nat × Nat)
  mks : List (Nat × Nat)
  exc : List Str
  cats : List CatD := []
def Tbl.ct (t : Tbl) : Nat → Option Nat → Option D := fun i o => match t.cats[i]? with
  | none => none
  | some c => (match o with
    | none => some (.bool c.b0)
    | some x => (match c.tell[x]? with
      | some (some b) => some (.bool b)
      | _ => none))
def Tbl.kt (t : Tbl) : Kt := ⟨t.con, t.ct⟩
def Tbl.M (t : Tbl) : Mn where
  con := t.con
  fns := (t.ds.take t.np).map fun d => (d.name, d.ps.length)
  met := t.met.filterMap fun p => (t.ds[p.2]?).map fun d => (p.1, d.name, p.2, d.ps.length)
  fld := t.fld
  mks := t.mks.filterMap fun p => (t.ds[p.2]?).bind fun d => (t.cls[p.1]?).map fun c => (p.1, c, p.2, d.ps.length)
  blt := t.blt
  exn := t.exc
  cats := t.cats.map fun c => ((t.ds[c.ix]?).map Ds.name).getD Str.empty
def Tbl.tb (t : Tbl) : List FnB := t.ds.map Ds.fb
def Tbl.fn (t : Tbl) : List He.DefD := t.ds.map Ds.dd
def Tbl.fa (t : Tbl) : List He.Fa := t.blt.map .free ++ (t.ds.take t.np).map (fun d => .glo d.name) ++ t.cls.map .glo ++ t.cls.map .cls ++ t.fld.filterMap (fun p => (t.cls[p.1]?).map fun c => .noat c p.2) ++
  t.met.filterMap (fun p => (t.ds[p.2]?).bind fun d => (t.cls[p.1]?).map fun c => .meth c d.name) ++ t.mks.filterMap (fun p => (t.cls[p.1]?).map fun c => .mkr c) ++ (t.exc.map .glo ++ t.exc.map .exc)
def lamCP (K : PySem.W.Frag) (d : Ds) : Option (Addr × Addr) := match K.lookup (He.fAd K d.at_) with
  | some ⟨_, _, .func fd, _⟩ => (match fd.code with
    | .ref c => (match K.lookup c with
      | some ⟨_, _, .fields vs, _⟩ => (match (vs[11]? : Option Value) with
        | some (Value.ref P) => some (c, P)
        | _ => none)
      | _ => none)
    | _ => none)
  | _ => none
def lamQ (d : Ds) : Str := (d.qual ++ ".<locals>.") ++ "<lambda>"
def Tbl.lams (t : Tbl) : List Ds := t.ds.filter (·.lam)
def Tbl.tbs (t : Tbl) (K : PySem.W.Frag) : List (Addr × Str) := t.lams.filterMap fun d => (lamCP K d).map fun p => (p.2, lamQ d)
def Tbl.cps (t : Tbl) (K : PySem.W.Frag) : List (Addr × Addr) := t.lams.filterMap fun d => lamCP K d
def Tbl.ad (t : Tbl) (K : PySem.W.Frag) : Ad where
  fa := fun i => (t.ds[i]?).map fun d => He.fAd K d.at_
  ca := fun k => (t.cls[k]?).map (He.ga K)
  xa := fun k => (t.exc[k]?).map (He.ga K)
  tbs := t.tbs K
def Ds.ok (M : Mn) (d : Ds) : Bool := fsB d.N d.ps (defScope d.st) && decide (d.slots = d.N.length) && chSs M ⟨d.N, defScope d.st, fun _ => true, d.lam⟩ d.b (defBody d.st)
def Tbl.okI (t : Tbl) : Bool := ((t.ds.take t.np).all fun d => decide (d.at_ = (d.name, none))) && (t.fld.all fun p => decide (p.1 < t.cls.length)) &&
  (t.met.all fun p => (match t.ds[p.2]?, t.cls[p.1]? with
    | some d, some c => decide (d.at_ = (c, some d.name))
    | _, _ => false)) &&
  (t.mks.all fun p => (match t.ds[p.2]?, t.cls[p.1]? with
    | some d, some c => decide (d.at_ = (c, some ("__init__" : Str)))
    | _, _ => false))
section
variable {t : Tbl} {K : PySem.W.Frag} {h : Heap} {mg : Str → Option Value}
def refShape (bg : List Stmt) (a n e cn : Str) (b0 : Bool) : Bool := match bg with
  | [.Try [.Expr (.Call (.Name a' _) [] [] _) _] [.ExceptHandler (some (.Name e' _)) (some n') [.Return (some (.Call (.Name i' _) [.Name n'' _, .Name cn' _] [] _)) _] _] [] [] _, .Return (some (.Constant (.bool b') _ _)) _] =>
    decide (a' = a) && decide (e' = e) && decide (n' = n) && decide (i' = ("isinstance" : Str)) && decide (n'' = n) && decide (cn' = cn) && decide (b' = b0)
  | _ => false
theorem refShape_is {bg : List Stmt} {a n e cn : Str} {b0 : Bool} (h : refShape bg a n e cn b0 = true) : ∃ (p1 p2 p3 p4 p5 p6 p7 p8 p9 p10 p11 p12 p13 : Pos) (j : Nat),
    bg = [.Try [.Expr (.Call (.Name a p1) [] [] p2) p3] [.ExceptHandler (some (.Name e p4)) (some n) [.Return (some (.Call (.Name "isinstance" p5) [.Name n p6, .Name cn p7] [] p8)) p9] p10] [] [] p11, .Return (some (.Constant (.bool b0) j p12)) p13] := by
  unfold refShape at h
  split at h
  · simp only [Bool.and_eq_true, decide_eq_true_eq] at h
    obtain ⟨⟨⟨⟨⟨⟨rfl, rfl⟩, rfl⟩, rfl⟩, rfl⟩, rfl⟩, rfl⟩ := h
    exact ⟨_, _, _, _, _, _, _, _, _, _, _, _, _, _, rfl⟩
  · cases h
def excCB (K : PySem.W.Frag) (D : Addr) : Bool :=
  decide (PySem.W.findIn K (.ref D) "__getattribute__" = some (some (.builtin "BaseException.__getattribute__"))) && decide (PySem.W.findIn K (.ref D) "__getattr__" = some none) && decide (PySem.W.subIn K (.ref D) (.type "BaseException") = some true) && PySem.W.hasDictIn K D &&
  decide (PySem.W.findIn K (.ref D) "__class__" = some (some (.builtin "object.__class__"))) && decide (PySem.W.specialIn K (.builtin "object.__class__") "__get__" = some (some (.builtin "getset_descriptor.__get__"))) && decide (PySem.W.takesIn K (.builtin "object.__class__") = some true) && decide (PySem.W.mroIn K D (.type "object") = some true)
theorem excCB_is {D : Addr} (h : excCB K D = true) : ExcC K D := by
  unfold excCB at h
  simp only [Bool.and_eq_true, decide_eq_true_eq] at h
  obtain ⟨⟨⟨⟨⟨⟨⟨a, b⟩, c⟩, d⟩, e⟩, f⟩, g⟩, i⟩ := h
  exact ⟨a, b, c, d, e, f, g, i⟩
def catB (t : Tbl) (K : PySem.W.Frag) (c : CatD) : Bool := match t.ds[c.ix]? with
  | some d => refShape (defBody d.st) c.a c.n c.e c.cn c.b0 && decide (d.ps = [c.a]) && decide (d.N = [c.a, c.n]) && decide (d.at_ = (d.name, none)) && decide (d.qual = d.name) && gloB (defScope d.st) c.e && gloB (defScope d.st) c.cn && gloB (defScope d.st) "isinstance" && lclB (defScope d.st) c.n &&
      visB (defScope d.st) c.a && okNm c.a && okNm c.n && okNm c.e && okNm c.cn && (He.Fa.glo d.name).ok K && (He.Fa.glo c.e).ok K && (He.Fa.glo c.cn).ok K && (He.Fa.free "isinstance").ok K &&
      ((List.range t.exc.length).all fun x => match c.tell[x]?, t.exc[x]? with
        | some (some b), some y => excCB K (He.ga K y) && decide (PySem.W.exmOne K (.ref (He.ga K y)) (.ref (He.ga K c.e)) = some true) && decide (PySem.W.kitOne K (.ref (He.ga K y)) (.ref (He.ga K c.cn)) = some b)
        | _, _ => true) && decide (c.tell.length ≤ t.exc.length)
  | none => false
theorem glob_of {sc : Scope} {x : Str} (h : gloB sc x = true) : sc.names.lookup x = some .globalImplicit := by
  unfold gloB at h
  split at h
  · assumption
  · cases h
theorem cat_of (X : K.In h) (G : h.Ns mainGlobals mg) (c : He.SaysD t.fa t.fn K) (chk : ∀ d ∈ t.ds, d.ok t.M = true) (bi : ∀ d ∈ t.ds, d.binds) {i : Nat} {cd : CatD} (e : t.cats[i]? = some cd) (hb : catB t K cd = true) {d : Ds} (hd : t.ds[cd.ix]? = some d) :
    CatAt K mg (t.ad K) d.name (t.ct i) := by
  unfold catB at hb
  rw [hd] at hb
  simp only [Bool.and_eq_true, decide_eq_true_eq] at hb
  obtain ⟨⟨⟨⟨⟨⟨⟨⟨⟨⟨⟨⟨⟨⟨⟨⟨⟨⟨⟨b1, b2⟩, b3⟩, b4⟩, b5⟩, b6⟩, b7⟩, b8⟩, b9⟩, b10⟩, b11⟩, b12⟩, b13⟩, b14⟩, b15⟩, b16⟩, b17⟩, b18⟩, b19⟩, b20⟩ := hb
  have hm : d ∈ t.ds := List.mem_of_getElem? hd
  obtain ⟨fd, F⟩ := c.defs (d := d.dd) (List.mem_map_of_mem hm)
  have Bd := FunD.bindsN F (bi d hm)
  have q := chk d hm
  unfold Ds.ok at q
  simp only [Bool.and_eq_true, decide_eq_true_eq] at q
  have fs := fsB_ok q.1.1
  obtain ⟨oc, od, dV, kV, doc, pm, an, cdv, ct, osl, e1, lk, hcd, _, _⟩ := F.ex
  obtain ⟨p1, p2, p3, p4, p5, p6, p7, p8, p9, p10, p11, p12, p13, j, eb⟩ := refShape_is b1
  have hg : mg d.name = some (.ref (He.ga K d.name)) := He.glo_ok X G b15
  have hf : He.fAd K d.at_ = He.ga K d.name := by rw [b4]; rfl
  obtain ⟨a1, a2, _⟩ := nm_of b11
  obtain ⟨n1, n2, _⟩ := nm_of b12
  obtain ⟨k1, _, _⟩ := nm_of b13
  obtain ⟨l1, _, _⟩ := nm_of b14
  have hdq : d.dd.qual = d.name := b5
  rw [hdq] at e1 hcd
  rw [e1] at lk Bd
  have Bd' : L2.Binds K (PySem.W.fnOf d.name d.name (defArgs d.st) (defBody d.st) (defScope d.st) dV kV doc pm an cdv ct) [cd.a] [] := b2 ▸ Bd
  have fs' : FnScope d.N [cd.a] (defScope d.st) := b2 ▸ fs
  have kp := F.kp
  have lk' : K.lookup (He.fAd K d.at_) = some ⟨oc, od, .func (PySem.W.fnOf d.name d.name (defArgs d.st) (defBody d.st) (defScope d.st) dV kV doc pm an cdv ct), osl⟩ := lk
  have kp' : PySem.W.keepIn K (.ref (He.fAd K d.at_)) = true := kp
  rw [hf] at lk' kp'
  refine cat_ref (i := 0) (ct := t.ct i) eb hg kp' lk' hcd Bd' fs' b3 (vis_of b10) a1 a2 (glob_of b6) (He.glo_ok X G b16) k1 (glob_of b7) (He.glo_ok X G b17) l1 (glob_of b8) (He.free_ok X G b18) (lcl_of b9) n1 n2 (fun k dd hk => ?_) ?_
  · have hk : (match t.cats[i]? with
      | none => none
      | some c => (match c.tell[k]? with
        | some (some b) => some (.bool b)
        | _ => none)) = some dd := hk
    rw [e] at hk
    have hk : (match cd.tell[k]? with
        | some (some b) => some (.bool b)
        | _ => none) = some dd := hk
    cases q1 : cd.tell[k]? with
    | none => rw [q1] at hk; cases hk
    | some o =>
      cases o with
      | none => rw [q1] at hk; cases hk
      | some b =>
        rw [q1] at hk
        cases hk
        have hlt : k < t.exc.length := by
          have := (List.getElem?_eq_some_iff.mp q1).1
          omega
        have hy : t.exc[k]? = some t.exc[k] := List.getElem?_eq_getElem hlt
        have z := List.all_eq_true.mp b19 k (List.mem_range.mpr hlt)
        rw [q1, hy] at z
        simp only [Bool.and_eq_true, decide_eq_true_eq] at z
        exact ⟨He.ga K t.exc[k], b, rfl, by show (t.exc[k]?).map _ = _; rw [hy]; rfl, excCB_is z.1.1, z.1.2, z.2⟩
  · show (match t.cats[i]? with
      | none => none
      | some c => some (PyData.bool c.b0)) = _
    rw [e]
theorem def_at {LB : FuncData → Str → Prop} (lb : ∀ d ∈ t.ds, d.lam = true → ∀ fd, FunD K d.name d.qual (defArgs d.st) (defBody d.st) (defScope d.st) [] [] (He.fAd K d.at_) fd → LB fd d.qual) (c : He.SaysD t.fa t.fn K) (chk : ∀ d ∈ t.ds, d.ok t.M = true) (bi : ∀ d ∈ t.ds, d.binds) {i : Nat} {d : Ds} (e : t.ds[i]? = some d) :
    ∃ fd, At LB K (t.ad K) t.tb t.M i d.fb (He.fAd K d.at_) fd d.N d.ps d.name d.qual (defArgs d.st) (defBody d.st) (defScope d.st) ∧ Binds K fd d.ps [] := by
  have hm : d ∈ t.ds := List.mem_of_getElem? e
  obtain ⟨fd, F⟩ := c.defs (d := d.dd) (List.mem_map_of_mem hm)
  have q := chk d hm
  unfold Ds.ok at q
  simp only [Bool.and_eq_true, decide_eq_true_eq] at q
  refine ⟨fd, ⟨F, fsB_ok q.1.1, ?_, rfl, q.1.2, d.lam, q.2, fun z => lb d hm z fd F⟩, FunD.bindsN F (bi d hm)⟩
  show (t.ds.map Ds.fb)[i]? = _
  rw [List.getElem?_map, e]; rfl
theorem md_of {LB : FuncData → Str → Prop} (lb : ∀ d ∈ t.ds, d.lam = true → ∀ fd, FunD K d.name d.qual (defArgs d.st) (defBody d.st) (defScope d.st) [] [] (He.fAd K d.at_) fd → LB fd d.qual) (X : K.In h) (G : h.Ns mainGlobals mg) (c : He.SaysD t.fa t.fn K) (ce : t.con.all (conB K) = true) (cc : ∀ cd ∈ t.cats, catB t K cd = true) (ok : t.okI = true) (chk : ∀ d ∈ t.ds, d.ok t.M = true) (bi : ∀ d ∈ t.ds, d.binds) : Md LB t.M t.ct t.tb K mg (t.ad K) := by
  unfold Tbl.okI at ok
  simp only [Bool.and_eq_true, List.all_eq_true, decide_eq_true_eq] at ok
  obtain ⟨⟨⟨o1, o2⟩, o3⟩, o4⟩ := ok
  refine ⟨fun i x n e => ?_, fun k m i n e => ?_, fun k f e => ?_, fun k y i n e => ?_, fun i x d e => ?_, fun x e => ?_, fun x y e => ?_, fun i y e => ?_⟩
  · have e' : ((t.ds.take t.np).map fun d => (d.name, d.ps.length))[i]? = some (x, n) := e
    rw [List.getElem?_map] at e'
    cases q : (t.ds.take t.np)[i]? with
    | none => rw [q] at e'; cases e'
    | some d =>
      rw [q] at e'
      cases e'
      have hd : t.ds[i]? = some d := by
        rw [List.getElem?_take] at q
        split at q
        · exact q
        · cases q
      have hmem : d ∈ t.ds.take t.np := List.mem_of_getElem? q
      obtain ⟨fd, a, b⟩ := def_at lb c chk bi hd
      have ha := o1 d hmem
      have hg : mg d.name = some (.ref (He.ga K d.name)) := He.glo_ok X G (c.facts (f := .glo d.name) (by unfold Tbl.fa; simp only [List.mem_append, List.mem_map]; exact .inl (.inl (.inl (.inl (.inl (.inl (.inr ⟨d, hmem, rfl⟩))))))))
      have hf : He.fAd K d.at_ = He.ga K d.name := by rw [ha]; rfl
      exact ⟨d.fb, _, fd, d.N, d.ps, d.qual, _, _, _, a, rfl, by show (t.ds[i]?).map _ = _; rw [hd]; rfl, by rw [hf]; exact hg, b⟩
  · have e' : (k, m, i, n) ∈ t.met.filterMap fun p => (t.ds[p.2]?).map fun d => (p.1, d.name, p.2, d.ps.length) := e
    rw [List.mem_filterMap] at e'
    obtain ⟨p, hp, q⟩ := e'
    have hc := o3 p hp
    cases hd : t.ds[p.2]? with
    | none => rw [hd] at q; cases q
    | some d =>
      cases hcl : t.cls[p.1]? with
      | none => rw [hd, hcl] at hc; cases hc
      | some cl =>
        rw [hd] at q
        rw [hd, hcl] at hc
        cases q
        have hat : d.at_ = (cl, some d.name) := of_decide_eq_true hc
        obtain ⟨fd, a, b⟩ := def_at lb c chk bi hd
        have hcm : cl ∈ t.cls := List.mem_of_getElem? hcl
        have f1 : Cls K (He.ga K cl) := He.cls_ok (c.facts (f := .cls cl) (by unfold Tbl.fa; simp only [List.mem_append, List.mem_map]; exact .inl (.inl (.inl (.inl (.inr ⟨cl, hcm, rfl⟩))))))
        have f2 : Meth K (He.ga K cl) d.name (He.ma K (He.ga K cl) d.name) := He.meth_ok (c.facts (f := .meth cl d.name) (by
          unfold Tbl.fa
          simp only [List.mem_append, List.mem_filterMap]
          exact .inl (.inl (.inr ⟨p, hp, by rw [hd, hcl]; rfl⟩))))
        have hf : He.fAd K d.at_ = He.ma K (He.ga K cl) d.name := by rw [hat]; rfl
        exact ⟨He.ga K cl, d.fb, _, fd, d.N, d.ps, d.name, d.qual, _, _, _, a, rfl, by show (t.cls[p.1]?).map _ = _; rw [hcl]; rfl, f1, by rw [hf]; exact f2, b⟩
  · have hlt := o2 (k, f) e
    have hcl : t.cls[k]? = some t.cls[k] := List.getElem?_eq_getElem hlt
    have hcm : t.cls[k] ∈ t.cls := List.getElem_mem hlt
    refine ⟨He.ga K t.cls[k], by show (t.cls[k]?).map _ = _; rw [hcl]; rfl, He.cls_ok (c.facts (f := .cls t.cls[k]) (by unfold Tbl.fa; simp only [List.mem_append, List.mem_map]; exact .inl (.inl (.inl (.inl (.inr ⟨_, hcm, rfl⟩)))))), He.noat_ok (c.facts (f := .noat t.cls[k] f) ?_)⟩
    unfold Tbl.fa
    simp only [List.mem_append, List.mem_filterMap]
    exact .inl (.inl (.inl (.inr ⟨(k, f), e, by rw [hcl]; rfl⟩)))
  · have e' : (k, y, i, n) ∈ t.mks.filterMap fun p => (t.ds[p.2]?).bind fun d => (t.cls[p.1]?).map fun c => (p.1, c, p.2, d.ps.length) := e
    rw [List.mem_filterMap] at e'
    obtain ⟨p, hp, q⟩ := e'
    have hc := o4 p hp
    cases hd : t.ds[p.2]? with
    | none => rw [hd] at q; cases q
    | some d =>
      cases hcl : t.cls[p.1]? with
      | none => rw [hd, hcl] at hc; cases hc
      | some cl =>
        rw [hd, hcl] at q
        rw [hd, hcl] at hc
        cases q
        have hat : d.at_ = (y, some ("__init__" : Str)) := of_decide_eq_true hc
        obtain ⟨fd, a, b⟩ := def_at lb c chk bi hd
        have hcm : y ∈ t.cls := List.mem_of_getElem? hcl
        have f1 : Mk K (He.ga K y) (He.ma K (He.ga K y) "__init__") := He.mkr_ok (c.facts (f := .mkr y) (by
          unfold Tbl.fa
          simp only [List.mem_append, List.mem_filterMap]
          exact .inl (.inr ⟨p, hp, by rw [hcl]; rfl⟩)))
        have f2 : mg y = some (.ref (He.ga K y)) := He.glo_ok X G (c.facts (f := .glo y) (by unfold Tbl.fa; simp only [List.mem_append, List.mem_map]; exact .inl (.inl (.inl (.inl (.inl (.inr ⟨y, hcm, rfl⟩)))))))
        have hf : He.fAd K d.at_ = He.ma K (He.ga K y) "__init__" := by rw [hat]; rfl
        exact ⟨He.ga K y, d.fb, _, fd, d.N, d.ps, d.name, d.qual, _, _, _, a, rfl, by show (t.cls[p.1]?).map _ = _; rw [hcl]; rfl, by rw [hf]; exact f1, f2, b⟩
  · have hm : (x, d) ∈ t.con := List.mem_of_getElem? e
    exact conB_is X G (List.all_eq_true.mp ce _ hm)
  · exact He.free_ok X G (c.facts (f := .free x) (by unfold Tbl.fa; simp only [List.mem_append, List.mem_map]; exact .inl (.inl (.inl (.inl (.inl (.inl (.inl ⟨x, e, rfl⟩))))))))
  · have hm : y ∈ t.exc := List.mem_of_getElem? e
    have f1 := He.exc_ok (c.facts (f := .exc y) (by unfold Tbl.fa; simp only [List.mem_append, List.mem_map]; exact .inr (.inr ⟨y, hm, rfl⟩)))
    have f2 : mg y = some (.ref (He.ga K y)) := He.glo_ok X G (c.facts (f := .glo y) (by unfold Tbl.fa; simp only [List.mem_append, List.mem_map]; exact .inr (.inl ⟨y, hm, rfl⟩)))
    have e' : t.exc[x]? = some y := e
    exact ⟨He.ga K y, by show (t.exc[x]?).map _ = _; rw [e']; rfl, f2, f1.1, f1.2.1, f1.2.2.1, f1.2.2.2⟩
  · have e' : (t.cats.map fun c => ((t.ds[c.ix]?).map Ds.name).getD Str.empty)[i]? = some y := e
    rw [List.getElem?_map] at e'
    cases q : t.cats[i]? with
    | none => rw [q] at e'; cases e'
    | some cd =>
      rw [q] at e'
      have hb := cc cd (List.mem_of_getElem? q)
      cases hd : t.ds[cd.ix]? with
      | none =>
        unfold catB at hb
        rw [hd] at hb; cases hb
      | some d =>
        have e' : some (((t.ds[cd.ix]?).map Ds.name).getD Str.empty) = some y := e'
        rw [hd] at e'
        cases e'
        exact cat_of X G c chk bi q hb hd
end
end Mi
end
section
set_option Elab.async false
set_option linter.all false
set_option maxRecDepth 100000
set_option maxHeartbeats 4000000
namespace Mi
open PySem PySem.Spec L2 LamX PyProof.Rows
def isStrV : Value → Bool
  | .str _ _ => true
  | _ => false
def isIntV : Value → Bool
  | .int _ _ => true
  | _ => false
def isBlV : Value → Bool
  | .bool _ => true
  | _ => false
def lamOkB (K : PySem.W.Frag) (d : Ds) : Bool := match K.lookup (He.fAd K d.at_) with
  | some ⟨_, _, .func fd, _⟩ => (match fd.code with
    | .ref c => (match K.lookup c with
      | some ⟨cl, _, .fields vs, _⟩ => (match (vs[11]? : Option Value) with
        | some (Value.ref P) => decide (cl = .type "code") && decide (vs.getD 11 .none = .ref P) && isStrV (vs.getD 18 .none) && isIntV (vs.getD 7 .none) && isBlV (vs.getD 9 .none) && isIntV (vs.getD 10 .none) && decide (c ≠ P) && (K.lookup P).isNone && decide (mainGlobals ≠ P) &&
            decide (d.at_ = (d.name, none)) && (He.Fa.glo d.name).ok K
        | _ => false)
      | _ => false)
    | _ => false)
  | _ => false
structure LamI (K : PySem.W.Frag) (d : Ds) (c P : Addr) : Prop where
  cp : lamCP K d = some (c, P)
  lk : ∃ oc od fd osl, K.lookup (He.fAd K d.at_) = some ⟨oc, od, .func fd, osl⟩ ∧ fd.code = .ref c
  vs : ∃ od vs osl, K.lookup c = some ⟨.type "code", od, .fields vs, osl⟩ ∧ vs[11]? = some (.ref P)
  hd : ∀ h : Heap, K.In h → PySem.W.CodeHd h c P
  nP : K.lookup P = none
  gP : mainGlobals ≠ P
  at_ : d.at_ = (d.name, none)
  glo : (He.Fa.glo d.name).ok K = true
theorem lamOkB_is {K : PySem.W.Frag} {d : Ds} (h : lamOkB K d = true) : ∃ c P, LamI K d c P := by
  unfold lamOkB at h
  split at h
  · rename_i oc od fd osl lk
    split at h
    · rename_i c hc
      split at h
      · rename_i cl od2 vs osl2 lk2
        split at h
        · rename_i P hP
          simp only [Bool.and_eq_true, decide_eq_true_eq] at h
          obtain ⟨⟨⟨⟨⟨⟨⟨⟨⟨⟨rfl, h2⟩, h3⟩, h4⟩, h5⟩, h6⟩, h7⟩, h8⟩, h9⟩, h10⟩, h11⟩ := h
          refine ⟨c, P, ?_, ⟨oc, od, fd, osl, lk, hc⟩, ⟨od2, vs, osl2, lk2, hP⟩, fun h X => ?_, by simpa using h8, h9, h10, h11⟩
          · unfold lamCP
            rw [lk]
            simp only [hc, lk2, hP]
          · unfold isStrV at h3
            unfold isIntV at h4 h6
            unfold isBlV at h5
            split at h3
            · split at h4
              · split at h5
                · split at h6
                  · exact ⟨_, vs, _, _, _, _, _, _, _, X _ _ lk2, rfl, rfl, hP, h2, by assumption, by assumption, by assumption, by assumption, h7⟩
                  · cases h6
                · cases h5
              · cases h4
            · cases h3
        · cases h
      · cases h
    · cases h
  · cases h
abbrev Tbl.ex (t : Tbl) : PySem.W.Frag → Bool := fun K => t.con.all (conB K) && t.cats.all (catB t K) && t.lams.all (lamOkB K) && (t.tbs K).all fun p => (t.tbs K).all fun q => decide (p.1 ≠ q.1) || decide (p.2 = q.2)
abbrev Tbl.hook (t : Tbl) : PySem.W.Hook := He.hookX 5 t.fa t.fn [] [] t.ex
def Tbl.ob (t : Tbl) (s : PySem.W.SharedT) : He.AlX := He.obsX 5 t.fa t.fn [] [] t.ex (HandSHeadRun.getT s)
theorem Tbl.ob_eq (t : Tbl) (s : PySem.W.SharedT) : t.ob s = t.hook.obs s.abs := He.obsX_eq (HandSHeadRun.getT_eq s)
def Tbl.Right (t : Tbl) (n i : Nat) : Prop := ∀ ns : List Int, ns.length ≤ 63 → ∃ S, runN t.kt t.tb n i [.s ns] [] = .ok (.d (.bool true)) S
def noTbl (H : Hp) : Hp := fun b => match H b with
  | some (.tbl _) => none
  | o => o
theorem noTbl_is {H : Hp} {b : Addr} {o : HO} (h : noTbl H b = some o) : H b = some o := by
  unfold noTbl at h
  split at h
  · cases h
  · exact h
theorem noTbl_of {H : Hp} {b : Addr} {o : HO} (h : H b = some o) (n : ∀ ps, o ≠ .tbl ps) : noTbl H b = some o := by
  unfold noTbl
  split
  · rename_i ps q; rw [h] at q; exact absurd (Option.some.inj q) (n ps)
  · exact h
theorem rl_start {K : PySem.W.Frag} {A : Ad} {H : Hp} (t : Tabs A.tbs H) : Rl K A [] (noTbl H) [] H :=
  ⟨rfl, by simp, fun a u e => noTbl_is e, fun a h => by simp at h, fun n a u h => by simp at h, fun n a u h => by simp at h, fun a ps e => by
    have z := e
    unfold noTbl at z
    split at z
    · cases z
    · rename_i q
      exact q ps z, t⟩
theorem sqL_noTbl {K : PySem.W.Frag} {H : Hp} {a : Addr} {xs : List V} (h : SqL K H a xs) : SqL K (noTbl H) a xs := by
  rcases h with h | h
  · rcases h with h | ⟨o, h⟩
    · exact .inl (.inl (noTbl_of h fun _ z => nomatch z))
    · exact .inl (.inr ⟨o, noTbl_of h fun _ z => nomatch z⟩)
  · exact .inr h
theorem law_end {t : Tbl} {l : PySem.W.OpenLaw} {n i : Nat} {q : Program} {loose : List Str} {XP : (Str → Option Value) → Heap → Prop} {d : DefRec} {dd : Ds} {x : Str}
    (right : t.Right (n + 1) i) (hn : l.most = some 63) (hdf : d.params.defaults = []) (hr : Room (2 * n + 4) callerA) (hd : t.ds[i]? = some dd) (hfn : t.M.fns[i]? = some (dd.name, dd.ps.length)) (hnm : d.name = dd.name) (hps : dd.ps = [x])
    (ok : t.okI = true) (chk : ∀ d ∈ t.ds, d.ok t.M = true) (bi : ∀ d ∈ t.ds, d.binds) (hrec : (t.lams.all fun d => (recsOf q).any fun e => e.name == d.name) = true) : PySem.W.WalkO q loose XP t.hook.says l.row.toRowW d [] (fun f vs => PySem.call f vs) := by
  refine Att.attach_callB hn hdf fun w s₀ s₁ mg mb fa o pm cd doc a vs ns G Y ho hfd hcd hmg hobj hints hlen hbits hg => ?_
  obtain ⟨K, KX, c⟩ := Y
  have X : K.In s₁.heap := KX
  have cm := c.more
  have cm : t.ex K = true := cm
  unfold Tbl.ex at cm
  simp only [Bool.and_eq_true, List.all_eq_true] at cm
  obtain ⟨⟨⟨cm1, cm2⟩, cm3⟩, cm4⟩ := cm
  have lmI : ∀ d ∈ t.lams, ∃ c P, LamI K d c P := fun d hd => lamOkB_is (cm3 d hd)
  have tab : ∀ d ∈ t.lams, ∀ c P, LamI K d c P → s₁.heap.get? P = some { cls := .none, data := .fields #[] } := fun d hd c P I => by
    obtain ⟨dL, hm, hn1⟩ := List.any_eq_true.mp (List.all_eq_true.mp hrec d hd)
    have hn2 : dL.name = d.name := beq_iff_eq.mp hn1
    obtain ⟨a', o', fd', c', P', h1, h2, h3, h4, h5, h6⟩ := G.T.tab dL hm
    have e0 : mg d.name = some (.ref (He.ga K d.name)) := He.glo_ok X G.T.g I.glo
    rw [hn2, e0] at h1
    cases h1
    obtain ⟨oc, od, fd, osl, lk, hcd⟩ := I.lk
    have ea : He.fAd K d.at_ = He.ga K d.name := by rw [I.at_]; rfl
    rw [ea] at lk
    have g1 := X _ _ lk
    rw [g1] at h2
    cases h2
    cases h3
    rw [hcd] at h4
    cases h4
    obtain ⟨⟨oc, vc, e1, _, e3, e4⟩, hP⟩ := h6
    obtain ⟨od2, vs2, osl2, lk2, hv⟩ := I.vs
    have g2 := X _ _ lk2
    rw [g2] at e1
    cases e1
    cases e3
    rw [hv] at e4
    cases e4
    exact hP
  have inC : ∀ p ∈ t.cps K, ∃ d ∈ t.lams, LamI K d p.1 p.2 := fun p hp => by
    obtain ⟨d, hd, e⟩ := List.mem_filterMap.mp hp
    obtain ⟨c, P, I⟩ := lmI d hd
    rw [I.cp] at e
    cases e
    exact ⟨d, hd, I⟩
  obtain ⟨fd, F⟩ := c.t.d.defs (d := dd.dd) (List.mem_map_of_mem (List.mem_of_getElem? hd))
  have ps1 : dd.ps.length = 1 := by rw [hps]; rfl
  have MD : ∀ base : Heap, K.In base → (∀ p ∈ t.cps K, TabB base mg p.1 p.2) → Md (LamB base mg (t.ad K)) t.M t.ct t.tb K mg (t.ad K) := fun base hb hT =>
    md_of (fun d hm hl fd F => by
      have hdl : d ∈ t.lams := List.mem_filter.mpr ⟨hm, hl⟩
      obtain ⟨c0, P0, I⟩ := lmI d hdl
      have hcp : (c0, P0) ∈ t.cps K := List.mem_filterMap.mpr ⟨d, hdl, I.cp⟩
      have htb : (P0, lamQ d) ∈ t.tbs K := List.mem_filterMap.mpr ⟨d, hdl, by rw [I.cp]; rfl⟩
      obtain ⟨oc, od, fd2, osl, lk, hcd2⟩ := I.lk
      obtain ⟨oc', od', dV, kV, doc', pm', an, cdv, ct, osl', e1, lk', _⟩ := F.ex
      rw [lk] at lk'
      cases lk'
      refine ⟨c0, P0, hcd2, hT _ hcp, htb, fun p hp e => ?_⟩
      have z := cm4 p hp (P0, lamQ d) htb
      rw [Bool.or_eq_true, decide_eq_true_eq, decide_eq_true_eq] at z
      rcases z with z | z
      · exact absurd e z
      · exact z) X G.T.g c.t.d (List.all_eq_true.mpr cm1) cm2 ok chk bi
  have hf : He.fAd K dd.at_ = fa := by
    have e : mg dd.name = some (.ref fa) := by rw [← hnm]; exact hmg
    obtain ⟨b, f, fd', N, ps, q, pa, bo, sc, a', h1, h2, h3, h4⟩ := (md_of (LB := fun _ _ => True) (fun _ _ _ _ _ => trivial) X G.T.g c.t.d (List.all_eq_true.mpr cm1) cm2 ok chk bi).fn i _ _ hfn
    have h2' : (t.ds[i]?).map (fun d => He.fAd K d.at_) = some f := h2
    rw [hd] at h2'
    rw [e] at h3
    cases h3
    exact Option.some.inj h2'
  have F : FunD K dd.name dd.qual (defArgs dd.st) (defBody dd.st) (defScope dd.st) [] [] fa fd := hf ▸ F
  refine law_callTs (cs := t.cps K) (CX := L2.CX l.prog w) (k := 2 * n + 4) (x := x) (fd := fd) (sp := spF K (t.ad K) 1 (runN t.kt t.tb (n + 1) i)) X G.T.g G.T.b G.T.builtins G.T.nolimit hg (fun p hp => ?_) (fun p hp => ?_) (fun p hp => ?_) G.T.bmain hobj hints (Nat.le_trans hlen (by decide)) hr (fun base hb hns hTB => ?_) (fun s u => ?_) (fun H hH hS => ?_) fun H e s' z => ?_
  · obtain ⟨d, hd, I⟩ := inC p hp
    exact tab d hd _ _ I
  · obtain ⟨d, hd, I⟩ := inC p hp
    exact I.nP
  · obtain ⟨d, hd, I⟩ := inC p hp
    exact I.hd _ X
  · have M0 := MD base hb hTB
    obtain ⟨B, B2⟩ := md_tb (P := l.prog) (w := w) (base := base) (kt := t.kt) M0 rfl n
    have hm : dd ∈ t.ds := List.mem_of_getElem? hd
    obtain ⟨b, f, fd', N, ps, qn, pa, bo, sc, a', h1, h2, h3, h4⟩ := M0.fn i _ _ hfn
    have q := chk dd hm
    unfold Ds.ok at q
    simp only [Bool.and_eq_true, decide_eq_true_eq] at q
    have key := fn_step (P := l.prog) (w := w) (mg := mg) (base := base) (kt := t.kt) (tb := t.tb) (n := n) (i := i) (b := dd.fb) (lam := dd.lam) (A := t.ad K) (M := t.M) F (fsB_ok q.1.1) rfl (by show (t.ds.map Ds.fb)[i]? = _; rw [List.getElem?_map, hd]; rfl) rfl q.1.2 q.2 B B2 (fun hl => by
      have hdl : dd ∈ t.lams := List.mem_filter.mpr ⟨hm, hl⟩
      obtain ⟨c0, P0, I⟩ := lmI dd hdl
      have hcp : (c0, P0) ∈ t.cps K := List.mem_filterMap.mpr ⟨dd, hdl, I.cp⟩
      have htb : (P0, lamQ dd) ∈ t.tbs K := List.mem_filterMap.mpr ⟨dd, hdl, by rw [I.cp]; rfl⟩
      obtain ⟨oc, od, fd2, osl, lk, hcd2⟩ := I.lk
      obtain ⟨oc', od', dV, kV, doc', pm', an, cdv, ct, osl', e1, lk', _⟩ := F.ex
      rw [hf, lk'] at lk
      cases lk
      refine ⟨c0, P0, hcd2, hTB _ hcp, htb, fun p hp e => ?_⟩
      have z := cm4 p hp (P0, lamQ dd) htb
      rw [Bool.or_eq_true, decide_eq_true_eq, decide_eq_true_eq] at z
      rcases z with z | z
      · exact absurd e z
      · exact z)
    rw [hps] at key
    exact key
  · have key := FunD.bindsA F (bi dd (List.mem_of_getElem? hd)) s [u] ps1.symm
    rw [hps] at key
    exact key
  · obtain ⟨S, e⟩ := right ns hlen
    have tS : Tabs (t.ad K).tbs H := fun p hp => by
      obtain ⟨d, hd, e⟩ := List.mem_filterMap.mp hp
      obtain ⟨c0, P0, I⟩ := lmI d hd
      rw [I.cp] at e
      cases e
      exact TabS.nil (hH _ (List.mem_filterMap.mpr ⟨d, hd, I.cp⟩))
    refine ⟨rfl, [], noTbl H, [], [.s ns], rl_start tS, .cons ⟨a, sqL_noTbl hS, rfl⟩ .nil, ?_⟩
    rw [e]
    exact fun μ' F' H' v t' rl' r => by
      obtain ⟨r, _⟩ := r
      cases r
      rfl
  · obtain ⟨_, _, _, _, _, _, _, _, _, _, _, _, z⟩ := z
    exact z
end Mi
end
section
set_option Elab.async false
set_option linter.all false
set_option maxRecDepth 100000
set_option maxHeartbeats 4000000
namespace Mi
open PySem
def bK (x : W) (a b : Res W) : Res W := match x with
  | .d (.bool k) => if k = true then a else b
  | _ => .bad
def bQ (x : W) (S : Sto) : Res Bool := match x with
  | .d (.bool k) => .ok k S
  | _ => .bad
def tQ (x : W) (S : Sto) : Res Bool := match truth S x with
  | some k => .ok k S
  | none => .bad
def nK (x : W) (S : Sto) : Res W := match x with
  | .d (.bool k) => .ok (.d (.bool !k)) S
  | _ => .bad
def Out.andO (o : Out) (k : Ev → Sto → Out) : Out := match o with
  | .nx en S => k en S
  | o => o
def Out.turn (o : Out) (k : Ev → Sto → Out) : Out := match o with
  | .nx en S => k en S
  | .ct en S => k en S
  | .bk en S => .nx en S
  | o => o
section
variable {α β : Type} {S : Sto} {en : Ev} {k : Bool}
theorem q_ok {a : α} {f : α → Sto → Res β} : (Res.ok a S).andThen f = f a S := rfl
theorem q_bad {f : α → Sto → Res β} : (Res.bad : Res α).andThen f = .bad := rfl
theorem q_exc {x : Nat} {f : α → Sto → Res β} : (Res.exc x S : Res α).andThen f = .exc x S := rfl
theorem q_ite {p : Prop} [Decidable p] {a b : Res α} {f : α → Sto → Res β} : (if p then a else b).andThen f = if p then a.andThen f else b.andThen f := by split <;> rfl
theorem o_ok {a : α} {f : α → Sto → Out} : (Res.ok a S).thenO f = f a S := rfl
theorem o_bad {f : α → Sto → Out} : (Res.bad : Res α).thenO f = .bad := rfl
theorem o_exc {x : Nat} {f : α → Sto → Out} : (Res.exc x S : Res α).thenO f = .exc x S := rfl
theorem o_ite {p : Prop} [Decidable p] {a b : Res α} {f : α → Sto → Out} : (if p then a else b).thenO f = if p then a.thenO f else b.thenO f := by split <;> rfl
theorem a_nx {f : Ev → Sto → Out} : (Out.nx en S).andO f = f en S := rfl
theorem a_rt {w : W} {f : Ev → Sto → Out} : (Out.rt w S).andO f = .rt w S := rfl
theorem a_bk {f : Ev → Sto → Out} : (Out.bk en S).andO f = .bk en S := rfl
theorem a_ct {f : Ev → Sto → Out} : (Out.ct en S).andO f = .ct en S := rfl
theorem a_bad {f : Ev → Sto → Out} : Out.bad.andO f = .bad := rfl
theorem a_ite {p : Prop} [Decidable p] {a b : Out} {f : Ev → Sto → Out} : (if p then a else b).andO f = if p then a.andO f else b.andO f := by split <;> rfl
theorem t_nx {f : Ev → Sto → Out} : (Out.nx en S).turn f = f en S := rfl
theorem t_ct {f : Ev → Sto → Out} : (Out.ct en S).turn f = f en S := rfl
theorem t_bk {f : Ev → Sto → Out} : (Out.bk en S).turn f = .nx en S := rfl
theorem t_rt {w : W} {f : Ev → Sto → Out} : (Out.rt w S).turn f = .rt w S := rfl
theorem t_bad {f : Ev → Sto → Out} : Out.bad.turn f = .bad := rfl
theorem t_ite {p : Prop} [Decidable p] {a b : Out} {f : Ev → Sto → Out} : (if p then a else b).turn f = if p then a.turn f else b.turn f := by split <;> rfl
theorem r_rt {w : W} : outR (.rt w S) = .ok w S := rfl
theorem r_nx : outR (.nx en S) = .ok (.d .none) S := rfl
theorem r_bad : outR .bad = .bad := rfl
theorem r_ite {p : Prop} [Decidable p] {a b : Out} : outR (if p then a else b) = if p then outR a else outR b := by split <;> rfl
theorem k_b {a b : Res W} : bK (.d (.bool k)) a b = if k = true then a else b := rfl
theorem q_b : bQ (.d (.bool k)) S = .ok k S := rfl
theorem n_b : nK (.d (.bool k)) S = .ok (.d (.bool !k)) S := rfl
theorem t_b : tQ (.d (.bool k)) S = .ok k S := rfl
theorem t_i {i : Int} : tQ (.d (.int i)) S = .ok (i != 0) S := rfl
theorem t_n : tQ (.d .none) S = .ok false S := rfl
theorem t_l {ds : List D} : tQ (.d (.list ds)) S = .ok (!ds.isEmpty) S := by cases ds <;> rfl
theorem t_t {ds : List D} : tQ (.d (.tuple ds)) S = .ok (!ds.isEmpty) S := by cases ds <;> rfl
variable {a b c : XE} {p q : XT} {s r : XS}
theorem e_and : xAnd a b en S = (a en S).andThen fun x S1 => bK x (b en S1) (.ok (.d (.bool false)) S1) := by
  unfold xAnd
  congr 1
  funext x S1
  unfold asB bK
  cases x with
  | d x => cases x <;> first | rfl | (rename_i k; cases k <;> rfl)
  | _ => rfl
theorem e_or : xOr a b en S = (a en S).andThen fun x S1 => bK x (.ok (.d (.bool true)) S1) (b en S1) := by
  unfold xOr
  congr 1
  funext x S1
  unfold asB bK
  cases x with
  | d x => cases x <;> first | rfl | (rename_i k; cases k <;> rfl)
  | _ => rfl
theorem e_not : xNot a en S = (a en S).andThen nK := by
  unfold xNot
  congr 1
  funext x S1
  unfold asB nK
  cases x with
  | d x => cases x <;> rfl
  | _ => rfl
theorem e_chn {g g' : W → W → Sto → Res W} : xChn g g' a b c en S = (a en S).andThen fun x S1 => (b en S1).andThen fun y S2 => (g x y S2).andThen fun z S3 => bK z ((c en S3).andThen fun u S4 => g' y u S4) (.ok (.d (.bool false)) S3) := by
  unfold xChn
  congr 1; funext x S1
  congr 1; funext y S2
  congr 1; funext z S3
  unfold asB bK
  cases z with
  | d x => cases x <;> first | rfl | (rename_i k; cases k <;> rfl)
  | _ => rfl
theorem e_bool : tBool a en S = (a en S).andThen bQ := by
  unfold tBool
  congr 1; funext x S1
  unfold asB bQ
  cases x with
  | d x => cases x <;> rfl
  | _ => rfl
theorem e_val : tVal a en S = (a en S).andThen tQ := rfl
theorem e_seq : sSeq s r en S = (s en S).andO r := by
  unfold sSeq Out.andO
  cases s en S <;> rfl
theorem e_for0 {g : XG} : forD g s [] en S = .nx en S := rfl
theorem e_for1 {g : XG} {w : W} {ws : List W} : forD g s (w :: ws) en S = (g w en S).thenO fun en1 S1 => (s en1 S1).turn fun en2 S2 => forD g s ws en2 S2 := by
  show (g w en S).thenO _ = _
  congr 1
theorem e_whl0 {c : XT} : whileD c s 0 en S = .bad := rfl
theorem e_whl1 {c : XT} {m : Nat} : whileD c s (m + 1) en S = (c en S).thenO fun k S1 => if k = true then (s en S1).turn fun en2 S2 => whileD c s m en2 S2 else .nx en S1 := by
  show (c en S).thenO _ = _
  congr 1
theorem w_var0 {w : W} : xVar 0 (some w :: en) S = .ok w S := rfl
theorem w_add {i j : Int} : addW (.d (.int i)) (.d (.int j)) S = .ok (.d (.int (i + j))) S := rfl
theorem w_sub {i j : Int} : subW (.d (.int i)) (.d (.int j)) S = .ok (.d (.int (i - j))) S := rfl
theorem w_mul {i j : Int} : repW (.d (.int i)) (.d (.int j)) S = if mulOk i j = true then .ok (.d (.int (i * j))) S else .bad := rfl
theorem w_div {i j : Int} : divW (.d (.int i)) (.d (.int j)) S = if (decide (j ≠ 0) && decide (j.natAbs < 1073741824)) = true then .ok (.d (.int (i.fdiv j))) S else .bad := rfl
theorem w_mod {i j : Int} : modW (.d (.int i)) (.d (.int j)) S = if decide (j ≠ 0) = true then .ok (.d (.int (i.fmod j))) S else .bad := rfl
theorem w_ord {f : Int → Int → Bool} {i j : Int} : ordW f (.d (.int i)) (.d (.int j)) S = .ok (.d (.bool (f i j))) S := rfl
theorem w_neg {i : Int} : ngG (.d (.int i)) S = .ok (.d (.int (-i))) S := rfl
theorem w_isn {x : D} : isW false (.d x) (.d .none) S = .ok (.d (.bool (isNon x))) S := by cases x <;> rfl
theorem w_isnn {x : D} : isW true (.d x) (.d .none) S = .ok (.d (.bool !(isNon x))) S := by cases x <;> rfl
theorem w_isb {x y : Bool} : isW false (.d (.bool x)) (.d (.bool y)) S = .ok (.d (.bool (decide (x = y)))) S := rfl
theorem w_isbn {x y : Bool} : isW true (.d (.bool x)) (.d (.bool y)) S = .ok (.d (.bool !(decide (x = y)))) S := rfl
theorem w_eq {ng : Bool} {x y : D} (h : dle 60 y = true) : eqW ng (.d x) (.d y) S = .ok (.d (.bool (if ng then !(PyData.eqv x y) else PyData.eqv x y))) S := by
  show (match eqD x y with | some r => _ | none => _) = _
  unfold eqD
  rw [h]; rfl
theorem w_eqi {i j : Int} : eqW false (.d (.int i)) (.d (.int j)) S = .ok (.d (.bool (decide (i = j)))) S := by
  rw [w_eq rfl]
  simp [PyData.eqv]
  rfl
theorem w_nei {i j : Int} : eqW true (.d (.int i)) (.d (.int j)) S = .ok (.d (.bool !(decide (i = j)))) S := by
  rw [w_eq rfl]
  simp [PyData.eqv]
  rfl
theorem w_eqs {i j : Str} : eqW false (.d (.str i)) (.d (.str j)) S = .ok (.d (.bool (decide (i = j)))) S := by
  rw [w_eq rfl]
  simp [PyData.eqv]
  rfl
theorem w_nes {i j : Str} : eqW true (.d (.str i)) (.d (.str j)) S = .ok (.d (.bool !(decide (i = j)))) S := by
  rw [w_eq rfl]
  simp [PyData.eqv]
  rfl
theorem w_eqb {i j : Bool} : eqW false (.d (.bool i)) (.d (.bool j)) S = .ok (.d (.bool (decide (i = j)))) S := by
  rw [w_eq rfl]
  simp [PyData.eqv]
  rfl
theorem w_neb {i j : Bool} : eqW true (.d (.bool i)) (.d (.bool j)) S = .ok (.d (.bool !(decide (i = j)))) S := by
  rw [w_eq rfl]
  simp [PyData.eqv]
  rfl
theorem w_isi {x : D} {n : String} (m : String) (h : tyN (.d x) S = some m) (hn : decide (n ∈ isiTs) = true) : isiG [.d x, .t n] S = .ok (.d (.bool (isiB m n))) S := by
  unfold isiG
  simp only [h, hn, if_true]
theorem w_lent {ds : List D} : lenG [.d (.tuple ds)] S = .ok (.d (.int ds.length)) S := by
  show Res.ok (W.d (PyData.int ((ds.map W.d).length : Nat))) S = _
  rw [List.length_map]
theorem w_lenl {ds : List D} : lenG [.d (.list ds)] S = .ok (.d (.int ds.length)) S := by
  show Res.ok (W.d (PyData.int ((ds.map W.d).length : Nat))) S = _
  rw [List.length_map]
theorem w_lenc {n : Nat} {ws : List W} (h : S[n]? = some (.lst ws)) : lenG [.c n] S = .ok (.d (.int ws.length)) S := by
  simp only [lenG, h]
end
end Mi
end
section
set_option Elab.async false
set_option linter.all false
set_option maxRecDepth 100000
set_option maxHeartbeats 4000000
namespace Mi
open PySem L2
section
variable {α β : Type} {S : Sto} {en : Ev} {k : Bool}
def oR (o : Option W) (S : Sto) : Res W := match o with
  | some w => .ok w S
  | none => .bad
theorem or_some {w : W} : oR (some w) S = .ok w S := rfl
theorem w_ixt {ds : List D} {j : Int} : ixG (.d (.tuple ds)) (.d (.int j)) S = oR ((atI ds j).map .d) S := by
  show (match atI (ds.map W.d) j with | some v => Res.ok v S | none => .bad) = _
  have e : atI (ds.map W.d) j = (atI ds j).map W.d := by
    unfold atI
    rw [List.length_map]
    cases ixN ds.length j with
    | none => rfl
    | some i =>
      show (ds.map W.d)[i]? = _
      rw [List.getElem?_map]; rfl
  rw [e]
  cases atI ds j <;> rfl
theorem w_ixl {ds : List D} {j : Int} : ixG (.d (.list ds)) (.d (.int j)) S = oR ((atI ds j).map .d) S := by
  show (match atI (ds.map W.d) j with | some v => Res.ok v S | none => .bad) = _
  have e : atI (ds.map W.d) j = (atI ds j).map W.d := by
    unfold atI
    rw [List.length_map]
    cases ixN ds.length j with
    | none => rfl
    | some i =>
      show (ds.map W.d)[i]? = _
      rw [List.getElem?_map]; rfl
  rw [e]
  cases atI ds j <;> rfl
theorem w_ixc {n : Nat} {ws : List W} {j : Int} (h : S[n]? = some (.lst ws)) : ixG (.c n) (.d (.int j)) S = oR (atI ws j) S := by
  simp only [ixG, h]
  cases atI ws j <;> rfl
theorem w_ixu {n : Nat} {ws : List W} {j : Int} (h : S[n]? = some (.tup ws)) : ixG (.c n) (.d (.int j)) S = oR (atI ws j) S := by
  simp only [ixG, h]
  cases atI ws j <;> rfl
theorem at_nat {xs : List α} {j : Nat} : atI xs (j : Int) = xs[j]? := by
  unfold atI ixN
  rw [if_pos (by omega)]
  by_cases h : (j : Int) < xs.length
  · rw [if_pos h]; rfl
  · rw [if_neg h]
    exact (List.getElem?_eq_none (by omega)).symm
theorem at_0 {x : α} {xs : List α} : atI (x :: xs) 0 = some x := at_nat (j := 0)
theorem at_1 {x y : α} {xs : List α} : atI (x :: y :: xs) 1 = some y := at_nat (j := 1)
theorem at_2 {x y z : α} {xs : List α} : atI (x :: y :: z :: xs) 2 = some z := at_nat (j := 2)
theorem at_3 {x y z u : α} {xs : List α} : atI (x :: y :: z :: u :: xs) 3 = some u := at_nat (j := 3)
theorem at_last {x : α} {xs : List α} : atI (xs ++ [x]) (-1) = some x := by
  unfold atI ixN
  rw [if_neg (by omega), if_pos (by simp; omega)]
  show (xs ++ [x])[((-1 : Int) + ((xs ++ [x]).length : Nat)).toNat]? = _
  have : ((-1 : Int) + ((xs ++ [x]).length : Nat)).toNat = xs.length := by simp; omega
  rw [this, List.getElem?_append_right (Nat.le_refl _)]
  simp
theorem at_ge {xs : List α} {j : Int} (h : (xs.length : Int) ≤ j) : atI xs j = none := by
  unfold atI ixN
  rw [if_pos (by omega), if_neg (by omega)]; rfl
theorem om_some {w : D} : (Option.some w).map W.d = some (.d w) := rfl
theorem flat_map : ∀ ds : List D, flatWs (ds.map .d) = ds.all flatD
  | [] => rfl
  | d :: ds => by show (flatD d && flatWs (ds.map .d)) = _; rw [flat_map ds]; rfl
theorem w_int {ng : Bool} {x : D} {ds : List D} (h : flatD x = true) (hs : ds.all flatD = true) : inW ng (.d x) (.d (.tuple ds)) S = .ok (.d (.bool (if ng then !(ds.any fun y => PyData.eqv y x) else ds.any fun y => PyData.eqv y x))) S := by
  show (if (flatD x && flatWs (ds.map .d)) = true then _ else _) = _
  rw [flat_map, h, hs]
  rw [List.any_map]
  rfl
theorem w_inl {ng : Bool} {x : D} {ds : List D} (h : flatD x = true) (hs : ds.all flatD = true) : inW ng (.d x) (.d (.list ds)) S = .ok (.d (.bool (if ng then !(ds.any fun y => PyData.eqv y x) else ds.any fun y => PyData.eqv y x))) S := by
  show (if (flatD x && flatWs (ds.map .d)) = true then _ else _) = _
  rw [flat_map, h, hs]
  rw [List.any_map]
  rfl
theorem w_inc {ng : Bool} {x : D} {ds : List D} {n : Nat} (e : S[n]? = some (.lst (ds.map .d))) (h : flatD x = true) (hs : ds.all flatD = true) : inW ng (.d x) (.c n) S = .ok (.d (.bool (if ng then !(ds.any fun y => PyData.eqv y x) else ds.any fun y => PyData.eqv y x))) S := by
  simp only [inW, e]
  rw [flat_map, h, hs]
  rw [List.any_map]
  rfl
theorem w_indic {ng : Bool} {i : Int} {kvs : List (Key × W)} {n : Nat} (e : S[n]? = some (.dic kvs)) : inW ng (.d (.int i)) (.c n) S = .ok (.d (.bool (if ng then !(kget (.inl i) kvs).isSome else (kget (.inl i) kvs).isSome))) S := by
  simp only [inW, e, keyOf]
theorem w_tup {ws : List W} {ds : List D} {ya : XA} (h : ya en S = .ok (ds.map .d) S) (hc : ds.length ≤ cap) : xTup false ya en S = .ok (.d (.tuple ds)) S := by
  unfold xTup
  rw [h]
  show mkTup (ds.map .d) S = _
  unfold mkTup
  rw [allD_map]
  show (if ds.length ≤ cap then _ else _) = _
  rw [if_pos hc]
def tD (ws : List W) (S : Sto) : Res W := mkTup ws S
def lD (ws : List W) (S : Sto) : Res W := mkLst ws S
theorem e_tup {ya : XA} : xTup false ya en S = (ya en S).andThen tD := rfl
theorem e_tupc {ya : XA} : xTup true ya en S = (ya en S).andThen mkTupC := rfl
theorem e_lst {ya : XA} : xLst false ya en S = (ya en S).andThen lD := rfl
theorem e_lstc {ya : XA} : xLst true ya en S = (ya en S).andThen mkLstC := rfl
theorem td_0 : tD [] S = .ok (.d (.tuple [])) S := rfl
theorem td_1 {a : D} : tD [.d a] S = .ok (.d (.tuple [a])) S := rfl
theorem td_2 {a b : D} : tD [.d a, .d b] S = .ok (.d (.tuple [a, b])) S := rfl
theorem td_3 {a b c : D} : tD [.d a, .d b, .d c] S = .ok (.d (.tuple [a, b, c])) S := rfl
theorem td_4 {a b c d : D} : tD [.d a, .d b, .d c, .d d] S = .ok (.d (.tuple [a, b, c, d])) S := rfl
theorem td_5 {a b c d e : D} : tD [.d a, .d b, .d c, .d d, .d e] S = .ok (.d (.tuple [a, b, c, d, e])) S := rfl
theorem td_6 {a b c d e f : D} : tD [.d a, .d b, .d c, .d d, .d e, .d f] S = .ok (.d (.tuple [a, b, c, d, e, f])) S := rfl
theorem ld_0 : lD [] S = .ok (.d (.list [])) S := rfl
theorem ld_1 {a : D} : lD [.d a] S = .ok (.d (.list [a])) S := rfl
theorem ld_2 {a b : D} : lD [.d a, .d b] S = .ok (.d (.list [a, b])) S := rfl
theorem ld_3 {a b c : D} : lD [.d a, .d b, .d c] S = .ok (.d (.list [a, b, c])) S := rfl
theorem ld_4 {a b c d : D} : lD [.d a, .d b, .d c, .d d] S = .ok (.d (.list [a, b, c, d])) S := rfl
theorem ld_5 {a b c d e : D} : lD [.d a, .d b, .d c, .d d, .d e] S = .ok (.d (.list [a, b, c, d, e])) S := rfl
theorem ld_6 {a b c d e f : D} : lD [.d a, .d b, .d c, .d d, .d e, .d f] S = .ok (.d (.list [a, b, c, d, e, f])) S := rfl
theorem ld_7 {a b c d e f g : D} : lD [.d a, .d b, .d c, .d d, .d e, .d f, .d g] S = .ok (.d (.list [a, b, c, d, e, f, g])) S := rfl
theorem ld_9 {a b c d e f g h i : D} : lD [.d a, .d b, .d c, .d d, .d e, .d f, .d g, .d h, .d i] S = .ok (.d (.list [a, b, c, d, e, f, g, h, i])) S := rfl
theorem rg_up {i j : Int} (h1 : -(2 ^ 62) ≤ i) (h2 : j < 2 ^ 62) (h3 : -(2 ^ 62) ≤ j) (h4 : i < 2 ^ 62) (h : (j - i).toNat ≤ cap) : rgN i j 1 = some (j - i).toNat := by
  have e : Builtin.Range.rangeSize i j 1 = (((j - i).toNat : Nat) : Int) := by
    unfold Builtin.Range.rangeSize
    rw [if_pos (by decide)]
    split
    · rw [Int.ediv_one]; omega
    · omega
  unfold rgN
  rw [e]
  unfold cap at h ⊢
  rw [if_pos ?_, if_pos (by omega), if_pos (by omega)]
  · rw [Int.toNat_natCast]
  · unfold Builtin.Range.small Builtin.Range.rangeFitsLong
    rw [e]
    simp
    omega
theorem rg_down {i j : Int} (h1 : -(2 ^ 62) ≤ i) (h2 : j < 2 ^ 62) (h3 : -(2 ^ 62) ≤ j) (h4 : i < 2 ^ 62) (h : (i - j).toNat ≤ cap) : rgN i j (-1) = some (i - j).toNat := by
  have e : Builtin.Range.rangeSize i j (-1) = (((i - j).toNat : Nat) : Int) := by
    unfold Builtin.Range.rangeSize
    rw [if_neg (by decide)]
    split
    · rw [show -(-1 : Int) = 1 by decide, Int.ediv_one]; omega
    · omega
  unfold rgN
  rw [e]
  unfold cap at h ⊢
  rw [if_pos ?_, if_pos (by omega), if_pos (by omega)]
  · rw [Int.toNat_natCast]
  · unfold Builtin.Range.small Builtin.Range.rangeFitsLong
    rw [e]
    simp
    omega
theorem it_l {ds : List D} : itG (.d (.list ds)) S = .ok (.fx (ds.map .d)) S := rfl
theorem it_t {ds : List D} : itG (.d (.tuple ds)) S = .ok (.fx (ds.map .d)) S := rfl
theorem it_s {z : Str} : itG (.d (.str z)) S = .ok (.fx (signs z)) S := rfl
theorem it_r {i j c : Int} {n : Nat} (h : rgN i j c = some n) : itG (.r i j c) S = .ok (.fx ((rgL i c n).map .d)) S := by
  simp only [itG, h]
theorem it_c {n : Nat} {ws : List W} (h : S[n]? = some (.lst ws)) : itG (.c n) S = .ok (.cel n) S := by
  simp only [itG, h]
def lcV (cel : Bool) (g : XG) (t : XT) (el : XE) (en : Ev) (v : ItV) (S : Sto) : Res W := match v with
  | .fx ws => if ws.length ≤ cap then (lcD g t el en ws S).andThen fun r S2 => lstN cel r S2 else .bad
  | .cel n => (match celL n S with
    | some ws => if ws.length ≤ 1000000 then (lcC g t el en n (ws.length + 1) 0 S).andThen fun r S2 => lstN cel r S2 else .bad
    | none => .bad)
theorem e_lc {cel : Bool} {own : List Nat} {g : XG} {i : XI} {t : XT} {el : XE} : xLc cel own g i t el en S = (i en S).andThen fun v S1 => lcV cel g t el (wipeE en own) v S1 := by
  unfold xLc
  congr 1
theorem e_ival {x : XE} : iVal x en S = (x en S).andThen itG := rfl
def forV (fuel : Nat) (g : XG) (b : XS) (en : Ev) (v : ItV) (S : Sto) : Out := match v with
  | .fx ws => forD g b ws en S
  | .cel n => forC g b n fuel 0 en S
theorem e_for {fuel : Nat} {g : XG} {i : XI} {b : XS} : sFor fuel g i b en S = (i en S).thenO fun v S1 => forV fuel g b en v S1 := by
  unfold sFor
  congr 1
theorem v_fx {fuel : Nat} {g : XG} {b : XS} {ws : List W} : forV fuel g b en (.fx ws) S = forD g b ws en S := rfl
theorem v_cel {fuel : Nat} {g : XG} {b : XS} {n : Nat} : forV fuel g b en (.cel n) S = forC g b n fuel 0 en S := rfl
theorem l_f {ds : List D} : lstN false (ds.map .d) S = .ok (.d (.list ds)) S := by
  unfold lstN
  rw [allD_map]; rfl
theorem l_t {ws : List W} : lstN true ws S = .ok (.c S.length) (S ++ [.lst ws]) := rfl
theorem lcd_is {g : XG} {t : XT} {el : XE} {e : W → Ev} {p : W → Bool} {h : W → W} : ∀ {ws : List W}, (∀ w ∈ ws, g w en S = .ok (e w) S) → (∀ w ∈ ws, t (e w) S = .ok (p w) S) → (∀ w ∈ ws, p w = true → el (e w) S = .ok (h w) S) → lcD g t el en ws S = .ok ((ws.filter p).map h) S
  | [], _, _, _ => rfl
  | w :: ws, hg, ht, he => by
    have ih := lcd_is (fun w h => hg w (List.mem_cons_of_mem _ h)) (fun w h => ht w (List.mem_cons_of_mem _ h)) fun w h => he w (List.mem_cons_of_mem _ h)
    show (noX (g w en S)).andThen _ = _
    rw [hg w List.mem_cons_self]
    show (noX (t (e w) S)).andThen _ = _
    rw [ht w List.mem_cons_self]
    show (if p w = true then _ else _) = _
    cases hp : p w with
    | true =>
      rw [if_pos rfl, he w List.mem_cons_self hp]
      show (lcD g t el en ws S).andThen _ = _
      rw [ih, List.filter_cons_of_pos hp]
      rfl
    | false =>
      rw [if_neg (by decide), List.filter_cons_of_neg (by rw [hp]; decide)]
      exact ih
theorem lcc_is {g : XG} {t : XT} {el : XE} {e : W → Ev} {p : W → Bool} {h : W → W} {n : Nat} {ws : List W} (hs : S[n]? = some (.lst ws)) : ∀ {m i : Nat}, ws.length < i + m → i ≤ ws.length → (∀ w ∈ ws, g w en S = .ok (e w) S) → (∀ w ∈ ws, t (e w) S = .ok (p w) S) →
    (∀ w ∈ ws, p w = true → el (e w) S = .ok (h w) S) → lcC g t el en n m i S = .ok (((ws.drop i).filter p).map h) S
  | 0, i, h1, h2, _, _, _ => by omega
  | m + 1, i, h1, h2, hg, ht, he => by
    have key : lcC g t el en n (m + 1) i S = (match ws[i]? with
      | none => .ok [] S
      | some w => (noX (g w en S)).andThen fun en1 S1 => (noX (t en1 S1)).andThen fun b S2 => if b then (noX (el en1 S2)).andThen fun y S3 => (lcC g t el en n m (i + 1) S3).andThen fun r S4 => .ok (y :: r) S4 else lcC g t el en n m (i + 1) S2) := by
      rw [lcC, hs] <;> rfl
    rw [key]
    by_cases hi : i < ws.length
    · have ew : ws[i]? = some ws[i] := List.getElem?_eq_getElem hi
      have hm : ws[i] ∈ ws := List.getElem_mem hi
      have ih := lcc_is hs (m := m) (i := i + 1) (by omega) (by omega) hg ht he
      rw [ew, List.drop_eq_getElem_cons hi]
      show (noX (g ws[i] en S)).andThen _ = _
      rw [hg _ hm]
      show (noX (t (e ws[i]) S)).andThen _ = _
      rw [ht _ hm]
      show (if p ws[i] = true then _ else _) = _
      cases hp : p ws[i] with
      | true =>
        rw [if_pos rfl, he _ hm hp]
        show (lcC g t el en n m (i + 1) S).andThen _ = _
        rw [ih, List.filter_cons_of_pos hp]
        rfl
      | false =>
        rw [if_neg (by decide), List.filter_cons_of_neg (by rw [hp]; decide)]
        exact ih
    · rw [List.getElem?_eq_none (by omega), List.drop_of_length_le (by omega)]
      rfl
theorem lcv_fx {cel : Bool} {g : XG} {t : XT} {el : XE} {e : W → Ev} {p : W → Bool} {h : W → W} {ws : List W} (hc : ws.length ≤ cap) (hg : ∀ w ∈ ws, g w en S = .ok (e w) S) (ht : ∀ w ∈ ws, t (e w) S = .ok (p w) S) (he : ∀ w ∈ ws, p w = true → el (e w) S = .ok (h w) S) :
    lcV cel g t el en (.fx ws) S = lstN cel ((ws.filter p).map h) S := by
  show (if ws.length ≤ cap then _ else _) = _
  rw [if_pos hc, lcd_is hg ht he]; rfl
theorem lcv_cel {cel : Bool} {g : XG} {t : XT} {el : XE} {e : W → Ev} {p : W → Bool} {h : W → W} {ws : List W} {n : Nat} (hs : S[n]? = some (.lst ws)) (hc : ws.length ≤ 1000000) (hg : ∀ w ∈ ws, g w en S = .ok (e w) S) (ht : ∀ w ∈ ws, t (e w) S = .ok (p w) S) (he : ∀ w ∈ ws, p w = true → el (e w) S = .ok (h w) S) :
    lcV cel g t el en (.cel n) S = lstN cel ((ws.filter p).map h) S := by
  have e1 : celL n S = some ws := by unfold celL; rw [hs]
  show (match celL n S with | some ws => _ | none => _) = _
  rw [e1]
  show (if ws.length ≤ 1000000 then _ else _) = _
  rw [if_pos hc, lcc_is hs (m := ws.length + 1) (i := 0) (by omega) (by omega) hg ht he]; rfl
theorem lcv_d {g : XG} {t : XT} {el : XE} {ds : List D} {e : D → Ev} {p : D → Bool} {h : D → D} (hc : ds.length ≤ cap) (hg : ∀ d ∈ ds, g (.d d) en S = .ok (e d) S) (ht : ∀ d ∈ ds, t (e d) S = .ok (p d) S) (he : ∀ d ∈ ds, p d = true → el (e d) S = .ok (.d (h d)) S) :
    lcV false g t el en (.fx (ds.map .d)) S = .ok (.d (.list ((ds.filter p).map h))) S := by
  have key := lcv_fx (cel := false) (g := g) (t := t) (el := el) (en := en) (S := S) (ws := ds.map .d) (e := fun w => match w with | .d d => e d | _ => en) (p := fun w => match w with | .d d => p d | _ => false) (h := fun w => match w with | .d d => .d (h d) | _ => w) (by simpa using hc) (fun w hw => by
    obtain ⟨d, hd, rfl⟩ := List.mem_map.mp hw
    exact hg d hd) (fun w hw => by
    obtain ⟨d, hd, rfl⟩ := List.mem_map.mp hw
    exact ht d hd) (fun w hw hp => by
    obtain ⟨d, hd, rfl⟩ := List.mem_map.mp hw
    exact he d hd hp)
  rw [key, List.filter_map, List.map_map]
  have e2 : ((ds.filter ((fun w => match w with | W.d d => p d | _ => false) ∘ W.d)).map ((fun w => match w with | W.d d => W.d (h d) | _ => w) ∘ W.d)) = ((ds.filter p).map h).map W.d := by
    rw [List.map_map]; rfl
  rw [e2, l_f]
theorem e_gfd {k : Nat} {f : Str} {o : XE} {w : W} : gFd k f o w en S = (o en S).andThen fun x S1 => (setG k f x w S1).andThen fun _ S2 => .ok en S2 := rfl
theorem e_gsb {set : W → W → W → Sto → Res Unit} {o i : XE} {w : W} : gSb set o i w en S = (o en S).andThen fun x S1 => (i en S1).andThen fun y S2 => (set x y w S2).andThen fun _ S3 => .ok en S3 := rfl
theorem e_mth {k : W → Sto → Bool} {g : W → List W → Sto → Res W} {o : XE} {a : XA} : xMth k g o a en S = (o en S).andThen fun w S1 => if k w S1 = true then (a en S1).andThen fun ws S2 => g w ws S2 else .bad := rfl
theorem e_met {run : RunF} {i : Nat} {w : W} {ws : List W} : gMet run i w ws S = run i (w :: ws) S := rfl
theorem e_mk {k : Nat} {init : List W → Sto → Res W} {a : XA} : xMk k init a en S = (a en S).andThen fun ws S1 => (init (.c S1.length :: ws) (S1 ++ [.ins k []])).andThen fun v S2 => match v with
  | .d .none => .ok (.c S1.length) S2
  | _ => .bad := rfl
theorem w_max {i j : Int} : maxG [.d (.int i), .d (.int j)] S = .ok (.d (.int (max i j))) S := by
  show Res.ok (W.d (PyData.int (if j > i then j else i))) S = _
  congr 3
  omega
theorem w_min {i j : Int} : minG [.d (.int i), .d (.int j)] S = .ok (.d (.int (min i j))) S := by
  show Res.ok (W.d (PyData.int (if j < i then j else i))) S = _
  congr 3
  omega
theorem w_rg1 {j : Int} : rngG [.d (.int j)] S = .ok (.r 0 j 1) S := rfl
theorem w_rg2 {i j : Int} : rngG [.d (.int i), .d (.int j)] S = .ok (.r i j 1) S := rfl
theorem w_rgd {i j : Int} : rngG [.d (.int i), .d (.int j), .d (.int (-1))] S = .ok (.r i j (-1)) S := rfl
theorem w_los {o : XE} : oSome o en S = (o en S).andThen fun x S1 => match x with
  | .d (.int i) => .ok (some i) S1
  | _ => .bad := rfl
theorem l_rg {i j c : Int} {n : Nat} (h : rgN i j c = some n) : lstG false [.r i j c] S = .ok (.d (.list (rgL i c n))) S := by
  simp only [lstG, h]
  exact l_f
theorem l_up {i j : Int} (h1 : -1000000 ≤ i) (h2 : i ≤ 1000000) (h3 : -1000000 ≤ j) (h4 : j ≤ 1000000) : lstG false [.r i j 1] S = .ok (.d (.list (rgL i 1 (j - i).toNat))) S := l_rg (rg_up (by omega) (by omega) (by omega) (by omega) (by unfold cap; omega))
theorem l_dn {i j : Int} (h1 : -1000000 ≤ i) (h2 : i ≤ 1000000) (h3 : -1000000 ≤ j) (h4 : j ≤ 1000000) : lstG false [.r i j (-1)] S = .ok (.d (.list (rgL i (-1) (i - j).toNat))) S := l_rg (rg_down (by omega) (by omega) (by omega) (by omega) (by unfold cap; omega))
theorem it_up {i j : Int} (h1 : -1000000 ≤ i) (h2 : i ≤ 1000000) (h3 : -1000000 ≤ j) (h4 : j ≤ 1000000) : itG (.r i j 1) S = .ok (.fx ((rgL i 1 (j - i).toNat).map .d)) S := it_r (rg_up (by omega) (by omega) (by omega) (by omega) (by unfold cap; omega))
end
def upI (i : Int) (n : Nat) : List Int := (List.range n).map fun k => i + (k : Nat)
def dnI (i : Int) (n : Nat) : List Int := (List.range n).map fun k => i - (k : Nat)
theorem rgL_up (i : Int) (n : Nat) : rgL i 1 n = (upI i n).map .int := by
  unfold rgL upI
  rw [List.map_map]
  congr 1
  funext k
  show PyData.int (i + (k : Nat) * 1) = PyData.int (i + (k : Nat))
  rw [Int.mul_one]
theorem rgL_dn (i : Int) (n : Nat) : rgL i (-1) n = (dnI i n).map .int := by
  unfold rgL dnI
  rw [List.map_map]
  congr 1
  funext k
  show PyData.int (i + (k : Nat) * (-1)) = PyData.int (i - (k : Nat))
  congr 1
  omega
theorem upI_0 (i : Int) : upI i 0 = [] := rfl
theorem upI_s (i : Int) (n : Nat) : upI i (n + 1) = i :: upI (i + 1) n := by
  unfold upI
  rw [List.range_succ_eq_map, List.map_cons, List.map_map]
  congr 1
  · simp
  · congr 1
    funext k
    show i + ((k + 1 : Nat) : Int) = i + 1 + (k : Nat)
    omega
theorem mem_upI {i x : Int} {n : Nat} : x ∈ upI i n ↔ i ≤ x ∧ x < i + n := by
  unfold upI
  rw [List.mem_map]
  constructor
  · rintro ⟨k, hk, rfl⟩
    have := List.mem_range.mp hk
    omega
  · intro h
    exact ⟨(x - i).toNat, List.mem_range.mpr (by omega), by omega⟩
end Mi
end
section
set_option Elab.async false
set_option linter.all false
set_option maxRecDepth 100000
set_option maxHeartbeats 16000000
namespace K75
open PySem L2 PyProof.Rows Mi
def top (i : Nat) : Stmt := PySem.Challenge.pw_soleholder_k75_whole_lines_right_or_not.main.body.getD i (.Pass ⟨0, 0, 0, 0⟩)
def inC (i j : Nat) : Stmt := match top i with
  | .ClassDef _ _ _ b _ _ _ _ _ _ _ => b.getD j (.Pass ⟨0, 0, 0, 0⟩)
  | _ => .Pass ⟨0, 0, 0, 0⟩
def b0 : Sxs := (.cons (.ret (.and (.bi .isi (.cons (.var 0) (.cons (.ty .int) .nil))) (.and (.not (.bi .isi (.cons (.var 0) (.cons (.ty .bool) .nil)))) (.one (.chn .LtE .LtE (.var 1) (.var 0) (.var 2))))))
    .nil)
def d0 : Ds := { at_ := ("is_whole", none), qual := "is_whole", st := top 4, N := ["value", "low", "high"], ps := ["value", "low", "high"], slots := 3, b := b0 }
def b1 : Sxs := (.cons (.ret (.and (.bi .isi (.cons (.var 0) (.cons (.ty .tuple) .nil))) (.one (.chn .LtE .LtE (.var 1) (.bi .len (.cons (.var 0) .nil)) (.var 2)))))
    .nil)
def d1 : Ds := { at_ := ("is_tuple_of", none), qual := "is_tuple_of", st := top 5, N := ["value", "low", "high"], ps := ["value", "low", "high"], slots := 3, b := b1 }
def b2 : Sxs := (.cons (.ifs (.or (.not (.fn 1 (.cons (.var 0) (.cons (.con (.int 4)) (.cons (.con (.int 4)) .nil))))) (.or (.not (.bi .isi (.cons (.ix (.var 0) (.con (.int 0))) (.cons (.ty .str) .nil)))) (.one (.cmp .NotIn (.ix (.var 0) (.con (.int 0))) (.glb 0))))) (.cons (.ret (.con (.bool false)))
    .nil) .nil)
    (.cons (.ret (.and (.fn 0 (.cons (.ix (.var 0) (.con (.int 1))) (.cons (.con (.int 0)) (.cons (.glb 2) .nil)))) (.and (.fn 0 (.cons (.ix (.var 0) (.con (.int 2))) (.cons (.con (.int 1)) (.cons (.glb 3) .nil)))) (.one (.fn 0 (.cons (.ix (.var 0) (.con (.int 3))) (.cons (.con (.int 0)) (.cons (.glb 3) .nil))))))))
    .nil))
def d2 : Ds := { at_ := ("is_line", none), qual := "is_line", st := top 12, N := ["value"], ps := ["value"], slots := 1, b := b2 }
def b3 : Sxs := (.cons (.ifs (.not (.fn 2 (.cons (.var 0) .nil))) (.cons (.rse 0)
    .nil) .nil)
    .nil)
def d3 : Ds := { at_ := ("need_line", none), qual := "need_line", st := top 13, N := ["value"], ps := ["value"], slots := 1, b := b3 }
def b4 : Sxs := (.cons (.ifs (.or (.not (.bi .isi (.cons (.var 0) (.cons (.ty .tuple) .nil)))) (.or (.cmp .Eq (.var 0) (.tup false .nil)) (.one (.not (.bi .isi (.cons (.ix (.var 0) (.con (.int 0))) (.cons (.ty .str) .nil))))))) (.cons (.ret (.con (.bool false)))
    .nil) .nil)
    (.cons (.ifs (.cmp .Eq (.ix (.var 0) (.con (.int 0))) (.con (.str "send"))) (.cons (.ret (.and (.cmp .Eq (.bi .len (.cons (.var 0) .nil)) (.con (.int 2))) (.one (.fn 0 (.cons (.ix (.var 0) (.con (.int 1))) (.cons (.con (.int 0)) (.cons (.glb 4) .nil)))))))
    .nil) .nil)
    (.cons (.ifs (.or (.cmp .NotIn (.ix (.var 0) (.con (.int 0))) (.tup false (.cons (.con (.str "lose")) (.cons (.con (.str "bring")) .nil)))) (.one (.cmp .NotEq (.bi .len (.cons (.var 0) .nil)) (.ite (.cmp .Eq (.ix (.var 0) (.con (.int 0))) (.con (.str "lose"))) (.con (.int 3)) (.con (.int 4)))))) (.cons (.ret (.con (.bool false)))
    .nil) .nil)
    (.cons (.ifs (.or (.not (.fn 0 (.cons (.ix (.var 0) (.con (.int 1))) (.cons (.con (.int 0)) (.cons (.con (.int 1)) .nil))))) (.one (.not (.fn 0 (.cons (.ix (.var 0) (.con (.int 2))) (.cons (.con (.int 0)) (.cons (.glb 4) .nil))))))) (.cons (.ret (.con (.bool false)))
    .nil) .nil)
    (.cons (.ret (.or (.cmp .Eq (.ix (.var 0) (.con (.int 0))) (.con (.str "lose"))) (.one (.bi .isi (.cons (.ix (.var 0) (.con (.int 3))) (.cons (.ty .bool) .nil))))))
    .nil)))))
def d4 : Ds := { at_ := ("is_step", none), qual := "is_step", st := top 15, N := ["value"], ps := ["value"], slots := 1, b := b4 }
def b5 : Sxs := (.cons (.asg (.tp (.cons (.nm 1) (.cons (.nm 2) (.cons (.nm 3) (.cons (.nm 4) .nil))))) (.var 0))
    (.cons (.ret (.and (.cmp .GtE (.var 4) (.var 3)) (.one (.or (.cmp .Eq (.var 2) (.con (.int 0))) (.one (.and (.cmp .Eq (.var 1) (.con (.str "kept"))) (.one (.cmp .GtE (.var 2) (.bin .Mult (.con (.int 2)) (.var 3))))))))))
    .nil))
def d5 : Ds := { at_ := ("right_in", none), qual := "right_in", st := top 16, N := ["line", "order", "ring", "under_way", "kept"], ps := ["line"], slots := 5, b := b5 }
def b6 : Sxs := (.cons (.exp (.fn 3 (.cons (.var 0) .nil)))
    (.cons (.ret (.fn 5 (.cons (.var 0) .nil)))
    .nil))
def d6 : Ds := { at_ := ("is_right", none), qual := "is_right", st := top 17, N := ["line"], ps := ["line"], slots := 1, b := b6 }
def b7 : Sxs := (.cons (.asg (.nm 1) (.bi .rng (.cons (.ix (.var 0) (.con (.int 2))) .nil)))
    (.cons (.asg (.nm 2) (.bin .Add (.lc false [("command", 3)] (.nm 3) (.val (.var 1)) .no (.tup false (.cons (.con (.str "send")) (.cons (.var 3) .nil)))) (.lc false [("command", 3)] (.nm 3) (.val (.var 1)) .no (.tup false (.cons (.con (.str "bring")) (.cons (.con (.int 0)) (.cons (.con (.int 0)) (.cons (.con (.bool false)) .nil))))))))
    (.cons (.ret (.bi .tup (.cons (.bin .Add (.var 2) (.lst false (.cons (.tup false (.cons (.con (.str "lose")) (.cons (.con (.int 1)) (.cons (.con (.int 0)) .nil)))) .nil))) .nil)))
    .nil)))
def d7 : Ds := { at_ := ("stuck_run", none), qual := "stuck_run", st := top 18, N := ["line", "commands", "steps", "command"], ps := ["line"], slots := 4, b := b7 }
def b8_0 : Sxs := (.cons (.asg (.nm 1) (.bin .Add (.var 1) (.lst false (.cons (.tup false (.cons (.con (.str "send")) (.cons (.var 2) .nil))) (.cons (.tup false (.cons (.con (.str "bring")) (.cons (.con (.int 0)) (.cons (.con (.int 1)) (.cons (.con (.bool false)) .nil))))) (.cons (.tup false (.cons (.con (.str "bring")) (.cons (.con (.int 1)) (.cons (.con (.int 0)) (.cons (.con (.bool false)) .nil))))) .nil))))))
    .nil)
def b8 : Sxs := (.cons (.asg (.tp (.cons (.nm 3) (.cons (.nm 4) (.cons (.nm 5) (.cons (.nm 6) .nil))))) (.var 0))
    (.cons (.ifs (.cmp .LtE (.var 4) (.var 5)) (.cons (.ret (.tup false (.cons (.tup false (.cons (.con (.str "send")) (.cons (.con (.int 0)) .nil))) (.cons (.tup false (.cons (.con (.str "bring")) (.cons (.con (.int 0)) (.cons (.con (.int 0)) (.cons (.con (.bool true)) .nil))))) (.cons (.tup false (.cons (.con (.str "bring")) (.cons (.con (.int 0)) (.cons (.con (.int 0)) (.cons (.con (.bool false)) .nil))))) .nil)))))
    .nil) .nil)
    (.cons (.ifs (.cmp .Eq (.var 3) (.con (.str "kept"))) (.cons (.asg (.nm 1) (.bin .Add (.lc false [("command", 2)] (.nm 2) (.val (.bi .rng (.cons (.var 5) .nil))) .no (.tup false (.cons (.con (.str "send")) (.cons (.var 2) .nil)))) (.lst false (.cons (.tup false (.cons (.con (.str "send")) (.cons (.con (.int 0)) .nil))) .nil))))
    (.cons (.ret (.bi .tup (.cons (.bin .Add (.var 1) (.lc false [("turn", 7)] (.nm 7) (.val (.bi .rng (.cons (.bin .Add (.var 5) (.con (.int 1))) .nil))) .no (.tup false (.cons (.con (.str "bring")) (.cons (.con (.int 0)) (.cons (.con (.int 0)) (.cons (.con (.bool false)) .nil))))))) .nil)))
    .nil)) .nil)
    (.cons (.asg (.nm 1) (.lst false (.cons (.tup false (.cons (.con (.str "send")) (.cons (.con (.int 0)) .nil))) (.cons (.tup false (.cons (.con (.str "bring")) (.cons (.con (.int 0)) (.cons (.con (.int 0)) (.cons (.con (.bool true)) .nil))))) (.cons (.tup false (.cons (.con (.str "bring")) (.cons (.con (.int 1)) (.cons (.con (.int 0)) (.cons (.con (.bool false)) .nil))))) .nil)))))
    (.cons (.for 100000 (.nm 2) (.val (.bi .rng (.cons (.con (.int 1)) (.cons (.bin .Add (.bin .Sub (.var 4) (.var 5)) (.con (.int 1))) .nil)))) b8_0)
    (.cons (.ret (.bi .tup (.cons (.bin .Add (.var 1) (.lst false (.cons (.tup false (.cons (.con (.str "bring")) (.cons (.con (.int 0)) (.cons (.con (.int 0)) (.cons (.con (.bool false)) .nil))))) .nil))) .nil)))
    .nil))))))
def d8 : Ds := { at_ := ("doubled_run", none), qual := "doubled_run", st := top 19, N := ["line", "steps", "command", "order", "ring", "under_way", "kept", "turn"], ps := ["line"], slots := 8, b := b8 }
def b9 : Sxs := (.cons (.exp (.fn 3 (.cons (.var 0) .nil)))
    (.cons (.ifs (.fn 5 (.cons (.var 0) .nil)) (.cons (.ret (.con .none))
    .nil) .nil)
    (.cons (.ifs (.cmp .Lt (.ix (.var 0) (.con (.int 3))) (.ix (.var 0) (.con (.int 2)))) (.cons (.ret (.tup false (.cons (.con (.str "stuck")) (.cons (.fn 7 (.cons (.var 0) .nil)) .nil))))
    .nil) .nil)
    (.cons (.ret (.tup false (.cons (.con (.str "twice")) (.cons (.fn 8 (.cons (.var 0) .nil)) .nil))))
    .nil))))
def d9 : Ds := { at_ := ("bad_run", none), qual := "bad_run", st := top 20, N := ["line"], ps := ["line"], slots := 1, b := b9 }
def b10_0 : Sxs := (.cons (.ifs (.or (.cmp .NotEq (.met 0 "badness" 37 (.var 2) .nil) (.lst false .nil)) (.one (.not (.met 0 "do" 31 (.var 2) (.cons (.var 3) .nil))))) (.cons (.ret (.con (.bool false)))
    .nil) .nil)
    .nil)
def b10 : Sxs := (.cons (.exp (.fn 3 (.cons (.var 0) .nil)))
    (.cons (.ifs (.or (.not (.fn 1 (.cons (.var 1) (.cons (.con (.int 2)) (.cons (.con (.int 2)) .nil))))) (.or (.not (.bi .isi (.cons (.ix (.var 1) (.con (.int 0))) (.cons (.ty .str) .nil)))) (.one (.cmp .NotIn (.ix (.var 1) (.con (.int 0))) (.glb 1))))) (.cons (.ret (.con (.bool false)))
    .nil) .nil)
    (.cons (.ifs (.or (.not (.fn 1 (.cons (.ix (.var 1) (.con (.int 1))) (.cons (.con (.int 0)) (.cons (.glb 4) .nil))))) (.one (.not (.bi .all (.cons (.lc false [("step", 3)] (.nm 3) (.val (.ix (.var 1) (.con (.int 1)))) .no (.fn 4 (.cons (.var 3) .nil))) .nil))))) (.cons (.ret (.con (.bool false)))
    .nil) .nil)
    (.cons (.asg (.nm 2) (.mk 0 29 (.cons (.var 0) .nil)))
    (.cons (.for 100000 (.nm 3) (.val (.ix (.var 1) (.con (.int 1)))) b10_0)
    (.cons (.ret (.cmp .In (.ix (.var 1) (.con (.int 0))) (.met 0 "badness" 37 (.var 2) .nil)))
    .nil))))))
def d10 : Ds := { at_ := ("is_bad_run", none), qual := "is_bad_run", st := top 21, N := ["line", "value", "traffic", "step"], ps := ["line", "value"], slots := 4, b := b10 }
def b11 : Sxs := (.cons (.exp (.fn 3 (.cons (.tup false (.cons (.var 0) (.cons (.con (.int 0)) (.cons (.var 1) (.cons (.var 2) .nil))))) .nil)))
    (.cons (.ret (.ite (.and (.cmp .Eq (.var 0) (.con (.str "kept"))) (.one (.cmp .GtE (.var 2) (.var 1)))) (.bin .Mult (.con (.int 2)) (.var 1)) (.con .none)))
    .nil))
def d11 : Ds := { at_ := ("least_ring", none), qual := "least_ring", st := top 22, N := ["order", "under_way", "kept"], ps := ["order", "under_way", "kept"], slots := 3, b := b11 }
def b12 : Sxs := (.cons (.asg (.nm 1) (.bi .abs (.cons (.ix (.bin .Add (.bi (.lst false) (.cons (.var 0) .nil)) (.lst false (.cons (.con (.int 0)) .nil))) (.con (.int 0))) .nil)))
    (.cons (.ret (.lst true (.cons (.ite (.cmp .GtE (.var 1) (.bin .Pow (.con (.int 10)) (.con (.int 18)))) (.bin .FloorDiv (.var 1) (.con (.int 83))) (.con (.int 0))) (.cons (.bin .Add (.bin .Mod (.bi .int (.cons (.bin .Add (.bin .Mult (.var 1) (.con (.int 311))) (.con (.int 4597))) .nil)) (.con (.int 2061584333))) (.con (.int 179))) .nil))))
    .nil))
def d12 : Ds := { at_ := ("_law_cup", none), qual := "_law_cup", st := top 24, N := ["script", "cell"], ps := ["script"], slots := 2, b := b12 }
def b13 : Sxs := (.cons (.ifs (.cmp .Gt (.ix (.var 0) (.con (.int 0))) (.con (.int 0))) (.cons (.asg (.nm 3) (.bin .Mod (.bi .int (.cons (.ix (.var 0) (.con (.int 0))) .nil)) (.var 1)))
    (.cons (.asg (.sub (.var 0) (.con (.int 0))) (.bin .FloorDiv (.ix (.var 0) (.con (.int 0))) (.var 1)))
    (.cons (.ret (.var 3))
    .nil))) .nil)
    (.cons (.asg (.sub (.var 0) (.con (.int 1))) (.bin .Mod (.bi .int (.cons (.bin .Add (.bin .Mult (.ix (.var 0) (.con (.int 1))) (.con (.int 30757))) (.con (.int 8219))) .nil)) (.con (.int 2147483543))))
    (.cons (.asg (.nm 2) (.bin .Mod (.bi .int (.cons (.bin .Mult (.ix (.var 0) (.con (.int 1))) (.bin .Add (.ix (.var 0) (.con (.int 1))) (.con (.int 251)))) .nil)) (.con (.int 2147483587))))
    (.cons (.ret (.bin .Mod (.bi .int (.cons (.bin .FloorDiv (.var 2) (.con (.int 829))) .nil)) (.var 1)))
    .nil))))
def d13 : Ds := { at_ := ("_law_roll", none), qual := "_law_roll", st := top 25, N := ["cup", "many", "deep", "found"], ps := ["cup", "many"], slots := 4, b := b13 }
def b14 : Sxs := (.cons (.ret (.ix (.var 1) (.fn 13 (.cons (.var 0) (.cons (.bi .len (.cons (.var 1) .nil)) .nil)))))
    .nil)
def d14 : Ds := { at_ := ("_law_some", none), qual := "_law_some", st := top 26, N := ["cup", "things"], ps := ["cup", "things"], slots := 2, b := b14 }
def b15 : Sxs := (.cons (.ifs (.or (.cmp .Is (.var 0) (.con .none)) (.one (.bi .isi (.cons (.var 0) (.cons (.ty .bool) .nil))))) (.cons (.ret (.ite (.cmp .Is (.var 0) (.con .none)) (.con (.int 0)) (.con (.int 1))))
    .nil) .nil)
    (.cons (.ifs (.or (.bi .isi (.cons (.var 0) (.cons (.ty .int) .nil))) (.one (.bi .isi (.cons (.var 0) (.cons (.ty .str) .nil))))) (.cons (.ret (.ite (.bi .isi (.cons (.var 0) (.cons (.ty .int) .nil))) (.con (.int 2)) (.con (.int 3))))
    .nil) .nil)
    (.cons (.ret (.ite (.bi .isi (.cons (.var 0) (.cons (.ty .tuple) .nil))) (.con (.int 4)) (.ite (.bi .isi (.cons (.var 0) (.cons (.ty .list) .nil))) (.con (.int 5)) (.con (.int 6)))))
    .nil)))
def d15 : Ds := { at_ := ("_law_sort", none), qual := "_law_sort", st := top 27, N := ["value"], ps := ["value"], slots := 1, b := b15 }
def b16 : Sxs := (.cons (.asg (.nm 2) (.fn 15 (.cons (.var 1) .nil)))
    (.cons (.ifs (.or (.cmp .NotEq (.fn 15 (.cons (.var 0) .nil)) (.var 2)) (.one (.cmp .Eq (.var 2) (.con (.int 6))))) (.cons (.ret (.con (.bool false)))
    .nil) .nil)
    (.cons (.ifs (.cmp .In (.var 2) (.tup false (.cons (.con (.int 4)) (.cons (.con (.int 5)) .nil)))) (.cons (.ret (.and (.cmp .Eq (.bi .len (.cons (.var 0) .nil)) (.bi .len (.cons (.var 1) .nil))) (.one (.cmp .Eq (.lc false [("first", 3), ("second", 4)] (.tp (.cons (.nm 3) (.cons (.nm 4) .nil))) (.zip (.cons (.var 0) (.cons (.var 1) .nil))) (.yes (.not (.fn 16 (.cons (.var 3) (.cons (.var 4) .nil))))) (.con (.int 1))) (.lst false .nil)))))
    .nil) .nil)
    (.cons (.ret (.cmp .Eq (.var 0) (.var 1)))
    .nil))))
def d16 : Ds := { at_ := ("_law_like", none), qual := "_law_like", st := top 28, N := ["one", "other", "sort", "first", "second"], ps := ["one", "other"], slots := 5, b := b16 }
def b17 : Sxs := (.cons (.asg (.nm 7) (.bi .min (.cons (.lc false [("command", 9)] (.nm 9) (.val (.bi .rng (.cons (.bin .Add (.var 1) (.con (.int 1))) .nil))) (.yes (.cmp .NotIn (.var 9) (.var 3))) (.var 9)) .nil)))
    (.cons (.asg (.nm 8) (.and (.cmp .Lt (.var 7) (.bin .Sub (.var 2) (.ix (.var 0) (.con (.int 3))))) (.one (.cmp .NotIn (.var 7) (.var 4)))))
    (.cons (.ret (.lc false [("word", 10), ("holds", 11)] (.tp (.cons (.nm 10) (.cons (.nm 11) .nil))) (.val (.tup false (.cons (.tup false (.cons (.con (.str "twice")) (.cons (.var 5) .nil))) (.cons (.tup false (.cons (.con (.str "wrong")) (.cons (.var 6) .nil))) (.cons (.tup false (.cons (.con (.str "stuck")) (.cons (.var 8) .nil))) .nil))))) (.yes (.var 11)) (.var 10)))
    .nil)))
def d17 : Ds := { at_ := ("_law_words", none), qual := "_law_words", st := top 29, N := ["line", "sent", "done", "told", "back", "twice", "wrong", "least", "is_stuck", "command", "word", "holds"], ps := ["line", "sent", "done", "told", "back", "twice", "wrong"], slots := 12, b := b17 }
def b18 : Sxs := (.cons (.ret (.ite (.cmp .Eq (.ix (.var 0) (.con (.int 1))) (.con (.int 0))) (.cmp .Eq (.var 1) (.var 2)) (.cmp .Eq (.bin .Mod (.bi .int (.cons (.bin .Sub (.var 1) (.var 2)) .nil)) (.ix (.var 0) (.con (.int 1)))) (.con (.int 0)))))
    .nil)
def d18 : Ds := { at_ := ("_law_same", none), qual := "_law_same", st := top 30, N := ["line", "one", "other"], ps := ["line", "one", "other"], slots := 3, b := b18 }
def b19 : Sxs := (.cons (.asg (.nm 4) (.bi .min (.cons (.lc false [("one", 5)] (.nm 5) (.val (.bi .rng (.cons (.bin .Add (.var 1) (.con (.int 1))) .nil))) (.yes (.cmp .NotIn (.var 5) (.var 2))) (.var 5)) .nil)))
    (.cons (.ret (.and (.cmp .NotIn (.var 3) (.var 2)) (.and (.chn .LtE .Lt (.var 4) (.var 3) (.bin .Add (.var 4) (.ix (.var 0) (.con (.int 2))))) (.one (.cmp .LtE (.var 3) (.var 1))))))
    .nil))
def d19 : Ds := { at_ := ("_law_sent", none), qual := "_law_sent", st := top 31, N := ["line", "sent", "told", "command", "least", "one"], ps := ["line", "sent", "told", "command"], slots := 6, b := b19 }
def b20_0 : Sxs := (.cons (.exp (.mth .app (.ix (.var 8) (.con (.int 1))) (.cons (.var 5) .nil)))
    (.cons (.asg (.nm 5) (.bin .Add (.var 5) (.con (.int 1))))
    .nil))
def b20_1 : Sxs := (.cons (.asg (.nm 13) (.lc false [("one", 16)] (.nm 16) (.val (.bi .rng (.cons (.var 5) (.cons (.bin .Add (.var 5) (.ix (.var 0) (.con (.int 2)))) .nil)))) (.yes (.fn 18 (.cons (.var 0) (.cons (.var 16) (.cons (.var 12) .nil))))) (.var 16)))
    (.cons (.asg (.nm 14) (.lc false [("one", 16)] (.nm 16) (.val (.bi .rng (.cons (.bi .max (.cons (.con (.int 0)) (.cons (.bin .Sub (.var 5) (.ix (.var 0) (.con (.int 3)))) .nil))) (.cons (.var 5) .nil)))) (.yes (.fn 18 (.cons (.var 0) (.cons (.var 16) (.cons (.var 12) .nil))))) (.var 16)))
    (.cons (.ifs (.and (.cmp .NotEq (.var 13) (.lst false .nil)) (.one (.cmp .NotIn (.ix (.var 13) (.con (.int 0))) (.var 6)))) (.cons (.par (.cons (.sub (.var 6) (.ix (.var 13) (.con (.int 0)))) (.cons (.nm 9) .nil)) (.cons (.var 12) (.cons (.or (.var 9) (.one (.cmp .NotEq (.ix (.var 13) (.con (.int 0))) (.var 12)))) .nil)))
    .nil) .nil)
    (.cons (.ifs (.and (.cmp .Eq (.var 13) (.lst false .nil)) (.one (.cmp .NotEq (.var 14) (.lst false .nil)))) (.cons (.exp (.mth .app (.ix (.var 8) (.con (.int 1))) (.cons (.ix (.var 14) (.neg (.con (.int 1)))) .nil)))
    .nil) .nil)
    (.cons (.whl 100000 (.cmp .In (.var 5) (.var 6)) b20_0)
    .nil)))))
def b20_2 : Sxs := (.cons (.asg (.nm 12) (.ix (.var 11) (.ix (.var 3) (.con (.int 2)))))
    (.cons (.ifs (.or (.cmp .Eq (.ix (.var 3) (.con (.int 0))) (.con (.str "lose"))) (.one (.not (.ix (.var 3) (.con (.int 3)))))) (.cons (.exp (.mth .pop (.var 11) (.cons (.ix (.var 3) (.con (.int 2))) .nil)))
    .nil) .nil)
    (.cons (.ifs (.and (.cmp .Eq (.ix (.var 3) (.con (.int 0))) (.con (.str "bring"))) (.one (.cmp .Eq (.ix (.var 3) (.con (.int 1))) (.con (.int 0))))) b20_1 .nil)
    (.cons (.ifs (.and (.cmp .Eq (.ix (.var 3) (.con (.int 0))) (.con (.str "bring"))) (.one (.cmp .Eq (.ix (.var 3) (.con (.int 1))) (.con (.int 1))))) (.cons (.asg (.nm 15) (.lc false [("one", 16)] (.nm 16) (.val (.bi .rng (.cons (.var 4) .nil))) (.yes (.and (.cmp .NotIn (.var 16) (.var 7)) (.one (.fn 18 (.cons (.var 0) (.cons (.var 16) (.cons (.var 12) .nil))))))) (.var 16)))
    (.cons (.ifs (.cmp .NotEq (.var 15) (.lst false .nil)) (.cons (.par (.cons (.sub (.var 7) (.ix (.var 15) (.con (.int 0)))) (.cons (.nm 10) .nil)) (.cons (.var 12) (.cons (.or (.var 10) (.one (.cmp .NotEq (.ix (.var 15) (.con (.int 0))) (.var 12)))) .nil)))
    .nil) .nil)
    .nil)) .nil)
    .nil))))
def b20_3 : Sxs := (.cons (.asg (.nm 11) (.ite (.cmp .NotEq (.ix (.var 3) (.con (.int 0))) (.con (.str "send"))) (.ix (.var 8) (.ix (.var 3) (.con (.int 1)))) (.lst false .nil)))
    (.cons (.ifs (.cmp .Eq (.ix (.var 3) (.con (.int 0))) (.con (.str "send"))) (.cons (.ifs (.not (.fn 19 (.cons (.var 0) (.cons (.var 4) (.cons (.var 7) (.cons (.ix (.var 3) (.con (.int 1))) .nil)))))) (.cons (.ret (.con .none))
    .nil) .nil)
    (.cons (.asg (.nm 4) (.bi .max (.cons (.var 4) (.cons (.bin .Add (.ix (.var 3) (.con (.int 1))) (.con (.int 1))) .nil))))
    (.cons (.exp (.mth .app (.ix (.var 8) (.con (.int 0))) (.cons (.ix (.var 3) (.con (.int 1))) .nil)))
    .nil))) (.cons (.ifs (.or (.cmp .GtE (.ix (.var 3) (.con (.int 2))) (.bi .len (.cons (.var 11) .nil))) (.one (.and (.cmp .Eq (.ix (.var 3) (.con (.int 0))) (.con (.str "bring"))) (.and (.cmp .Eq (.ix (.var 0) (.con (.int 0))) (.con (.str "kept"))) (.one (.cmp .Gt (.ix (.var 3) (.con (.int 2))) (.con (.int 0)))))))) (.cons (.ret (.con .none))
    .nil) .nil)
    .nil))
    (.cons (.ifs (.cmp .NotEq (.ix (.var 3) (.con (.int 0))) (.con (.str "send"))) b20_2 .nil)
    (.cons (.exp (.mth .app (.var 2) (.cons (.fn 17 (.cons (.var 0) (.cons (.var 4) (.cons (.var 5) (.cons (.var 7) (.cons (.ix (.var 8) (.con (.int 1))) (.cons (.var 9) (.cons (.var 10) .nil)))))))) .nil)))
    .nil))))
def b20 : Sxs := (.cons (.par (.cons (.nm 4) (.cons (.nm 5) (.cons (.nm 6) (.cons (.nm 7) (.cons (.nm 8) (.cons (.nm 9) (.cons (.nm 10) .nil))))))) (.cons (.con (.int 0)) (.cons (.con (.int 0)) (.cons .dic (.cons .dic (.cons (.tup true (.cons (.lst true .nil) (.cons (.lst true .nil) .nil))) (.cons (.con (.bool false)) (.cons (.con (.bool false)) .nil))))))))
    (.cons (.asg (.nm 2) (.lst true (.cons (.lst false .nil) .nil)))
    (.cons (.for 100000 (.nm 3) (.val (.var 1)) b20_3)
    (.cons (.ret (.var 2))
    .nil))))
def d20 : Ds := { at_ := ("_law_run", none), qual := "_law_run", st := top 32, N := ["line", "steps", "found", "step", "sent", "done", "put", "told", "rows", "twice", "wrong", "row", "message", "new", "old", "taken", "one"], ps := ["line", "steps"], slots := 17, b := b20 }
def b21 : Sxs := (.cons (.asg (.nm 3) (.fn 20 (.cons (.var 0) (.cons (.var 2) .nil))))
    (.cons (.ret (.and (.cmp .IsNot (.var 3) (.con .none)) (.and (.cmp .In (.var 1) (.ix (.var 3) (.neg (.con (.int 1))))) (.one (.cmp .Eq (.lc false [("words", 4)] (.nm 4) (.val (.sl false (.var 3) .no (.yes (.neg (.con (.int 1)))))) (.yes (.cmp .NotEq (.var 4) (.lst false .nil))) (.con (.int 1))) (.lst false .nil))))))
    .nil))
def d21 : Ds := { at_ := ("_law_is_bad", none), qual := "_law_is_bad", st := top 33, N := ["line", "word", "steps", "found", "words"], ps := ["line", "word", "steps"], slots := 5, b := b21 }
def b22 : Sxs := (.cons (.asg (.nm 2) (.fn 13 (.cons (.var 0) (.cons (.con (.int 8)) .nil))))
    (.cons (.ifs (.cmp .Lt (.var 2) (.con (.int 3))) (.cons (.ret (.tup false (.cons (.con (.str "send")) (.cons (.fn 13 (.cons (.var 0) (.cons (.bin .Add (.var 1) (.con (.int 4))) .nil))) .nil))))
    .nil) .nil)
    (.cons (.ifs (.cmp .Eq (.var 2) (.con (.int 3))) (.cons (.ret (.tup false (.cons (.con (.str "lose")) (.cons (.fn 13 (.cons (.var 0) (.cons (.con (.int 2)) .nil))) (.cons (.fn 14 (.cons (.var 0) (.cons (.lst false (.cons (.con (.int 0)) (.cons (.con (.int 0)) (.cons (.con (.int 1)) .nil)))) .nil))) .nil)))))
    .nil) .nil)
    (.cons (.ret (.tup false (.cons (.con (.str "bring")) (.cons (.fn 13 (.cons (.var 0) (.cons (.con (.int 2)) .nil))) (.cons (.fn 14 (.cons (.var 0) (.cons (.lst false (.cons (.con (.int 0)) (.cons (.con (.int 0)) (.cons (.con (.int 0)) (.cons (.con (.int 1)) (.cons (.con (.int 2)) .nil)))))) .nil))) (.cons (.cmp .Eq (.fn 13 (.cons (.var 0) (.cons (.con (.int 3)) .nil))) (.con (.int 0))) .nil))))))
    .nil))))
def d22 : Ds := { at_ := ("_law_step", none), qual := "_law_step", st := top 34, N := ["cup", "wide", "way"], ps := ["cup", "wide"], slots := 3, b := b22 }
def b23_0 : Sxs := (.cons (.asg (.nm 5) (.fn 20 (.cons (.var 1) (.cons (.var 3) .nil))))
    (.cons (.asg (.nm 6) (.bin .Add (.var 3) (.tup false (.cons (.fn 22 (.cons (.var 0) (.cons (.ix (.var 1) (.con (.int 2))) .nil))) .nil))))
    (.cons (.ifs (.and (.cmp .Eq (.ix (.var 5) (.neg (.con (.int 1)))) (.lst false .nil)) (.one (.cmp .IsNot (.fn 20 (.cons (.var 1) (.cons (.var 6) .nil))) (.con .none)))) (.cons (.asg (.nm 3) (.var 6))
    .nil) .nil)
    .nil)))
def b23 : Sxs := (.cons (.asg (.nm 3) (.tup false .nil))
    (.cons (.for 100000 (.nm 4) (.val (.bi .rng (.cons (.var 2) .nil))) b23_0)
    (.cons (.ret (.tup false (.cons (.var 3) (.cons (.ix (.fn 20 (.cons (.var 1) (.cons (.var 3) .nil))) (.neg (.con (.int 1)))) .nil))))
    .nil)))
def d23 : Ds := { at_ := ("_law_drawn", none), qual := "_law_drawn", st := top 35, N := ["cup", "line", "many", "steps", "turn", "found", "other"], ps := ["cup", "line", "many"], slots := 7, b := b23 }
def b24 : Sxs := (.cons (.asg (.nm 1) (.fn 14 (.cons (.var 0) (.cons (.lst false (.cons (.con (.int 1)) (.cons (.con (.int 1)) (.cons (.con (.int 2)) (.cons (.con (.int 2)) (.cons (.con (.int 3)) (.cons (.con (.int 4)) (.cons (.con (.int 16)) .nil)))))))) .nil))))
    (.cons (.asg (.nm 2) (.bi .max (.cons (.con (.int 0)) (.cons (.bi .min (.cons (.con (.int 16)) (.cons (.bin .Add (.var 1) (.fn 14 (.cons (.var 0) (.cons (.lst false (.cons (.neg (.con (.int 1))) (.cons (.con (.int 0)) (.cons (.con (.int 0)) (.cons (.con (.int 0)) (.cons (.con (.int 1)) (.cons (.con (.int 5)) .nil))))))) .nil)))) .nil))) .nil))))
    (.cons (.asg (.nm 3) (.fn 14 (.cons (.var 0) (.cons (.lst false (.cons (.con (.int 0)) (.cons (.con (.int 1)) (.cons (.bin .Sub (.bin .Mult (.con (.int 2)) (.var 1)) (.con (.int 1))) (.cons (.bin .Mult (.con (.int 2)) (.var 1)) (.cons (.bin .Add (.bin .Mult (.con (.int 2)) (.var 1)) (.con (.int 1))) (.cons (.var 1) (.cons (.bin .Add (.var 1) (.con (.int 1))) (.cons (.con (.int 64)) (.cons (.fn 13 (.cons (.var 0) (.cons (.con (.int 65)) .nil))) .nil)))))))))) .nil))))
    (.cons (.ret (.tup false (.cons (.fn 14 (.cons (.var 0) (.cons (.lst false (.cons (.con (.str "kept")) (.cons (.con (.str "kept")) (.cons (.con (.str "any")) .nil)))) .nil))) (.cons (.var 3) (.cons (.var 1) (.cons (.var 2) .nil))))))
    .nil))))
def d24 : Ds := { at_ := ("_law_line", none), qual := "_law_line", st := top 36, N := ["cup", "wide", "kept", "ring"], ps := ["cup"], slots := 4, b := b24 }
def b25 : Sxs := (.cons (.ret (.and (.cmp .GtE (.ix (.var 0) (.con (.int 3))) (.ix (.var 0) (.con (.int 2)))) (.one (.or (.cmp .Eq (.ix (.var 0) (.con (.int 1))) (.con (.int 0))) (.one (.and (.cmp .Eq (.ix (.var 0) (.con (.int 0))) (.con (.str "kept"))) (.one (.cmp .GtE (.ix (.var 0) (.con (.int 1))) (.bin .Mult (.con (.int 2)) (.ix (.var 0) (.con (.int 2))))))))))))
    .nil)
def d25 : Ds := { at_ := ("_law_is_right", none), qual := "_law_is_right", st := top 37, N := ["line"], ps := ["line"], slots := 1, b := b25 }
def b26 : Sxs := (.cons .bad
    (.cons (.ret (.con (.bool false)))
    .nil))
def d26 : Ds := { at_ := ("_law_refused", none), qual := "_law_refused", st := top 38, N := ["call", "e"], ps := ["call"], slots := 2, b := b26 }
def b27 : Sxs := (.cons (.asg (.nm 2) (.fn 25 (.cons (.var 1) .nil)))
    (.cons (.ifs (.not (.fn 16 (.cons (.lst false (.cons (.fn 2 (.cons (.var 1) .nil)) (.cons (.fn 6 (.cons (.var 1) .nil)) .nil))) (.cons (.lst false (.cons (.con (.bool true)) (.cons (.var 2) .nil))) .nil)))) (.cons (.ret (.con (.bool false)))
    .nil) .nil)
    (.cons (.asg (.nm 3) (.fn 9 (.cons (.var 1) .nil)))
    (.cons (.ifs (.var 2) (.cons (.asg (.tp (.cons (.nm 4) (.cons (.nm 5) .nil))) (.fn 23 (.cons (.var 0) (.cons (.var 1) (.cons (.con (.int 14)) .nil)))))
    (.cons (.ifs (.or (.cmp .NotEq (.var 5) (.lst false .nil)) (.one (.cmp .NotEq (.lc false [("word", 6)] (.nm 6) (.val (.tup false (.cons (.con (.str "twice")) (.cons (.con (.str "wrong")) (.cons (.con (.str "stuck")) .nil))))) (.yes (.cmp .IsNot (.fn 10 (.cons (.var 1) (.cons (.tup false (.cons (.var 6) (.cons (.var 4) .nil))) .nil))) (.con (.bool false)))) (.var 6)) (.lst false .nil)))) (.cons (.ret (.con (.bool false)))
    .nil) .nil)
    (.cons (.ret (.cmp .Is (.var 3) (.con .none)))
    .nil))) .nil)
    (.cons (.ifs (.or (.not (.bi .isi (.cons (.var 3) (.cons (.ty .tuple) .nil)))) (.or (.cmp .NotEq (.bi .len (.cons (.var 3) .nil)) (.con (.int 2))) (.one (.not (.bi .isi (.cons (.ix (.var 3) (.con (.int 1))) (.cons (.ty .tuple) .nil))))))) (.cons (.ret (.con (.bool false)))
    .nil) .nil)
    (.cons (.ret (.and (.fn 21 (.cons (.var 1) (.cons (.ix (.var 3) (.con (.int 0))) (.cons (.ix (.var 3) (.con (.int 1))) .nil)))) (.one (.cmp .Is (.fn 10 (.cons (.var 1) (.cons (.var 3) .nil))) (.con (.bool true))))))
    .nil))))))
def d27 : Ds := { at_ := ("_law_line_right", none), qual := "_law_line_right", st := top 39, N := ["cup", "line", "due", "found", "steps", "words", "word"], ps := ["cup", "line"], slots := 7, b := b27 }
def b28_0 : Sxs := (.cons (.asg (.nm 7) (.fn 24 (.cons (.var 1) .nil)))
    (.cons (.ifs (.not (.fn 27 (.cons (.var 1) (.cons (.var 7) .nil)))) (.cons (.ret (.con (.bool false)))
    .nil) .nil)
    (.cons (.par (.cons (.nm 9) (.cons (.nm 10) (.cons (.nm 11) .nil))) (.cons (.ix (.var 7) (.con (.int 0))) (.cons (.ix (.var 7) (.con (.int 2))) (.cons (.ix (.var 7) (.con (.int 3))) .nil))))
    (.cons (.asg (.nm 8) (.ite (.and (.cmp .Eq (.var 9) (.con (.str "kept"))) (.one (.cmp .GtE (.var 11) (.var 10)))) (.bin .Mult (.con (.int 2)) (.var 10)) (.con .none)))
    (.cons (.ifs (.not (.fn 16 (.cons (.fn 11 (.cons (.var 9) (.cons (.var 10) (.cons (.var 11) .nil)))) (.cons (.var 8) .nil)))) (.cons (.ret (.con (.bool false)))
    .nil) .nil)
    .nil)))))
def b28 : Sxs := (.cons (.asg (.nm 1) (.fn 12 (.cons (.var 0) .nil)))
    (.cons (.for 100000 (.nm 2) (.val (.bi .rng (.cons (.con (.int 6)) .nil))) b28_0)
    (.cons (.asg (.nm 3) (.lst false (.cons (.tup false (.cons (.con (.str "kept")) (.cons (.con (.int 31)) (.cons (.con (.int 16)) (.cons (.con (.int 16)) .nil))))) (.cons (.tup false (.cons (.con (.str "kept")) (.cons (.con (.int 32)) (.cons (.con (.int 16)) (.cons (.con (.int 16)) .nil))))) (.cons (.tup false (.cons (.con (.str "kept")) (.cons (.con (.int 2)) (.cons (.con (.int 1)) (.cons (.con (.int 1)) .nil))))) (.cons (.tup false (.cons (.con (.str "kept")) (.cons (.con (.int 1)) (.cons (.con (.int 1)) (.cons (.con (.int 1)) .nil))))) (.cons (.tup false (.cons (.con (.str "kept")) (.cons (.con (.int 64)) (.cons (.con (.int 16)) (.cons (.con (.int 15)) .nil))))) (.cons (.tup false (.cons (.con (.str "any")) (.cons (.con (.int 64)) (.cons (.con (.int 1)) (.cons (.con (.int 16)) .nil))))) (.cons (.tup false (.cons (.con (.str "any")) (.cons (.con (.int 0)) (.cons (.con (.int 16)) (.cons (.con (.int 16)) .nil))))) .nil)))))))))
    (.cons (.ifs (.cmp .NotEq (.lc false [("row", 13)] (.nm 13) (.val (.var 3)) .no (.fn 6 (.cons (.var 13) .nil))) (.lst false (.cons (.con (.bool false)) (.cons (.con (.bool true)) (.cons (.con (.bool true)) (.cons (.con (.bool false)) (.cons (.con (.bool false)) (.cons (.con (.bool false)) (.cons (.con (.bool true)) .nil))))))))) (.cons (.ret (.con (.bool false)))
    .nil) .nil)
    (.cons (.ifs (.not (.fn 16 (.cons (.lst false (.cons (.fn 11 (.cons (.con (.str "kept")) (.cons (.con (.int 5)) (.cons (.con (.int 9)) .nil)))) (.cons (.fn 11 (.cons (.con (.str "any")) (.cons (.con (.int 1)) (.cons (.con (.int 1)) .nil)))) (.cons (.fn 11 (.cons (.con (.str "kept")) (.cons (.con (.int 2)) (.cons (.con (.int 1)) .nil)))) (.cons (.fn 11 (.cons (.con (.str "kept")) (.cons (.con (.int 16)) (.cons (.con (.int 16)) .nil)))) .nil))))) (.cons (.lst false (.cons (.con (.int 10)) (.cons (.con .none) (.cons (.con .none) (.cons (.con (.int 32)) .nil))))) .nil)))) (.cons (.ret (.con (.bool false)))
    .nil) .nil)
    (.cons (.asg (.nm 4) (.lst false (.cons (.con .none) (.cons (.tup false .nil) (.cons (.tup false (.cons (.con (.str "kept")) (.cons (.con (.int 4)) (.cons (.con (.int 2)) .nil)))) (.cons (.lst false (.cons (.con (.str "kept")) (.cons (.con (.int 4)) (.cons (.con (.int 2)) (.cons (.con (.int 2)) .nil))))) (.cons (.tup false (.cons (.con (.str "lost")) (.cons (.con (.int 4)) (.cons (.con (.int 2)) (.cons (.con (.int 2)) .nil))))) (.cons (.tup false (.cons (.con (.str "kept")) (.cons (.con (.int 65)) (.cons (.con (.int 2)) (.cons (.con (.int 2)) .nil))))) (.cons (.tup false (.cons (.con (.str "kept")) (.cons (.neg (.con (.int 1))) (.cons (.con (.int 2)) (.cons (.con (.int 2)) .nil))))) (.cons (.tup false (.cons (.con (.str "kept")) (.cons (.con (.int 4)) (.cons (.con (.int 0)) (.cons (.con (.int 2)) .nil))))) (.cons (.tup false (.cons (.con (.str "kept")) (.cons (.con (.int 4)) (.cons (.con (.int 17)) (.cons (.con (.int 16)) .nil))))) .nil)))))))))))
    (.cons (.asg (.nm 4) (.bin .Add (.var 4) (.lst false (.cons (.tup false (.cons (.con (.str "kept")) (.cons (.con (.int 4)) (.cons (.con (.int 2)) (.cons (.con (.int 17)) .nil))))) (.cons (.tup false (.cons (.con (.str "kept")) (.cons (.con (.int 4)) (.cons (.con (.int 2)) (.cons (.neg (.con (.int 1))) .nil))))) (.cons (.tup false (.cons (.con (.str "kept")) (.cons (.con (.bool true)) (.cons (.con (.int 2)) (.cons (.con (.int 2)) .nil))))) (.cons (.tup false (.cons (.con (.str "kept")) (.cons (.con (.int 4)) (.cons (.con (.bool true)) (.cons (.con (.int 2)) .nil))))) (.cons (.tup false (.cons (.con (.str "kept")) (.cons (.con (.int 4)) (.cons (.con (.int 2)) (.cons (.con .none) .nil))))) (.cons (.tup false (.cons (.con (.int 0)) (.cons (.con (.int 4)) (.cons (.con (.int 2)) (.cons (.con (.int 2)) .nil))))) (.cons (.tup false (.cons (.con (.str "kept")) (.cons (.con (.int 4)) (.cons (.con (.int 2)) (.cons (.con (.int 2)) (.cons (.con (.int 0)) .nil)))))) .nil))))))))))
    (.cons (.ifs (.cmp .NotEq (.lc false [("odd", 5)] (.nm 5) (.val (.var 4)) (.yes (.cmp .IsNot (.fn 2 (.cons (.var 5) .nil)) (.con (.bool false)))) (.var 5)) (.lst false .nil)) (.cons (.ret (.con (.bool false)))
    .nil) .nil)
    (.cons (.asg (.nm 5) (.fn 14 (.cons (.var 1) (.cons (.var 4) .nil))))
    (.cons (.asg (.nm 6) (.lc false [("call", 12)] (.nm 12) (.val (.tup false (.cons (.fnv 6) (.cons (.fnv 9) .nil)))) .no (.lam 0 (.cal 12 [6, 9] (.cons (.var 5) .nil)))))
    (.cons (.ifs (.or (.cmp .NotEq (.var 6) (.lst false (.cons (.con (.bool true)) (.cons (.con (.bool true)) .nil)))) (.one (.not (.lam 0 (.fn 10 (.cons (.var 5) (.cons (.con .none) .nil))))))) (.cons (.ret (.con (.bool false)))
    .nil) .nil)
    (.cons (.asg (.nm 4) (.lst false (.cons (.tup false (.cons (.con (.str "lost")) (.cons (.con (.int 1)) (.cons (.con (.int 1)) .nil)))) (.cons (.tup false (.cons (.con (.str "kept")) (.cons (.con (.int 0)) (.cons (.con (.int 1)) .nil)))) (.cons (.tup false (.cons (.con (.str "kept")) (.cons (.con (.int 17)) (.cons (.con (.int 1)) .nil)))) (.cons (.tup false (.cons (.con (.str "any")) (.cons (.con (.int 1)) (.cons (.con (.int 17)) .nil)))) (.cons (.tup false (.cons (.con (.str "any")) (.cons (.con (.int 1)) (.cons (.neg (.con (.int 1))) .nil)))) (.cons (.tup false (.cons (.con (.str "any")) (.cons (.con (.bool true)) (.cons (.con (.int 1)) .nil)))) (.cons (.tup false (.cons (.con .none) (.cons (.con (.int 1)) (.cons (.con (.int 1)) .nil)))) .nil)))))))))
    (.cons (.ret (.cmp .Eq (.lc false [("row", 13)] (.nm 13) (.val (.var 4)) (.yes (.not (.lam 0 (.fn 11 (.cons (.ix (.var 13) (.con (.int 0))) (.cons (.ix (.var 13) (.con (.int 1))) (.cons (.ix (.var 13) (.con (.int 2))) .nil))))))) (.var 13)) (.lst false .nil)))
    .nil)))))))))))))
def d28 : Ds := { at_ := ("law", none), qual := "law", st := top 40, N := ["script", "cup", "turn", "rows", "odds", "odd", "told", "line", "due", "order", "wide", "kept", "call", "row"], ps := ["script"], slots := 14, b := b28, lam := true }
def b29 : Sxs := (.cons (.asg (.tp (.cons (.fd 0 "order" (.var 0)) (.cons (.fd 0 "ring" (.var 0)) (.cons (.fd 0 "under_way" (.var 0)) (.cons (.fd 0 "kept" (.var 0)) .nil))))) (.var 1))
    (.cons (.par (.cons (.fd 0 "sent" (.var 0)) (.cons (.fd 0 "done" (.var 0)) (.cons (.fd 0 "unanswered" (.var 0)) .nil))) (.cons (.con (.int 0)) (.cons (.con (.int 0)) (.cons (.con (.int 0)) .nil))))
    (.cons (.asg (.fd 0 "put_by" (.var 0)) (.lst true .nil))
    (.cons (.asg (.fd 0 "answered" (.var 0)) (.lst true .nil))
    (.cons (.asg (.fd 0 "lines" (.var 0)) (.lst true (.cons (.lst true .nil) (.cons (.lst true .nil) .nil))))
    (.cons (.par (.cons (.fd 0 "is_twice" (.var 0)) (.cons (.fd 0 "is_wrong" (.var 0)) .nil)) (.cons (.con (.bool false)) (.cons (.con (.bool false)) .nil)))
    .nil))))))
def d29 : Ds := { at_ := ("Traffic", some "__init__"), qual := "Traffic.__init__", st := inC 14 0, N := ["self", "line"], ps := ["self", "line"], slots := 2, b := b29 }
def b30 : Sxs := (.cons (.ret (.ite (.cmp .Eq (.fld 0 "ring" (.var 0)) (.con (.int 0))) (.var 1) (.bin .Mod (.var 1) (.fld 0 "ring" (.var 0)))))
    .nil)
def d30 : Ds := { at_ := ("Traffic", some "mark"), qual := "Traffic.mark", st := inC 14 1, N := ["self", "command"], ps := ["self", "command"], slots := 2, b := b30 }
def b31 : Sxs := (.cons (.ifs (.cmp .Eq (.ix (.var 1) (.con (.int 0))) (.con (.str "send"))) (.cons (.ret (.met 0 "send" 32 (.var 0) (.cons (.ix (.var 1) (.con (.int 1))) .nil)))
    .nil) .nil)
    (.cons (.asg (.nm 2) (.ix (.fld 0 "lines" (.var 0)) (.ix (.var 1) (.con (.int 1)))))
    (.cons (.ifs (.cmp .GtE (.ix (.var 1) (.con (.int 2))) (.bi .len (.cons (.var 2) .nil))) (.cons (.ret (.con (.bool false)))
    .nil) .nil)
    (.cons (.ifs (.cmp .Eq (.ix (.var 1) (.con (.int 0))) (.con (.str "lose"))) (.cons (.exp (.mth .pop (.var 2) (.cons (.ix (.var 1) (.con (.int 2))) .nil)))
    (.cons (.ret (.con (.bool true)))
    .nil)) .nil)
    (.cons (.ifs (.and (.cmp .Eq (.fld 0 "order" (.var 0)) (.con (.str "kept"))) (.one (.cmp .Gt (.ix (.var 1) (.con (.int 2))) (.con (.int 0))))) (.cons (.ret (.con (.bool false)))
    .nil) .nil)
    (.cons (.asg (.nm 3) (.ite (.ix (.var 1) (.con (.int 3))) (.ix (.var 2) (.ix (.var 1) (.con (.int 2)))) (.mth .pop (.var 2) (.cons (.ix (.var 1) (.con (.int 2))) .nil))))
    (.cons (.ifs (.cmp .Eq (.ix (.var 1) (.con (.int 1))) (.con (.int 0))) (.cons (.exp (.met 0 "reach_house" 34 (.var 0) (.cons (.var 3) .nil)))
    .nil) (.cons (.exp (.met 0 "reach_sender" 35 (.var 0) (.cons (.var 3) .nil)))
    .nil))
    (.cons (.ret (.con (.bool true)))
    .nil))))))))
def d31 : Ds := { at_ := ("Traffic", some "do"), qual := "Traffic.do", st := inC 14 2, N := ["self", "step", "line", "message"], ps := ["self", "step"], slots := 4, b := b31 }
def b32 : Sxs := (.cons (.ifs (.or (.not (.chn .LtE .Lt (.fld 0 "unanswered" (.var 0)) (.var 1) (.bin .Add (.fld 0 "unanswered" (.var 0)) (.fld 0 "under_way" (.var 0))))) (.one (.cmp .Gt (.var 1) (.fld 0 "sent" (.var 0))))) (.cons (.ret (.con (.bool false)))
    .nil) .nil)
    (.cons (.ifs (.cmp .In (.var 1) (.fld 0 "answered" (.var 0))) (.cons (.ret (.con (.bool false)))
    .nil) .nil)
    (.cons (.asg (.fd 0 "sent" (.var 0)) (.bi .max (.cons (.fld 0 "sent" (.var 0)) (.cons (.bin .Add (.var 1) (.con (.int 1))) .nil))))
    (.cons (.exp (.mth .app (.ix (.fld 0 "lines" (.var 0)) (.con (.int 0))) (.cons (.var 1) .nil)))
    (.cons (.ret (.con (.bool true)))
    .nil)))))
def d32 : Ds := { at_ := ("Traffic", some "send"), qual := "Traffic.send", st := inC 14 3, N := ["self", "command"], ps := ["self", "command"], slots := 2, b := b32 }
def b33_0 : Sxs := (.cons (.ifs (.cmp .Eq (.met 0 "mark" 30 (.var 0) (.cons (.var 3) .nil)) (.met 0 "mark" 30 (.var 0) (.cons (.var 1) .nil))) (.cons (.ret (.var 3))
    .nil) .nil)
    .nil)
def b33 : Sxs := (.cons (.for 100000 (.nm 3) (.val (.var 2)) b33_0)
    (.cons (.ret (.con .none))
    .nil))
def d33 : Ds := { at_ := ("Traffic", some "like"), qual := "Traffic.like", st := inC 14 4, N := ["self", "message", "commands", "command"], ps := ["self", "message", "commands"], slots := 4, b := b33 }
def b34_0 : Sxs := (.cons (.ifs (.and (.cmp .Eq (.var 3) (.fld 0 "done" (.var 0))) (.one (.cmp .In (.var 3) (.fld 0 "put_by" (.var 0))))) (.cons (.exp (.mth .app (.ix (.fld 0 "lines" (.var 0)) (.con (.int 1))) (.cons (.var 3) .nil)))
    (.cons (.asg (.fd 0 "done" (.var 0)) (.bin .Add (.fld 0 "done" (.var 0)) (.con (.int 1))))
    .nil)) .nil)
    .nil)
def b34 : Sxs := (.cons (.asg (.nm 2) (.met 0 "like" 33 (.var 0) (.cons (.var 1) (.cons (.bi (.lst false) (.cons (.bi .rng (.cons (.fld 0 "done" (.var 0)) (.cons (.bin .Add (.fld 0 "done" (.var 0)) (.fld 0 "under_way" (.var 0))) .nil))) .nil)) .nil))))
    (.cons (.ifs (.cmp .Is (.var 2) (.con .none)) (.cons (.asg (.nm 4) (.met 0 "like" 33 (.var 0) (.cons (.var 1) (.cons (.bi (.lst false) (.cons (.bi .rng (.cons (.bin .Sub (.fld 0 "done" (.var 0)) (.con (.int 1))) (.cons (.bin .Sub (.bi .max (.cons (.con (.int 0)) (.cons (.bin .Sub (.fld 0 "done" (.var 0)) (.fld 0 "kept" (.var 0))) .nil))) (.con (.int 1))) (.cons (.neg (.con (.int 1))) .nil)))) .nil)) .nil))))
    (.cons (.ifs (.cmp .IsNot (.var 4) (.con .none)) (.cons (.exp (.mth .app (.ix (.fld 0 "lines" (.var 0)) (.con (.int 1))) (.cons (.var 4) .nil)))
    .nil) .nil)
    (.cons .retN
    .nil))) .nil)
    (.cons (.ifs (.cmp .NotIn (.var 2) (.fld 0 "put_by" (.var 0))) (.cons (.exp (.mth .app (.fld 0 "put_by" (.var 0)) (.cons (.var 2) .nil)))
    (.cons (.asg (.fd 0 "is_twice" (.var 0)) (.or (.fld 0 "is_twice" (.var 0)) (.one (.cmp .NotEq (.var 2) (.var 1)))))
    .nil)) .nil)
    (.cons (.for 100000 (.nm 3) (.val (.bi .rng (.cons (.fld 0 "done" (.var 0)) (.cons (.bin .Add (.fld 0 "done" (.var 0)) (.fld 0 "under_way" (.var 0))) .nil)))) b34_0)
    .nil))))
def d34 : Ds := { at_ := ("Traffic", some "reach_house"), qual := "Traffic.reach_house", st := inC 14 5, N := ["self", "message", "new", "command", "old"], ps := ["self", "message"], slots := 5, b := b34 }
def b35_0 : Sxs := (.cons (.asg (.fd 0 "unanswered" (.var 0)) (.bin .Add (.fld 0 "unanswered" (.var 0)) (.con (.int 1))))
    .nil)
def b35 : Sxs := (.cons (.asg (.nm 2) (.lc false [("command", 4)] (.nm 4) (.val (.bi .rng (.cons (.fld 0 "unanswered" (.var 0)) (.cons (.fld 0 "sent" (.var 0)) .nil)))) (.yes (.cmp .NotIn (.var 4) (.fld 0 "answered" (.var 0)))) (.var 4)))
    (.cons (.asg (.nm 3) (.met 0 "like" 33 (.var 0) (.cons (.var 1) (.cons (.var 2) .nil))))
    (.cons (.ifs (.cmp .Is (.var 3) (.con .none)) (.cons .retN
    .nil) .nil)
    (.cons (.asg (.fd 0 "is_wrong" (.var 0)) (.or (.fld 0 "is_wrong" (.var 0)) (.one (.cmp .NotEq (.var 3) (.var 1)))))
    (.cons (.exp (.mth .app (.fld 0 "answered" (.var 0)) (.cons (.var 3) .nil)))
    (.cons (.whl 100000 (.cmp .In (.fld 0 "unanswered" (.var 0)) (.fld 0 "answered" (.var 0))) b35_0)
    .nil))))))
def d35 : Ds := { at_ := ("Traffic", some "reach_sender"), qual := "Traffic.reach_sender", st := inC 14 6, N := ["self", "answer", "open_ones", "taken", "command"], ps := ["self", "answer"], slots := 5, b := b35 }
def b36 : Sxs := (.cons (.asg (.nm 1) (.fld 0 "unanswered" (.var 0)))
    (.cons (.ret (.and (.cmp .Lt (.var 1) (.bin .Sub (.fld 0 "done" (.var 0)) (.fld 0 "kept" (.var 0)))) (.one (.cmp .NotIn (.var 1) (.ix (.fld 0 "lines" (.var 0)) (.con (.int 1)))))))
    .nil))
def d36 : Ds := { at_ := ("Traffic", some "is_stuck"), qual := "Traffic.is_stuck", st := inC 14 7, N := ["self", "least"], ps := ["self"], slots := 2, b := b36 }
def b37 : Sxs := (.cons (.asg (.nm 1) (.lst false (.cons (.fld 0 "is_twice" (.var 0)) (.cons (.fld 0 "is_wrong" (.var 0)) (.cons (.met 0 "is_stuck" 36 (.var 0) .nil) .nil)))))
    (.cons (.ret (.lc false [("word", 2), ("holds", 3)] (.tp (.cons (.nm 2) (.cons (.nm 3) .nil))) (.zip (.cons (.glb 1) (.cons (.var 1) .nil))) (.yes (.var 3)) (.var 2)))
    .nil))
def d37 : Ds := { at_ := ("Traffic", some "badness"), qual := "Traffic.badness", st := inC 14 8, N := ["self", "told", "word", "holds"], ps := ["self"], slots := 4, b := b37 }
def tbl : Tbl where
  ds := [d0, d1, d2, d3, d4, d5, d6, d7, d8, d9, d10, d11, d12, d13, d14, d15, d16, d17, d18, d19, d20, d21, d22, d23, d24, d25, d26, d27, d28, d29, d30, d31, d32, d33, d34, d35, d36, d37]
  np := 29
  cls := ["Traffic"]
  con := [("ORDERS", (.tuple [(.str "kept"), (.str "any")])), ("WORDS", (.tuple [(.str "twice"), (.str "wrong"), (.str "stuck")])), ("RING", (.int 64)), ("MANY", (.int 16)), ("STEPS", (.int 4000))]
  blt := ["isinstance", "bool", "int", "len", "tuple", "str", "range", "all", "abs", "list", "zip", "min", "max"]
  fld := [(0, "is_wrong"), (0, "is_twice"), (0, "lines"), (0, "answered"), (0, "put_by"), (0, "unanswered"), (0, "done"), (0, "sent"), (0, "kept"), (0, "under_way"), (0, "ring"), (0, "order")]
  met := [(0, 37), (0, 31), (0, 34), (0, 35), (0, 32), (0, 30), (0, 33), (0, 36)]
  mks := [(0, 29)]
  exc := ["InvalidLine"]
  cats := [{ ix := 26, a := "call", n := "e", e := "RegistryError", cn := "InvalidLine", b0 := false, tell := [some true] }]
theorem bi0 : d0.binds := fun _ _ _ _ _ _ us hl => match us, hl with | [_, _, _], _ => rfl
theorem ck0 : d0.ok tbl.M = true := by decide +kernel
theorem bi1 : d1.binds := fun _ _ _ _ _ _ us hl => match us, hl with | [_, _, _], _ => rfl
theorem ck1 : d1.ok tbl.M = true := by decide +kernel
theorem bi2 : d2.binds := fun _ _ _ _ _ _ us hl => match us, hl with | [_], _ => rfl
theorem ck2 : d2.ok tbl.M = true := by decide +kernel
theorem bi3 : d3.binds := fun _ _ _ _ _ _ us hl => match us, hl with | [_], _ => rfl
theorem ck3 : d3.ok tbl.M = true := by decide +kernel
theorem bi4 : d4.binds := fun _ _ _ _ _ _ us hl => match us, hl with | [_], _ => rfl
theorem ck4 : d4.ok tbl.M = true := by decide +kernel
theorem bi5 : d5.binds := fun _ _ _ _ _ _ us hl => match us, hl with | [_], _ => rfl
theorem ck5 : d5.ok tbl.M = true := by decide +kernel
theorem bi6 : d6.binds := fun _ _ _ _ _ _ us hl => match us, hl with | [_], _ => rfl
theorem ck6 : d6.ok tbl.M = true := by decide +kernel
theorem bi7 : d7.binds := fun _ _ _ _ _ _ us hl => match us, hl with | [_], _ => rfl
theorem ck7 : d7.ok tbl.M = true := by decide +kernel
theorem bi8 : d8.binds := fun _ _ _ _ _ _ us hl => match us, hl with | [_], _ => rfl
theorem ck8 : d8.ok tbl.M = true := by decide +kernel
theorem bi9 : d9.binds := fun _ _ _ _ _ _ us hl => match us, hl with | [_], _ => rfl
theorem ck9 : d9.ok tbl.M = true := by decide +kernel
theorem bi10 : d10.binds := fun _ _ _ _ _ _ us hl => match us, hl with | [_, _], _ => rfl
theorem ck10 : d10.ok tbl.M = true := by decide +kernel
theorem bi11 : d11.binds := fun _ _ _ _ _ _ us hl => match us, hl with | [_, _, _], _ => rfl
theorem ck11 : d11.ok tbl.M = true := by decide +kernel
theorem bi12 : d12.binds := fun _ _ _ _ _ _ us hl => match us, hl with | [_], _ => rfl
theorem ck12 : d12.ok tbl.M = true := by decide +kernel
theorem bi13 : d13.binds := fun _ _ _ _ _ _ us hl => match us, hl with | [_, _], _ => rfl
theorem ck13 : d13.ok tbl.M = true := by decide +kernel
theorem bi14 : d14.binds := fun _ _ _ _ _ _ us hl => match us, hl with | [_, _], _ => rfl
theorem ck14 : d14.ok tbl.M = true := by decide +kernel
theorem bi15 : d15.binds := fun _ _ _ _ _ _ us hl => match us, hl with | [_], _ => rfl
theorem ck15 : d15.ok tbl.M = true := by decide +kernel
theorem bi16 : d16.binds := fun _ _ _ _ _ _ us hl => match us, hl with | [_, _], _ => rfl
theorem ck16 : d16.ok tbl.M = true := by decide +kernel
theorem bi17 : d17.binds := fun _ _ _ _ _ _ us hl => match us, hl with | [_, _, _, _, _, _, _], _ => rfl
theorem ck17 : d17.ok tbl.M = true := by decide +kernel
theorem bi18 : d18.binds := fun _ _ _ _ _ _ us hl => match us, hl with | [_, _, _], _ => rfl
theorem ck18 : d18.ok tbl.M = true := by decide +kernel
theorem bi19 : d19.binds := fun _ _ _ _ _ _ us hl => match us, hl with | [_, _, _, _], _ => rfl
theorem ck19 : d19.ok tbl.M = true := by decide +kernel
theorem bi20 : d20.binds := fun _ _ _ _ _ _ us hl => match us, hl with | [_, _], _ => rfl
theorem ck20 : d20.ok tbl.M = true := by decide +kernel
theorem bi21 : d21.binds := fun _ _ _ _ _ _ us hl => match us, hl with | [_, _, _], _ => rfl
theorem ck21 : d21.ok tbl.M = true := by decide +kernel
theorem bi22 : d22.binds := fun _ _ _ _ _ _ us hl => match us, hl with | [_, _], _ => rfl
theorem ck22 : d22.ok tbl.M = true := by decide +kernel
theorem bi23 : d23.binds := fun _ _ _ _ _ _ us hl => match us, hl with | [_, _, _], _ => rfl
theorem ck23 : d23.ok tbl.M = true := by decide +kernel
theorem bi24 : d24.binds := fun _ _ _ _ _ _ us hl => match us, hl with | [_], _ => rfl
theorem ck24 : d24.ok tbl.M = true := by decide +kernel
theorem bi25 : d25.binds := fun _ _ _ _ _ _ us hl => match us, hl with | [_], _ => rfl
theorem ck25 : d25.ok tbl.M = true := by decide +kernel
theorem bi26 : d26.binds := fun _ _ _ _ _ _ us hl => match us, hl with | [_], _ => rfl
theorem ck26 : d26.ok tbl.M = true := by decide +kernel
theorem bi27 : d27.binds := fun _ _ _ _ _ _ us hl => match us, hl with | [_, _], _ => rfl
theorem ck27 : d27.ok tbl.M = true := by decide +kernel
theorem bi28 : d28.binds := fun _ _ _ _ _ _ us hl => match us, hl with | [_], _ => rfl
theorem ck28 : d28.ok tbl.M = true := by decide +kernel
theorem bi29 : d29.binds := fun _ _ _ _ _ _ us hl => match us, hl with | [_, _], _ => rfl
theorem ck29 : d29.ok tbl.M = true := by decide +kernel
theorem bi30 : d30.binds := fun _ _ _ _ _ _ us hl => match us, hl with | [_, _], _ => rfl
theorem ck30 : d30.ok tbl.M = true := by decide +kernel
theorem bi31 : d31.binds := fun _ _ _ _ _ _ us hl => match us, hl with | [_, _], _ => rfl
theorem ck31 : d31.ok tbl.M = true := by decide +kernel
theorem bi32 : d32.binds := fun _ _ _ _ _ _ us hl => match us, hl with | [_, _], _ => rfl
theorem ck32 : d32.ok tbl.M = true := by decide +kernel
theorem bi33 : d33.binds := fun _ _ _ _ _ _ us hl => match us, hl with | [_, _, _], _ => rfl
theorem ck33 : d33.ok tbl.M = true := by decide +kernel
theorem bi34 : d34.binds := fun _ _ _ _ _ _ us hl => match us, hl with | [_, _], _ => rfl
theorem ck34 : d34.ok tbl.M = true := by decide +kernel
theorem bi35 : d35.binds := fun _ _ _ _ _ _ us hl => match us, hl with | [_, _], _ => rfl
theorem ck35 : d35.ok tbl.M = true := by decide +kernel
theorem bi36 : d36.binds := fun _ _ _ _ _ _ us hl => match us, hl with | [_], _ => rfl
theorem ck36 : d36.ok tbl.M = true := by decide +kernel
theorem bi37 : d37.binds := fun _ _ _ _ _ _ us hl => match us, hl with | [_], _ => rfl
theorem ck37 : d37.ok tbl.M = true := by decide +kernel
theorem bis : ∀ d ∈ tbl.ds, d.binds := by
  intro d h
  have h : d ∈ [d0, d1, d2, d3, d4, d5, d6, d7, d8, d9, d10, d11, d12, d13, d14, d15, d16, d17, d18, d19, d20, d21, d22, d23, d24, d25, d26, d27, d28, d29, d30, d31, d32, d33, d34, d35, d36, d37] := h
  simp only [List.mem_cons, List.not_mem_nil, or_false] at h
  rcases h with rfl | rfl | rfl | rfl | rfl | rfl | rfl | rfl | rfl | rfl | rfl | rfl | rfl | rfl | rfl | rfl | rfl | rfl | rfl | rfl | rfl | rfl | rfl | rfl | rfl | rfl | rfl | rfl | rfl | rfl | rfl | rfl | rfl | rfl | rfl | rfl | rfl | rfl
  · exact bi0
  · exact bi1
  · exact bi2
  · exact bi3
  · exact bi4
  · exact bi5
  · exact bi6
  · exact bi7
  · exact bi8
  · exact bi9
  · exact bi10
  · exact bi11
  · exact bi12
  · exact bi13
  · exact bi14
  · exact bi15
  · exact bi16
  · exact bi17
  · exact bi18
  · exact bi19
  · exact bi20
  · exact bi21
  · exact bi22
  · exact bi23
  · exact bi24
  · exact bi25
  · exact bi26
  · exact bi27
  · exact bi28
  · exact bi29
  · exact bi30
  · exact bi31
  · exact bi32
  · exact bi33
  · exact bi34
  · exact bi35
  · exact bi36
  · exact bi37
theorem cks : ∀ d ∈ tbl.ds, d.ok tbl.M = true := by
  intro d h
  have h : d ∈ [d0, d1, d2, d3, d4, d5, d6, d7, d8, d9, d10, d11, d12, d13, d14, d15, d16, d17, d18, d19, d20, d21, d22, d23, d24, d25, d26, d27, d28, d29, d30, d31, d32, d33, d34, d35, d36, d37] := h
  simp only [List.mem_cons, List.not_mem_nil, or_false] at h
  rcases h with rfl | rfl | rfl | rfl | rfl | rfl | rfl | rfl | rfl | rfl | rfl | rfl | rfl | rfl | rfl | rfl | rfl | rfl | rfl | rfl | rfl | rfl | rfl | rfl | rfl | rfl | rfl | rfl | rfl | rfl | rfl | rfl | rfl | rfl | rfl | rfl | rfl | rfl
  · exact ck0
  · exact ck1
  · exact ck2
  · exact ck3
  · exact ck4
  · exact ck5
  · exact ck6
  · exact ck7
  · exact ck8
  · exact ck9
  · exact ck10
  · exact ck11
  · exact ck12
  · exact ck13
  · exact ck14
  · exact ck15
  · exact ck16
  · exact ck17
  · exact ck18
  · exact ck19
  · exact ck20
  · exact ck21
  · exact ck22
  · exact ck23
  · exact ck24
  · exact ck25
  · exact ck26
  · exact ck27
  · exact ck28
  · exact ck29
  · exact ck30
  · exact ck31
  · exact ck32
  · exact ck33
  · exact ck34
  · exact ck35
  · exact ck36
  · exact ck37
theorem okI : tbl.okI = true := by decide +kernel
end K75
end
section
set_option Elab.async false
set_option linter.all false
set_option maxRecDepth 100000
set_option maxHeartbeats 0
namespace K75
open PySem L2 PyProof.Rows Mi
abbrev R : PySem.W.OpenRow := PySem.W.OpenLaw.row PySem.Challenge.rw_soleholder_k75_whole_lines_right_or_not
def loose : List Str := (["__name__", "RegistryError", "InvalidLine", "is_whole", "is_tuple_of", "ORDERS", "WORDS", "RING", "MANY", "STEPS", "is_line", "need_line", "Traffic", "is_step", "right_in", "is_right", "stuck_run", "doubled_run", "bad_run", "is_bad_run", "least_ring", "_law_cup", "_law_roll", "_law_some", "_law_sort", "_law_like", "_law_words", "_law_same", "_law_sent", "_law_run"] : List Str) ++ (["_law_is_bad", "_law_step", "_law_drawn", "_law_line", "_law_is_right", "_law_refused", "_law_line_right"] : List Str)
theorem run (w : World) : HandSHeadRun.RunEq R (PySem.W.view R.prog [40]) tbl.hook tbl.ob 6000 loose w := by
  intro os
  kernel_rfl
end K75
end
section
set_option Elab.async false
set_option linter.all false
set_option maxRecDepth 100000
set_option maxHeartbeats 0
open PySem PySem.W PySem.Calls PyProof.Rows
theorem k75_of (right : K75.tbl.Right 40 28) : PySem.Challenge.rw_soleholder_k75_whole_lines_right_or_not.Holds := by
  w_on; o_law
  refine HandSHeadRun.head_any (r := OpenLaw.row PySem.Challenge.rw_soleholder_k75_whole_lines_right_or_not) (q := view (OpenLaw.row PySem.Challenge.rw_soleholder_k75_whole_lines_right_or_not).prog [40]) (H := K75.tbl.hook) (ob := K75.tbl.ob) (M := 6000) (loose := K75.loose) (d := HandSHeadRun.topDef (OpenLaw.row PySem.Challenge.rw_soleholder_k75_whole_lines_right_or_not).prog 40) (kwd := []) K75.tbl.ob_eq
    (by kernel_rfl) (fun s => by kernel_rfl) K75.run (by kernel_rfl) (by kernel_rfl) (by kernel_rfl) (by rfl) (by first | assumption | decide +kernel) (by decide +kernel) ⟨rfl, rfl, rfl, rfl, rfl, by decide +kernel⟩ ?hw ?hc
  case hw => w_witness2
  case hc => exact Mi.law_end (l := PySem.Challenge.rw_soleholder_k75_whole_lines_right_or_not) (dd := K75.d28) (x := "script") (n := 39) right rfl (by decide +kernel) ⟨rfl, by decide, by decide⟩ rfl (by decide +kernel) (by decide +kernel) rfl K75.okI K75.cks K75.bis (by decide +kernel)
end
section
set_option Elab.async false
set_option linter.all false
set_option maxRecDepth 100000
set_option maxHeartbeats 4000000
namespace K75
open PySem Mi
abbrev rn (n i : Nat) (ws : List W) (S : Sto) : Res W := Mi.runN tbl.kt tbl.tb n i ws S
abbrev rt (n : Nat) : Mo := ⟨tbl.con, Mi.runN tbl.kt tbl.tb n, tbl.ct, Mi.subN tbl.kt tbl.tb n⟩
structure Ln where
  any : Bool
  ring : Int
  wide : Int
  kept : Int
def oS (any : Bool) : Str := if any then ("any" : Str) else ("kept" : Str)
def Ln.D (l : Ln) : D := .tuple [.str (oS l.any), .int l.ring, .int l.wide, .int l.kept]
structure Ln.Ok (l : Ln) : Prop where
  r0 : 0 ≤ l.ring
  r1 : l.ring ≤ 64
  w0 : 1 ≤ l.wide
  w1 : l.wide ≤ 16
  k0 : 0 ≤ l.kept
  k1 : l.kept ≤ 16
inductive Sp where
  | send (c : Int)
  | lose (r i : Int)
  | bring (r i : Int) (k : Bool)
def Sp.D : Sp → D
  | .send c => .tuple [.str ("send" : Str), .int c]
  | .lose r i => .tuple [.str ("lose" : Str), .int r, .int i]
  | .bring r i k => .tuple [.str ("bring" : Str), .int r, .int i, .bool k]
def Sp.Ok : Sp → Prop
  | .send c => 0 ≤ c ∧ c ≤ 4000
  | .lose r i => (r = 0 ∨ r = 1) ∧ 0 ≤ i ∧ i ≤ 4000
  | .bring r i _ => (r = 0 ∨ r = 1) ∧ 0 ≤ i ∧ i ≤ 4000
def stD (l : List Sp) : D := .tuple (l.map Sp.D)
theorem s1 : (("lose" : Str) = ("send" : Str)) = False := by simp; decide +kernel
theorem s2 : (("bring" : Str) = ("send" : Str)) = False := by simp; decide +kernel
theorem s3 : (("bring" : Str) = ("lose" : Str)) = False := by simp; decide +kernel
theorem s4 : (("lose" : Str) = ("bring" : Str)) = False := by simp; decide +kernel
theorem s5 : (("any" : Str) = ("kept" : Str)) = False := by simp; decide +kernel
theorem s6 : (("send" : Str) = ("bring" : Str)) = False := by simp; decide +kernel
theorem is_whole_go (n : Nat) (v lo hi : W) (S : Sto) : rn (n + 1) 0 [v, lo, hi] S = outR (ess (rt n) b0 [some v, some lo, some hi] S) := rfl
theorem is_whole_int (n : Nat) (v lo hi : Int) (S : Sto) : rn (n + 1) 0 [.d (.int v), .d (.int lo), .d (.int hi)] S = .ok (.d (.bool (decide (lo ≤ v) && decide (v ≤ hi)))) S := by
  rw [is_whole_go, b0]
  simp only [ess, es, et, ets, eto, ei, eg, egs, pv, sRet, sRetN, sNil, sIf, sAsg, sPar, sExp, sBrk, sCnt, xIte, xCall, xCons, xNil, xVar, xCon, xBin, xUn, xDic, tAnd, tOr, tNot, tBad, xBad, oNone, oSome, gNm, gsNil, gsCons, Bi.go, Tn.nm, Mt.go, Mt.rc, cmG, opG, Gxs.len, q_ok, q_bad, q_exc, q_ite, o_ok, o_bad, o_exc, o_ite, a_nx, a_rt, a_bk, a_ct, a_bad, a_ite, t_nx, t_ct, t_bk, t_rt, t_bad, t_ite, r_rt, r_nx, r_bad, r_ite, k_b, q_b, n_b, t_b, t_i, t_n, t_l, t_t, e_and, e_or, e_not, e_chn, e_bool, e_val, e_seq, w_add, w_sub, w_mul, w_div, w_mod, w_ord, w_neg, w_isn, w_isnn, w_isb, w_isbn, w_eqi, w_nei, w_eqs, w_nes, w_eqb, w_neb, w_lent, w_lenl, e_tup, e_tupc, e_lst, e_lstc, td_0, td_1, td_2, td_3, td_4, td_5, td_6, ld_0, ld_1, ld_2, ld_3, ld_4, ld_5, ld_6, ld_7, w_ixt, w_ixl, at_0, at_1, at_2, at_3, om_some, or_some, e_lc, e_gfd, e_gsb, e_mth, e_met, w_max, w_min, w_rg1, w_rg2, w_rgd, e_ival, it_l, it_t, e_for, v_fx, v_cel, l_t, isiG, tyN, isiB, isiTs, List.mem_cons, List.not_mem_nil, or_false, false_or, or_true, true_or, decide_true, decide_false, Bool.or_false, Bool.false_or, Bool.true_or, Bool.or_true, Bool.and_false, Bool.and_true, Bool.true_and, Bool.false_and, Bool.not_true, Bool.not_false, List.map_cons, List.map_nil, List.replicate_zero, List.replicate_succ, List.cons_append, List.nil_append, List.length_cons, List.length_nil, List.getElem?_cons_zero, List.getElem?_cons_succ, List.getElem?_nil, List.set_cons_zero, List.set_cons_succ, if_true, if_false, Bool.false_eq_true, reduceIte, ite_self]
  cases decide (lo ≤ v) <;> rfl
theorem is_tuple_go (n : Nat) (v lo hi : W) (S : Sto) : rn (n + 1) 1 [v, lo, hi] S = outR (ess (rt n) b1 [some v, some lo, some hi] S) := rfl
theorem is_tuple_of (n : Nat) (ds : List D) (lo hi : Int) (S : Sto) : rn (n + 1) 1 [.d (.tuple ds), .d (.int lo), .d (.int hi)] S = .ok (.d (.bool (decide (lo ≤ ds.length) && decide ((ds.length : Int) ≤ hi)))) S := by
  rw [is_tuple_go, b1]
  simp only [ess, es, et, ets, eto, ei, eg, egs, pv, sRet, sRetN, sNil, sIf, sAsg, sPar, sExp, sBrk, sCnt, xIte, xCall, xCons, xNil, xVar, xCon, xBin, xUn, xDic, tAnd, tOr, tNot, tBad, xBad, oNone, oSome, gNm, gsNil, gsCons, Bi.go, Tn.nm, Mt.go, Mt.rc, cmG, opG, Gxs.len, q_ok, q_bad, q_exc, q_ite, o_ok, o_bad, o_exc, o_ite, a_nx, a_rt, a_bk, a_ct, a_bad, a_ite, t_nx, t_ct, t_bk, t_rt, t_bad, t_ite, r_rt, r_nx, r_bad, r_ite, k_b, q_b, n_b, t_b, t_i, t_n, t_l, t_t, e_and, e_or, e_not, e_chn, e_bool, e_val, e_seq, w_add, w_sub, w_mul, w_div, w_mod, w_ord, w_neg, w_isn, w_isnn, w_isb, w_isbn, w_eqi, w_nei, w_eqs, w_nes, w_eqb, w_neb, w_lent, w_lenl, e_tup, e_tupc, e_lst, e_lstc, td_0, td_1, td_2, td_3, td_4, td_5, td_6, ld_0, ld_1, ld_2, ld_3, ld_4, ld_5, ld_6, ld_7, w_ixt, w_ixl, at_0, at_1, at_2, at_3, om_some, or_some, e_lc, e_gfd, e_gsb, e_mth, e_met, w_max, w_min, w_rg1, w_rg2, w_rgd, e_ival, it_l, it_t, e_for, v_fx, v_cel, l_t, isiG, tyN, isiB, isiTs, List.mem_cons, List.not_mem_nil, or_false, false_or, or_true, true_or, decide_true, decide_false, Bool.or_false, Bool.false_or, Bool.true_or, Bool.or_true, Bool.and_false, Bool.and_true, Bool.true_and, Bool.false_and, Bool.not_true, Bool.not_false, List.map_cons, List.map_nil, List.replicate_zero, List.replicate_succ, List.cons_append, List.nil_append, List.length_cons, List.length_nil, List.getElem?_cons_zero, List.getElem?_cons_succ, List.getElem?_nil, List.set_cons_zero, List.set_cons_succ, if_true, if_false, Bool.false_eq_true, reduceIte, ite_self]
  cases decide (lo ≤ (ds.length : Int)) <;> rfl
theorem is_line_go (n : Nat) (v : W) (S : Sto) : rn (n + 1) 2 [v] S = outR (ess (rt n) b2 [some v] S) := rfl
theorem c0 : tbl.con[0]? = some (("ORDERS" : Str), (.tuple [.str "kept", .str "any"] : D)) := rfl
theorem c1 : tbl.con[1]? = some (("WORDS" : Str), (.tuple [.str "twice", .str "wrong", .str "stuck"] : D)) := rfl
theorem c2 : tbl.con[2]? = some (("RING" : Str), (.int 64 : D)) := rfl
theorem c3 : tbl.con[3]? = some (("MANY" : Str), (.int 16 : D)) := rfl
theorem c4 : tbl.con[4]? = some (("STEPS" : Str), (.int 4000 : D)) := rfl
theorem in_ord (any : Bool) (S : Sto) : inW true (.d (.str (oS any))) (.d (.tuple [.str "kept", .str "any"])) S = .ok (.d (.bool false)) S := by
  rw [w_int rfl rfl]
  cases any <;> rfl
theorem is_line_ok (n : Nat) {l : Ln} (h : l.Ok) (S : Sto) : rn (n + 2) 2 [.d l.D] S = .ok (.d (.bool true)) S := by
  obtain ⟨h1, h2, h3, h4, h5, h6⟩ := h
  rw [is_line_go, b2, Ln.D]
  simp only [ess, es, et, ets, eto, ei, eg, egs, pv, sRet, sRetN, sNil, sIf, sAsg, sPar, sExp, sBrk, sCnt, xIte, xCall, xCons, xNil, xVar, xCon, xBin, xUn, xDic, tAnd, tOr, tNot, tBad, xBad, oNone, oSome, gNm, gsNil, gsCons, Bi.go, Tn.nm, Mt.go, Mt.rc, cmG, opG, Gxs.len, q_ok, q_bad, q_exc, q_ite, o_ok, o_bad, o_exc, o_ite, a_nx, a_rt, a_bk, a_ct, a_bad, a_ite, t_nx, t_ct, t_bk, t_rt, t_bad, t_ite, r_rt, r_nx, r_bad, r_ite, k_b, q_b, n_b, t_b, t_i, t_n, t_l, t_t, e_and, e_or, e_not, e_chn, e_bool, e_val, e_seq, w_add, w_sub, w_mul, w_div, w_mod, w_ord, w_neg, w_isn, w_isnn, w_isb, w_isbn, w_eqi, w_nei, w_eqs, w_nes, w_eqb, w_neb, w_lent, w_lenl, e_tup, e_tupc, e_lst, e_lstc, td_0, td_1, td_2, td_3, td_4, td_5, td_6, ld_0, ld_1, ld_2, ld_3, ld_4, ld_5, ld_6, ld_7, w_ixt, w_ixl, at_0, at_1, at_2, at_3, om_some, or_some, e_lc, e_gfd, e_gsb, e_mth, e_met, w_max, w_min, w_rg1, w_rg2, w_rgd, e_ival, it_l, it_t, e_for, v_fx, v_cel, l_t, isiG, tyN, isiB, isiTs, List.mem_cons, List.not_mem_nil, or_false, false_or, or_true, true_or, decide_true, decide_false, Bool.or_false, Bool.false_or, Bool.true_or, Bool.or_true, Bool.and_false, Bool.and_true, Bool.true_and, Bool.false_and, Bool.not_true, Bool.not_false, List.map_cons, List.map_nil, List.replicate_zero, List.replicate_succ, List.cons_append, List.nil_append, List.length_cons, List.length_nil, List.getElem?_cons_zero, List.getElem?_cons_succ, List.getElem?_nil, List.set_cons_zero, List.set_cons_succ, if_true, if_false, Bool.false_eq_true, reduceIte, ite_self, is_tuple_of, is_whole_int, c0, c2, c3, in_ord, h1, h2, h3, h4, h5, h6]
  rfl
theorem need_go (n : Nat) (v : W) (S : Sto) : rn (n + 1) 3 [v] S = outR (ess (rt n) b3 [some v] S) := rfl
theorem need_ok (n : Nat) {l : Ln} (h : l.Ok) (S : Sto) : rn (n + 3) 3 [.d l.D] S = .ok (.d .none) S := by
  rw [need_go, b3]
  simp only [ess, es, et, ets, eto, ei, eg, egs, pv, sRet, sRetN, sNil, sIf, sAsg, sPar, sExp, sBrk, sCnt, xIte, xCall, xCons, xNil, xVar, xCon, xBin, xUn, xDic, tAnd, tOr, tNot, tBad, xBad, oNone, oSome, gNm, gsNil, gsCons, Bi.go, Tn.nm, Mt.go, Mt.rc, cmG, opG, Gxs.len, q_ok, q_bad, q_exc, q_ite, o_ok, o_bad, o_exc, o_ite, a_nx, a_rt, a_bk, a_ct, a_bad, a_ite, t_nx, t_ct, t_bk, t_rt, t_bad, t_ite, r_rt, r_nx, r_bad, r_ite, k_b, q_b, n_b, t_b, t_i, t_n, t_l, t_t, e_and, e_or, e_not, e_chn, e_bool, e_val, e_seq, w_add, w_sub, w_mul, w_div, w_mod, w_ord, w_neg, w_isn, w_isnn, w_isb, w_isbn, w_eqi, w_nei, w_eqs, w_nes, w_eqb, w_neb, w_lent, w_lenl, e_tup, e_tupc, e_lst, e_lstc, td_0, td_1, td_2, td_3, td_4, td_5, td_6, ld_0, ld_1, ld_2, ld_3, ld_4, ld_5, ld_6, ld_7, w_ixt, w_ixl, at_0, at_1, at_2, at_3, om_some, or_some, e_lc, e_gfd, e_gsb, e_mth, e_met, w_max, w_min, w_rg1, w_rg2, w_rgd, e_ival, it_l, it_t, e_for, v_fx, v_cel, l_t, isiG, tyN, isiB, isiTs, List.mem_cons, List.not_mem_nil, or_false, false_or, or_true, true_or, decide_true, decide_false, Bool.or_false, Bool.false_or, Bool.true_or, Bool.or_true, Bool.and_false, Bool.and_true, Bool.true_and, Bool.false_and, Bool.not_true, Bool.not_false, List.map_cons, List.map_nil, List.replicate_zero, List.replicate_succ, List.cons_append, List.nil_append, List.length_cons, List.length_nil, List.getElem?_cons_zero, List.getElem?_cons_succ, List.getElem?_nil, List.set_cons_zero, List.set_cons_succ, if_true, if_false, Bool.false_eq_true, reduceIte, ite_self, is_line_ok n h]
theorem step_go (n : Nat) (v : W) (S : Sto) : rn (n + 1) 4 [v] S = outR (ess (rt n) b4 [some v] S) := rfl
theorem in_lb1 (S : Sto) : inW true (.d (.str ("lose" : Str))) (.d (.tuple [.str ("lose" : Str), .str ("bring" : Str)])) S = .ok (.d (.bool false)) S := rfl
theorem in_lb2 (S : Sto) : inW true (.d (.str ("bring" : Str))) (.d (.tuple [.str ("lose" : Str), .str ("bring" : Str)])) S = .ok (.d (.bool false)) S := rfl
theorem ne_nil {x : D} {xs : List D} {S : Sto} : eqW false (.d (.tuple (x :: xs))) (.d (.tuple [])) S = .ok (.d (.bool false)) S := by
  rw [w_eq rfl]
  simp [PyData.eqv, PyData.eqvAll]
theorem is_step_ok (n : Nat) {p : Sp} (h : p.Ok) (S : Sto) : rn (n + 2) 4 [.d p.D] S = .ok (.d (.bool true)) S := by
  cases p with
  | send c =>
    obtain ⟨h1, h2⟩ := h
    rw [step_go, b4, Sp.D]
    simp only [ess, es, et, ets, eto, ei, eg, egs, pv, sRet, sRetN, sNil, sIf, sAsg, sPar, sExp, sBrk, sCnt, xIte, xCall, xCons, xNil, xVar, xCon, xBin, xUn, xDic, tAnd, tOr, tNot, tBad, xBad, oNone, oSome, gNm, gsNil, gsCons, Bi.go, Tn.nm, Mt.go, Mt.rc, cmG, opG, Gxs.len, q_ok, q_bad, q_exc, q_ite, o_ok, o_bad, o_exc, o_ite, a_nx, a_rt, a_bk, a_ct, a_bad, a_ite, t_nx, t_ct, t_bk, t_rt, t_bad, t_ite, r_rt, r_nx, r_bad, r_ite, k_b, q_b, n_b, t_b, t_i, t_n, t_l, t_t, e_and, e_or, e_not, e_chn, e_bool, e_val, e_seq, w_add, w_sub, w_mul, w_div, w_mod, w_ord, w_neg, w_isn, w_isnn, w_isb, w_isbn, w_eqi, w_nei, w_eqs, w_nes, w_eqb, w_neb, w_lent, w_lenl, e_tup, e_tupc, e_lst, e_lstc, td_0, td_1, td_2, td_3, td_4, td_5, td_6, ld_0, ld_1, ld_2, ld_3, ld_4, ld_5, ld_6, ld_7, w_ixt, w_ixl, at_0, at_1, at_2, at_3, om_some, or_some, e_lc, e_gfd, e_gsb, e_mth, e_met, w_max, w_min, w_rg1, w_rg2, w_rgd, e_ival, it_l, it_t, e_for, v_fx, v_cel, l_t, isiG, tyN, isiB, isiTs, List.mem_cons, List.not_mem_nil, or_false, false_or, or_true, true_or, decide_true, decide_false, Bool.or_false, Bool.false_or, Bool.true_or, Bool.or_true, Bool.and_false, Bool.and_true, Bool.true_and, Bool.false_and, Bool.not_true, Bool.not_false, List.map_cons, List.map_nil, List.replicate_zero, List.replicate_succ, List.cons_append, List.nil_append, List.length_cons, List.length_nil, List.getElem?_cons_zero, List.getElem?_cons_succ, List.getElem?_nil, List.set_cons_zero, List.set_cons_succ, if_true, if_false, Bool.false_eq_true, reduceIte, ite_self, is_whole_int, c4, ne_nil, h1, h2]
    rfl
  | lose r i =>
    obtain ⟨h0, h1, h2⟩ := h
    have h3 : 0 ≤ r := by omega
    have h4 : r ≤ 1 := by omega
    rw [step_go, b4, Sp.D]
    simp only [ess, es, et, ets, eto, ei, eg, egs, pv, sRet, sRetN, sNil, sIf, sAsg, sPar, sExp, sBrk, sCnt, xIte, xCall, xCons, xNil, xVar, xCon, xBin, xUn, xDic, tAnd, tOr, tNot, tBad, xBad, oNone, oSome, gNm, gsNil, gsCons, Bi.go, Tn.nm, Mt.go, Mt.rc, cmG, opG, Gxs.len, q_ok, q_bad, q_exc, q_ite, o_ok, o_bad, o_exc, o_ite, a_nx, a_rt, a_bk, a_ct, a_bad, a_ite, t_nx, t_ct, t_bk, t_rt, t_bad, t_ite, r_rt, r_nx, r_bad, r_ite, k_b, q_b, n_b, t_b, t_i, t_n, t_l, t_t, e_and, e_or, e_not, e_chn, e_bool, e_val, e_seq, w_add, w_sub, w_mul, w_div, w_mod, w_ord, w_neg, w_isn, w_isnn, w_isb, w_isbn, w_eqi, w_nei, w_eqs, w_nes, w_eqb, w_neb, w_lent, w_lenl, e_tup, e_tupc, e_lst, e_lstc, td_0, td_1, td_2, td_3, td_4, td_5, td_6, ld_0, ld_1, ld_2, ld_3, ld_4, ld_5, ld_6, ld_7, w_ixt, w_ixl, at_0, at_1, at_2, at_3, om_some, or_some, e_lc, e_gfd, e_gsb, e_mth, e_met, w_max, w_min, w_rg1, w_rg2, w_rgd, e_ival, it_l, it_t, e_for, v_fx, v_cel, l_t, isiG, tyN, isiB, isiTs, List.mem_cons, List.not_mem_nil, or_false, false_or, or_true, true_or, decide_true, decide_false, Bool.or_false, Bool.false_or, Bool.true_or, Bool.or_true, Bool.and_false, Bool.and_true, Bool.true_and, Bool.false_and, Bool.not_true, Bool.not_false, List.map_cons, List.map_nil, List.replicate_zero, List.replicate_succ, List.cons_append, List.nil_append, List.length_cons, List.length_nil, List.getElem?_cons_zero, List.getElem?_cons_succ, List.getElem?_nil, List.set_cons_zero, List.set_cons_succ, if_true, if_false, Bool.false_eq_true, reduceIte, ite_self, is_whole_int, c4, ne_nil, s1, in_lb1, h1, h2, h3, h4]
    rfl
  | bring r i k =>
    obtain ⟨h0, h1, h2⟩ := h
    have h3 : 0 ≤ r := by omega
    have h4 : r ≤ 1 := by omega
    rw [step_go, b4, Sp.D]
    simp only [ess, es, et, ets, eto, ei, eg, egs, pv, sRet, sRetN, sNil, sIf, sAsg, sPar, sExp, sBrk, sCnt, xIte, xCall, xCons, xNil, xVar, xCon, xBin, xUn, xDic, tAnd, tOr, tNot, tBad, xBad, oNone, oSome, gNm, gsNil, gsCons, Bi.go, Tn.nm, Mt.go, Mt.rc, cmG, opG, Gxs.len, q_ok, q_bad, q_exc, q_ite, o_ok, o_bad, o_exc, o_ite, a_nx, a_rt, a_bk, a_ct, a_bad, a_ite, t_nx, t_ct, t_bk, t_rt, t_bad, t_ite, r_rt, r_nx, r_bad, r_ite, k_b, q_b, n_b, t_b, t_i, t_n, t_l, t_t, e_and, e_or, e_not, e_chn, e_bool, e_val, e_seq, w_add, w_sub, w_mul, w_div, w_mod, w_ord, w_neg, w_isn, w_isnn, w_isb, w_isbn, w_eqi, w_nei, w_eqs, w_nes, w_eqb, w_neb, w_lent, w_lenl, e_tup, e_tupc, e_lst, e_lstc, td_0, td_1, td_2, td_3, td_4, td_5, td_6, ld_0, ld_1, ld_2, ld_3, ld_4, ld_5, ld_6, ld_7, w_ixt, w_ixl, at_0, at_1, at_2, at_3, om_some, or_some, e_lc, e_gfd, e_gsb, e_mth, e_met, w_max, w_min, w_rg1, w_rg2, w_rgd, e_ival, it_l, it_t, e_for, v_fx, v_cel, l_t, isiG, tyN, isiB, isiTs, List.mem_cons, List.not_mem_nil, or_false, false_or, or_true, true_or, decide_true, decide_false, Bool.or_false, Bool.false_or, Bool.true_or, Bool.or_true, Bool.and_false, Bool.and_true, Bool.true_and, Bool.false_and, Bool.not_true, Bool.not_false, List.map_cons, List.map_nil, List.replicate_zero, List.replicate_succ, List.cons_append, List.nil_append, List.length_cons, List.length_nil, List.getElem?_cons_zero, List.getElem?_cons_succ, List.getElem?_nil, List.set_cons_zero, List.set_cons_succ, if_true, if_false, Bool.false_eq_true, reduceIte, ite_self, is_whole_int, c4, ne_nil, s2, s3, in_lb2, h1, h2, h3, h4]
    rfl
end K75
end
section
set_option Elab.async false
set_option linter.all false
set_option maxRecDepth 100000
set_option maxHeartbeats 4000000
namespace K75
open PySem Mi
structure MS where
  sent : Int
  done : Int
  una : Int
  put : List Int
  ans : List Int
  r0 : List Int
  r1 : List Int
  tw : Bool
  wr : Bool
def MS.start : MS := ⟨0, 0, 0, [], [], [], [], false, false⟩
def iw (l : List Int) : List W := l.map fun i => .d (.int i)
def flds (l : Ln) (s : MS) (o : Nat) : List (Str × W) := [("order", .d (.str (oS l.any))), ("ring", .d (.int l.ring)), ("under_way", .d (.int l.wide)), ("kept", .d (.int l.kept)), ("sent", .d (.int s.sent)), ("done", .d (.int s.done)), ("unanswered", .d (.int s.una)), ("put_by", .c (o + 1)), ("answered", .c (o + 2)), ("lines", .c (o + 5)), ("is_twice", .d (.bool s.tw)), ("is_wrong", .d (.bool s.wr))]
def TR (l : Ln) (s : MS) (o : Nat) : Sto := [.ins 0 (flds l s o), .lst (iw s.put), .lst (iw s.ans), .lst (iw s.r0), .lst (iw s.r1), .lst [.c (o + 3), .c (o + 4)]]
def PS (l : Ln) (s : MS) (S : Sto) : Sto := S ++ TR l s S.length
section
variable {l : Ln} {s : MS} {S T : Sto} {n : Nat} {v : Int}
theorem tget {k : Nat} : (S ++ T)[S.length + k]? = T[k]? := by
  rw [List.getElem?_append_right (by omega)]; congr 1; omega
theorem tget0 : (S ++ T)[S.length]? = T[0]? := tget (k := 0)
theorem tset {k : Nat} {o : Ob} : (S ++ T).set (S.length + k) o = S ++ T.set k o := by
  rw [List.set_append_right _ _ (by omega)]; congr 2; omega
theorem tset0 {o : Ob} : (S ++ T).set S.length o = S ++ T.set 0 o := tset (k := 0)
theorem g_o : (PS l s S)[S.length]? = some (.ins 0 (flds l s S.length)) := tget0
theorem g_1 : (PS l s S)[S.length + 1]? = some (.lst (iw s.put)) := tget
theorem g_2 : (PS l s S)[S.length + 2]? = some (.lst (iw s.ans)) := tget
theorem g_3 : (PS l s S)[S.length + 3]? = some (.lst (iw s.r0)) := tget
theorem g_4 : (PS l s S)[S.length + 4]? = some (.lst (iw s.r1)) := tget
theorem g_5 : (PS l s S)[S.length + 5]? = some (.lst [.c (S.length + 3), .c (S.length + 4)]) := tget
theorem f_any {f : Str} {w : W} (h : (flds l s S.length).lookup f = some w) : fldG 0 f (.c S.length) (PS l s S) = .ok w (PS l s S) := by
  simp only [fldG, g_o, if_true, h]
theorem f_order : fldG 0 "order" (.c S.length) (PS l s S) = .ok (.d (.str (oS l.any))) (PS l s S) := f_any rfl
theorem f_ring : fldG 0 "ring" (.c S.length) (PS l s S) = .ok (.d (.int l.ring)) (PS l s S) := f_any rfl
theorem f_wide : fldG 0 "under_way" (.c S.length) (PS l s S) = .ok (.d (.int l.wide)) (PS l s S) := f_any rfl
theorem f_kept : fldG 0 "kept" (.c S.length) (PS l s S) = .ok (.d (.int l.kept)) (PS l s S) := f_any rfl
theorem f_sent : fldG 0 "sent" (.c S.length) (PS l s S) = .ok (.d (.int s.sent)) (PS l s S) := f_any rfl
theorem f_done : fldG 0 "done" (.c S.length) (PS l s S) = .ok (.d (.int s.done)) (PS l s S) := f_any rfl
theorem f_una : fldG 0 "unanswered" (.c S.length) (PS l s S) = .ok (.d (.int s.una)) (PS l s S) := f_any rfl
theorem f_put : fldG 0 "put_by" (.c S.length) (PS l s S) = .ok (.c (S.length + 1)) (PS l s S) := f_any rfl
theorem f_ans : fldG 0 "answered" (.c S.length) (PS l s S) = .ok (.c (S.length + 2)) (PS l s S) := f_any rfl
theorem f_lines : fldG 0 "lines" (.c S.length) (PS l s S) = .ok (.c (S.length + 5)) (PS l s S) := f_any rfl
theorem f_tw : fldG 0 "is_twice" (.c S.length) (PS l s S) = .ok (.d (.bool s.tw)) (PS l s S) := f_any rfl
theorem f_wr : fldG 0 "is_wrong" (.c S.length) (PS l s S) = .ok (.d (.bool s.wr)) (PS l s S) := f_any rfl
theorem u_any {s' : MS} {f : Str} {w : W} (h : putA f w (flds l s S.length) = flds l s' S.length) (h2 : TR l s' S.length = (TR l s S.length).set 0 (.ins 0 (flds l s' S.length))) : setG 0 f (.c S.length) w (PS l s S) = .ok () (PS l s' S) := by
  have hl : (flds l s S.length).length < 1000 := by show 12 < 1000; decide
  simp only [setG, g_o, h, hl, and_self, if_true]
  unfold PS
  rw [tset0, h2]
theorem u_sent : setG 0 "sent" (.c S.length) (.d (.int v)) (PS l s S) = .ok () (PS l { s with sent := v } S) := u_any rfl rfl
theorem u_done : setG 0 "done" (.c S.length) (.d (.int v)) (PS l s S) = .ok () (PS l { s with done := v } S) := u_any rfl rfl
theorem u_una : setG 0 "unanswered" (.c S.length) (.d (.int v)) (PS l s S) = .ok () (PS l { s with una := v } S) := u_any rfl rfl
theorem u_tw {b : Bool} : setG 0 "is_twice" (.c S.length) (.d (.bool b)) (PS l s S) = .ok () (PS l { s with tw := b } S) := u_any rfl rfl
theorem u_wr {b : Bool} : setG 0 "is_wrong" (.c S.length) (.d (.bool b)) (PS l s S) = .ok () (PS l { s with wr := b } S) := u_any rfl rfl
theorem i_any {m : Str} (h : ((flds l s S.length).lookup m).isNone = true) : isIns 0 m (.c S.length) (PS l s S) = true := by
  simp only [isIns, g_o, h, decide_true, Bool.and_self]
theorem i_mark : isIns 0 "mark" (.c S.length) (PS l s S) = true := i_any rfl
theorem i_do : isIns 0 "do" (.c S.length) (PS l s S) = true := i_any rfl
theorem i_send : isIns 0 "send" (.c S.length) (PS l s S) = true := i_any rfl
theorem i_like : isIns 0 "like" (.c S.length) (PS l s S) = true := i_any rfl
theorem i_house : isIns 0 "reach_house" (.c S.length) (PS l s S) = true := i_any rfl
theorem i_sender : isIns 0 "reach_sender" (.c S.length) (PS l s S) = true := i_any rfl
theorem i_stuck : isIns 0 "is_stuck" (.c S.length) (PS l s S) = true := i_any rfl
theorem i_bad : isIns 0 "badness" (.c S.length) (PS l s S) = true := i_any rfl
theorem iw_d (l : List Int) : iw l = (l.map .int).map .d := by unfold iw; rw [List.map_map]; rfl
theorem iw_flat (l : List Int) : (l.map PyData.int).all flatD = true := by
  rw [List.all_map]
  exact List.all_eq_true.mpr fun _ _ => rfl
theorem iw_any (l : List Int) (x : Int) : ((l.map PyData.int).any fun y => PyData.eqv y (.int x)) = decide (x ∈ l) := by
  rw [List.any_map]
  rw [Bool.eq_iff_iff, List.any_eq_true, decide_eq_true_eq]
  constructor
  · rintro ⟨y, hy, e⟩
    have e' : (y == x) = true := by simpa [PyData.eqv] using e
    rw [← eq_of_beq e']; exact hy
  · exact fun h => ⟨x, h, by simp [PyData.eqv]⟩
theorem in_iw {ng : Bool} {x : Int} {k : Nat} {is : List Int} (h : S[k]? = some (.lst (iw is))) : inW ng (.d (.int x)) (.c k) S = .ok (.d (.bool (if ng then !decide (x ∈ is) else decide (x ∈ is)))) S := by
  rw [iw_d] at h
  rw [w_inc h rfl (iw_flat is), iw_any]
theorem n_put {x : Int} : inW false (.d (.int x)) (.c (S.length + 1)) (PS l s S) = .ok (.d (.bool (decide (x ∈ s.put)))) (PS l s S) := in_iw g_1
theorem n_putn {x : Int} : inW true (.d (.int x)) (.c (S.length + 1)) (PS l s S) = .ok (.d (.bool !(decide (x ∈ s.put)))) (PS l s S) := in_iw g_1
theorem n_ans {x : Int} : inW false (.d (.int x)) (.c (S.length + 2)) (PS l s S) = .ok (.d (.bool (decide (x ∈ s.ans)))) (PS l s S) := in_iw g_2
theorem n_ansn {x : Int} : inW true (.d (.int x)) (.c (S.length + 2)) (PS l s S) = .ok (.d (.bool !(decide (x ∈ s.ans)))) (PS l s S) := in_iw g_2
theorem n_r1n {x : Int} : inW true (.d (.int x)) (.c (S.length + 4)) (PS l s S) = .ok (.d (.bool !(decide (x ∈ s.r1)))) (PS l s S) := in_iw g_4
theorem x_0 : ixG (.c (S.length + 5)) (.d (.int 0)) (PS l s S) = .ok (.c (S.length + 3)) (PS l s S) := by rw [w_ixc g_5, at_0]; rfl
theorem x_1 : ixG (.c (S.length + 5)) (.d (.int 1)) (PS l s S) = .ok (.c (S.length + 4)) (PS l s S) := by rw [w_ixc g_5, at_1]; rfl
theorem ap_any {k : Nat} {s' : MS} {is : List Int} {x : Int} (h : (TR l s S.length)[k]? = some (.lst (iw is))) (hc : is.length < cap) (e : (TR l s S.length).set k (.lst (iw is ++ [.d (.int x)])) = TR l s' S.length) : appG (.c (S.length + k)) [.d (.int x)] (PS l s S) = .ok (.d .none) (PS l s' S) := by
  have g : (PS l s S)[S.length + k]? = some (.lst (iw is)) := tget.trans h
  have hc' : (iw is).length < cap := by unfold iw; rw [List.length_map]; exact hc
  simp only [appG, g, hc', if_true]
  unfold PS
  rw [tset, e]
theorem iw_app (is : List Int) (x : Int) : iw is ++ [.d (.int x)] = iw (is ++ [x]) := by unfold iw; rw [List.map_append]; rfl
theorem p_put {x : Int} (h : s.put.length < cap) : appG (.c (S.length + 1)) [.d (.int x)] (PS l s S) = .ok (.d .none) (PS l { s with put := s.put ++ [x] } S) := ap_any rfl h (by rw [iw_app]; rfl)
theorem p_ans {x : Int} (h : s.ans.length < cap) : appG (.c (S.length + 2)) [.d (.int x)] (PS l s S) = .ok (.d .none) (PS l { s with ans := s.ans ++ [x] } S) := ap_any rfl h (by rw [iw_app]; rfl)
theorem p_r0 {x : Int} (h : s.r0.length < cap) : appG (.c (S.length + 3)) [.d (.int x)] (PS l s S) = .ok (.d .none) (PS l { s with r0 := s.r0 ++ [x] } S) := ap_any rfl h (by rw [iw_app]; rfl)
theorem p_r1 {x : Int} (h : s.r1.length < cap) : appG (.c (S.length + 4)) [.d (.int x)] (PS l s S) = .ok (.d .none) (PS l { s with r1 := s.r1 ++ [x] } S) := ap_any rfl h (by rw [iw_app]; rfl)
theorem l_any {k : Nat} {ws : List W} (h : S[k]? = some (.lst ws)) : isLst (.c k) S = true := by
  simp only [isLst, seqOf, h, obSeq]
theorem l_put : isLst (.c (S.length + 1)) (PS l s S) = true := l_any g_1
theorem l_ans : isLst (.c (S.length + 2)) (PS l s S) = true := l_any g_2
theorem l_r0 : isLst (.c (S.length + 3)) (PS l s S) = true := l_any g_3
theorem l_r1 : isLst (.c (S.length + 4)) (PS l s S) = true := l_any g_4
theorem z_r0 : lenG [.c (S.length + 3)] (PS l s S) = .ok (.d (.int s.r0.length)) (PS l s S) := by rw [w_lenc g_3]; simp [iw]
theorem z_r1 : lenG [.c (S.length + 4)] (PS l s S) = .ok (.d (.int s.r1.length)) (PS l s S) := by rw [w_lenc g_4]; simp [iw]
theorem iw_at {is : List Int} {i : Nat} {x : Int} (h : is[i]? = some x) : (iw is)[i]? = some (.d (.int x)) := by
  unfold iw; rw [List.getElem?_map, h]; rfl
theorem x_r0 {i : Nat} {x : Int} (h : s.r0[i]? = some x) : ixG (.c (S.length + 3)) (.d (.int i)) (PS l s S) = .ok (.d (.int x)) (PS l s S) := by
  rw [w_ixc g_3, at_nat, iw_at h]; rfl
theorem x_r1 {i : Nat} {x : Int} (h : s.r1[i]? = some x) : ixG (.c (S.length + 4)) (.d (.int i)) (PS l s S) = .ok (.d (.int x)) (PS l s S) := by
  rw [w_ixc g_4, at_nat, iw_at h]; rfl
theorem iw_er (is : List Int) (i : Nat) : (iw is).eraseIdx i = iw (is.eraseIdx i) := by
  unfold iw
  induction is generalizing i with
  | nil => rfl
  | cons x is ih =>
    cases i with
    | zero => rfl
    | succ i => rw [List.map_cons, List.eraseIdx_cons_succ, ih, List.eraseIdx_cons_succ, List.map_cons]
theorem po_any {k : Nat} {s' : MS} {is : List Int} {i : Nat} {x : Int} (h : (TR l s S.length)[k]? = some (.lst (iw is))) (hx : is[i]? = some x) (hc : is.length ≤ cap) (e : (TR l s S.length).set k (.lst (iw (is.eraseIdx i))) = TR l s' S.length) :
    popG (.c (S.length + k)) [.d (.int i)] (PS l s S) = .ok (.d (.int x)) (PS l s' S) := by
  have g : (PS l s S)[S.length + k]? = some (.lst (iw is)) := tget.trans h
  have hl : i < is.length := (List.getElem?_eq_some_iff.mp hx).1
  have z : (iw is).length = is.length := by unfold iw; rw [List.length_map]
  have c1 : (decide (0 ≤ (i : Int)) && decide ((i : Int) < (iw is).length) && decide ((iw is).length ≤ cap)) = true := by
    rw [z]; simp; exact ⟨hl, hc⟩
  have hx' : (iw is)[(i : Int).toNat]? = some (.d (.int x)) := iw_at hx
  simp only [popG, g]
  rw [if_pos c1, hx']
  show Res.ok _ _ = _
  have e2 : (iw is).eraseIdx ((i : Int).toNat) = iw (is.eraseIdx i) := iw_er is i
  rw [e2]
  unfold PS
  rw [tset, e]
theorem po_r0 {i : Nat} {x : Int} (hx : s.r0[i]? = some x) (hc : s.r0.length ≤ cap) : popG (.c (S.length + 3)) [.d (.int i)] (PS l s S) = .ok (.d (.int x)) (PS l { s with r0 := s.r0.eraseIdx i } S) := po_any rfl hx hc rfl
theorem po_r1 {i : Nat} {x : Int} (hx : s.r1[i]? = some x) (hc : s.r1.length ≤ cap) : popG (.c (S.length + 4)) [.d (.int i)] (PS l s S) = .ok (.d (.int x)) (PS l { s with r1 := s.r1.eraseIdx i } S) := po_any rfl hx hc rfl
def mk (ring c : Int) : Int := if ring = 0 then c else c.fmod ring
theorem mark_ok (n : Nat) (c : Int) : rn (n + 1) 30 [.c S.length, .d (.int c)] (PS l s S) = .ok (.d (.int (mk l.ring c))) (PS l s S) := by
  show outR (ess (rt n) b30 [some (.c S.length), some (.d (.int c))] (PS l s S)) = _
  rw [b30]
  simp only [ess, es, et, ets, eto, ei, eg, egs, pv, sRet, sRetN, sNil, sIf, sAsg, sPar, sExp, sBrk, sCnt, xIte, xCall, xCons, xNil, xVar, xCon, xBin, xUn, xDic, tAnd, tOr, tNot, tBad, xBad, oNone, oSome, gNm, gsNil, gsCons, Bi.go, Tn.nm, Mt.go, Mt.rc, cmG, opG, Gxs.len, q_ok, q_bad, q_exc, q_ite, o_ok, o_bad, o_exc, o_ite, a_nx, a_rt, a_bk, a_ct, a_bad, a_ite, t_nx, t_ct, t_bk, t_rt, t_bad, t_ite, r_rt, r_nx, r_bad, r_ite, k_b, q_b, n_b, t_b, t_i, t_n, t_l, t_t, e_and, e_or, e_not, e_chn, e_bool, e_val, e_seq, w_add, w_sub, w_mul, w_div, w_mod, w_ord, w_neg, w_isn, w_isnn, w_isb, w_isbn, w_eqi, w_nei, w_eqs, w_nes, w_eqb, w_neb, w_lent, w_lenl, e_tup, e_tupc, e_lst, e_lstc, td_0, td_1, td_2, td_3, td_4, td_5, td_6, ld_0, ld_1, ld_2, ld_3, ld_4, ld_5, ld_6, ld_7, w_ixt, w_ixl, at_0, at_1, at_2, at_3, om_some, or_some, e_lc, e_gfd, e_gsb, e_mth, e_met, w_max, w_min, w_rg1, w_rg2, w_rgd, e_ival, it_l, it_t, e_for, v_fx, v_cel, l_t, isiG, tyN, isiB, isiTs, List.mem_cons, List.not_mem_nil, or_false, false_or, or_true, true_or, decide_true, decide_false, Bool.or_false, Bool.false_or, Bool.true_or, Bool.or_true, Bool.and_false, Bool.and_true, Bool.true_and, Bool.false_and, Bool.not_true, Bool.not_false, List.map_cons, List.map_nil, List.replicate_zero, List.replicate_succ, List.cons_append, List.nil_append, List.length_cons, List.length_nil, List.getElem?_cons_zero, List.getElem?_cons_succ, List.getElem?_nil, List.set_cons_zero, List.set_cons_succ, if_true, if_false, Bool.false_eq_true, reduceIte, ite_self, f_ring]
  unfold mk
  by_cases h : l.ring = 0
  · simp [h]
  · simp [h]
def oi (o : Option Int) : W := match o with
  | some c => .d (.int c)
  | none => .d .none
theorem oi_n : oi none = .d .none := rfl
theorem oi_s {c : Int} : oi (some c) = .d (.int c) := rfl
theorem non_n : isNon .none = true := rfl
theorem non_i {c : Int} : isNon (.int c) = false := rfl
theorem like_turn (n : Nat) (m c : Int) (x : Option W) : ess (rt (n + 1)) b33_0 [some (.c S.length), some (.d (.int m)), x, some (.d (.int c))] (PS l s S) = if decide (mk l.ring c = mk l.ring m) = true then .rt (.d (.int c)) (PS l s S) else .nx [some (.c S.length), some (.d (.int m)), x, some (.d (.int c))] (PS l s S) := by
  rw [b33_0]
  simp only [ess, es, et, ets, eto, ei, eg, egs, pv, sRet, sRetN, sNil, sIf, sAsg, sPar, sExp, sBrk, sCnt, xIte, xCall, xCons, xNil, xVar, xCon, xBin, xUn, xDic, tAnd, tOr, tNot, tBad, xBad, oNone, oSome, gNm, gsNil, gsCons, Bi.go, Tn.nm, Mt.go, Mt.rc, cmG, opG, Gxs.len, q_ok, q_bad, q_exc, q_ite, o_ok, o_bad, o_exc, o_ite, a_nx, a_rt, a_bk, a_ct, a_bad, a_ite, t_nx, t_ct, t_bk, t_rt, t_bad, t_ite, r_rt, r_nx, r_bad, r_ite, k_b, q_b, n_b, t_b, t_i, t_n, t_l, t_t, e_and, e_or, e_not, e_chn, e_bool, e_val, e_seq, w_add, w_sub, w_mul, w_div, w_mod, w_ord, w_neg, w_isn, w_isnn, w_isb, w_isbn, w_eqi, w_nei, w_eqs, w_nes, w_eqb, w_neb, w_lent, w_lenl, e_tup, e_tupc, e_lst, e_lstc, td_0, td_1, td_2, td_3, td_4, td_5, td_6, ld_0, ld_1, ld_2, ld_3, ld_4, ld_5, ld_6, ld_7, w_ixt, w_ixl, at_0, at_1, at_2, at_3, om_some, or_some, e_lc, e_gfd, e_gsb, e_mth, e_met, w_max, w_min, w_rg1, w_rg2, w_rgd, e_ival, it_l, it_t, e_for, v_fx, v_cel, l_t, isiG, tyN, isiB, isiTs, List.mem_cons, List.not_mem_nil, or_false, false_or, or_true, true_or, decide_true, decide_false, Bool.or_false, Bool.false_or, Bool.true_or, Bool.or_true, Bool.and_false, Bool.and_true, Bool.true_and, Bool.false_and, Bool.not_true, Bool.not_false, List.map_cons, List.map_nil, List.replicate_zero, List.replicate_succ, List.cons_append, List.nil_append, List.length_cons, List.length_nil, List.getElem?_cons_zero, List.getElem?_cons_succ, List.getElem?_nil, List.set_cons_zero, List.set_cons_succ, if_true, if_false, Bool.false_eq_true, reduceIte, ite_self, i_mark, mark_ok]
theorem like_ok (n : Nat) (m : Int) (cs : List Int) : rn (n + 2) 33 [.c S.length, .d (.int m), .d (.list (cs.map .int))] (PS l s S) = .ok (oi (cs.find? fun c => decide (mk l.ring c = mk l.ring m))) (PS l s S) := by
  show outR (ess (rt (n + 1)) b33 [some (.c S.length), some (.d (.int m)), some (.d (.list (cs.map .int))), none] (PS l s S)) = _
  rw [b33]
  have key : ∀ (ds : List D) (cs : List Int) (u : Option W), (forD (gNm 3) (ess (rt (n + 1)) b33_0) ((cs.map PyData.int).map W.d) [some (.c S.length), some (.d (.int m)), some (.d (.list ds)), u] (PS l s S)).andO (sSeq (sRet (xCon (.d .none))) sNil) = .rt (oi (cs.find? fun c => decide (mk l.ring c = mk l.ring m))) (PS l s S) := by
    intro ds cs
    induction cs with
    | nil => intro u; rfl
    | cons c cs ih =>
      intro u
      rw [List.map_cons, List.map_cons, e_for1]
      simp only [ess, es, et, ets, eto, ei, eg, egs, pv, sRet, sRetN, sNil, sIf, sAsg, sPar, sExp, sBrk, sCnt, xIte, xCall, xCons, xNil, xVar, xCon, xBin, xUn, xDic, tAnd, tOr, tNot, tBad, xBad, oNone, oSome, gNm, gsNil, gsCons, Bi.go, Tn.nm, Mt.go, Mt.rc, cmG, opG, Gxs.len, q_ok, q_bad, q_exc, q_ite, o_ok, o_bad, o_exc, o_ite, a_nx, a_rt, a_bk, a_ct, a_bad, a_ite, t_nx, t_ct, t_bk, t_rt, t_bad, t_ite, r_rt, r_nx, r_bad, r_ite, k_b, q_b, n_b, t_b, t_i, t_n, t_l, t_t, e_and, e_or, e_not, e_chn, e_bool, e_val, e_seq, w_add, w_sub, w_mul, w_div, w_mod, w_ord, w_neg, w_isn, w_isnn, w_isb, w_isbn, w_eqi, w_nei, w_eqs, w_nes, w_eqb, w_neb, w_lent, w_lenl, e_tup, e_tupc, e_lst, e_lstc, td_0, td_1, td_2, td_3, td_4, td_5, td_6, ld_0, ld_1, ld_2, ld_3, ld_4, ld_5, ld_6, ld_7, w_ixt, w_ixl, at_0, at_1, at_2, at_3, om_some, or_some, e_lc, e_gfd, e_gsb, e_mth, e_met, w_max, w_min, w_rg1, w_rg2, w_rgd, e_ival, it_l, it_t, e_for, v_fx, v_cel, l_t, isiG, tyN, isiB, isiTs, List.mem_cons, List.not_mem_nil, or_false, false_or, or_true, true_or, decide_true, decide_false, Bool.or_false, Bool.false_or, Bool.true_or, Bool.or_true, Bool.and_false, Bool.and_true, Bool.true_and, Bool.false_and, Bool.not_true, Bool.not_false, List.map_cons, List.map_nil, List.replicate_zero, List.replicate_succ, List.cons_append, List.nil_append, List.length_cons, List.length_nil, List.getElem?_cons_zero, List.getElem?_cons_succ, List.getElem?_nil, List.set_cons_zero, List.set_cons_succ, if_true, if_false, Bool.false_eq_true, reduceIte, ite_self, like_turn]
      rw [List.find?_cons]
      cases h : decide (mk l.ring c = mk l.ring m) with
      | true => rfl
      | false => exact ih _
  simp only [ess, es, et, ets, eto, ei, eg, egs, pv, sRet, sRetN, sNil, sIf, sAsg, sPar, sExp, sBrk, sCnt, xIte, xCall, xCons, xNil, xVar, xCon, xBin, xUn, xDic, tAnd, tOr, tNot, tBad, xBad, oNone, oSome, gNm, gsNil, gsCons, Bi.go, Tn.nm, Mt.go, Mt.rc, cmG, opG, Gxs.len, q_ok, q_bad, q_exc, q_ite, o_ok, o_bad, o_exc, o_ite, a_nx, a_rt, a_bk, a_ct, a_bad, a_ite, t_nx, t_ct, t_bk, t_rt, t_bad, t_ite, r_rt, r_nx, r_bad, r_ite, k_b, q_b, n_b, t_b, t_i, t_n, t_l, t_t, e_and, e_or, e_not, e_chn, e_bool, e_val, e_seq, w_add, w_sub, w_mul, w_div, w_mod, w_ord, w_neg, w_isn, w_isnn, w_isb, w_isbn, w_eqi, w_nei, w_eqs, w_nes, w_eqb, w_neb, w_lent, w_lenl, e_tup, e_tupc, e_lst, e_lstc, td_0, td_1, td_2, td_3, td_4, td_5, td_6, ld_0, ld_1, ld_2, ld_3, ld_4, ld_5, ld_6, ld_7, w_ixt, w_ixl, at_0, at_1, at_2, at_3, om_some, or_some, e_lc, e_gfd, e_gsb, e_mth, e_met, w_max, w_min, w_rg1, w_rg2, w_rgd, e_ival, it_l, it_t, e_for, v_fx, v_cel, l_t, isiG, tyN, isiB, isiTs, List.mem_cons, List.not_mem_nil, or_false, false_or, or_true, true_or, decide_true, decide_false, Bool.or_false, Bool.false_or, Bool.true_or, Bool.or_true, Bool.and_false, Bool.and_true, Bool.true_and, Bool.false_and, Bool.not_true, Bool.not_false, List.map_cons, List.map_nil, List.replicate_zero, List.replicate_succ, List.cons_append, List.nil_append, List.length_cons, List.length_nil, List.getElem?_cons_zero, List.getElem?_cons_succ, List.getElem?_nil, List.set_cons_zero, List.set_cons_succ, if_true, if_false, Bool.false_eq_true, reduceIte, ite_self]
  rw [key]
  rfl
theorem stuck_ok (n : Nat) : rn (n + 1) 36 [.c S.length] (PS l s S) = .ok (.d (.bool (decide (s.una < s.done - l.kept) && !decide (s.una ∈ s.r1)))) (PS l s S) := by
  show outR (ess (rt n) b36 [some (.c S.length), none] (PS l s S)) = _
  rw [b36]
  simp only [ess, es, et, ets, eto, ei, eg, egs, pv, sRet, sRetN, sNil, sIf, sAsg, sPar, sExp, sBrk, sCnt, xIte, xCall, xCons, xNil, xVar, xCon, xBin, xUn, xDic, tAnd, tOr, tNot, tBad, xBad, oNone, oSome, gNm, gsNil, gsCons, Bi.go, Tn.nm, Mt.go, Mt.rc, cmG, opG, Gxs.len, q_ok, q_bad, q_exc, q_ite, o_ok, o_bad, o_exc, o_ite, a_nx, a_rt, a_bk, a_ct, a_bad, a_ite, t_nx, t_ct, t_bk, t_rt, t_bad, t_ite, r_rt, r_nx, r_bad, r_ite, k_b, q_b, n_b, t_b, t_i, t_n, t_l, t_t, e_and, e_or, e_not, e_chn, e_bool, e_val, e_seq, w_add, w_sub, w_mul, w_div, w_mod, w_ord, w_neg, w_isn, w_isnn, w_isb, w_isbn, w_eqi, w_nei, w_eqs, w_nes, w_eqb, w_neb, w_lent, w_lenl, e_tup, e_tupc, e_lst, e_lstc, td_0, td_1, td_2, td_3, td_4, td_5, td_6, ld_0, ld_1, ld_2, ld_3, ld_4, ld_5, ld_6, ld_7, w_ixt, w_ixl, at_0, at_1, at_2, at_3, om_some, or_some, e_lc, e_gfd, e_gsb, e_mth, e_met, w_max, w_min, w_rg1, w_rg2, w_rgd, e_ival, it_l, it_t, e_for, v_fx, v_cel, l_t, isiG, tyN, isiB, isiTs, List.mem_cons, List.not_mem_nil, or_false, false_or, or_true, true_or, decide_true, decide_false, Bool.or_false, Bool.false_or, Bool.true_or, Bool.or_true, Bool.and_false, Bool.and_true, Bool.true_and, Bool.false_and, Bool.not_true, Bool.not_false, List.map_cons, List.map_nil, List.replicate_zero, List.replicate_succ, List.cons_append, List.nil_append, List.length_cons, List.length_nil, List.getElem?_cons_zero, List.getElem?_cons_succ, List.getElem?_nil, List.set_cons_zero, List.set_cons_succ, if_true, if_false, Bool.false_eq_true, reduceIte, ite_self, f_una, f_done, f_kept, f_lines, x_1, n_r1n]
  cases decide (s.una < s.done - l.kept) <;> rfl
theorem send_ok (n : Nat) (c : Int) (hc : s.r0.length < cap) : rn (n + 1) 32 [.c S.length, .d (.int c)] (PS l s S) =
    if (decide (s.una ≤ c) && decide (c < s.una + l.wide) && decide (c ≤ s.sent) && !decide (c ∈ s.ans)) = true then .ok (.d (.bool true)) (PS l { s with sent := max s.sent (c + 1), r0 := s.r0 ++ [c] } S) else .ok (.d (.bool false)) (PS l s S) := by
  show outR (ess (rt n) b32 [some (.c S.length), some (.d (.int c))] (PS l s S)) = _
  rw [b32]
  simp only [ess, es, et, ets, eto, ei, eg, egs, pv, sRet, sRetN, sNil, sIf, sAsg, sPar, sExp, sBrk, sCnt, xIte, xCall, xCons, xNil, xVar, xCon, xBin, xUn, xDic, tAnd, tOr, tNot, tBad, xBad, oNone, oSome, gNm, gsNil, gsCons, Bi.go, Tn.nm, Mt.go, Mt.rc, cmG, opG, Gxs.len, q_ok, q_bad, q_exc, q_ite, o_ok, o_bad, o_exc, o_ite, a_nx, a_rt, a_bk, a_ct, a_bad, a_ite, t_nx, t_ct, t_bk, t_rt, t_bad, t_ite, r_rt, r_nx, r_bad, r_ite, k_b, q_b, n_b, t_b, t_i, t_n, t_l, t_t, e_and, e_or, e_not, e_chn, e_bool, e_val, e_seq, w_add, w_sub, w_mul, w_div, w_mod, w_ord, w_neg, w_isn, w_isnn, w_isb, w_isbn, w_eqi, w_nei, w_eqs, w_nes, w_eqb, w_neb, w_lent, w_lenl, e_tup, e_tupc, e_lst, e_lstc, td_0, td_1, td_2, td_3, td_4, td_5, td_6, ld_0, ld_1, ld_2, ld_3, ld_4, ld_5, ld_6, ld_7, w_ixt, w_ixl, at_0, at_1, at_2, at_3, om_some, or_some, e_lc, e_gfd, e_gsb, e_mth, e_met, w_max, w_min, w_rg1, w_rg2, w_rgd, e_ival, it_l, it_t, e_for, v_fx, v_cel, l_t, isiG, tyN, isiB, isiTs, List.mem_cons, List.not_mem_nil, or_false, false_or, or_true, true_or, decide_true, decide_false, Bool.or_false, Bool.false_or, Bool.true_or, Bool.or_true, Bool.and_false, Bool.and_true, Bool.true_and, Bool.false_and, Bool.not_true, Bool.not_false, List.map_cons, List.map_nil, List.replicate_zero, List.replicate_succ, List.cons_append, List.nil_append, List.length_cons, List.length_nil, List.getElem?_cons_zero, List.getElem?_cons_succ, List.getElem?_nil, List.set_cons_zero, List.set_cons_succ, if_true, if_false, Bool.false_eq_true, reduceIte, ite_self, f_una, f_wide, f_sent, f_ans, f_lines, n_ans, x_0, l_r0, u_sent, p_r0 (l := l) (S := S) (x := c) (s := { s with sent := max s.sent (c + 1) }) hc]
  have e : decide (s.sent < c) = !decide (c ≤ s.sent) := by
    rw [Bool.eq_iff_iff]; simp
  rw [e]
  cases decide (s.una ≤ c) <;> cases decide (c < s.una + l.wide) <;> cases decide (c ≤ s.sent) <;> cases decide (c ∈ s.ans) <;> rfl
theorem bad_ok (n : Nat) : rn (n + 2) 37 [.c S.length] (PS l s S) = .ok (.d (.list (((if s.tw then [PyData.str ("twice" : Str)] else []) ++ (if s.wr then [PyData.str ("wrong" : Str)] else [])) ++ (if decide (s.una < s.done - l.kept) && !decide (s.una ∈ s.r1) then [PyData.str ("stuck" : Str)] else [])))) (PS l s S) := by
  show outR (ess (rt (n + 1)) b37 [some (.c S.length), none, none, none] (PS l s S)) = _
  rw [b37]
  simp only [ess, es, et, ets, eto, ei, eg, egs, pv, sRet, sRetN, sNil, sIf, sAsg, sPar, sExp, sBrk, sCnt, xIte, xCall, xCons, xNil, xVar, xCon, xBin, xUn, xDic, tAnd, tOr, tNot, tBad, xBad, oNone, oSome, gNm, gsNil, gsCons, Bi.go, Tn.nm, Mt.go, Mt.rc, cmG, opG, Gxs.len, q_ok, q_bad, q_exc, q_ite, o_ok, o_bad, o_exc, o_ite, a_nx, a_rt, a_bk, a_ct, a_bad, a_ite, t_nx, t_ct, t_bk, t_rt, t_bad, t_ite, r_rt, r_nx, r_bad, r_ite, k_b, q_b, n_b, t_b, t_i, t_n, t_l, t_t, e_and, e_or, e_not, e_chn, e_bool, e_val, e_seq, w_add, w_sub, w_mul, w_div, w_mod, w_ord, w_neg, w_isn, w_isnn, w_isb, w_isbn, w_eqi, w_nei, w_eqs, w_nes, w_eqb, w_neb, w_lent, w_lenl, e_tup, e_tupc, e_lst, e_lstc, td_0, td_1, td_2, td_3, td_4, td_5, td_6, ld_0, ld_1, ld_2, ld_3, ld_4, ld_5, ld_6, ld_7, w_ixt, w_ixl, at_0, at_1, at_2, at_3, om_some, or_some, e_lc, e_gfd, e_gsb, e_mth, e_met, w_max, w_min, w_rg1, w_rg2, w_rgd, e_ival, it_l, it_t, e_for, v_fx, v_cel, l_t, isiG, tyN, isiB, isiTs, List.mem_cons, List.not_mem_nil, or_false, false_or, or_true, true_or, decide_true, decide_false, Bool.or_false, Bool.false_or, Bool.true_or, Bool.or_true, Bool.and_false, Bool.and_true, Bool.true_and, Bool.false_and, Bool.not_true, Bool.not_false, List.map_cons, List.map_nil, List.replicate_zero, List.replicate_succ, List.cons_append, List.nil_append, List.length_cons, List.length_nil, List.getElem?_cons_zero, List.getElem?_cons_succ, List.getElem?_nil, List.set_cons_zero, List.set_cons_succ, if_true, if_false, Bool.false_eq_true, reduceIte, ite_self, f_tw, f_wr, i_stuck, stuck_ok, c1]
  generalize (decide (s.una < s.done - l.kept) && !decide (s.una ∈ s.r1)) = b
  cases h1 : s.tw <;> cases h2 : s.wr <;> cases b <;> rfl
def newOf (l : Ln) (s : MS) (m : Int) : Option Int := (upI s.done l.wide.toNat).find? fun c => decide (mk l.ring c = mk l.ring m)
def oldOf (l : Ln) (s : MS) (m : Int) : Option Int := (dnI (s.done - 1) (s.done - max 0 (s.done - l.kept)).toNat).find? fun c => decide (mk l.ring c = mk l.ring m)
def adv1 (c : Int) (s : MS) : MS := if decide (c = s.done) && decide (c ∈ s.put) then { s with r1 := s.r1 ++ [c], done := s.done + 1 } else s
def adv (cs : List Int) (s : MS) : MS := cs.foldl (fun s c => adv1 c s) s
def putN (s : MS) (c m : Int) : MS := if !decide (c ∈ s.put) then { s with put := s.put ++ [c], tw := s.tw || !decide (c = m) } else s
def hs (l : Ln) (s : MS) (m : Int) : MS := match newOf l s m with
  | none => (match oldOf l s m with
    | some c => { s with r1 := s.r1 ++ [c] }
    | none => s)
  | some c => adv (upI s.done l.wide.toNat) (putN s c m)
theorem adv_turn (n : Nat) (m c : Int) (x y u : Option W) (hc : s.r1.length < cap) : ess (rt n) b34_0 [some (.c S.length), some (.d (.int m)), x, some (.d (.int c)), y] (PS l s S) = .nx [some (.c S.length), some (.d (.int m)), x, some (.d (.int c)), y] (PS l (adv1 c s) S) := by
  rw [b34_0]
  simp only [ess, es, et, ets, eto, ei, eg, egs, pv, sRet, sRetN, sNil, sIf, sAsg, sPar, sExp, sBrk, sCnt, xIte, xCall, xCons, xNil, xVar, xCon, xBin, xUn, xDic, tAnd, tOr, tNot, tBad, xBad, oNone, oSome, gNm, gsNil, gsCons, Bi.go, Tn.nm, Mt.go, Mt.rc, cmG, opG, Gxs.len, q_ok, q_bad, q_exc, q_ite, o_ok, o_bad, o_exc, o_ite, a_nx, a_rt, a_bk, a_ct, a_bad, a_ite, t_nx, t_ct, t_bk, t_rt, t_bad, t_ite, r_rt, r_nx, r_bad, r_ite, k_b, q_b, n_b, t_b, t_i, t_n, t_l, t_t, e_and, e_or, e_not, e_chn, e_bool, e_val, e_seq, w_add, w_sub, w_mul, w_div, w_mod, w_ord, w_neg, w_isn, w_isnn, w_isb, w_isbn, w_eqi, w_nei, w_eqs, w_nes, w_eqb, w_neb, w_lent, w_lenl, e_tup, e_tupc, e_lst, e_lstc, td_0, td_1, td_2, td_3, td_4, td_5, td_6, ld_0, ld_1, ld_2, ld_3, ld_4, ld_5, ld_6, ld_7, w_ixt, w_ixl, at_0, at_1, at_2, at_3, om_some, or_some, e_lc, e_gfd, e_gsb, e_mth, e_met, w_max, w_min, w_rg1, w_rg2, w_rgd, e_ival, it_l, it_t, e_for, v_fx, v_cel, l_t, isiG, tyN, isiB, isiTs, List.mem_cons, List.not_mem_nil, or_false, false_or, or_true, true_or, decide_true, decide_false, Bool.or_false, Bool.false_or, Bool.true_or, Bool.or_true, Bool.and_false, Bool.and_true, Bool.true_and, Bool.false_and, Bool.not_true, Bool.not_false, List.map_cons, List.map_nil, List.replicate_zero, List.replicate_succ, List.cons_append, List.nil_append, List.length_cons, List.length_nil, List.getElem?_cons_zero, List.getElem?_cons_succ, List.getElem?_nil, List.set_cons_zero, List.set_cons_succ, if_true, if_false, Bool.false_eq_true, reduceIte, ite_self, f_done, f_put, f_lines, x_1, l_r1, n_put, u_done, p_r1 hc]
  unfold adv1
  cases decide (c = s.done) <;> cases decide (c ∈ s.put) <;> rfl
theorem adv1_r1 (c : Int) (s : MS) : (adv1 c s).r1.length ≤ s.r1.length + 1 := by
  unfold adv1
  split
  · show (s.r1 ++ [c]).length ≤ _; simp
  · omega
theorem adv_loop (n : Nat) (m : Int) (x y : Option W) : ∀ (cs : List Int) (s : MS) (u : Option W), s.r1.length + cs.length < cap →
    ∃ u', forD (gNm 3) (ess (rt n) b34_0) ((cs.map PyData.int).map W.d) [some (.c S.length), some (.d (.int m)), x, u, y] (PS l s S) = .nx [some (.c S.length), some (.d (.int m)), x, u', y] (PS l (adv cs s) S)
  | [], s, u, _ => ⟨u, rfl⟩
  | c :: cs, s, u, h => by
    have h1 := adv1_r1 c s
    have h' : s.r1.length + (cs.length + 1) < cap := by simpa using h
    obtain ⟨u', e⟩ := adv_loop n m x y cs (adv1 c s) (some (.d (.int c))) (by omega)
    refine ⟨u', ?_⟩
    rw [List.map_cons, List.map_cons, e_for1]
    simp only [ess, es, et, ets, eto, ei, eg, egs, pv, sRet, sRetN, sNil, sIf, sAsg, sPar, sExp, sBrk, sCnt, xIte, xCall, xCons, xNil, xVar, xCon, xBin, xUn, xDic, tAnd, tOr, tNot, tBad, xBad, oNone, oSome, gNm, gsNil, gsCons, Bi.go, Tn.nm, Mt.go, Mt.rc, cmG, opG, Gxs.len, q_ok, q_bad, q_exc, q_ite, o_ok, o_bad, o_exc, o_ite, a_nx, a_rt, a_bk, a_ct, a_bad, a_ite, t_nx, t_ct, t_bk, t_rt, t_bad, t_ite, r_rt, r_nx, r_bad, r_ite, k_b, q_b, n_b, t_b, t_i, t_n, t_l, t_t, e_and, e_or, e_not, e_chn, e_bool, e_val, e_seq, w_add, w_sub, w_mul, w_div, w_mod, w_ord, w_neg, w_isn, w_isnn, w_isb, w_isbn, w_eqi, w_nei, w_eqs, w_nes, w_eqb, w_neb, w_lent, w_lenl, e_tup, e_tupc, e_lst, e_lstc, td_0, td_1, td_2, td_3, td_4, td_5, td_6, ld_0, ld_1, ld_2, ld_3, ld_4, ld_5, ld_6, ld_7, w_ixt, w_ixl, at_0, at_1, at_2, at_3, om_some, or_some, e_lc, e_gfd, e_gsb, e_mth, e_met, w_max, w_min, w_rg1, w_rg2, w_rgd, e_ival, it_l, it_t, e_for, v_fx, v_cel, l_t, isiG, tyN, isiB, isiTs, List.mem_cons, List.not_mem_nil, or_false, false_or, or_true, true_or, decide_true, decide_false, Bool.or_false, Bool.false_or, Bool.true_or, Bool.or_true, Bool.and_false, Bool.and_true, Bool.true_and, Bool.false_and, Bool.not_true, Bool.not_false, List.map_cons, List.map_nil, List.replicate_zero, List.replicate_succ, List.cons_append, List.nil_append, List.length_cons, List.length_nil, List.getElem?_cons_zero, List.getElem?_cons_succ, List.getElem?_nil, List.set_cons_zero, List.set_cons_succ, if_true, if_false, Bool.false_eq_true, reduceIte, ite_self, adv_turn (l := l) (s := s) (S := S) n m c x y u (by omega)]
    exact e
theorem house_ok (n : Nat) (m : Int) (hl : l.Ok) (d0 : 0 ≤ s.done) (d1 : s.done ≤ 500000) (hp : s.put.length < cap) (hr : s.r1.length + 17 < cap) : rn (n + 3) 34 [.c S.length, .d (.int m)] (PS l s S) = .ok (.d .none) (PS l (hs l s m) S) := by
  obtain ⟨r0, r1, w0, w1, k0, k1⟩ := hl
  show outR (ess (rt (n + 2)) b34 [some (.c S.length), some (.d (.int m)), none, none, none] (PS l s S)) = _
  rw [b34]
  have e1 : (s.done + l.wide - s.done).toNat = l.wide.toNat := by congr 1; omega
  have e2 : (s.done - 1 - (max 0 (s.done - l.kept) - 1)).toNat = (s.done - max 0 (s.done - l.kept)).toNat := by congr 1; omega
  have a1 : lstG false [.r s.done (s.done + l.wide) 1] (PS l s S) = .ok (.d (.list ((upI s.done l.wide.toNat).map .int))) (PS l s S) := by
    rw [l_up (by omega) (by omega) (by omega) (by omega), e1, rgL_up]
  have a2 : lstG false [.r (s.done - 1) (max 0 (s.done - l.kept) - 1) (-1)] (PS l s S) = .ok (.d (.list ((dnI (s.done - 1) (s.done - max 0 (s.done - l.kept)).toNat).map .int))) (PS l s S) := by
    rw [l_dn (by omega) (by omega) (by omega) (by omega), e2, rgL_dn]
  simp only [ess, es, et, ets, eto, ei, eg, egs, pv, sRet, sRetN, sNil, sIf, sAsg, sPar, sExp, sBrk, sCnt, xIte, xCall, xCons, xNil, xVar, xCon, xBin, xUn, xDic, tAnd, tOr, tNot, tBad, xBad, oNone, oSome, gNm, gsNil, gsCons, Bi.go, Tn.nm, Mt.go, Mt.rc, cmG, opG, Gxs.len, q_ok, q_bad, q_exc, q_ite, o_ok, o_bad, o_exc, o_ite, a_nx, a_rt, a_bk, a_ct, a_bad, a_ite, t_nx, t_ct, t_bk, t_rt, t_bad, t_ite, r_rt, r_nx, r_bad, r_ite, k_b, q_b, n_b, t_b, t_i, t_n, t_l, t_t, e_and, e_or, e_not, e_chn, e_bool, e_val, e_seq, w_add, w_sub, w_mul, w_div, w_mod, w_ord, w_neg, w_isn, w_isnn, w_isb, w_isbn, w_eqi, w_nei, w_eqs, w_nes, w_eqb, w_neb, w_lent, w_lenl, e_tup, e_tupc, e_lst, e_lstc, td_0, td_1, td_2, td_3, td_4, td_5, td_6, ld_0, ld_1, ld_2, ld_3, ld_4, ld_5, ld_6, ld_7, w_ixt, w_ixl, at_0, at_1, at_2, at_3, om_some, or_some, e_lc, e_gfd, e_gsb, e_mth, e_met, w_max, w_min, w_rg1, w_rg2, w_rgd, e_ival, it_l, it_t, e_for, v_fx, v_cel, l_t, isiG, tyN, isiB, isiTs, List.mem_cons, List.not_mem_nil, or_false, false_or, or_true, true_or, decide_true, decide_false, Bool.or_false, Bool.false_or, Bool.true_or, Bool.or_true, Bool.and_false, Bool.and_true, Bool.true_and, Bool.false_and, Bool.not_true, Bool.not_false, List.map_cons, List.map_nil, List.replicate_zero, List.replicate_succ, List.cons_append, List.nil_append, List.length_cons, List.length_nil, List.getElem?_cons_zero, List.getElem?_cons_succ, List.getElem?_nil, List.set_cons_zero, List.set_cons_succ, if_true, if_false, Bool.false_eq_true, reduceIte, ite_self, f_done, f_wide, i_like, a1, like_ok]
  have f1 : (upI s.done l.wide.toNat).find? (fun c => decide (mk l.ring c = mk l.ring m)) = newOf l s m := rfl
  rw [f1]
  unfold hs
  cases hn : newOf l s m with
  | none =>
    simp only [ess, es, et, ets, eto, ei, eg, egs, pv, sRet, sRetN, sNil, sIf, sAsg, sPar, sExp, sBrk, sCnt, xIte, xCall, xCons, xNil, xVar, xCon, xBin, xUn, xDic, tAnd, tOr, tNot, tBad, xBad, oNone, oSome, gNm, gsNil, gsCons, Bi.go, Tn.nm, Mt.go, Mt.rc, cmG, opG, Gxs.len, q_ok, q_bad, q_exc, q_ite, o_ok, o_bad, o_exc, o_ite, a_nx, a_rt, a_bk, a_ct, a_bad, a_ite, t_nx, t_ct, t_bk, t_rt, t_bad, t_ite, r_rt, r_nx, r_bad, r_ite, k_b, q_b, n_b, t_b, t_i, t_n, t_l, t_t, e_and, e_or, e_not, e_chn, e_bool, e_val, e_seq, w_add, w_sub, w_mul, w_div, w_mod, w_ord, w_neg, w_isn, w_isnn, w_isb, w_isbn, w_eqi, w_nei, w_eqs, w_nes, w_eqb, w_neb, w_lent, w_lenl, e_tup, e_tupc, e_lst, e_lstc, td_0, td_1, td_2, td_3, td_4, td_5, td_6, ld_0, ld_1, ld_2, ld_3, ld_4, ld_5, ld_6, ld_7, w_ixt, w_ixl, at_0, at_1, at_2, at_3, om_some, or_some, e_lc, e_gfd, e_gsb, e_mth, e_met, w_max, w_min, w_rg1, w_rg2, w_rgd, e_ival, it_l, it_t, e_for, v_fx, v_cel, l_t, isiG, tyN, isiB, isiTs, List.mem_cons, List.not_mem_nil, or_false, false_or, or_true, true_or, decide_true, decide_false, Bool.or_false, Bool.false_or, Bool.true_or, Bool.or_true, Bool.and_false, Bool.and_true, Bool.true_and, Bool.false_and, Bool.not_true, Bool.not_false, List.map_cons, List.map_nil, List.replicate_zero, List.replicate_succ, List.cons_append, List.nil_append, List.length_cons, List.length_nil, List.getElem?_cons_zero, List.getElem?_cons_succ, List.getElem?_nil, List.set_cons_zero, List.set_cons_succ, if_true, if_false, Bool.false_eq_true, reduceIte, ite_self, oi_n, non_n, f_done, f_kept, w_neg, a2, i_like, like_ok]
    have f2 : (dnI (s.done - 1) (s.done - max 0 (s.done - l.kept)).toNat).find? (fun c => decide (mk l.ring c = mk l.ring m)) = oldOf l s m := rfl
    rw [f2]
    cases ho : oldOf l s m with
    | none => simp only [ess, es, et, ets, eto, ei, eg, egs, pv, sRet, sRetN, sNil, sIf, sAsg, sPar, sExp, sBrk, sCnt, xIte, xCall, xCons, xNil, xVar, xCon, xBin, xUn, xDic, tAnd, tOr, tNot, tBad, xBad, oNone, oSome, gNm, gsNil, gsCons, Bi.go, Tn.nm, Mt.go, Mt.rc, cmG, opG, Gxs.len, q_ok, q_bad, q_exc, q_ite, o_ok, o_bad, o_exc, o_ite, a_nx, a_rt, a_bk, a_ct, a_bad, a_ite, t_nx, t_ct, t_bk, t_rt, t_bad, t_ite, r_rt, r_nx, r_bad, r_ite, k_b, q_b, n_b, t_b, t_i, t_n, t_l, t_t, e_and, e_or, e_not, e_chn, e_bool, e_val, e_seq, w_add, w_sub, w_mul, w_div, w_mod, w_ord, w_neg, w_isn, w_isnn, w_isb, w_isbn, w_eqi, w_nei, w_eqs, w_nes, w_eqb, w_neb, w_lent, w_lenl, e_tup, e_tupc, e_lst, e_lstc, td_0, td_1, td_2, td_3, td_4, td_5, td_6, ld_0, ld_1, ld_2, ld_3, ld_4, ld_5, ld_6, ld_7, w_ixt, w_ixl, at_0, at_1, at_2, at_3, om_some, or_some, e_lc, e_gfd, e_gsb, e_mth, e_met, w_max, w_min, w_rg1, w_rg2, w_rgd, e_ival, it_l, it_t, e_for, v_fx, v_cel, l_t, isiG, tyN, isiB, isiTs, List.mem_cons, List.not_mem_nil, or_false, false_or, or_true, true_or, decide_true, decide_false, Bool.or_false, Bool.false_or, Bool.true_or, Bool.or_true, Bool.and_false, Bool.and_true, Bool.true_and, Bool.false_and, Bool.not_true, Bool.not_false, List.map_cons, List.map_nil, List.replicate_zero, List.replicate_succ, List.cons_append, List.nil_append, List.length_cons, List.length_nil, List.getElem?_cons_zero, List.getElem?_cons_succ, List.getElem?_nil, List.set_cons_zero, List.set_cons_succ, if_true, if_false, Bool.false_eq_true, reduceIte, ite_self, oi_n, non_n]
    | some c => simp only [ess, es, et, ets, eto, ei, eg, egs, pv, sRet, sRetN, sNil, sIf, sAsg, sPar, sExp, sBrk, sCnt, xIte, xCall, xCons, xNil, xVar, xCon, xBin, xUn, xDic, tAnd, tOr, tNot, tBad, xBad, oNone, oSome, gNm, gsNil, gsCons, Bi.go, Tn.nm, Mt.go, Mt.rc, cmG, opG, Gxs.len, q_ok, q_bad, q_exc, q_ite, o_ok, o_bad, o_exc, o_ite, a_nx, a_rt, a_bk, a_ct, a_bad, a_ite, t_nx, t_ct, t_bk, t_rt, t_bad, t_ite, r_rt, r_nx, r_bad, r_ite, k_b, q_b, n_b, t_b, t_i, t_n, t_l, t_t, e_and, e_or, e_not, e_chn, e_bool, e_val, e_seq, w_add, w_sub, w_mul, w_div, w_mod, w_ord, w_neg, w_isn, w_isnn, w_isb, w_isbn, w_eqi, w_nei, w_eqs, w_nes, w_eqb, w_neb, w_lent, w_lenl, e_tup, e_tupc, e_lst, e_lstc, td_0, td_1, td_2, td_3, td_4, td_5, td_6, ld_0, ld_1, ld_2, ld_3, ld_4, ld_5, ld_6, ld_7, w_ixt, w_ixl, at_0, at_1, at_2, at_3, om_some, or_some, e_lc, e_gfd, e_gsb, e_mth, e_met, w_max, w_min, w_rg1, w_rg2, w_rgd, e_ival, it_l, it_t, e_for, v_fx, v_cel, l_t, isiG, tyN, isiB, isiTs, List.mem_cons, List.not_mem_nil, or_false, false_or, or_true, true_or, decide_true, decide_false, Bool.or_false, Bool.false_or, Bool.true_or, Bool.or_true, Bool.and_false, Bool.and_true, Bool.true_and, Bool.false_and, Bool.not_true, Bool.not_false, List.map_cons, List.map_nil, List.replicate_zero, List.replicate_succ, List.cons_append, List.nil_append, List.length_cons, List.length_nil, List.getElem?_cons_zero, List.getElem?_cons_succ, List.getElem?_nil, List.set_cons_zero, List.set_cons_succ, if_true, if_false, Bool.false_eq_true, reduceIte, ite_self, oi_s, non_i, f_lines, x_1, l_r1, p_r1 (l := l) (s := s) (S := S) (x := c) (by omega)]
  | some c =>
    have key : ∀ s1 : MS, s1.done = s.done → s1.r1 = s.r1 → outR ((((itG (.r s.done (s.done + l.wide) 1) (PS l s1 S)).thenO fun v S1 => forV 100000 (gNm 3) (ess (rt (n + 2)) b34_0) [some (.c S.length), some (.d (.int m)), some (.d (.int c)), none, none] v S1)).andO sNil) = .ok (.d .none) (PS l (adv (upI s.done l.wide.toNat) s1) S) := by
      intro s1 h1 h2
      rw [it_up (by omega) (by omega) (by omega) (by omega), e1, rgL_up]
      have hlen : (upI s.done l.wide.toNat).length = l.wide.toNat := by unfold upI; simp
      obtain ⟨u', e⟩ := adv_loop (l := l) (S := S) (n + 2) m (some (.d (.int c))) none (upI s.done l.wide.toNat) s1 none (by rw [h2, hlen]; omega)
      simp only [ess, es, et, ets, eto, ei, eg, egs, pv, sRet, sRetN, sNil, sIf, sAsg, sPar, sExp, sBrk, sCnt, xIte, xCall, xCons, xNil, xVar, xCon, xBin, xUn, xDic, tAnd, tOr, tNot, tBad, xBad, oNone, oSome, gNm, gsNil, gsCons, Bi.go, Tn.nm, Mt.go, Mt.rc, cmG, opG, Gxs.len, q_ok, q_bad, q_exc, q_ite, o_ok, o_bad, o_exc, o_ite, a_nx, a_rt, a_bk, a_ct, a_bad, a_ite, t_nx, t_ct, t_bk, t_rt, t_bad, t_ite, r_rt, r_nx, r_bad, r_ite, k_b, q_b, n_b, t_b, t_i, t_n, t_l, t_t, e_and, e_or, e_not, e_chn, e_bool, e_val, e_seq, w_add, w_sub, w_mul, w_div, w_mod, w_ord, w_neg, w_isn, w_isnn, w_isb, w_isbn, w_eqi, w_nei, w_eqs, w_nes, w_eqb, w_neb, w_lent, w_lenl, e_tup, e_tupc, e_lst, e_lstc, td_0, td_1, td_2, td_3, td_4, td_5, td_6, ld_0, ld_1, ld_2, ld_3, ld_4, ld_5, ld_6, ld_7, w_ixt, w_ixl, at_0, at_1, at_2, at_3, om_some, or_some, e_lc, e_gfd, e_gsb, e_mth, e_met, w_max, w_min, w_rg1, w_rg2, w_rgd, e_ival, it_l, it_t, e_for, v_fx, v_cel, l_t, isiG, tyN, isiB, isiTs, List.mem_cons, List.not_mem_nil, or_false, false_or, or_true, true_or, decide_true, decide_false, Bool.or_false, Bool.false_or, Bool.true_or, Bool.or_true, Bool.and_false, Bool.and_true, Bool.true_and, Bool.false_and, Bool.not_true, Bool.not_false, List.map_cons, List.map_nil, List.replicate_zero, List.replicate_succ, List.cons_append, List.nil_append, List.length_cons, List.length_nil, List.getElem?_cons_zero, List.getElem?_cons_succ, List.getElem?_nil, List.set_cons_zero, List.set_cons_succ, if_true, if_false, Bool.false_eq_true, reduceIte, ite_self, e]
    simp only [ess, es, et, ets, eto, ei, eg, egs, pv, sRet, sRetN, sNil, sIf, sAsg, sPar, sExp, sBrk, sCnt, xIte, xCall, xCons, xNil, xVar, xCon, xBin, xUn, xDic, tAnd, tOr, tNot, tBad, xBad, oNone, oSome, gNm, gsNil, gsCons, Bi.go, Tn.nm, Mt.go, Mt.rc, cmG, opG, Gxs.len, q_ok, q_bad, q_exc, q_ite, o_ok, o_bad, o_exc, o_ite, a_nx, a_rt, a_bk, a_ct, a_bad, a_ite, t_nx, t_ct, t_bk, t_rt, t_bad, t_ite, r_rt, r_nx, r_bad, r_ite, k_b, q_b, n_b, t_b, t_i, t_n, t_l, t_t, e_and, e_or, e_not, e_chn, e_bool, e_val, e_seq, w_add, w_sub, w_mul, w_div, w_mod, w_ord, w_neg, w_isn, w_isnn, w_isb, w_isbn, w_eqi, w_nei, w_eqs, w_nes, w_eqb, w_neb, w_lent, w_lenl, e_tup, e_tupc, e_lst, e_lstc, td_0, td_1, td_2, td_3, td_4, td_5, td_6, ld_0, ld_1, ld_2, ld_3, ld_4, ld_5, ld_6, ld_7, w_ixt, w_ixl, at_0, at_1, at_2, at_3, om_some, or_some, e_lc, e_gfd, e_gsb, e_mth, e_met, w_max, w_min, w_rg1, w_rg2, w_rgd, e_ival, it_l, it_t, e_for, v_fx, v_cel, l_t, isiG, tyN, isiB, isiTs, List.mem_cons, List.not_mem_nil, or_false, false_or, or_true, true_or, decide_true, decide_false, Bool.or_false, Bool.false_or, Bool.true_or, Bool.or_true, Bool.and_false, Bool.and_true, Bool.true_and, Bool.false_and, Bool.not_true, Bool.not_false, List.map_cons, List.map_nil, List.replicate_zero, List.replicate_succ, List.cons_append, List.nil_append, List.length_cons, List.length_nil, List.getElem?_cons_zero, List.getElem?_cons_succ, List.getElem?_nil, List.set_cons_zero, List.set_cons_succ, if_true, if_false, Bool.false_eq_true, reduceIte, ite_self, oi_s, non_i, f_put, n_putn, l_put, p_put hp, f_tw, u_tw, f_done, f_wide]
    unfold putN
    cases hc : decide (c ∈ s.put) with
    | false =>
      simp only [Bool.not_false, if_true]
      cases ht : s.tw with
      | true => exact key { s with put := s.put ++ [c], tw := true } rfl rfl
      | false => exact key { s with put := s.put ++ [c], tw := !decide (c = m) } rfl rfl
    | true => exact key s rfl rfl
def lsO (ans : List Int) : Int := ((upI 0 6000).find? fun x => !decide (x ∈ ans)).getD 0
structure Lst (ans : List Int) (u : Int) : Prop where
  nn : 0 ≤ u
  out : u ∉ ans
  all : ∀ x, 0 ≤ x → x < u → x ∈ ans
theorem Lst.uniq {ans : List Int} {u v : Int} (a : Lst ans u) (b : Lst ans v) : u = v := by
  by_cases h : u < v
  · exact absurd (b.all u a.nn h) a.out
  · by_cases k : v < u
    · exact absurd (a.all v b.nn k) b.out
    · omega
theorem find_upI {p : Int → Bool} : ∀ {n : Nat} {i : Int}, (∃ x, i ≤ x ∧ x < i + n ∧ p x = true) → ∃ y, (upI i n).find? p = some y ∧ i ≤ y ∧ p y = true ∧ ∀ x, i ≤ x → x < y → p x = false
  | 0, i, ⟨x, h1, h2, _⟩ => by omega
  | n + 1, i, ⟨x, h1, h2, h3⟩ => by
    rw [upI_s, List.find?_cons]
    cases hp : p i with
    | true => exact ⟨i, rfl, Int.le_refl _, hp, fun x a b => by omega⟩
    | false =>
      have hx : x ≠ i := fun e => by rw [e, hp] at h3; cases h3
      obtain ⟨y, e, a, b, c⟩ := find_upI (p := p) (n := n) (i := i + 1) ⟨x, by omega, by omega, h3⟩
      refine ⟨y, e, by omega, b, fun z z1 z2 => ?_⟩
      by_cases hz : z = i
      · rw [hz]; exact hp
      · exact c z (by omega) z2
theorem lsO_spec {ans : List Int} (h : ∀ x ∈ ans, x < 5500) : Lst ans (lsO ans) := by
  obtain ⟨y, e, a, b, c⟩ := find_upI (p := fun x => !decide (x ∈ ans)) (n := 6000) (i := 0) ⟨5600, by omega, by omega, by
    have : (5600 : Int) ∉ ans := fun z => by have := h _ z; omega
    simp [this]⟩
  unfold lsO
  rw [e]
  refine ⟨a, by simpa using b, fun x x1 x2 => ?_⟩
  simpa using c x x1 x2
theorem una_loop (n : Nat) (en : Ev) (he : ∃ r, en = some (.c S.length) :: r) (hb : ∀ x ∈ s.ans, x < 5500) : ∀ (m : Nat) (s1 : MS), s1.ans = s.ans → 0 ≤ s1.una → (∀ x, 0 ≤ x → x < s1.una → x ∈ s.ans) → (5600 - s1.una).toNat < m →
    whileD (tBool (xBin (inW false) (xUn (fldG 0 "unanswered") (xVar 0)) (xUn (fldG 0 "answered") (xVar 0)))) (ess (rt n) b35_0) m en (PS l s1 S) = .nx en (PS l { s1 with una := lsO s.ans } S)
  | 0, s1, _, _, _, h => by omega
  | m + 1, s1, h1, h2, h3, h4 => by
    obtain ⟨r, rfl⟩ := he
    have hu : s1.una < 5501 := by
      by_cases hz : s1.una < 5501
      · exact hz
      · have := hb 5500 (h3 5500 (by omega) (by omega)); omega
    rw [e_whl1]
    simp only [ess, es, et, ets, eto, ei, eg, egs, pv, sRet, sRetN, sNil, sIf, sAsg, sPar, sExp, sBrk, sCnt, xIte, xCall, xCons, xNil, xVar, xCon, xBin, xUn, xDic, tAnd, tOr, tNot, tBad, xBad, oNone, oSome, gNm, gsNil, gsCons, Bi.go, Tn.nm, Mt.go, Mt.rc, cmG, opG, Gxs.len, q_ok, q_bad, q_exc, q_ite, o_ok, o_bad, o_exc, o_ite, a_nx, a_rt, a_bk, a_ct, a_bad, a_ite, t_nx, t_ct, t_bk, t_rt, t_bad, t_ite, r_rt, r_nx, r_bad, r_ite, k_b, q_b, n_b, t_b, t_i, t_n, t_l, t_t, e_and, e_or, e_not, e_chn, e_bool, e_val, e_seq, w_add, w_sub, w_mul, w_div, w_mod, w_ord, w_neg, w_isn, w_isnn, w_isb, w_isbn, w_eqi, w_nei, w_eqs, w_nes, w_eqb, w_neb, w_lent, w_lenl, e_tup, e_tupc, e_lst, e_lstc, td_0, td_1, td_2, td_3, td_4, td_5, td_6, ld_0, ld_1, ld_2, ld_3, ld_4, ld_5, ld_6, ld_7, w_ixt, w_ixl, at_0, at_1, at_2, at_3, om_some, or_some, e_lc, e_gfd, e_gsb, e_mth, e_met, w_max, w_min, w_rg1, w_rg2, w_rgd, e_ival, it_l, it_t, e_for, v_fx, v_cel, l_t, isiG, tyN, isiB, isiTs, List.mem_cons, List.not_mem_nil, or_false, false_or, or_true, true_or, decide_true, decide_false, Bool.or_false, Bool.false_or, Bool.true_or, Bool.or_true, Bool.and_false, Bool.and_true, Bool.true_and, Bool.false_and, Bool.not_true, Bool.not_false, List.map_cons, List.map_nil, List.replicate_zero, List.replicate_succ, List.cons_append, List.nil_append, List.length_cons, List.length_nil, List.getElem?_cons_zero, List.getElem?_cons_succ, List.getElem?_nil, List.set_cons_zero, List.set_cons_succ, if_true, if_false, Bool.false_eq_true, reduceIte, ite_self, f_una, f_ans, n_ans]
    have hh : decide (s1.una ∈ s1.ans) = decide (s1.una ∈ s.ans) := by rw [h1]
    rw [hh]
    cases hc : decide (s1.una ∈ s.ans) with
    | true =>
      rw [if_pos rfl]
      have e : ess (rt n) b35_0 (some (.c S.length) :: r) (PS l s1 S) = .nx (some (.c S.length) :: r) (PS l { s1 with una := s1.una + 1 } S) := by
        rw [b35_0]
        simp only [ess, es, et, ets, eto, ei, eg, egs, pv, sRet, sRetN, sNil, sIf, sAsg, sPar, sExp, sBrk, sCnt, xIte, xCall, xCons, xNil, xVar, xCon, xBin, xUn, xDic, tAnd, tOr, tNot, tBad, xBad, oNone, oSome, gNm, gsNil, gsCons, Bi.go, Tn.nm, Mt.go, Mt.rc, cmG, opG, Gxs.len, q_ok, q_bad, q_exc, q_ite, o_ok, o_bad, o_exc, o_ite, a_nx, a_rt, a_bk, a_ct, a_bad, a_ite, t_nx, t_ct, t_bk, t_rt, t_bad, t_ite, r_rt, r_nx, r_bad, r_ite, k_b, q_b, n_b, t_b, t_i, t_n, t_l, t_t, e_and, e_or, e_not, e_chn, e_bool, e_val, e_seq, w_add, w_sub, w_mul, w_div, w_mod, w_ord, w_neg, w_isn, w_isnn, w_isb, w_isbn, w_eqi, w_nei, w_eqs, w_nes, w_eqb, w_neb, w_lent, w_lenl, e_tup, e_tupc, e_lst, e_lstc, td_0, td_1, td_2, td_3, td_4, td_5, td_6, ld_0, ld_1, ld_2, ld_3, ld_4, ld_5, ld_6, ld_7, w_ixt, w_ixl, at_0, at_1, at_2, at_3, om_some, or_some, e_lc, e_gfd, e_gsb, e_mth, e_met, w_max, w_min, w_rg1, w_rg2, w_rgd, e_ival, it_l, it_t, e_for, v_fx, v_cel, l_t, isiG, tyN, isiB, isiTs, List.mem_cons, List.not_mem_nil, or_false, false_or, or_true, true_or, decide_true, decide_false, Bool.or_false, Bool.false_or, Bool.true_or, Bool.or_true, Bool.and_false, Bool.and_true, Bool.true_and, Bool.false_and, Bool.not_true, Bool.not_false, List.map_cons, List.map_nil, List.replicate_zero, List.replicate_succ, List.cons_append, List.nil_append, List.length_cons, List.length_nil, List.getElem?_cons_zero, List.getElem?_cons_succ, List.getElem?_nil, List.set_cons_zero, List.set_cons_succ, if_true, if_false, Bool.false_eq_true, reduceIte, ite_self, f_una, u_una]
      rw [e, t_nx]
      have hm : s1.una ∈ s.ans := of_decide_eq_true hc
      exact una_loop n _ ⟨r, rfl⟩ hb m { s1 with una := s1.una + 1 } h1 (by show 0 ≤ s1.una + 1; omega) (fun x x1 x2 => by
        have x2 : x < s1.una + 1 := x2
        by_cases hx : x = s1.una
        · rw [hx]; exact hm
        · exact h3 x x1 (by omega)) (by show (5600 - (s1.una + 1)).toNat < m; omega)
    | false =>
      rw [if_neg (by decide)]
      have hL : Lst s.ans s1.una := ⟨h2, of_decide_eq_false hc, h3⟩
      rw [← hL.uniq (lsO_spec hb)]
def takenOf (l : Ln) (s : MS) (m : Int) : Option Int := ((upI s.una (s.sent - s.una).toNat).filter fun c => !decide (c ∈ s.ans)).find? fun c => decide (mk l.ring c = mk l.ring m)
def ss (l : Ln) (s : MS) (m : Int) : MS := match takenOf l s m with
  | none => s
  | some c => { s with wr := s.wr || !decide (c = m), ans := s.ans ++ [c], una := lsO (s.ans ++ [c]) }
theorem sender_ok (n : Nat) (m : Int) (s0 : 0 ≤ s.una) (s1 : s.una ≤ s.sent) (s2 : s.sent ≤ 5000) (hb : ∀ x ∈ s.ans, x < 5500) (hall : ∀ x, 0 ≤ x → x < s.una → x ∈ s.ans) (hp : s.ans.length < cap) : rn (n + 3) 35 [.c S.length, .d (.int m)] (PS l s S) = .ok (.d .none) (PS l (ss l s m) S) := by
  show outR (ess (rt (n + 2)) b35 [some (.c S.length), some (.d (.int m)), none, none, none] (PS l s S)) = _
  rw [b35]
  have a1 : ∀ en : Ev, en = [some (.c S.length), some (.d (.int m)), none, none, none] → lcV false (gNm 4) (tBool (xBin (inW true) (xVar 4) (xUn (fldG 0 "answered") (xVar 0)))) (xVar 4) en (.fx (((upI s.una (s.sent - s.una).toNat).map .int).map .d)) (PS l s S) = .ok (.d (.list (((upI s.una (s.sent - s.una).toNat).filter fun c => !decide (c ∈ s.ans)).map .int))) (PS l s S) := by
    rintro en rfl
    rw [lcv_d (e := fun d => [some (.c S.length), some (.d (.int m)), none, none, some (.d d)]) (p := fun d => match d with | .int i => !decide (i ∈ s.ans) | _ => false) (h := fun d => d) (by unfold upI; simp; unfold cap; omega) (fun d hd => rfl) (fun d hd => by
      obtain ⟨i, hi, rfl⟩ := List.mem_map.mp hd
      simp only [ess, es, et, ets, eto, ei, eg, egs, pv, sRet, sRetN, sNil, sIf, sAsg, sPar, sExp, sBrk, sCnt, xIte, xCall, xCons, xNil, xVar, xCon, xBin, xUn, xDic, tAnd, tOr, tNot, tBad, xBad, oNone, oSome, gNm, gsNil, gsCons, Bi.go, Tn.nm, Mt.go, Mt.rc, cmG, opG, Gxs.len, q_ok, q_bad, q_exc, q_ite, o_ok, o_bad, o_exc, o_ite, a_nx, a_rt, a_bk, a_ct, a_bad, a_ite, t_nx, t_ct, t_bk, t_rt, t_bad, t_ite, r_rt, r_nx, r_bad, r_ite, k_b, q_b, n_b, t_b, t_i, t_n, t_l, t_t, e_and, e_or, e_not, e_chn, e_bool, e_val, e_seq, w_add, w_sub, w_mul, w_div, w_mod, w_ord, w_neg, w_isn, w_isnn, w_isb, w_isbn, w_eqi, w_nei, w_eqs, w_nes, w_eqb, w_neb, w_lent, w_lenl, e_tup, e_tupc, e_lst, e_lstc, td_0, td_1, td_2, td_3, td_4, td_5, td_6, ld_0, ld_1, ld_2, ld_3, ld_4, ld_5, ld_6, ld_7, w_ixt, w_ixl, at_0, at_1, at_2, at_3, om_some, or_some, e_lc, e_gfd, e_gsb, e_mth, e_met, w_max, w_min, w_rg1, w_rg2, w_rgd, e_ival, it_l, it_t, e_for, v_fx, v_cel, l_t, isiG, tyN, isiB, isiTs, List.mem_cons, List.not_mem_nil, or_false, false_or, or_true, true_or, decide_true, decide_false, Bool.or_false, Bool.false_or, Bool.true_or, Bool.or_true, Bool.and_false, Bool.and_true, Bool.true_and, Bool.false_and, Bool.not_true, Bool.not_false, List.map_cons, List.map_nil, List.replicate_zero, List.replicate_succ, List.cons_append, List.nil_append, List.length_cons, List.length_nil, List.getElem?_cons_zero, List.getElem?_cons_succ, List.getElem?_nil, List.set_cons_zero, List.set_cons_succ, if_true, if_false, Bool.false_eq_true, reduceIte, ite_self, f_ans, n_ansn]) (fun d hd hp => rfl), List.map_id', List.filter_map]
    rfl
  simp only [ess, es, et, ets, eto, ei, eg, egs, pv, sRet, sRetN, sNil, sIf, sAsg, sPar, sExp, sBrk, sCnt, xIte, xCall, xCons, xNil, xVar, xCon, xBin, xUn, xDic, tAnd, tOr, tNot, tBad, xBad, oNone, oSome, gNm, gsNil, gsCons, Bi.go, Tn.nm, Mt.go, Mt.rc, cmG, opG, Gxs.len, q_ok, q_bad, q_exc, q_ite, o_ok, o_bad, o_exc, o_ite, a_nx, a_rt, a_bk, a_ct, a_bad, a_ite, t_nx, t_ct, t_bk, t_rt, t_bad, t_ite, r_rt, r_nx, r_bad, r_ite, k_b, q_b, n_b, t_b, t_i, t_n, t_l, t_t, e_and, e_or, e_not, e_chn, e_bool, e_val, e_seq, w_add, w_sub, w_mul, w_div, w_mod, w_ord, w_neg, w_isn, w_isnn, w_isb, w_isbn, w_eqi, w_nei, w_eqs, w_nes, w_eqb, w_neb, w_lent, w_lenl, e_tup, e_tupc, e_lst, e_lstc, td_0, td_1, td_2, td_3, td_4, td_5, td_6, ld_0, ld_1, ld_2, ld_3, ld_4, ld_5, ld_6, ld_7, w_ixt, w_ixl, at_0, at_1, at_2, at_3, om_some, or_some, e_lc, e_gfd, e_gsb, e_mth, e_met, w_max, w_min, w_rg1, w_rg2, w_rgd, e_ival, it_l, it_t, e_for, v_fx, v_cel, l_t, isiG, tyN, isiB, isiTs, List.mem_cons, List.not_mem_nil, or_false, false_or, or_true, true_or, decide_true, decide_false, Bool.or_false, Bool.false_or, Bool.true_or, Bool.or_true, Bool.and_false, Bool.and_true, Bool.true_and, Bool.false_and, Bool.not_true, Bool.not_false, List.map_cons, List.map_nil, List.replicate_zero, List.replicate_succ, List.cons_append, List.nil_append, List.length_cons, List.length_nil, List.getElem?_cons_zero, List.getElem?_cons_succ, List.getElem?_nil, List.set_cons_zero, List.set_cons_succ, if_true, if_false, Bool.false_eq_true, reduceIte, ite_self, f_una, f_sent, it_up (S := PS l s S) (i := s.una) (j := s.sent) (by omega) (by omega) (by omega) (by omega), rgL_up, wipeE, a1, i_like, like_ok]
  have f1 : ((upI s.una (s.sent - s.una).toNat).filter fun c => !decide (c ∈ s.ans)).find? (fun c => decide (mk l.ring c = mk l.ring m)) = takenOf l s m := rfl
  rw [f1]
  unfold ss
  cases ht : takenOf l s m with
  | none => simp only [ess, es, et, ets, eto, ei, eg, egs, pv, sRet, sRetN, sNil, sIf, sAsg, sPar, sExp, sBrk, sCnt, xIte, xCall, xCons, xNil, xVar, xCon, xBin, xUn, xDic, tAnd, tOr, tNot, tBad, xBad, oNone, oSome, gNm, gsNil, gsCons, Bi.go, Tn.nm, Mt.go, Mt.rc, cmG, opG, Gxs.len, q_ok, q_bad, q_exc, q_ite, o_ok, o_bad, o_exc, o_ite, a_nx, a_rt, a_bk, a_ct, a_bad, a_ite, t_nx, t_ct, t_bk, t_rt, t_bad, t_ite, r_rt, r_nx, r_bad, r_ite, k_b, q_b, n_b, t_b, t_i, t_n, t_l, t_t, e_and, e_or, e_not, e_chn, e_bool, e_val, e_seq, w_add, w_sub, w_mul, w_div, w_mod, w_ord, w_neg, w_isn, w_isnn, w_isb, w_isbn, w_eqi, w_nei, w_eqs, w_nes, w_eqb, w_neb, w_lent, w_lenl, e_tup, e_tupc, e_lst, e_lstc, td_0, td_1, td_2, td_3, td_4, td_5, td_6, ld_0, ld_1, ld_2, ld_3, ld_4, ld_5, ld_6, ld_7, w_ixt, w_ixl, at_0, at_1, at_2, at_3, om_some, or_some, e_lc, e_gfd, e_gsb, e_mth, e_met, w_max, w_min, w_rg1, w_rg2, w_rgd, e_ival, it_l, it_t, e_for, v_fx, v_cel, l_t, isiG, tyN, isiB, isiTs, List.mem_cons, List.not_mem_nil, or_false, false_or, or_true, true_or, decide_true, decide_false, Bool.or_false, Bool.false_or, Bool.true_or, Bool.or_true, Bool.and_false, Bool.and_true, Bool.true_and, Bool.false_and, Bool.not_true, Bool.not_false, List.map_cons, List.map_nil, List.replicate_zero, List.replicate_succ, List.cons_append, List.nil_append, List.length_cons, List.length_nil, List.getElem?_cons_zero, List.getElem?_cons_succ, List.getElem?_nil, List.set_cons_zero, List.set_cons_succ, if_true, if_false, Bool.false_eq_true, reduceIte, ite_self, oi_n, non_n]
  | some c =>
    have hc : c < s.sent := by
      unfold takenOf at ht
      have h1 := List.mem_of_find?_eq_some ht
      have h2 := mem_upI.mp (List.mem_filter.mp h1).1
      omega
    have key : ∀ s1 : MS, s1.ans = s.ans ++ [c] → s1.una = s.una → ∀ en : Ev, (∃ r, en = some (.c S.length) :: r) → whileD (tBool (xBin (inW false) (xUn (fldG 0 "unanswered") (xVar 0)) (xUn (fldG 0 "answered") (xVar 0)))) (ess (rt (n + 2)) b35_0) 100000 en (PS l s1 S) = .nx en (PS l { s1 with una := lsO (s.ans ++ [c]) } S) := by
      intro s1 h1 h2 en he
      rw [← h1]
      exact una_loop (l := l) (s := s1) (S := S) (n + 2) en he (by rw [h1]; intro x hx; rcases List.mem_append.mp hx with z | z; exact hb x z; have : x = c := by simpa using z
                                                                   omega) 100000 s1 rfl (by rw [h2]; exact s0) (by rw [h1, h2]; exact fun x a b => List.mem_append_left _ (hall x a b)) (by omega)
    simp only [ess, es, et, ets, eto, ei, eg, egs, pv, sRet, sRetN, sNil, sIf, sAsg, sPar, sExp, sBrk, sCnt, xIte, xCall, xCons, xNil, xVar, xCon, xBin, xUn, xDic, tAnd, tOr, tNot, tBad, xBad, oNone, oSome, gNm, gsNil, gsCons, Bi.go, Tn.nm, Mt.go, Mt.rc, cmG, opG, Gxs.len, q_ok, q_bad, q_exc, q_ite, o_ok, o_bad, o_exc, o_ite, a_nx, a_rt, a_bk, a_ct, a_bad, a_ite, t_nx, t_ct, t_bk, t_rt, t_bad, t_ite, r_rt, r_nx, r_bad, r_ite, k_b, q_b, n_b, t_b, t_i, t_n, t_l, t_t, e_and, e_or, e_not, e_chn, e_bool, e_val, e_seq, w_add, w_sub, w_mul, w_div, w_mod, w_ord, w_neg, w_isn, w_isnn, w_isb, w_isbn, w_eqi, w_nei, w_eqs, w_nes, w_eqb, w_neb, w_lent, w_lenl, e_tup, e_tupc, e_lst, e_lstc, td_0, td_1, td_2, td_3, td_4, td_5, td_6, ld_0, ld_1, ld_2, ld_3, ld_4, ld_5, ld_6, ld_7, w_ixt, w_ixl, at_0, at_1, at_2, at_3, om_some, or_some, e_lc, e_gfd, e_gsb, e_mth, e_met, w_max, w_min, w_rg1, w_rg2, w_rgd, e_ival, it_l, it_t, e_for, v_fx, v_cel, l_t, isiG, tyN, isiB, isiTs, List.mem_cons, List.not_mem_nil, or_false, false_or, or_true, true_or, decide_true, decide_false, Bool.or_false, Bool.false_or, Bool.true_or, Bool.or_true, Bool.and_false, Bool.and_true, Bool.true_and, Bool.false_and, Bool.not_true, Bool.not_false, List.map_cons, List.map_nil, List.replicate_zero, List.replicate_succ, List.cons_append, List.nil_append, List.length_cons, List.length_nil, List.getElem?_cons_zero, List.getElem?_cons_succ, List.getElem?_nil, List.set_cons_zero, List.set_cons_succ, if_true, if_false, Bool.false_eq_true, reduceIte, ite_self, oi_s, non_i, f_wr, u_wr]
    cases hw : s.wr with
    | true =>
      simp only [ess, es, et, ets, eto, ei, eg, egs, pv, sRet, sRetN, sNil, sIf, sAsg, sPar, sExp, sBrk, sCnt, xIte, xCall, xCons, xNil, xVar, xCon, xBin, xUn, xDic, tAnd, tOr, tNot, tBad, xBad, oNone, oSome, gNm, gsNil, gsCons, Bi.go, Tn.nm, Mt.go, Mt.rc, cmG, opG, Gxs.len, q_ok, q_bad, q_exc, q_ite, o_ok, o_bad, o_exc, o_ite, a_nx, a_rt, a_bk, a_ct, a_bad, a_ite, t_nx, t_ct, t_bk, t_rt, t_bad, t_ite, r_rt, r_nx, r_bad, r_ite, k_b, q_b, n_b, t_b, t_i, t_n, t_l, t_t, e_and, e_or, e_not, e_chn, e_bool, e_val, e_seq, w_add, w_sub, w_mul, w_div, w_mod, w_ord, w_neg, w_isn, w_isnn, w_isb, w_isbn, w_eqi, w_nei, w_eqs, w_nes, w_eqb, w_neb, w_lent, w_lenl, e_tup, e_tupc, e_lst, e_lstc, td_0, td_1, td_2, td_3, td_4, td_5, td_6, ld_0, ld_1, ld_2, ld_3, ld_4, ld_5, ld_6, ld_7, w_ixt, w_ixl, at_0, at_1, at_2, at_3, om_some, or_some, e_lc, e_gfd, e_gsb, e_mth, e_met, w_max, w_min, w_rg1, w_rg2, w_rgd, e_ival, it_l, it_t, e_for, v_fx, v_cel, l_t, isiG, tyN, isiB, isiTs, List.mem_cons, List.not_mem_nil, or_false, false_or, or_true, true_or, decide_true, decide_false, Bool.or_false, Bool.false_or, Bool.true_or, Bool.or_true, Bool.and_false, Bool.and_true, Bool.true_and, Bool.false_and, Bool.not_true, Bool.not_false, List.map_cons, List.map_nil, List.replicate_zero, List.replicate_succ, List.cons_append, List.nil_append, List.length_cons, List.length_nil, List.getElem?_cons_zero, List.getElem?_cons_succ, List.getElem?_nil, List.set_cons_zero, List.set_cons_succ, if_true, if_false, Bool.false_eq_true, reduceIte, ite_self, f_ans, l_ans, p_ans (l := l) (S := S) (x := c) (s := { s with wr := true }) hp]
      rw [key { s with wr := true, ans := s.ans ++ [c] } rfl rfl _ ⟨_, rfl⟩]
      simp only [ess, es, et, ets, eto, ei, eg, egs, pv, sRet, sRetN, sNil, sIf, sAsg, sPar, sExp, sBrk, sCnt, xIte, xCall, xCons, xNil, xVar, xCon, xBin, xUn, xDic, tAnd, tOr, tNot, tBad, xBad, oNone, oSome, gNm, gsNil, gsCons, Bi.go, Tn.nm, Mt.go, Mt.rc, cmG, opG, Gxs.len, q_ok, q_bad, q_exc, q_ite, o_ok, o_bad, o_exc, o_ite, a_nx, a_rt, a_bk, a_ct, a_bad, a_ite, t_nx, t_ct, t_bk, t_rt, t_bad, t_ite, r_rt, r_nx, r_bad, r_ite, k_b, q_b, n_b, t_b, t_i, t_n, t_l, t_t, e_and, e_or, e_not, e_chn, e_bool, e_val, e_seq, w_add, w_sub, w_mul, w_div, w_mod, w_ord, w_neg, w_isn, w_isnn, w_isb, w_isbn, w_eqi, w_nei, w_eqs, w_nes, w_eqb, w_neb, w_lent, w_lenl, e_tup, e_tupc, e_lst, e_lstc, td_0, td_1, td_2, td_3, td_4, td_5, td_6, ld_0, ld_1, ld_2, ld_3, ld_4, ld_5, ld_6, ld_7, w_ixt, w_ixl, at_0, at_1, at_2, at_3, om_some, or_some, e_lc, e_gfd, e_gsb, e_mth, e_met, w_max, w_min, w_rg1, w_rg2, w_rgd, e_ival, it_l, it_t, e_for, v_fx, v_cel, l_t, isiG, tyN, isiB, isiTs, List.mem_cons, List.not_mem_nil, or_false, false_or, or_true, true_or, decide_true, decide_false, Bool.or_false, Bool.false_or, Bool.true_or, Bool.or_true, Bool.and_false, Bool.and_true, Bool.true_and, Bool.false_and, Bool.not_true, Bool.not_false, List.map_cons, List.map_nil, List.replicate_zero, List.replicate_succ, List.cons_append, List.nil_append, List.length_cons, List.length_nil, List.getElem?_cons_zero, List.getElem?_cons_succ, List.getElem?_nil, List.set_cons_zero, List.set_cons_succ, if_true, if_false, Bool.false_eq_true, reduceIte, ite_self]
    | false =>
      simp only [ess, es, et, ets, eto, ei, eg, egs, pv, sRet, sRetN, sNil, sIf, sAsg, sPar, sExp, sBrk, sCnt, xIte, xCall, xCons, xNil, xVar, xCon, xBin, xUn, xDic, tAnd, tOr, tNot, tBad, xBad, oNone, oSome, gNm, gsNil, gsCons, Bi.go, Tn.nm, Mt.go, Mt.rc, cmG, opG, Gxs.len, q_ok, q_bad, q_exc, q_ite, o_ok, o_bad, o_exc, o_ite, a_nx, a_rt, a_bk, a_ct, a_bad, a_ite, t_nx, t_ct, t_bk, t_rt, t_bad, t_ite, r_rt, r_nx, r_bad, r_ite, k_b, q_b, n_b, t_b, t_i, t_n, t_l, t_t, e_and, e_or, e_not, e_chn, e_bool, e_val, e_seq, w_add, w_sub, w_mul, w_div, w_mod, w_ord, w_neg, w_isn, w_isnn, w_isb, w_isbn, w_eqi, w_nei, w_eqs, w_nes, w_eqb, w_neb, w_lent, w_lenl, e_tup, e_tupc, e_lst, e_lstc, td_0, td_1, td_2, td_3, td_4, td_5, td_6, ld_0, ld_1, ld_2, ld_3, ld_4, ld_5, ld_6, ld_7, w_ixt, w_ixl, at_0, at_1, at_2, at_3, om_some, or_some, e_lc, e_gfd, e_gsb, e_mth, e_met, w_max, w_min, w_rg1, w_rg2, w_rgd, e_ival, it_l, it_t, e_for, v_fx, v_cel, l_t, isiG, tyN, isiB, isiTs, List.mem_cons, List.not_mem_nil, or_false, false_or, or_true, true_or, decide_true, decide_false, Bool.or_false, Bool.false_or, Bool.true_or, Bool.or_true, Bool.and_false, Bool.and_true, Bool.true_and, Bool.false_and, Bool.not_true, Bool.not_false, List.map_cons, List.map_nil, List.replicate_zero, List.replicate_succ, List.cons_append, List.nil_append, List.length_cons, List.length_nil, List.getElem?_cons_zero, List.getElem?_cons_succ, List.getElem?_nil, List.set_cons_zero, List.set_cons_succ, if_true, if_false, Bool.false_eq_true, reduceIte, ite_self, f_ans, l_ans, p_ans (l := l) (S := S) (x := c) (s := { s with wr := !decide (c = m) }) hp]
      rw [key { s with wr := !decide (c = m), ans := s.ans ++ [c] } rfl rfl _ ⟨_, rfl⟩]
      simp only [ess, es, et, ets, eto, ei, eg, egs, pv, sRet, sRetN, sNil, sIf, sAsg, sPar, sExp, sBrk, sCnt, xIte, xCall, xCons, xNil, xVar, xCon, xBin, xUn, xDic, tAnd, tOr, tNot, tBad, xBad, oNone, oSome, gNm, gsNil, gsCons, Bi.go, Tn.nm, Mt.go, Mt.rc, cmG, opG, Gxs.len, q_ok, q_bad, q_exc, q_ite, o_ok, o_bad, o_exc, o_ite, a_nx, a_rt, a_bk, a_ct, a_bad, a_ite, t_nx, t_ct, t_bk, t_rt, t_bad, t_ite, r_rt, r_nx, r_bad, r_ite, k_b, q_b, n_b, t_b, t_i, t_n, t_l, t_t, e_and, e_or, e_not, e_chn, e_bool, e_val, e_seq, w_add, w_sub, w_mul, w_div, w_mod, w_ord, w_neg, w_isn, w_isnn, w_isb, w_isbn, w_eqi, w_nei, w_eqs, w_nes, w_eqb, w_neb, w_lent, w_lenl, e_tup, e_tupc, e_lst, e_lstc, td_0, td_1, td_2, td_3, td_4, td_5, td_6, ld_0, ld_1, ld_2, ld_3, ld_4, ld_5, ld_6, ld_7, w_ixt, w_ixl, at_0, at_1, at_2, at_3, om_some, or_some, e_lc, e_gfd, e_gsb, e_mth, e_met, w_max, w_min, w_rg1, w_rg2, w_rgd, e_ival, it_l, it_t, e_for, v_fx, v_cel, l_t, isiG, tyN, isiB, isiTs, List.mem_cons, List.not_mem_nil, or_false, false_or, or_true, true_or, decide_true, decide_false, Bool.or_false, Bool.false_or, Bool.true_or, Bool.or_true, Bool.and_false, Bool.and_true, Bool.true_and, Bool.false_and, Bool.not_true, Bool.not_false, List.map_cons, List.map_nil, List.replicate_zero, List.replicate_succ, List.cons_append, List.nil_append, List.length_cons, List.length_nil, List.getElem?_cons_zero, List.getElem?_cons_succ, List.getElem?_nil, List.set_cons_zero, List.set_cons_succ, if_true, if_false, Bool.false_eq_true, reduceIte, ite_self]
theorem u_gen {fs : List (Str × W)} {f : Str} {w : W} (h : fs.length < 1000) : setG 0 f (.c S.length) w (S ++ (.ins 0 fs :: T)) = .ok () (S ++ (.ins 0 (putA f w fs) :: T)) := by
  have g : (S ++ (.ins 0 fs :: T))[S.length]? = some (.ins 0 fs) := tget0
  simp only [setG, g, h, and_self, if_true]
  rw [tset0]; rfl
theorem putA_lt {fs : List (Str × W)} {f : Str} {w : W} {k : Nat} (h : fs.length < k) : (putA f w fs).length < k + 1 := by
  have : (putA f w fs).length ≤ fs.length + 1 := by
    clear h
    induction fs with
    | nil => simp [putA]
    | cons p fs ih =>
      obtain ⟨g, v⟩ := p
      unfold putA
      split
      · simp
      · simp only [List.length_cons]; omega
  omega
theorem mc_0 : mkLstC [] S = .ok (.c S.length) (S ++ [.lst []]) := rfl
theorem mc_2 {a b : W} : mkLstC [a, b] S = .ok (.c S.length) (S ++ [.lst [a, b]]) := rfl
theorem init_ok (n : Nat) : rn (n + 1) 29 [.c S.length, .d l.D] (S ++ [.ins 0 []]) = .ok (.d .none) (PS l MS.start S) := by
  show outR (ess (rt n) b29 [some (.c S.length), some (.d l.D)] (S ++ [.ins 0 []])) = _
  rw [b29, Ln.D]
  have g1 (a b c d : D) : gTp (0 + 1 + 1 + 1 + 1) (gsCons (gFd 0 "order" (xVar 0)) (gsCons (gFd 0 "ring" (xVar 0)) (gsCons (gFd 0 "under_way" (xVar 0)) (gsCons (gFd 0 "kept" (xVar 0)) gsNil)))) (.d (.tuple [a, b, c, d])) [some (.c S.length), some (.d (.tuple [a, b, c, d]))] (S ++ [.ins 0 []]) =
      .ok [some (.c S.length), some (.d (.tuple [a, b, c, d]))] (S ++ [.ins 0 [("order", .d a), ("ring", .d b), ("under_way", .d c), ("kept", .d d)]]) := by
    show gsCons (gFd 0 "order" (xVar 0)) _ [.d a, .d b, .d c, .d d] _ _ = _
    simp only [ess, es, et, ets, eto, ei, eg, egs, pv, sRet, sRetN, sNil, sIf, sAsg, sPar, sExp, sBrk, sCnt, xIte, xCall, xCons, xNil, xVar, xCon, xBin, xUn, xDic, tAnd, tOr, tNot, tBad, xBad, oNone, oSome, gNm, gsNil, gsCons, Bi.go, Tn.nm, Mt.go, Mt.rc, cmG, opG, Gxs.len, q_ok, q_bad, q_exc, q_ite, o_ok, o_bad, o_exc, o_ite, a_nx, a_rt, a_bk, a_ct, a_bad, a_ite, t_nx, t_ct, t_bk, t_rt, t_bad, t_ite, r_rt, r_nx, r_bad, r_ite, k_b, q_b, n_b, t_b, t_i, t_n, t_l, t_t, e_and, e_or, e_not, e_chn, e_bool, e_val, e_seq, w_add, w_sub, w_mul, w_div, w_mod, w_ord, w_neg, w_isn, w_isnn, w_isb, w_isbn, w_eqi, w_nei, w_eqs, w_nes, w_eqb, w_neb, w_lent, w_lenl, e_tup, e_tupc, e_lst, e_lstc, td_0, td_1, td_2, td_3, td_4, td_5, td_6, ld_0, ld_1, ld_2, ld_3, ld_4, ld_5, ld_6, ld_7, w_ixt, w_ixl, at_0, at_1, at_2, at_3, om_some, or_some, e_lc, e_gfd, e_gsb, e_mth, e_met, w_max, w_min, w_rg1, w_rg2, w_rgd, e_ival, it_l, it_t, e_for, v_fx, v_cel, l_t, isiG, tyN, isiB, isiTs, List.mem_cons, List.not_mem_nil, or_false, false_or, or_true, true_or, decide_true, decide_false, Bool.or_false, Bool.false_or, Bool.true_or, Bool.or_true, Bool.and_false, Bool.and_true, Bool.true_and, Bool.false_and, Bool.not_true, Bool.not_false, List.map_cons, List.map_nil, List.replicate_zero, List.replicate_succ, List.cons_append, List.nil_append, List.length_cons, List.length_nil, List.getElem?_cons_zero, List.getElem?_cons_succ, List.getElem?_nil, List.set_cons_zero, List.set_cons_succ, if_true, if_false, Bool.false_eq_true, reduceIte, ite_self]
    rw [u_gen (by (repeat apply putA_lt) <;> simp)]
    simp only [ess, es, et, ets, eto, ei, eg, egs, pv, sRet, sRetN, sNil, sIf, sAsg, sPar, sExp, sBrk, sCnt, xIte, xCall, xCons, xNil, xVar, xCon, xBin, xUn, xDic, tAnd, tOr, tNot, tBad, xBad, oNone, oSome, gNm, gsNil, gsCons, Bi.go, Tn.nm, Mt.go, Mt.rc, cmG, opG, Gxs.len, q_ok, q_bad, q_exc, q_ite, o_ok, o_bad, o_exc, o_ite, a_nx, a_rt, a_bk, a_ct, a_bad, a_ite, t_nx, t_ct, t_bk, t_rt, t_bad, t_ite, r_rt, r_nx, r_bad, r_ite, k_b, q_b, n_b, t_b, t_i, t_n, t_l, t_t, e_and, e_or, e_not, e_chn, e_bool, e_val, e_seq, w_add, w_sub, w_mul, w_div, w_mod, w_ord, w_neg, w_isn, w_isnn, w_isb, w_isbn, w_eqi, w_nei, w_eqs, w_nes, w_eqb, w_neb, w_lent, w_lenl, e_tup, e_tupc, e_lst, e_lstc, td_0, td_1, td_2, td_3, td_4, td_5, td_6, ld_0, ld_1, ld_2, ld_3, ld_4, ld_5, ld_6, ld_7, w_ixt, w_ixl, at_0, at_1, at_2, at_3, om_some, or_some, e_lc, e_gfd, e_gsb, e_mth, e_met, w_max, w_min, w_rg1, w_rg2, w_rgd, e_ival, it_l, it_t, e_for, v_fx, v_cel, l_t, isiG, tyN, isiB, isiTs, List.mem_cons, List.not_mem_nil, or_false, false_or, or_true, true_or, decide_true, decide_false, Bool.or_false, Bool.false_or, Bool.true_or, Bool.or_true, Bool.and_false, Bool.and_true, Bool.true_and, Bool.false_and, Bool.not_true, Bool.not_false, List.map_cons, List.map_nil, List.replicate_zero, List.replicate_succ, List.cons_append, List.nil_append, List.length_cons, List.length_nil, List.getElem?_cons_zero, List.getElem?_cons_succ, List.getElem?_nil, List.set_cons_zero, List.set_cons_succ, if_true, if_false, Bool.false_eq_true, reduceIte, ite_self]
    rw [u_gen (by (repeat apply putA_lt) <;> simp)]
    simp only [ess, es, et, ets, eto, ei, eg, egs, pv, sRet, sRetN, sNil, sIf, sAsg, sPar, sExp, sBrk, sCnt, xIte, xCall, xCons, xNil, xVar, xCon, xBin, xUn, xDic, tAnd, tOr, tNot, tBad, xBad, oNone, oSome, gNm, gsNil, gsCons, Bi.go, Tn.nm, Mt.go, Mt.rc, cmG, opG, Gxs.len, q_ok, q_bad, q_exc, q_ite, o_ok, o_bad, o_exc, o_ite, a_nx, a_rt, a_bk, a_ct, a_bad, a_ite, t_nx, t_ct, t_bk, t_rt, t_bad, t_ite, r_rt, r_nx, r_bad, r_ite, k_b, q_b, n_b, t_b, t_i, t_n, t_l, t_t, e_and, e_or, e_not, e_chn, e_bool, e_val, e_seq, w_add, w_sub, w_mul, w_div, w_mod, w_ord, w_neg, w_isn, w_isnn, w_isb, w_isbn, w_eqi, w_nei, w_eqs, w_nes, w_eqb, w_neb, w_lent, w_lenl, e_tup, e_tupc, e_lst, e_lstc, td_0, td_1, td_2, td_3, td_4, td_5, td_6, ld_0, ld_1, ld_2, ld_3, ld_4, ld_5, ld_6, ld_7, w_ixt, w_ixl, at_0, at_1, at_2, at_3, om_some, or_some, e_lc, e_gfd, e_gsb, e_mth, e_met, w_max, w_min, w_rg1, w_rg2, w_rgd, e_ival, it_l, it_t, e_for, v_fx, v_cel, l_t, isiG, tyN, isiB, isiTs, List.mem_cons, List.not_mem_nil, or_false, false_or, or_true, true_or, decide_true, decide_false, Bool.or_false, Bool.false_or, Bool.true_or, Bool.or_true, Bool.and_false, Bool.and_true, Bool.true_and, Bool.false_and, Bool.not_true, Bool.not_false, List.map_cons, List.map_nil, List.replicate_zero, List.replicate_succ, List.cons_append, List.nil_append, List.length_cons, List.length_nil, List.getElem?_cons_zero, List.getElem?_cons_succ, List.getElem?_nil, List.set_cons_zero, List.set_cons_succ, if_true, if_false, Bool.false_eq_true, reduceIte, ite_self]
    rw [u_gen (by (repeat apply putA_lt) <;> simp)]
    simp only [ess, es, et, ets, eto, ei, eg, egs, pv, sRet, sRetN, sNil, sIf, sAsg, sPar, sExp, sBrk, sCnt, xIte, xCall, xCons, xNil, xVar, xCon, xBin, xUn, xDic, tAnd, tOr, tNot, tBad, xBad, oNone, oSome, gNm, gsNil, gsCons, Bi.go, Tn.nm, Mt.go, Mt.rc, cmG, opG, Gxs.len, q_ok, q_bad, q_exc, q_ite, o_ok, o_bad, o_exc, o_ite, a_nx, a_rt, a_bk, a_ct, a_bad, a_ite, t_nx, t_ct, t_bk, t_rt, t_bad, t_ite, r_rt, r_nx, r_bad, r_ite, k_b, q_b, n_b, t_b, t_i, t_n, t_l, t_t, e_and, e_or, e_not, e_chn, e_bool, e_val, e_seq, w_add, w_sub, w_mul, w_div, w_mod, w_ord, w_neg, w_isn, w_isnn, w_isb, w_isbn, w_eqi, w_nei, w_eqs, w_nes, w_eqb, w_neb, w_lent, w_lenl, e_tup, e_tupc, e_lst, e_lstc, td_0, td_1, td_2, td_3, td_4, td_5, td_6, ld_0, ld_1, ld_2, ld_3, ld_4, ld_5, ld_6, ld_7, w_ixt, w_ixl, at_0, at_1, at_2, at_3, om_some, or_some, e_lc, e_gfd, e_gsb, e_mth, e_met, w_max, w_min, w_rg1, w_rg2, w_rgd, e_ival, it_l, it_t, e_for, v_fx, v_cel, l_t, isiG, tyN, isiB, isiTs, List.mem_cons, List.not_mem_nil, or_false, false_or, or_true, true_or, decide_true, decide_false, Bool.or_false, Bool.false_or, Bool.true_or, Bool.or_true, Bool.and_false, Bool.and_true, Bool.true_and, Bool.false_and, Bool.not_true, Bool.not_false, List.map_cons, List.map_nil, List.replicate_zero, List.replicate_succ, List.cons_append, List.nil_append, List.length_cons, List.length_nil, List.getElem?_cons_zero, List.getElem?_cons_succ, List.getElem?_nil, List.set_cons_zero, List.set_cons_succ, if_true, if_false, Bool.false_eq_true, reduceIte, ite_self]
    rw [u_gen (by (repeat apply putA_lt) <;> simp)]
    rfl
  simp only [ess, es, et, ets, eto, ei, eg, egs, pv, sRet, sRetN, sNil, sIf, sAsg, sPar, sExp, sBrk, sCnt, xIte, xCall, xCons, xNil, xVar, xCon, xBin, xUn, xDic, tAnd, tOr, tNot, tBad, xBad, oNone, oSome, gNm, gsNil, gsCons, Bi.go, Tn.nm, Mt.go, Mt.rc, cmG, opG, Gxs.len, q_ok, q_bad, q_exc, q_ite, o_ok, o_bad, o_exc, o_ite, a_nx, a_rt, a_bk, a_ct, a_bad, a_ite, t_nx, t_ct, t_bk, t_rt, t_bad, t_ite, r_rt, r_nx, r_bad, r_ite, k_b, q_b, n_b, t_b, t_i, t_n, t_l, t_t, e_and, e_or, e_not, e_chn, e_bool, e_val, e_seq, w_add, w_sub, w_mul, w_div, w_mod, w_ord, w_neg, w_isn, w_isnn, w_isb, w_isbn, w_eqi, w_nei, w_eqs, w_nes, w_eqb, w_neb, w_lent, w_lenl, e_tup, e_tupc, e_lst, e_lstc, td_0, td_1, td_2, td_3, td_4, td_5, td_6, ld_0, ld_1, ld_2, ld_3, ld_4, ld_5, ld_6, ld_7, w_ixt, w_ixl, at_0, at_1, at_2, at_3, om_some, or_some, e_lc, e_gfd, e_gsb, e_mth, e_met, w_max, w_min, w_rg1, w_rg2, w_rgd, e_ival, it_l, it_t, e_for, v_fx, v_cel, l_t, isiG, tyN, isiB, isiTs, List.mem_cons, List.not_mem_nil, or_false, false_or, or_true, true_or, decide_true, decide_false, Bool.or_false, Bool.false_or, Bool.true_or, Bool.or_true, Bool.and_false, Bool.and_true, Bool.true_and, Bool.false_and, Bool.not_true, Bool.not_false, List.map_cons, List.map_nil, List.replicate_zero, List.replicate_succ, List.cons_append, List.nil_append, List.length_cons, List.length_nil, List.getElem?_cons_zero, List.getElem?_cons_succ, List.getElem?_nil, List.set_cons_zero, List.set_cons_succ, if_true, if_false, Bool.false_eq_true, reduceIte, ite_self, g1]
  rw [u_gen (by (repeat apply putA_lt) <;> simp)]
  simp only [ess, es, et, ets, eto, ei, eg, egs, pv, sRet, sRetN, sNil, sIf, sAsg, sPar, sExp, sBrk, sCnt, xIte, xCall, xCons, xNil, xVar, xCon, xBin, xUn, xDic, tAnd, tOr, tNot, tBad, xBad, oNone, oSome, gNm, gsNil, gsCons, Bi.go, Tn.nm, Mt.go, Mt.rc, cmG, opG, Gxs.len, q_ok, q_bad, q_exc, q_ite, o_ok, o_bad, o_exc, o_ite, a_nx, a_rt, a_bk, a_ct, a_bad, a_ite, t_nx, t_ct, t_bk, t_rt, t_bad, t_ite, r_rt, r_nx, r_bad, r_ite, k_b, q_b, n_b, t_b, t_i, t_n, t_l, t_t, e_and, e_or, e_not, e_chn, e_bool, e_val, e_seq, w_add, w_sub, w_mul, w_div, w_mod, w_ord, w_neg, w_isn, w_isnn, w_isb, w_isbn, w_eqi, w_nei, w_eqs, w_nes, w_eqb, w_neb, w_lent, w_lenl, e_tup, e_tupc, e_lst, e_lstc, td_0, td_1, td_2, td_3, td_4, td_5, td_6, ld_0, ld_1, ld_2, ld_3, ld_4, ld_5, ld_6, ld_7, w_ixt, w_ixl, at_0, at_1, at_2, at_3, om_some, or_some, e_lc, e_gfd, e_gsb, e_mth, e_met, w_max, w_min, w_rg1, w_rg2, w_rgd, e_ival, it_l, it_t, e_for, v_fx, v_cel, l_t, isiG, tyN, isiB, isiTs, List.mem_cons, List.not_mem_nil, or_false, false_or, or_true, true_or, decide_true, decide_false, Bool.or_false, Bool.false_or, Bool.true_or, Bool.or_true, Bool.and_false, Bool.and_true, Bool.true_and, Bool.false_and, Bool.not_true, Bool.not_false, List.map_cons, List.map_nil, List.replicate_zero, List.replicate_succ, List.cons_append, List.nil_append, List.length_cons, List.length_nil, List.getElem?_cons_zero, List.getElem?_cons_succ, List.getElem?_nil, List.set_cons_zero, List.set_cons_succ, if_true, if_false, Bool.false_eq_true, reduceIte, ite_self]
  rw [u_gen (by (repeat apply putA_lt) <;> simp)]
  simp only [ess, es, et, ets, eto, ei, eg, egs, pv, sRet, sRetN, sNil, sIf, sAsg, sPar, sExp, sBrk, sCnt, xIte, xCall, xCons, xNil, xVar, xCon, xBin, xUn, xDic, tAnd, tOr, tNot, tBad, xBad, oNone, oSome, gNm, gsNil, gsCons, Bi.go, Tn.nm, Mt.go, Mt.rc, cmG, opG, Gxs.len, q_ok, q_bad, q_exc, q_ite, o_ok, o_bad, o_exc, o_ite, a_nx, a_rt, a_bk, a_ct, a_bad, a_ite, t_nx, t_ct, t_bk, t_rt, t_bad, t_ite, r_rt, r_nx, r_bad, r_ite, k_b, q_b, n_b, t_b, t_i, t_n, t_l, t_t, e_and, e_or, e_not, e_chn, e_bool, e_val, e_seq, w_add, w_sub, w_mul, w_div, w_mod, w_ord, w_neg, w_isn, w_isnn, w_isb, w_isbn, w_eqi, w_nei, w_eqs, w_nes, w_eqb, w_neb, w_lent, w_lenl, e_tup, e_tupc, e_lst, e_lstc, td_0, td_1, td_2, td_3, td_4, td_5, td_6, ld_0, ld_1, ld_2, ld_3, ld_4, ld_5, ld_6, ld_7, w_ixt, w_ixl, at_0, at_1, at_2, at_3, om_some, or_some, e_lc, e_gfd, e_gsb, e_mth, e_met, w_max, w_min, w_rg1, w_rg2, w_rgd, e_ival, it_l, it_t, e_for, v_fx, v_cel, l_t, isiG, tyN, isiB, isiTs, List.mem_cons, List.not_mem_nil, or_false, false_or, or_true, true_or, decide_true, decide_false, Bool.or_false, Bool.false_or, Bool.true_or, Bool.or_true, Bool.and_false, Bool.and_true, Bool.true_and, Bool.false_and, Bool.not_true, Bool.not_false, List.map_cons, List.map_nil, List.replicate_zero, List.replicate_succ, List.cons_append, List.nil_append, List.length_cons, List.length_nil, List.getElem?_cons_zero, List.getElem?_cons_succ, List.getElem?_nil, List.set_cons_zero, List.set_cons_succ, if_true, if_false, Bool.false_eq_true, reduceIte, ite_self]
  rw [u_gen (by (repeat apply putA_lt) <;> simp)]
  simp only [ess, es, et, ets, eto, ei, eg, egs, pv, sRet, sRetN, sNil, sIf, sAsg, sPar, sExp, sBrk, sCnt, xIte, xCall, xCons, xNil, xVar, xCon, xBin, xUn, xDic, tAnd, tOr, tNot, tBad, xBad, oNone, oSome, gNm, gsNil, gsCons, Bi.go, Tn.nm, Mt.go, Mt.rc, cmG, opG, Gxs.len, q_ok, q_bad, q_exc, q_ite, o_ok, o_bad, o_exc, o_ite, a_nx, a_rt, a_bk, a_ct, a_bad, a_ite, t_nx, t_ct, t_bk, t_rt, t_bad, t_ite, r_rt, r_nx, r_bad, r_ite, k_b, q_b, n_b, t_b, t_i, t_n, t_l, t_t, e_and, e_or, e_not, e_chn, e_bool, e_val, e_seq, w_add, w_sub, w_mul, w_div, w_mod, w_ord, w_neg, w_isn, w_isnn, w_isb, w_isbn, w_eqi, w_nei, w_eqs, w_nes, w_eqb, w_neb, w_lent, w_lenl, e_tup, e_tupc, e_lst, e_lstc, td_0, td_1, td_2, td_3, td_4, td_5, td_6, ld_0, ld_1, ld_2, ld_3, ld_4, ld_5, ld_6, ld_7, w_ixt, w_ixl, at_0, at_1, at_2, at_3, om_some, or_some, e_lc, e_gfd, e_gsb, e_mth, e_met, w_max, w_min, w_rg1, w_rg2, w_rgd, e_ival, it_l, it_t, e_for, v_fx, v_cel, l_t, isiG, tyN, isiB, isiTs, List.mem_cons, List.not_mem_nil, or_false, false_or, or_true, true_or, decide_true, decide_false, Bool.or_false, Bool.false_or, Bool.true_or, Bool.or_true, Bool.and_false, Bool.and_true, Bool.true_and, Bool.false_and, Bool.not_true, Bool.not_false, List.map_cons, List.map_nil, List.replicate_zero, List.replicate_succ, List.cons_append, List.nil_append, List.length_cons, List.length_nil, List.getElem?_cons_zero, List.getElem?_cons_succ, List.getElem?_nil, List.set_cons_zero, List.set_cons_succ, if_true, if_false, Bool.false_eq_true, reduceIte, ite_self, mc_0, mc_2, List.length_append, List.append_assoc]
  rw [u_gen (by (repeat apply putA_lt) <;> simp)]
  simp only [ess, es, et, ets, eto, ei, eg, egs, pv, sRet, sRetN, sNil, sIf, sAsg, sPar, sExp, sBrk, sCnt, xIte, xCall, xCons, xNil, xVar, xCon, xBin, xUn, xDic, tAnd, tOr, tNot, tBad, xBad, oNone, oSome, gNm, gsNil, gsCons, Bi.go, Tn.nm, Mt.go, Mt.rc, cmG, opG, Gxs.len, q_ok, q_bad, q_exc, q_ite, o_ok, o_bad, o_exc, o_ite, a_nx, a_rt, a_bk, a_ct, a_bad, a_ite, t_nx, t_ct, t_bk, t_rt, t_bad, t_ite, r_rt, r_nx, r_bad, r_ite, k_b, q_b, n_b, t_b, t_i, t_n, t_l, t_t, e_and, e_or, e_not, e_chn, e_bool, e_val, e_seq, w_add, w_sub, w_mul, w_div, w_mod, w_ord, w_neg, w_isn, w_isnn, w_isb, w_isbn, w_eqi, w_nei, w_eqs, w_nes, w_eqb, w_neb, w_lent, w_lenl, e_tup, e_tupc, e_lst, e_lstc, td_0, td_1, td_2, td_3, td_4, td_5, td_6, ld_0, ld_1, ld_2, ld_3, ld_4, ld_5, ld_6, ld_7, w_ixt, w_ixl, at_0, at_1, at_2, at_3, om_some, or_some, e_lc, e_gfd, e_gsb, e_mth, e_met, w_max, w_min, w_rg1, w_rg2, w_rgd, e_ival, it_l, it_t, e_for, v_fx, v_cel, l_t, isiG, tyN, isiB, isiTs, List.mem_cons, List.not_mem_nil, or_false, false_or, or_true, true_or, decide_true, decide_false, Bool.or_false, Bool.false_or, Bool.true_or, Bool.or_true, Bool.and_false, Bool.and_true, Bool.true_and, Bool.false_and, Bool.not_true, Bool.not_false, List.map_cons, List.map_nil, List.replicate_zero, List.replicate_succ, List.cons_append, List.nil_append, List.length_cons, List.length_nil, List.getElem?_cons_zero, List.getElem?_cons_succ, List.getElem?_nil, List.set_cons_zero, List.set_cons_succ, if_true, if_false, Bool.false_eq_true, reduceIte, ite_self, mc_0, mc_2, List.length_append, List.append_assoc]
  rw [u_gen (by (repeat apply putA_lt) <;> simp)]
  simp only [ess, es, et, ets, eto, ei, eg, egs, pv, sRet, sRetN, sNil, sIf, sAsg, sPar, sExp, sBrk, sCnt, xIte, xCall, xCons, xNil, xVar, xCon, xBin, xUn, xDic, tAnd, tOr, tNot, tBad, xBad, oNone, oSome, gNm, gsNil, gsCons, Bi.go, Tn.nm, Mt.go, Mt.rc, cmG, opG, Gxs.len, q_ok, q_bad, q_exc, q_ite, o_ok, o_bad, o_exc, o_ite, a_nx, a_rt, a_bk, a_ct, a_bad, a_ite, t_nx, t_ct, t_bk, t_rt, t_bad, t_ite, r_rt, r_nx, r_bad, r_ite, k_b, q_b, n_b, t_b, t_i, t_n, t_l, t_t, e_and, e_or, e_not, e_chn, e_bool, e_val, e_seq, w_add, w_sub, w_mul, w_div, w_mod, w_ord, w_neg, w_isn, w_isnn, w_isb, w_isbn, w_eqi, w_nei, w_eqs, w_nes, w_eqb, w_neb, w_lent, w_lenl, e_tup, e_tupc, e_lst, e_lstc, td_0, td_1, td_2, td_3, td_4, td_5, td_6, ld_0, ld_1, ld_2, ld_3, ld_4, ld_5, ld_6, ld_7, w_ixt, w_ixl, at_0, at_1, at_2, at_3, om_some, or_some, e_lc, e_gfd, e_gsb, e_mth, e_met, w_max, w_min, w_rg1, w_rg2, w_rgd, e_ival, it_l, it_t, e_for, v_fx, v_cel, l_t, isiG, tyN, isiB, isiTs, List.mem_cons, List.not_mem_nil, or_false, false_or, or_true, true_or, decide_true, decide_false, Bool.or_false, Bool.false_or, Bool.true_or, Bool.or_true, Bool.and_false, Bool.and_true, Bool.true_and, Bool.false_and, Bool.not_true, Bool.not_false, List.map_cons, List.map_nil, List.replicate_zero, List.replicate_succ, List.cons_append, List.nil_append, List.length_cons, List.length_nil, List.getElem?_cons_zero, List.getElem?_cons_succ, List.getElem?_nil, List.set_cons_zero, List.set_cons_succ, if_true, if_false, Bool.false_eq_true, reduceIte, ite_self, mc_0, mc_2, List.length_append, List.append_assoc]
  rw [u_gen (by (repeat apply putA_lt) <;> simp)]
  simp only [ess, es, et, ets, eto, ei, eg, egs, pv, sRet, sRetN, sNil, sIf, sAsg, sPar, sExp, sBrk, sCnt, xIte, xCall, xCons, xNil, xVar, xCon, xBin, xUn, xDic, tAnd, tOr, tNot, tBad, xBad, oNone, oSome, gNm, gsNil, gsCons, Bi.go, Tn.nm, Mt.go, Mt.rc, cmG, opG, Gxs.len, q_ok, q_bad, q_exc, q_ite, o_ok, o_bad, o_exc, o_ite, a_nx, a_rt, a_bk, a_ct, a_bad, a_ite, t_nx, t_ct, t_bk, t_rt, t_bad, t_ite, r_rt, r_nx, r_bad, r_ite, k_b, q_b, n_b, t_b, t_i, t_n, t_l, t_t, e_and, e_or, e_not, e_chn, e_bool, e_val, e_seq, w_add, w_sub, w_mul, w_div, w_mod, w_ord, w_neg, w_isn, w_isnn, w_isb, w_isbn, w_eqi, w_nei, w_eqs, w_nes, w_eqb, w_neb, w_lent, w_lenl, e_tup, e_tupc, e_lst, e_lstc, td_0, td_1, td_2, td_3, td_4, td_5, td_6, ld_0, ld_1, ld_2, ld_3, ld_4, ld_5, ld_6, ld_7, w_ixt, w_ixl, at_0, at_1, at_2, at_3, om_some, or_some, e_lc, e_gfd, e_gsb, e_mth, e_met, w_max, w_min, w_rg1, w_rg2, w_rgd, e_ival, it_l, it_t, e_for, v_fx, v_cel, l_t, isiG, tyN, isiB, isiTs, List.mem_cons, List.not_mem_nil, or_false, false_or, or_true, true_or, decide_true, decide_false, Bool.or_false, Bool.false_or, Bool.true_or, Bool.or_true, Bool.and_false, Bool.and_true, Bool.true_and, Bool.false_and, Bool.not_true, Bool.not_false, List.map_cons, List.map_nil, List.replicate_zero, List.replicate_succ, List.cons_append, List.nil_append, List.length_cons, List.length_nil, List.getElem?_cons_zero, List.getElem?_cons_succ, List.getElem?_nil, List.set_cons_zero, List.set_cons_succ, if_true, if_false, Bool.false_eq_true, reduceIte, ite_self, mc_0, mc_2, List.length_append, List.append_assoc]
  rw [u_gen (by (repeat apply putA_lt) <;> simp)]
  simp only [ess, es, et, ets, eto, ei, eg, egs, pv, sRet, sRetN, sNil, sIf, sAsg, sPar, sExp, sBrk, sCnt, xIte, xCall, xCons, xNil, xVar, xCon, xBin, xUn, xDic, tAnd, tOr, tNot, tBad, xBad, oNone, oSome, gNm, gsNil, gsCons, Bi.go, Tn.nm, Mt.go, Mt.rc, cmG, opG, Gxs.len, q_ok, q_bad, q_exc, q_ite, o_ok, o_bad, o_exc, o_ite, a_nx, a_rt, a_bk, a_ct, a_bad, a_ite, t_nx, t_ct, t_bk, t_rt, t_bad, t_ite, r_rt, r_nx, r_bad, r_ite, k_b, q_b, n_b, t_b, t_i, t_n, t_l, t_t, e_and, e_or, e_not, e_chn, e_bool, e_val, e_seq, w_add, w_sub, w_mul, w_div, w_mod, w_ord, w_neg, w_isn, w_isnn, w_isb, w_isbn, w_eqi, w_nei, w_eqs, w_nes, w_eqb, w_neb, w_lent, w_lenl, e_tup, e_tupc, e_lst, e_lstc, td_0, td_1, td_2, td_3, td_4, td_5, td_6, ld_0, ld_1, ld_2, ld_3, ld_4, ld_5, ld_6, ld_7, w_ixt, w_ixl, at_0, at_1, at_2, at_3, om_some, or_some, e_lc, e_gfd, e_gsb, e_mth, e_met, w_max, w_min, w_rg1, w_rg2, w_rgd, e_ival, it_l, it_t, e_for, v_fx, v_cel, l_t, isiG, tyN, isiB, isiTs, List.mem_cons, List.not_mem_nil, or_false, false_or, or_true, true_or, decide_true, decide_false, Bool.or_false, Bool.false_or, Bool.true_or, Bool.or_true, Bool.and_false, Bool.and_true, Bool.true_and, Bool.false_and, Bool.not_true, Bool.not_false, List.map_cons, List.map_nil, List.replicate_zero, List.replicate_succ, List.cons_append, List.nil_append, List.length_cons, List.length_nil, List.getElem?_cons_zero, List.getElem?_cons_succ, List.getElem?_nil, List.set_cons_zero, List.set_cons_succ, if_true, if_false, Bool.false_eq_true, reduceIte, ite_self]
  rw [u_gen (by (repeat apply putA_lt) <;> simp)]
  simp only [ess, es, et, ets, eto, ei, eg, egs, pv, sRet, sRetN, sNil, sIf, sAsg, sPar, sExp, sBrk, sCnt, xIte, xCall, xCons, xNil, xVar, xCon, xBin, xUn, xDic, tAnd, tOr, tNot, tBad, xBad, oNone, oSome, gNm, gsNil, gsCons, Bi.go, Tn.nm, Mt.go, Mt.rc, cmG, opG, Gxs.len, q_ok, q_bad, q_exc, q_ite, o_ok, o_bad, o_exc, o_ite, a_nx, a_rt, a_bk, a_ct, a_bad, a_ite, t_nx, t_ct, t_bk, t_rt, t_bad, t_ite, r_rt, r_nx, r_bad, r_ite, k_b, q_b, n_b, t_b, t_i, t_n, t_l, t_t, e_and, e_or, e_not, e_chn, e_bool, e_val, e_seq, w_add, w_sub, w_mul, w_div, w_mod, w_ord, w_neg, w_isn, w_isnn, w_isb, w_isbn, w_eqi, w_nei, w_eqs, w_nes, w_eqb, w_neb, w_lent, w_lenl, e_tup, e_tupc, e_lst, e_lstc, td_0, td_1, td_2, td_3, td_4, td_5, td_6, ld_0, ld_1, ld_2, ld_3, ld_4, ld_5, ld_6, ld_7, w_ixt, w_ixl, at_0, at_1, at_2, at_3, om_some, or_some, e_lc, e_gfd, e_gsb, e_mth, e_met, w_max, w_min, w_rg1, w_rg2, w_rgd, e_ival, it_l, it_t, e_for, v_fx, v_cel, l_t, isiG, tyN, isiB, isiTs, List.mem_cons, List.not_mem_nil, or_false, false_or, or_true, true_or, decide_true, decide_false, Bool.or_false, Bool.false_or, Bool.true_or, Bool.or_true, Bool.and_false, Bool.and_true, Bool.true_and, Bool.false_and, Bool.not_true, Bool.not_false, List.map_cons, List.map_nil, List.replicate_zero, List.replicate_succ, List.cons_append, List.nil_append, List.length_cons, List.length_nil, List.getElem?_cons_zero, List.getElem?_cons_succ, List.getElem?_nil, List.set_cons_zero, List.set_cons_succ, if_true, if_false, Bool.false_eq_true, reduceIte, ite_self]
  rfl
end
end K75
end
section
set_option Elab.async false
set_option linter.all false
set_option maxRecDepth 100000
set_option maxHeartbeats 4000000
namespace K75
open PySem Mi
structure Iv (l : Ln) (s : MS) (B : Nat) : Prop where
  s0 : 0 ≤ s.sent
  s1 : s.sent ≤ 4001
  d0 : 0 ≤ s.done
  d1 : s.done ≤ B
  una : Lst s.ans s.una
  ab : ∀ x ∈ s.ans, 0 ≤ x ∧ x < s.sent
  pb : ∀ x ∈ s.put, x < s.done + l.wide
  pd : s.done ∉ s.put
  lp : s.put.length ≤ B
  la : s.ans.length ≤ B
  l0 : s.r0.length ≤ B
  l1 : s.r1.length ≤ B
theorem Iv.us {l : Ln} {s : MS} {B : Nat} (h : Iv l s B) : s.una ≤ s.sent := by
  by_cases hz : s.una ≤ s.sent
  · exact hz
  · have := (h.ab s.sent (h.una.all s.sent h.s0 (by omega))).2
    omega
theorem Iv.start (l : Ln) (hw : 1 ≤ l.wide) : Iv l MS.start 0 := ⟨by decide, by decide, by decide, by decide, ⟨by decide, by simp [MS.start], fun x h1 h2 => by simp [MS.start] at h2; omega⟩, by simp [MS.start], by simp [MS.start], by simp [MS.start], Nat.le_refl _, Nat.le_refl _, Nat.le_refl _, Nat.le_refl _⟩
def rowOf (s : MS) (r : Int) : List Int := if r = 0 then s.r0 else s.r1
def putRow (s : MS) (r : Int) (is : List Int) : MS := if r = 0 then { s with r0 := is } else { s with r1 := is }
def doP (l : Ln) (s : MS) : Sp → Option MS
  | .send c => if (decide (s.una ≤ c) && decide (c < s.una + l.wide) && decide (c ≤ s.sent) && !decide (c ∈ s.ans)) = true then some { s with sent := max s.sent (c + 1), r0 := s.r0 ++ [c] } else none
  | .lose r i => (match (rowOf s r)[i.toNat]? with
    | none => none
    | some _ => some (putRow s r ((rowOf s r).eraseIdx i.toNat)))
  | .bring r i k => (match (rowOf s r)[i.toNat]? with
    | none => none
    | some m => if (!l.any && decide (0 < i)) = true then none else
      let s1 := if k = true then s else putRow s r ((rowOf s r).eraseIdx i.toNat)
      some (if r = 0 then hs l s1 m else ss l s1 m))
section
variable {l : Ln} {s : MS} {S : Sto} {n : Nat}
def oB (o : Option MS) (l : Ln) (s : MS) (S : Sto) : Res W := match o with
  | some s' => .ok (.d (.bool true)) (PS l s' S)
  | none => .ok (.d (.bool false)) (PS l s S)
theorem oS_kept (any : Bool) : decide (oS any = ("kept" : Str)) = !any := by cases any <;> rfl
theorem ix_nat {i : Int} (h : 0 ≤ i) : PyData.int i = PyData.int ((i.toNat : Nat) : Int) := by rw [Int.toNat_of_nonneg h]
theorem do_go (n : Nat) (p : D) : rn (n + 1) 31 [.c S.length, .d p] (PS l s S) = outR (ess (rt n) b31 [some (.c S.length), some (.d p), none, none] (PS l s S)) := rfl
theorem do_send (n : Nat) {B : Nat} (h : Iv l s B) (hB : B + 100 < cap) (c : Int) : rn (n + 2) 31 [.c S.length, .d (Sp.send c).D] (PS l s S) = oB (doP l s (.send c)) l s S := by
  rw [do_go, b31, Sp.D]
  have hc : s.r0.length < cap := by have := h.l0; omega
  simp only [ess, es, et, ets, eto, ei, eg, egs, pv, sRet, sRetN, sNil, sIf, sAsg, sPar, sExp, sBrk, sCnt, xIte, xCall, xCons, xNil, xVar, xCon, xBin, xUn, xDic, tAnd, tOr, tNot, tBad, xBad, oNone, oSome, gNm, gsNil, gsCons, Bi.go, Tn.nm, Mt.go, Mt.rc, cmG, opG, Gxs.len, q_ok, q_bad, q_exc, q_ite, o_ok, o_bad, o_exc, o_ite, a_nx, a_rt, a_bk, a_ct, a_bad, a_ite, t_nx, t_ct, t_bk, t_rt, t_bad, t_ite, r_rt, r_nx, r_bad, r_ite, k_b, q_b, n_b, t_b, t_i, t_n, t_l, t_t, e_and, e_or, e_not, e_chn, e_bool, e_val, e_seq, w_add, w_sub, w_mul, w_div, w_mod, w_ord, w_neg, w_isn, w_isnn, w_isb, w_isbn, w_eqi, w_nei, w_eqs, w_nes, w_eqb, w_neb, w_lent, w_lenl, e_tup, e_tupc, e_lst, e_lstc, td_0, td_1, td_2, td_3, td_4, td_5, td_6, ld_0, ld_1, ld_2, ld_3, ld_4, ld_5, ld_6, ld_7, w_ixt, w_ixl, at_0, at_1, at_2, at_3, om_some, or_some, e_lc, e_gfd, e_gsb, e_mth, e_met, w_max, w_min, w_rg1, w_rg2, w_rgd, e_ival, it_l, it_t, e_for, v_fx, v_cel, l_t, isiG, tyN, isiB, isiTs, List.mem_cons, List.not_mem_nil, or_false, false_or, or_true, true_or, decide_true, decide_false, Bool.or_false, Bool.false_or, Bool.true_or, Bool.or_true, Bool.and_false, Bool.and_true, Bool.true_and, Bool.false_and, Bool.not_true, Bool.not_false, List.map_cons, List.map_nil, List.replicate_zero, List.replicate_succ, List.cons_append, List.nil_append, List.length_cons, List.length_nil, List.getElem?_cons_zero, List.getElem?_cons_succ, List.getElem?_nil, List.set_cons_zero, List.set_cons_succ, if_true, if_false, Bool.false_eq_true, reduceIte, ite_self, i_send, send_ok (l := l) (s := s) (S := S) n c hc]
  simp only [doP]
  by_cases hb : (decide (s.una ≤ c) && decide (c < s.una + l.wide) && decide (c ≤ s.sent) && !decide (c ∈ s.ans)) = true
  · rw [if_pos hb, if_pos hb]; rfl
  · rw [if_neg hb, if_neg hb]; rfl
theorem do_lose0 (n : Nat) {B : Nat} (h : Iv l s B) (hB : B + 100 < cap) {i : Int} (hi : 0 ≤ i) : rn (n + 2) 31 [.c S.length, .d (Sp.lose 0 i).D] (PS l s S) = oB (doP l s (.lose 0 i)) l s S := by
  rw [do_go, b31, Sp.D, ix_nat hi]
  simp only [ess, es, et, ets, eto, ei, eg, egs, pv, sRet, sRetN, sNil, sIf, sAsg, sPar, sExp, sBrk, sCnt, xIte, xCall, xCons, xNil, xVar, xCon, xBin, xUn, xDic, tAnd, tOr, tNot, tBad, xBad, oNone, oSome, gNm, gsNil, gsCons, Bi.go, Tn.nm, Mt.go, Mt.rc, cmG, opG, Gxs.len, q_ok, q_bad, q_exc, q_ite, o_ok, o_bad, o_exc, o_ite, a_nx, a_rt, a_bk, a_ct, a_bad, a_ite, t_nx, t_ct, t_bk, t_rt, t_bad, t_ite, r_rt, r_nx, r_bad, r_ite, k_b, q_b, n_b, t_b, t_i, t_n, t_l, t_t, e_and, e_or, e_not, e_chn, e_bool, e_val, e_seq, w_add, w_sub, w_mul, w_div, w_mod, w_ord, w_neg, w_isn, w_isnn, w_isb, w_isbn, w_eqi, w_nei, w_eqs, w_nes, w_eqb, w_neb, w_lent, w_lenl, e_tup, e_tupc, e_lst, e_lstc, td_0, td_1, td_2, td_3, td_4, td_5, td_6, ld_0, ld_1, ld_2, ld_3, ld_4, ld_5, ld_6, ld_7, w_ixt, w_ixl, at_0, at_1, at_2, at_3, om_some, or_some, e_lc, e_gfd, e_gsb, e_mth, e_met, w_max, w_min, w_rg1, w_rg2, w_rgd, e_ival, it_l, it_t, e_for, v_fx, v_cel, l_t, isiG, tyN, isiB, isiTs, List.mem_cons, List.not_mem_nil, or_false, false_or, or_true, true_or, decide_true, decide_false, Bool.or_false, Bool.false_or, Bool.true_or, Bool.or_true, Bool.and_false, Bool.and_true, Bool.true_and, Bool.false_and, Bool.not_true, Bool.not_false, List.map_cons, List.map_nil, List.replicate_zero, List.replicate_succ, List.cons_append, List.nil_append, List.length_cons, List.length_nil, List.getElem?_cons_zero, List.getElem?_cons_succ, List.getElem?_nil, List.set_cons_zero, List.set_cons_succ, if_true, if_false, Bool.false_eq_true, reduceIte, ite_self, s1, f_lines, x_0, z_r0, l_r0]
  have hc : s.r0.length ≤ cap := by have := h.l0; omega
  show _ = oB (match s.r0[i.toNat]? with | none => none | some _ => some { s with r0 := s.r0.eraseIdx i.toNat }) l s S
  cases hx : s.r0[i.toNat]? with
  | none =>
    have : s.r0.length ≤ i.toNat := List.getElem?_eq_none_iff.mp hx
    rw [if_pos (by rw [decide_eq_true_eq]; omega)]
    rfl
  | some m =>
    have : i.toNat < s.r0.length := (List.getElem?_eq_some_iff.mp hx).1
    rw [if_neg (by rw [decide_eq_true_eq]; omega), po_r0 hx hc]
    simp only [ess, es, et, ets, eto, ei, eg, egs, pv, sRet, sRetN, sNil, sIf, sAsg, sPar, sExp, sBrk, sCnt, xIte, xCall, xCons, xNil, xVar, xCon, xBin, xUn, xDic, tAnd, tOr, tNot, tBad, xBad, oNone, oSome, gNm, gsNil, gsCons, Bi.go, Tn.nm, Mt.go, Mt.rc, cmG, opG, Gxs.len, q_ok, q_bad, q_exc, q_ite, o_ok, o_bad, o_exc, o_ite, a_nx, a_rt, a_bk, a_ct, a_bad, a_ite, t_nx, t_ct, t_bk, t_rt, t_bad, t_ite, r_rt, r_nx, r_bad, r_ite, k_b, q_b, n_b, t_b, t_i, t_n, t_l, t_t, e_and, e_or, e_not, e_chn, e_bool, e_val, e_seq, w_add, w_sub, w_mul, w_div, w_mod, w_ord, w_neg, w_isn, w_isnn, w_isb, w_isbn, w_eqi, w_nei, w_eqs, w_nes, w_eqb, w_neb, w_lent, w_lenl, e_tup, e_tupc, e_lst, e_lstc, td_0, td_1, td_2, td_3, td_4, td_5, td_6, ld_0, ld_1, ld_2, ld_3, ld_4, ld_5, ld_6, ld_7, w_ixt, w_ixl, at_0, at_1, at_2, at_3, om_some, or_some, e_lc, e_gfd, e_gsb, e_mth, e_met, w_max, w_min, w_rg1, w_rg2, w_rgd, e_ival, it_l, it_t, e_for, v_fx, v_cel, l_t, isiG, tyN, isiB, isiTs, List.mem_cons, List.not_mem_nil, or_false, false_or, or_true, true_or, decide_true, decide_false, Bool.or_false, Bool.false_or, Bool.true_or, Bool.or_true, Bool.and_false, Bool.and_true, Bool.true_and, Bool.false_and, Bool.not_true, Bool.not_false, List.map_cons, List.map_nil, List.replicate_zero, List.replicate_succ, List.cons_append, List.nil_append, List.length_cons, List.length_nil, List.getElem?_cons_zero, List.getElem?_cons_succ, List.getElem?_nil, List.set_cons_zero, List.set_cons_succ, if_true, if_false, Bool.false_eq_true, reduceIte, ite_self]
    rfl
theorem do_lose1 (n : Nat) {B : Nat} (h : Iv l s B) (hB : B + 100 < cap) {i : Int} (hi : 0 ≤ i) : rn (n + 2) 31 [.c S.length, .d (Sp.lose 1 i).D] (PS l s S) = oB (doP l s (.lose 1 i)) l s S := by
  rw [do_go, b31, Sp.D, ix_nat hi]
  simp only [ess, es, et, ets, eto, ei, eg, egs, pv, sRet, sRetN, sNil, sIf, sAsg, sPar, sExp, sBrk, sCnt, xIte, xCall, xCons, xNil, xVar, xCon, xBin, xUn, xDic, tAnd, tOr, tNot, tBad, xBad, oNone, oSome, gNm, gsNil, gsCons, Bi.go, Tn.nm, Mt.go, Mt.rc, cmG, opG, Gxs.len, q_ok, q_bad, q_exc, q_ite, o_ok, o_bad, o_exc, o_ite, a_nx, a_rt, a_bk, a_ct, a_bad, a_ite, t_nx, t_ct, t_bk, t_rt, t_bad, t_ite, r_rt, r_nx, r_bad, r_ite, k_b, q_b, n_b, t_b, t_i, t_n, t_l, t_t, e_and, e_or, e_not, e_chn, e_bool, e_val, e_seq, w_add, w_sub, w_mul, w_div, w_mod, w_ord, w_neg, w_isn, w_isnn, w_isb, w_isbn, w_eqi, w_nei, w_eqs, w_nes, w_eqb, w_neb, w_lent, w_lenl, e_tup, e_tupc, e_lst, e_lstc, td_0, td_1, td_2, td_3, td_4, td_5, td_6, ld_0, ld_1, ld_2, ld_3, ld_4, ld_5, ld_6, ld_7, w_ixt, w_ixl, at_0, at_1, at_2, at_3, om_some, or_some, e_lc, e_gfd, e_gsb, e_mth, e_met, w_max, w_min, w_rg1, w_rg2, w_rgd, e_ival, it_l, it_t, e_for, v_fx, v_cel, l_t, isiG, tyN, isiB, isiTs, List.mem_cons, List.not_mem_nil, or_false, false_or, or_true, true_or, decide_true, decide_false, Bool.or_false, Bool.false_or, Bool.true_or, Bool.or_true, Bool.and_false, Bool.and_true, Bool.true_and, Bool.false_and, Bool.not_true, Bool.not_false, List.map_cons, List.map_nil, List.replicate_zero, List.replicate_succ, List.cons_append, List.nil_append, List.length_cons, List.length_nil, List.getElem?_cons_zero, List.getElem?_cons_succ, List.getElem?_nil, List.set_cons_zero, List.set_cons_succ, if_true, if_false, Bool.false_eq_true, reduceIte, ite_self, s1, f_lines, x_1, z_r1, l_r1]
  have hc : s.r1.length ≤ cap := by have := h.l1; omega
  show _ = oB (match s.r1[i.toNat]? with | none => none | some _ => some { s with r1 := s.r1.eraseIdx i.toNat }) l s S
  cases hx : s.r1[i.toNat]? with
  | none =>
    have : s.r1.length ≤ i.toNat := List.getElem?_eq_none_iff.mp hx
    rw [if_pos (by rw [decide_eq_true_eq]; omega)]
    rfl
  | some m =>
    have : i.toNat < s.r1.length := (List.getElem?_eq_some_iff.mp hx).1
    rw [if_neg (by rw [decide_eq_true_eq]; omega), po_r1 hx hc]
    simp only [ess, es, et, ets, eto, ei, eg, egs, pv, sRet, sRetN, sNil, sIf, sAsg, sPar, sExp, sBrk, sCnt, xIte, xCall, xCons, xNil, xVar, xCon, xBin, xUn, xDic, tAnd, tOr, tNot, tBad, xBad, oNone, oSome, gNm, gsNil, gsCons, Bi.go, Tn.nm, Mt.go, Mt.rc, cmG, opG, Gxs.len, q_ok, q_bad, q_exc, q_ite, o_ok, o_bad, o_exc, o_ite, a_nx, a_rt, a_bk, a_ct, a_bad, a_ite, t_nx, t_ct, t_bk, t_rt, t_bad, t_ite, r_rt, r_nx, r_bad, r_ite, k_b, q_b, n_b, t_b, t_i, t_n, t_l, t_t, e_and, e_or, e_not, e_chn, e_bool, e_val, e_seq, w_add, w_sub, w_mul, w_div, w_mod, w_ord, w_neg, w_isn, w_isnn, w_isb, w_isbn, w_eqi, w_nei, w_eqs, w_nes, w_eqb, w_neb, w_lent, w_lenl, e_tup, e_tupc, e_lst, e_lstc, td_0, td_1, td_2, td_3, td_4, td_5, td_6, ld_0, ld_1, ld_2, ld_3, ld_4, ld_5, ld_6, ld_7, w_ixt, w_ixl, at_0, at_1, at_2, at_3, om_some, or_some, e_lc, e_gfd, e_gsb, e_mth, e_met, w_max, w_min, w_rg1, w_rg2, w_rgd, e_ival, it_l, it_t, e_for, v_fx, v_cel, l_t, isiG, tyN, isiB, isiTs, List.mem_cons, List.not_mem_nil, or_false, false_or, or_true, true_or, decide_true, decide_false, Bool.or_false, Bool.false_or, Bool.true_or, Bool.or_true, Bool.and_false, Bool.and_true, Bool.true_and, Bool.false_and, Bool.not_true, Bool.not_false, List.map_cons, List.map_nil, List.replicate_zero, List.replicate_succ, List.cons_append, List.nil_append, List.length_cons, List.length_nil, List.getElem?_cons_zero, List.getElem?_cons_succ, List.getElem?_nil, List.set_cons_zero, List.set_cons_succ, if_true, if_false, Bool.false_eq_true, reduceIte, ite_self]
    rfl
theorem do_bring0 (n : Nat) {B : Nat} (hl : l.Ok) (h : Iv l s B) (hB : B < 400000) {i : Int} (hi : 0 ≤ i) (k : Bool) : rn (n + 4) 31 [.c S.length, .d (Sp.bring 0 i k).D] (PS l s S) = oB (doP l s (.bring 0 i k)) l s S := by
  rw [do_go, b31, Sp.D, ix_nat hi]
  have hc : s.r0.length ≤ cap := by have := h.l0; unfold cap; omega
  simp only [ess, es, et, ets, eto, ei, eg, egs, pv, sRet, sRetN, sNil, sIf, sAsg, sPar, sExp, sBrk, sCnt, xIte, xCall, xCons, xNil, xVar, xCon, xBin, xUn, xDic, tAnd, tOr, tNot, tBad, xBad, oNone, oSome, gNm, gsNil, gsCons, Bi.go, Tn.nm, Mt.go, Mt.rc, cmG, opG, Gxs.len, q_ok, q_bad, q_exc, q_ite, o_ok, o_bad, o_exc, o_ite, a_nx, a_rt, a_bk, a_ct, a_bad, a_ite, t_nx, t_ct, t_bk, t_rt, t_bad, t_ite, r_rt, r_nx, r_bad, r_ite, k_b, q_b, n_b, t_b, t_i, t_n, t_l, t_t, e_and, e_or, e_not, e_chn, e_bool, e_val, e_seq, w_add, w_sub, w_mul, w_div, w_mod, w_ord, w_neg, w_isn, w_isnn, w_isb, w_isbn, w_eqi, w_nei, w_eqs, w_nes, w_eqb, w_neb, w_lent, w_lenl, e_tup, e_tupc, e_lst, e_lstc, td_0, td_1, td_2, td_3, td_4, td_5, td_6, ld_0, ld_1, ld_2, ld_3, ld_4, ld_5, ld_6, ld_7, w_ixt, w_ixl, at_0, at_1, at_2, at_3, om_some, or_some, e_lc, e_gfd, e_gsb, e_mth, e_met, w_max, w_min, w_rg1, w_rg2, w_rgd, e_ival, it_l, it_t, e_for, v_fx, v_cel, l_t, isiG, tyN, isiB, isiTs, List.mem_cons, List.not_mem_nil, or_false, false_or, or_true, true_or, decide_true, decide_false, Bool.or_false, Bool.false_or, Bool.true_or, Bool.or_true, Bool.and_false, Bool.and_true, Bool.true_and, Bool.false_and, Bool.not_true, Bool.not_false, List.map_cons, List.map_nil, List.replicate_zero, List.replicate_succ, List.cons_append, List.nil_append, List.length_cons, List.length_nil, List.getElem?_cons_zero, List.getElem?_cons_succ, List.getElem?_nil, List.set_cons_zero, List.set_cons_succ, if_true, if_false, Bool.false_eq_true, reduceIte, ite_self, s2, s3, f_lines, x_0, z_r0, l_r0, f_order, oS_kept]
  show _ = oB (match s.r0[i.toNat]? with
    | none => none
    | some m => if (!l.any && decide (0 < i)) = true then none else some (hs l (if k = true then s else { s with r0 := s.r0.eraseIdx i.toNat }) m)) l s S
  have e0 : decide (0 < ((i.toNat : Nat) : Int)) = decide (0 < i) := by congr 1; rw [Int.toNat_of_nonneg hi]
  rw [e0]
  cases hx : s.r0[i.toNat]? with
  | none =>
    have : s.r0.length ≤ i.toNat := List.getElem?_eq_none_iff.mp hx
    rw [if_pos (by rw [decide_eq_true_eq]; omega)]
    rfl
  | some m =>
    have hlt : i.toNat < s.r0.length := (List.getElem?_eq_some_iff.mp hx).1
    rw [if_neg (by rw [decide_eq_true_eq]; omega)]
    have hh : ∀ s1 : MS, s1.done = s.done → s1.put = s.put → s1.r1 = s.r1 → rn (n + 3) 34 [.c S.length, .d (.int m)] (PS l s1 S) = .ok (.d .none) (PS l (hs l s1 m) S) := by
      intro s1 h1 h2 h3
      have := h.lp; have := h.l1; have := h.d1
      exact house_ok n m hl (by rw [h1]; exact h.d0) (by rw [h1]; omega) (by rw [h2]; unfold cap; omega) (by rw [h3]; unfold cap; omega)
    cases ha : l.any <;> cases hp : decide (0 < i) <;> cases k <;> simp only [ess, es, et, ets, eto, ei, eg, egs, pv, sRet, sRetN, sNil, sIf, sAsg, sPar, sExp, sBrk, sCnt, xIte, xCall, xCons, xNil, xVar, xCon, xBin, xUn, xDic, tAnd, tOr, tNot, tBad, xBad, oNone, oSome, gNm, gsNil, gsCons, Bi.go, Tn.nm, Mt.go, Mt.rc, cmG, opG, Gxs.len, q_ok, q_bad, q_exc, q_ite, o_ok, o_bad, o_exc, o_ite, a_nx, a_rt, a_bk, a_ct, a_bad, a_ite, t_nx, t_ct, t_bk, t_rt, t_bad, t_ite, r_rt, r_nx, r_bad, r_ite, k_b, q_b, n_b, t_b, t_i, t_n, t_l, t_t, e_and, e_or, e_not, e_chn, e_bool, e_val, e_seq, w_add, w_sub, w_mul, w_div, w_mod, w_ord, w_neg, w_isn, w_isnn, w_isb, w_isbn, w_eqi, w_nei, w_eqs, w_nes, w_eqb, w_neb, w_lent, w_lenl, e_tup, e_tupc, e_lst, e_lstc, td_0, td_1, td_2, td_3, td_4, td_5, td_6, ld_0, ld_1, ld_2, ld_3, ld_4, ld_5, ld_6, ld_7, w_ixt, w_ixl, at_0, at_1, at_2, at_3, om_some, or_some, e_lc, e_gfd, e_gsb, e_mth, e_met, w_max, w_min, w_rg1, w_rg2, w_rgd, e_ival, it_l, it_t, e_for, v_fx, v_cel, l_t, isiG, tyN, isiB, isiTs, List.mem_cons, List.not_mem_nil, or_false, false_or, or_true, true_or, decide_true, decide_false, Bool.or_false, Bool.false_or, Bool.true_or, Bool.or_true, Bool.and_false, Bool.and_true, Bool.true_and, Bool.false_and, Bool.not_true, Bool.not_false, List.map_cons, List.map_nil, List.replicate_zero, List.replicate_succ, List.cons_append, List.nil_append, List.length_cons, List.length_nil, List.getElem?_cons_zero, List.getElem?_cons_succ, List.getElem?_nil, List.set_cons_zero, List.set_cons_succ, if_true, if_false, Bool.false_eq_true, reduceIte, ite_self, x_r0 hx, po_r0 hx hc, i_house, hh s rfl rfl rfl, hh { s with r0 := s.r0.eraseIdx i.toNat } rfl rfl rfl] <;> rfl
theorem do_bring1 (n : Nat) {B : Nat} (hl : l.Ok) (h : Iv l s B) (hB : B < 400000) {i : Int} (hi : 0 ≤ i) (k : Bool) : rn (n + 4) 31 [.c S.length, .d (Sp.bring 1 i k).D] (PS l s S) = oB (doP l s (.bring 1 i k)) l s S := by
  rw [do_go, b31, Sp.D, ix_nat hi]
  have hc : s.r1.length ≤ cap := by have := h.l1; unfold cap; omega
  simp only [ess, es, et, ets, eto, ei, eg, egs, pv, sRet, sRetN, sNil, sIf, sAsg, sPar, sExp, sBrk, sCnt, xIte, xCall, xCons, xNil, xVar, xCon, xBin, xUn, xDic, tAnd, tOr, tNot, tBad, xBad, oNone, oSome, gNm, gsNil, gsCons, Bi.go, Tn.nm, Mt.go, Mt.rc, cmG, opG, Gxs.len, q_ok, q_bad, q_exc, q_ite, o_ok, o_bad, o_exc, o_ite, a_nx, a_rt, a_bk, a_ct, a_bad, a_ite, t_nx, t_ct, t_bk, t_rt, t_bad, t_ite, r_rt, r_nx, r_bad, r_ite, k_b, q_b, n_b, t_b, t_i, t_n, t_l, t_t, e_and, e_or, e_not, e_chn, e_bool, e_val, e_seq, w_add, w_sub, w_mul, w_div, w_mod, w_ord, w_neg, w_isn, w_isnn, w_isb, w_isbn, w_eqi, w_nei, w_eqs, w_nes, w_eqb, w_neb, w_lent, w_lenl, e_tup, e_tupc, e_lst, e_lstc, td_0, td_1, td_2, td_3, td_4, td_5, td_6, ld_0, ld_1, ld_2, ld_3, ld_4, ld_5, ld_6, ld_7, w_ixt, w_ixl, at_0, at_1, at_2, at_3, om_some, or_some, e_lc, e_gfd, e_gsb, e_mth, e_met, w_max, w_min, w_rg1, w_rg2, w_rgd, e_ival, it_l, it_t, e_for, v_fx, v_cel, l_t, isiG, tyN, isiB, isiTs, List.mem_cons, List.not_mem_nil, or_false, false_or, or_true, true_or, decide_true, decide_false, Bool.or_false, Bool.false_or, Bool.true_or, Bool.or_true, Bool.and_false, Bool.and_true, Bool.true_and, Bool.false_and, Bool.not_true, Bool.not_false, List.map_cons, List.map_nil, List.replicate_zero, List.replicate_succ, List.cons_append, List.nil_append, List.length_cons, List.length_nil, List.getElem?_cons_zero, List.getElem?_cons_succ, List.getElem?_nil, List.set_cons_zero, List.set_cons_succ, if_true, if_false, Bool.false_eq_true, reduceIte, ite_self, s2, s3, f_lines, x_1, z_r1, l_r1, f_order, oS_kept]
  show _ = oB (match s.r1[i.toNat]? with
    | none => none
    | some m => if (!l.any && decide (0 < i)) = true then none else some (ss l (if k = true then s else { s with r1 := s.r1.eraseIdx i.toNat }) m)) l s S
  have e0 : decide (0 < ((i.toNat : Nat) : Int)) = decide (0 < i) := by congr 1; rw [Int.toNat_of_nonneg hi]
  rw [e0]
  cases hx : s.r1[i.toNat]? with
  | none =>
    have : s.r1.length ≤ i.toNat := List.getElem?_eq_none_iff.mp hx
    rw [if_pos (by rw [decide_eq_true_eq]; omega)]
    rfl
  | some m =>
    have hlt : i.toNat < s.r1.length := (List.getElem?_eq_some_iff.mp hx).1
    rw [if_neg (by rw [decide_eq_true_eq]; omega)]
    have hh : ∀ s1 : MS, s1.una = s.una → s1.sent = s.sent → s1.ans = s.ans → rn (n + 3) 35 [.c S.length, .d (.int m)] (PS l s1 S) = .ok (.d .none) (PS l (ss l s1 m) S) := by
      intro s1 h1 h2 h3
      have a1 := h.us; have a2 := h.s1; have a3 := h.la
      exact sender_ok n m (by rw [h1]; exact h.una.nn) (by rw [h1, h2]; exact a1) (by rw [h2]; omega) (by rw [h3]; intro x hx; have := (h.ab x hx).2; omega) (by rw [h1, h3]; exact h.una.all) (by rw [h3]; unfold cap; omega)
    cases ha : l.any <;> cases hp : decide (0 < i) <;> cases k <;> simp only [ess, es, et, ets, eto, ei, eg, egs, pv, sRet, sRetN, sNil, sIf, sAsg, sPar, sExp, sBrk, sCnt, xIte, xCall, xCons, xNil, xVar, xCon, xBin, xUn, xDic, tAnd, tOr, tNot, tBad, xBad, oNone, oSome, gNm, gsNil, gsCons, Bi.go, Tn.nm, Mt.go, Mt.rc, cmG, opG, Gxs.len, q_ok, q_bad, q_exc, q_ite, o_ok, o_bad, o_exc, o_ite, a_nx, a_rt, a_bk, a_ct, a_bad, a_ite, t_nx, t_ct, t_bk, t_rt, t_bad, t_ite, r_rt, r_nx, r_bad, r_ite, k_b, q_b, n_b, t_b, t_i, t_n, t_l, t_t, e_and, e_or, e_not, e_chn, e_bool, e_val, e_seq, w_add, w_sub, w_mul, w_div, w_mod, w_ord, w_neg, w_isn, w_isnn, w_isb, w_isbn, w_eqi, w_nei, w_eqs, w_nes, w_eqb, w_neb, w_lent, w_lenl, e_tup, e_tupc, e_lst, e_lstc, td_0, td_1, td_2, td_3, td_4, td_5, td_6, ld_0, ld_1, ld_2, ld_3, ld_4, ld_5, ld_6, ld_7, w_ixt, w_ixl, at_0, at_1, at_2, at_3, om_some, or_some, e_lc, e_gfd, e_gsb, e_mth, e_met, w_max, w_min, w_rg1, w_rg2, w_rgd, e_ival, it_l, it_t, e_for, v_fx, v_cel, l_t, isiG, tyN, isiB, isiTs, List.mem_cons, List.not_mem_nil, or_false, false_or, or_true, true_or, decide_true, decide_false, Bool.or_false, Bool.false_or, Bool.true_or, Bool.or_true, Bool.and_false, Bool.and_true, Bool.true_and, Bool.false_and, Bool.not_true, Bool.not_false, List.map_cons, List.map_nil, List.replicate_zero, List.replicate_succ, List.cons_append, List.nil_append, List.length_cons, List.length_nil, List.getElem?_cons_zero, List.getElem?_cons_succ, List.getElem?_nil, List.set_cons_zero, List.set_cons_succ, if_true, if_false, Bool.false_eq_true, reduceIte, ite_self, x_r1 hx, po_r1 hx hc, i_sender, hh s rfl rfl rfl, hh { s with r1 := s.r1.eraseIdx i.toNat } rfl rfl rfl] <;> rfl
theorem do_ok (n : Nat) {B : Nat} (hl : l.Ok) (h : Iv l s B) (hB : B < 400000) {p : Sp} (hp : p.Ok) : rn (n + 4) 31 [.c S.length, .d p.D] (PS l s S) = oB (doP l s p) l s S := by
  cases p with
  | send c => exact do_send (n + 2) h (by unfold cap; omega) c
  | lose r i =>
    obtain ⟨hr | hr, hi, _⟩ := hp
    · subst hr; exact do_lose0 (n + 2) h (by unfold cap; omega) hi
    · subst hr; exact do_lose1 (n + 2) h (by unfold cap; omega) hi
  | bring r i k =>
    obtain ⟨hr | hr, hi, _⟩ := hp
    · subst hr; exact do_bring0 n hl h hB hi k
    · subst hr; exact do_bring1 n hl h hB hi k
end
theorem adv_stay {s : MS} : ∀ cs : List Int, (∀ c ∈ cs, c ≠ s.done) → adv cs s = s
  | [], _ => rfl
  | c :: cs, h => by
    have hc : decide (c = s.done) = false := decide_eq_false (h c List.mem_cons_self)
    show adv cs (adv1 c s) = s
    have e : adv1 c s = s := by unfold adv1; rw [hc]; rfl
    rw [e]
    exact adv_stay cs fun x hx => h x (List.mem_cons_of_mem _ hx)
structure Nxt (put : List Int) (d d' : Int) : Prop where
  le : d ≤ d'
  out : d' ∉ put
  all : ∀ x, d ≤ x → x < d' → x ∈ put
theorem Nxt.uniq {put : List Int} {d u v : Int} (a : Nxt put d u) (b : Nxt put d v) : u = v := by
  by_cases h : u < v
  · exact absurd (b.all u a.le h) a.out
  · by_cases k : v < u
    · exact absurd (a.all v b.le k) b.out
    · omega
theorem Nxt.has {put : List Int} {d : Int} (k : Nat) (h : ∀ x ∈ put, x < d + k) : ∃ d', Nxt put d d' ∧ d' ≤ d + k := by
  obtain ⟨y, e, a, b, c⟩ := find_upI (p := fun x => !decide (x ∈ put)) (n := k + 1) (i := d) ⟨d + k, by omega, by omega, by
    have : d + (k : Int) ∉ put := fun z => by have := h _ z; omega
    simp [this]⟩
  refine ⟨y, ⟨a, by simpa using b, fun x x1 x2 => by simpa using c x x1 x2⟩, ?_⟩
  by_cases hz : y ≤ d + k
  · exact hz
  · have h1 := c (d + k) (by omega) (by omega)
    have h2 : d + (k : Int) ∈ put := by simpa using h1
    have := h _ h2
    omega
theorem adv_is : ∀ (k : Nat) (s : MS) {d' : Int}, Nxt s.put s.done d' → d' ≤ s.done + k → adv (upI s.done k) s = { s with done := d', r1 := s.r1 ++ upI s.done (d' - s.done).toNat }
  | 0, s, d', h, hk => by
    have e : d' = s.done := by have := h.le; have hk : d' ≤ s.done + 0 := hk; omega
    subst e
    have z : (s.done - s.done).toNat = 0 := by omega
    rw [z, upI_0, List.append_nil]
    rfl
  | k + 1, s, d', h, hk => by
    rw [upI_s]
    show adv (upI (s.done + 1) k) (adv1 s.done s) = _
    by_cases hp : s.done ∈ s.put
    · have e : adv1 s.done s = { s with r1 := s.r1 ++ [s.done], done := s.done + 1 } := by
        unfold adv1
        rw [decide_eq_true hp, decide_eq_true rfl]; rfl
      have hlt : s.done < d' := by
        by_cases hz : s.done < d'
        · exact hz
        · have : d' = s.done := by have := h.le; omega
          exact absurd (this ▸ hp) h.out
      rw [e]
      have ih := adv_is k { s with r1 := s.r1 ++ [s.done], done := s.done + 1 } (d' := d') ⟨by show s.done + 1 ≤ d'; omega, h.out, fun x x1 x2 => h.all x (by have x1 : s.done + 1 ≤ x := x1; omega) x2⟩ (by show d' ≤ s.done + 1 + k; have hk : d' ≤ s.done + ((k + 1 : Nat) : Int) := hk; omega)
      rw [show adv (upI (s.done + 1) k) { s with r1 := s.r1 ++ [s.done], done := s.done + 1 } = _ from ih]
      have z : (d' - s.done).toNat = (d' - (s.done + 1)).toNat + 1 := by omega
      rw [z, upI_s]
      show ({ s with r1 := (s.r1 ++ [s.done]) ++ upI (s.done + 1) (d' - (s.done + 1)).toNat, done := d' } : MS) = _
      rw [List.append_assoc]
      rfl
    · have e : adv1 s.done s = s := by
        unfold adv1
        rw [decide_eq_false hp, Bool.and_false]; rfl
      have ed : d' = s.done := Nxt.uniq h ⟨Int.le_refl _, hp, fun x x1 x2 => by omega⟩
      rw [e, adv_stay _ fun c hc => by have := mem_upI.mp hc; omega, ed]
      have z : (s.done - s.done).toNat = 0 := by omega
      rw [z, upI_0, List.append_nil]
theorem hs_iv {l : Ln} {s : MS} {B : Nat} (hl : l.Ok) (h : Iv l s B) (m : Int) : Iv l (hs l s m) (B + 17) ∧ (hs l s m).r0 = s.r0 := by
  have w0 := hl.w0; have w1 := hl.w1
  obtain ⟨a1, a2, a3, a4, a5, a6, a7, a8, a9, b1, b2, b3⟩ := h
  unfold hs
  cases hn : newOf l s m with
  | none =>
    cases ho : oldOf l s m with
    | none => exact ⟨(⟨a1, a2, a3, by omega, a5, a6, a7, a8, by omega, by omega, by omega, by omega⟩ : Iv l s (B + 17)), rfl⟩
    | some c => exact ⟨⟨a1, a2, a3, by show s.done ≤ _; omega, a5, a6, a7, a8, by show s.put.length ≤ _; omega, by show s.ans.length ≤ _; omega, by show s.r0.length ≤ _; omega, by show (s.r1 ++ [c]).length ≤ _; simp; omega⟩, rfl⟩
  | some c =>
    show Iv l (adv (upI s.done l.wide.toNat) (putN s c m)) (B + 17) ∧ (adv (upI s.done l.wide.toNat) (putN s c m)).r0 = s.r0
    have hc : s.done ≤ c ∧ c < s.done + l.wide := by
      have h1 := List.mem_of_find?_eq_some hn
      have h2 := mem_upI.mp h1
      omega
    have p1 : (putN s c m).done = s.done ∧ (putN s c m).sent = s.sent ∧ (putN s c m).una = s.una ∧ (putN s c m).ans = s.ans ∧ (putN s c m).r0 = s.r0 ∧ (putN s c m).r1 = s.r1 ∧ (∀ x ∈ (putN s c m).put, x < s.done + l.wide) ∧ (putN s c m).put.length ≤ s.put.length + 1 := by
      unfold putN
      split
      · refine ⟨rfl, rfl, rfl, rfl, rfl, rfl, fun x hx => ?_, by simp⟩
        rcases List.mem_append.mp hx with z | z
        · exact a7 x z
        · have : x = c := by simpa using z
          omega
      · exact ⟨rfl, rfl, rfl, rfl, rfl, rfl, a7, by omega⟩
    obtain ⟨q1, q2, q3, q4, q5, q6, q7, q8⟩ := p1
    have ew : (l.wide.toNat : Int) = l.wide := Int.toNat_of_nonneg (by omega)
    obtain ⟨d', hN, hd⟩ := Nxt.has (put := (putN s c m).put) (d := s.done) l.wide.toNat (by rw [ew]; exact q7)
    have e := adv_is l.wide.toNat (putN s c m) (d' := d') (by rw [q1]; exact hN) (by rw [q1]; exact hd)
    rw [q1] at e
    rw [e]
    have hle := hN.le
    refine ⟨⟨by show 0 ≤ (putN s c m).sent; omega, by show (putN s c m).sent ≤ _; omega, by show 0 ≤ d'; omega, by show d' ≤ ((B + 17 : Nat) : Int); omega, by show Lst (putN s c m).ans (putN s c m).una; rw [q3, q4]; exact a5, by show ∀ x ∈ (putN s c m).ans, 0 ≤ x ∧ x < (putN s c m).sent; rw [q4, q2]; exact a6,
      fun x hx => ?_, hN.out, ?_, ?_, ?_, ?_⟩, q5⟩
    · have := q7 x hx
      show x < d' + l.wide
      omega
    · show (putN s c m).put.length ≤ _; omega
    · show (putN s c m).ans.length ≤ _; rw [q4]; omega
    · show (putN s c m).r0.length ≤ _; rw [q5]; omega
    · show ((putN s c m).r1 ++ upI s.done (d' - s.done).toNat).length ≤ _
      rw [q6, List.length_append]
      unfold upI
      rw [List.length_map, List.length_range]
      omega
theorem ss_iv {l : Ln} {s : MS} {B : Nat} (h : Iv l s B) (m : Int) : Iv l (ss l s m) (B + 17) := by
  obtain ⟨a1, a2, a3, a4, a5, a6, a7, a8, a9, b1, b2, b3⟩ := id h
  unfold ss
  cases hn : takenOf l s m with
  | none => exact (⟨a1, a2, a3, by omega, a5, a6, a7, a8, by omega, by omega, by omega, by omega⟩ : Iv l s (B + 17))
  | some c =>
    have hc : s.una ≤ c ∧ c < s.sent := by
      have h1 := List.mem_of_find?_eq_some hn
      have h2 := mem_upI.mp (List.mem_filter.mp h1).1
      omega
    have hb : ∀ x ∈ s.ans ++ [c], 0 ≤ x ∧ x < s.sent := fun x hx => by
      rcases List.mem_append.mp hx with z | z
      · exact a6 x z
      · have : x = c := by simpa using z
        have := a5.nn
        omega
    refine ⟨a1, a2, a3, by show s.done ≤ _; omega, lsO_spec fun x hx => by have := (hb x hx).2; omega, hb, a7, a8, by show s.put.length ≤ _; omega, by show (s.ans ++ [c]).length ≤ _; simp; omega, by show s.r0.length ≤ _; omega, by show s.r1.length ≤ _; omega⟩
theorem doP_iv {l : Ln} {s s' : MS} {B : Nat} (hl : l.Ok) (h : Iv l s B) {p : Sp} (hp : p.Ok) (e : doP l s p = some s') : Iv l s' (B + 17) := by
  cases p with
  | send c =>
    obtain ⟨a1, a2, a3, a4, a5, a6, a7, a8, a9, b1, b2, b3⟩ := id h
    simp only [doP] at e
    split at e
    · cases e
      obtain ⟨c0, c1⟩ := hp
      exact ⟨by show 0 ≤ max s.sent (c + 1); omega, by show max s.sent (c + 1) ≤ 4001; omega, a3, by show s.done ≤ _; omega, a5, fun x hx => ⟨(a6 x hx).1, by show x < max s.sent (c + 1); have := (a6 x hx).2; omega⟩, a7, a8, by show s.put.length ≤ _; omega, by show s.ans.length ≤ _; omega, by show (s.r0 ++ [c]).length ≤ _; simp; omega, by show s.r1.length ≤ _; omega⟩
    · cases e
  | lose r i =>
    obtain ⟨a1, a2, a3, a4, a5, a6, a7, a8, a9, b1, b2, b3⟩ := id h
    simp only [doP] at e
    split at e
    · cases e
    · cases e
      have hz : ∀ is : List Int, (is.eraseIdx i.toNat).length ≤ is.length := fun is => List.length_eraseIdx_le is _
      unfold putRow rowOf
      split
      · exact ⟨a1, a2, a3, by show s.done ≤ _; omega, a5, a6, a7, a8, by show s.put.length ≤ _; omega, by show s.ans.length ≤ _; omega, by have := hz s.r0; show (s.r0.eraseIdx i.toNat).length ≤ _; omega, by show s.r1.length ≤ _; omega⟩
      · exact ⟨a1, a2, a3, by show s.done ≤ _; omega, a5, a6, a7, a8, by show s.put.length ≤ _; omega, by show s.ans.length ≤ _; omega, by show s.r0.length ≤ _; omega, by have := hz s.r1; show (s.r1.eraseIdx i.toNat).length ≤ _; omega⟩
  | bring r i k =>
    simp only [doP] at e
    split at e
    · cases e
    · rename_i m hm
      split at e
      · cases e
      · cases e
        have h1 : Iv l (if k = true then s else putRow s r ((rowOf s r).eraseIdx i.toNat)) B := by
          split
          · exact h
          · obtain ⟨a1, a2, a3, a4, a5, a6, a7, a8, a9, b1, b2, b3⟩ := id h
            have hz : ∀ is : List Int, (is.eraseIdx i.toNat).length ≤ is.length := fun is => List.length_eraseIdx_le is _
            unfold putRow rowOf
            split
            · exact ⟨a1, a2, a3, a4, a5, a6, a7, a8, a9, b1, by have := hz s.r0; show (s.r0.eraseIdx i.toNat).length ≤ _; omega, b3⟩
            · exact ⟨a1, a2, a3, a4, a5, a6, a7, a8, a9, b1, b2, by have := hz s.r1; show (s.r1.eraseIdx i.toNat).length ≤ _; omega⟩
        split
        · exact (hs_iv hl h1 m).1
        · exact ss_iv h1 m
end K75
end
section
set_option Elab.async false
set_option linter.all false
set_option maxRecDepth 100000
set_option maxHeartbeats 4000000
namespace K75
open PySem Mi
def bw (l : Ln) (s : MS) : List Str := ((if s.tw then [("twice" : Str)] else []) ++ (if s.wr then [("wrong" : Str)] else [])) ++ (if decide (s.una < s.done - l.kept) && !decide (s.una ∈ s.r1) then [("stuck" : Str)] else [])
def bwD (l : Ln) (s : MS) : D := .list ((bw l s).map .str)
def goB (l : Ln) : List Sp → MS → Option MS
  | [], s => some s
  | p :: ps, s => if (bw l s).isEmpty = true then (match doP l s p with
    | some s' => goB l ps s'
    | none => none) else none
def badRun (l : Ln) (w : Str) (ps : List Sp) : Bool := match goB l ps MS.start with
  | some s => decide (w ∈ bw l s)
  | none => false
section
variable {l : Ln} {s : MS} {S : Sto} {n : Nat}
theorem bw_ok (n : Nat) : rn (n + 2) 37 [.c S.length] (PS l s S) = .ok (.d (bwD l s)) (PS l s S) := by
  rw [bad_ok]
  unfold bwD bw
  cases s.tw <;> cases s.wr <;> cases (decide (s.una < s.done - l.kept) && !decide (s.una ∈ s.r1)) <;> rfl
theorem ne_e {ws : List Str} {S : Sto} : eqW true (.d (.list (ws.map .str))) (.d (.list [])) S = .ok (.d (.bool (!ws.isEmpty))) S := by
  rw [w_eq rfl]
  cases ws with
  | nil => simp [PyData.eqv, PyData.eqvAll]
  | cons w ws => simp [PyData.eqv, PyData.eqvAll]
theorem in_w {w : Str} {ws : List Str} {S : Sto} : inW false (.d (.str w)) (.d (.list (ws.map .str))) S = .ok (.d (.bool (decide (w ∈ ws)))) S := by
  have e : ((ws.map PyData.str).any fun y => PyData.eqv y (.str w)) = decide (w ∈ ws) := by
    rw [List.any_map, Bool.eq_iff_iff, List.any_eq_true, decide_eq_true_eq]
    constructor
    · rintro ⟨y, hy, e⟩
      have e' : (y == w) = true := by simpa [PyData.eqv] using e
      rw [← eq_of_beq e']; exact hy
    · exact fun h => ⟨w, h, by simp [PyData.eqv]⟩
  rw [w_inl rfl (by rw [List.all_map]; exact List.all_eq_true.mpr fun _ _ => rfl), e]
  rfl
theorem bad_turn (n : Nat) {B : Nat} (hl : l.Ok) (h : Iv l s B) (hB : B < 400000) {p : Sp} (hp : p.Ok) (a b : Option W) : ess (rt (n + 4)) b10_0 [a, b, some (.c S.length), some (.d p.D)] (PS l s S) =
    if (bw l s).isEmpty = true then (match doP l s p with
      | some s' => .nx [a, b, some (.c S.length), some (.d p.D)] (PS l s' S)
      | none => .rt (.d (.bool false)) (PS l s S)) else .rt (.d (.bool false)) (PS l s S) := by
  rw [b10_0]
  simp only [ess, es, et, ets, eto, ei, eg, egs, pv, sRet, sRetN, sNil, sIf, sAsg, sPar, sExp, sBrk, sCnt, xIte, xCall, xCons, xNil, xVar, xCon, xBin, xUn, xDic, tAnd, tOr, tNot, tBad, xBad, oNone, oSome, gNm, gsNil, gsCons, Bi.go, Tn.nm, Mt.go, Mt.rc, cmG, opG, Gxs.len, q_ok, q_bad, q_exc, q_ite, o_ok, o_bad, o_exc, o_ite, a_nx, a_rt, a_bk, a_ct, a_bad, a_ite, t_nx, t_ct, t_bk, t_rt, t_bad, t_ite, r_rt, r_nx, r_bad, r_ite, k_b, q_b, n_b, t_b, t_i, t_n, t_l, t_t, e_and, e_or, e_not, e_chn, e_bool, e_val, e_seq, w_add, w_sub, w_mul, w_div, w_mod, w_ord, w_neg, w_isn, w_isnn, w_isb, w_isbn, w_eqi, w_nei, w_eqs, w_nes, w_eqb, w_neb, w_lent, w_lenl, e_tup, e_tupc, e_lst, e_lstc, td_0, td_1, td_2, td_3, td_4, td_5, td_6, ld_0, ld_1, ld_2, ld_3, ld_4, ld_5, ld_6, ld_7, w_ixt, w_ixl, at_0, at_1, at_2, at_3, om_some, or_some, e_lc, e_gfd, e_gsb, e_mth, e_met, w_max, w_min, w_rg1, w_rg2, w_rgd, e_ival, it_l, it_t, e_for, v_fx, v_cel, l_t, isiG, tyN, isiB, isiTs, List.mem_cons, List.not_mem_nil, or_false, false_or, or_true, true_or, decide_true, decide_false, Bool.or_false, Bool.false_or, Bool.true_or, Bool.or_true, Bool.and_false, Bool.and_true, Bool.true_and, Bool.false_and, Bool.not_true, Bool.not_false, List.map_cons, List.map_nil, List.replicate_zero, List.replicate_succ, List.cons_append, List.nil_append, List.length_cons, List.length_nil, List.getElem?_cons_zero, List.getElem?_cons_succ, List.getElem?_nil, List.set_cons_zero, List.set_cons_succ, if_true, if_false, Bool.false_eq_true, reduceIte, ite_self, i_bad, bw_ok, i_do]
  unfold bwD
  simp only [ess, es, et, ets, eto, ei, eg, egs, pv, sRet, sRetN, sNil, sIf, sAsg, sPar, sExp, sBrk, sCnt, xIte, xCall, xCons, xNil, xVar, xCon, xBin, xUn, xDic, tAnd, tOr, tNot, tBad, xBad, oNone, oSome, gNm, gsNil, gsCons, Bi.go, Tn.nm, Mt.go, Mt.rc, cmG, opG, Gxs.len, q_ok, q_bad, q_exc, q_ite, o_ok, o_bad, o_exc, o_ite, a_nx, a_rt, a_bk, a_ct, a_bad, a_ite, t_nx, t_ct, t_bk, t_rt, t_bad, t_ite, r_rt, r_nx, r_bad, r_ite, k_b, q_b, n_b, t_b, t_i, t_n, t_l, t_t, e_and, e_or, e_not, e_chn, e_bool, e_val, e_seq, w_add, w_sub, w_mul, w_div, w_mod, w_ord, w_neg, w_isn, w_isnn, w_isb, w_isbn, w_eqi, w_nei, w_eqs, w_nes, w_eqb, w_neb, w_lent, w_lenl, e_tup, e_tupc, e_lst, e_lstc, td_0, td_1, td_2, td_3, td_4, td_5, td_6, ld_0, ld_1, ld_2, ld_3, ld_4, ld_5, ld_6, ld_7, w_ixt, w_ixl, at_0, at_1, at_2, at_3, om_some, or_some, e_lc, e_gfd, e_gsb, e_mth, e_met, w_max, w_min, w_rg1, w_rg2, w_rgd, e_ival, it_l, it_t, e_for, v_fx, v_cel, l_t, isiG, tyN, isiB, isiTs, List.mem_cons, List.not_mem_nil, or_false, false_or, or_true, true_or, decide_true, decide_false, Bool.or_false, Bool.false_or, Bool.true_or, Bool.or_true, Bool.and_false, Bool.and_true, Bool.true_and, Bool.false_and, Bool.not_true, Bool.not_false, List.map_cons, List.map_nil, List.replicate_zero, List.replicate_succ, List.cons_append, List.nil_append, List.length_cons, List.length_nil, List.getElem?_cons_zero, List.getElem?_cons_succ, List.getElem?_nil, List.set_cons_zero, List.set_cons_succ, if_true, if_false, Bool.false_eq_true, reduceIte, ite_self, ne_e, i_do, do_ok n hl h hB hp]
  unfold oB
  cases (bw l s).isEmpty with
  | true =>
    cases doP l s p with
    | none => simp only [ess, es, et, ets, eto, ei, eg, egs, pv, sRet, sRetN, sNil, sIf, sAsg, sPar, sExp, sBrk, sCnt, xIte, xCall, xCons, xNil, xVar, xCon, xBin, xUn, xDic, tAnd, tOr, tNot, tBad, xBad, oNone, oSome, gNm, gsNil, gsCons, Bi.go, Tn.nm, Mt.go, Mt.rc, cmG, opG, Gxs.len, q_ok, q_bad, q_exc, q_ite, o_ok, o_bad, o_exc, o_ite, a_nx, a_rt, a_bk, a_ct, a_bad, a_ite, t_nx, t_ct, t_bk, t_rt, t_bad, t_ite, r_rt, r_nx, r_bad, r_ite, k_b, q_b, n_b, t_b, t_i, t_n, t_l, t_t, e_and, e_or, e_not, e_chn, e_bool, e_val, e_seq, w_add, w_sub, w_mul, w_div, w_mod, w_ord, w_neg, w_isn, w_isnn, w_isb, w_isbn, w_eqi, w_nei, w_eqs, w_nes, w_eqb, w_neb, w_lent, w_lenl, e_tup, e_tupc, e_lst, e_lstc, td_0, td_1, td_2, td_3, td_4, td_5, td_6, ld_0, ld_1, ld_2, ld_3, ld_4, ld_5, ld_6, ld_7, w_ixt, w_ixl, at_0, at_1, at_2, at_3, om_some, or_some, e_lc, e_gfd, e_gsb, e_mth, e_met, w_max, w_min, w_rg1, w_rg2, w_rgd, e_ival, it_l, it_t, e_for, v_fx, v_cel, l_t, isiG, tyN, isiB, isiTs, List.mem_cons, List.not_mem_nil, or_false, false_or, or_true, true_or, decide_true, decide_false, Bool.or_false, Bool.false_or, Bool.true_or, Bool.or_true, Bool.and_false, Bool.and_true, Bool.true_and, Bool.false_and, Bool.not_true, Bool.not_false, List.map_cons, List.map_nil, List.replicate_zero, List.replicate_succ, List.cons_append, List.nil_append, List.length_cons, List.length_nil, List.getElem?_cons_zero, List.getElem?_cons_succ, List.getElem?_nil, List.set_cons_zero, List.set_cons_succ, if_true, if_false, Bool.false_eq_true, reduceIte, ite_self, i_do]
    | some s' => simp only [ess, es, et, ets, eto, ei, eg, egs, pv, sRet, sRetN, sNil, sIf, sAsg, sPar, sExp, sBrk, sCnt, xIte, xCall, xCons, xNil, xVar, xCon, xBin, xUn, xDic, tAnd, tOr, tNot, tBad, xBad, oNone, oSome, gNm, gsNil, gsCons, Bi.go, Tn.nm, Mt.go, Mt.rc, cmG, opG, Gxs.len, q_ok, q_bad, q_exc, q_ite, o_ok, o_bad, o_exc, o_ite, a_nx, a_rt, a_bk, a_ct, a_bad, a_ite, t_nx, t_ct, t_bk, t_rt, t_bad, t_ite, r_rt, r_nx, r_bad, r_ite, k_b, q_b, n_b, t_b, t_i, t_n, t_l, t_t, e_and, e_or, e_not, e_chn, e_bool, e_val, e_seq, w_add, w_sub, w_mul, w_div, w_mod, w_ord, w_neg, w_isn, w_isnn, w_isb, w_isbn, w_eqi, w_nei, w_eqs, w_nes, w_eqb, w_neb, w_lent, w_lenl, e_tup, e_tupc, e_lst, e_lstc, td_0, td_1, td_2, td_3, td_4, td_5, td_6, ld_0, ld_1, ld_2, ld_3, ld_4, ld_5, ld_6, ld_7, w_ixt, w_ixl, at_0, at_1, at_2, at_3, om_some, or_some, e_lc, e_gfd, e_gsb, e_mth, e_met, w_max, w_min, w_rg1, w_rg2, w_rgd, e_ival, it_l, it_t, e_for, v_fx, v_cel, l_t, isiG, tyN, isiB, isiTs, List.mem_cons, List.not_mem_nil, or_false, false_or, or_true, true_or, decide_true, decide_false, Bool.or_false, Bool.false_or, Bool.true_or, Bool.or_true, Bool.and_false, Bool.and_true, Bool.true_and, Bool.false_and, Bool.not_true, Bool.not_false, List.map_cons, List.map_nil, List.replicate_zero, List.replicate_succ, List.cons_append, List.nil_append, List.length_cons, List.length_nil, List.getElem?_cons_zero, List.getElem?_cons_succ, List.getElem?_nil, List.set_cons_zero, List.set_cons_succ, if_true, if_false, Bool.false_eq_true, reduceIte, ite_self, i_do]
  | false => simp only [ess, es, et, ets, eto, ei, eg, egs, pv, sRet, sRetN, sNil, sIf, sAsg, sPar, sExp, sBrk, sCnt, xIte, xCall, xCons, xNil, xVar, xCon, xBin, xUn, xDic, tAnd, tOr, tNot, tBad, xBad, oNone, oSome, gNm, gsNil, gsCons, Bi.go, Tn.nm, Mt.go, Mt.rc, cmG, opG, Gxs.len, q_ok, q_bad, q_exc, q_ite, o_ok, o_bad, o_exc, o_ite, a_nx, a_rt, a_bk, a_ct, a_bad, a_ite, t_nx, t_ct, t_bk, t_rt, t_bad, t_ite, r_rt, r_nx, r_bad, r_ite, k_b, q_b, n_b, t_b, t_i, t_n, t_l, t_t, e_and, e_or, e_not, e_chn, e_bool, e_val, e_seq, w_add, w_sub, w_mul, w_div, w_mod, w_ord, w_neg, w_isn, w_isnn, w_isb, w_isbn, w_eqi, w_nei, w_eqs, w_nes, w_eqb, w_neb, w_lent, w_lenl, e_tup, e_tupc, e_lst, e_lstc, td_0, td_1, td_2, td_3, td_4, td_5, td_6, ld_0, ld_1, ld_2, ld_3, ld_4, ld_5, ld_6, ld_7, w_ixt, w_ixl, at_0, at_1, at_2, at_3, om_some, or_some, e_lc, e_gfd, e_gsb, e_mth, e_met, w_max, w_min, w_rg1, w_rg2, w_rgd, e_ival, it_l, it_t, e_for, v_fx, v_cel, l_t, isiG, tyN, isiB, isiTs, List.mem_cons, List.not_mem_nil, or_false, false_or, or_true, true_or, decide_true, decide_false, Bool.or_false, Bool.false_or, Bool.true_or, Bool.or_true, Bool.and_false, Bool.and_true, Bool.true_and, Bool.false_and, Bool.not_true, Bool.not_false, List.map_cons, List.map_nil, List.replicate_zero, List.replicate_succ, List.cons_append, List.nil_append, List.length_cons, List.length_nil, List.getElem?_cons_zero, List.getElem?_cons_succ, List.getElem?_nil, List.set_cons_zero, List.set_cons_succ, if_true, if_false, Bool.false_eq_true, reduceIte, ite_self, i_do]
theorem bad_loop (n : Nat) (hl : l.Ok) (a b : Option W) : ∀ (ps : List Sp) (s : MS) (B : Nat) (u : Option W), Iv l s B → B + 17 * ps.length < 400000 → (∀ p ∈ ps, p.Ok) → ∃ u' s', 
    forD (gNm 3) (ess (rt (n + 4)) b10_0) ((ps.map Sp.D).map W.d) [a, b, some (.c S.length), u] (PS l s S) = (match goB l ps s with
      | some _ => .nx [a, b, some (.c S.length), u'] (PS l s' S)
      | none => .rt (.d (.bool false)) (PS l s' S)) ∧ ∀ s2, goB l ps s = some s2 → s2 = s'
  | [], s, B, u, _, _, _ => ⟨u, s, rfl, fun s2 e => by cases e; rfl⟩
  | p :: ps, s, B, u, h, hB, hp => by
    have hB' : B + 17 * (ps.length + 1) < 400000 := by simpa using hB
    have hp0 := hp p List.mem_cons_self
    rw [List.map_cons, List.map_cons, e_for1]
    simp only [ess, es, et, ets, eto, ei, eg, egs, pv, sRet, sRetN, sNil, sIf, sAsg, sPar, sExp, sBrk, sCnt, xIte, xCall, xCons, xNil, xVar, xCon, xBin, xUn, xDic, tAnd, tOr, tNot, tBad, xBad, oNone, oSome, gNm, gsNil, gsCons, Bi.go, Tn.nm, Mt.go, Mt.rc, cmG, opG, Gxs.len, q_ok, q_bad, q_exc, q_ite, o_ok, o_bad, o_exc, o_ite, a_nx, a_rt, a_bk, a_ct, a_bad, a_ite, t_nx, t_ct, t_bk, t_rt, t_bad, t_ite, r_rt, r_nx, r_bad, r_ite, k_b, q_b, n_b, t_b, t_i, t_n, t_l, t_t, e_and, e_or, e_not, e_chn, e_bool, e_val, e_seq, w_add, w_sub, w_mul, w_div, w_mod, w_ord, w_neg, w_isn, w_isnn, w_isb, w_isbn, w_eqi, w_nei, w_eqs, w_nes, w_eqb, w_neb, w_lent, w_lenl, e_tup, e_tupc, e_lst, e_lstc, td_0, td_1, td_2, td_3, td_4, td_5, td_6, ld_0, ld_1, ld_2, ld_3, ld_4, ld_5, ld_6, ld_7, w_ixt, w_ixl, at_0, at_1, at_2, at_3, om_some, or_some, e_lc, e_gfd, e_gsb, e_mth, e_met, w_max, w_min, w_rg1, w_rg2, w_rgd, e_ival, it_l, it_t, e_for, v_fx, v_cel, l_t, isiG, tyN, isiB, isiTs, List.mem_cons, List.not_mem_nil, or_false, false_or, or_true, true_or, decide_true, decide_false, Bool.or_false, Bool.false_or, Bool.true_or, Bool.or_true, Bool.and_false, Bool.and_true, Bool.true_and, Bool.false_and, Bool.not_true, Bool.not_false, List.map_cons, List.map_nil, List.replicate_zero, List.replicate_succ, List.cons_append, List.nil_append, List.length_cons, List.length_nil, List.getElem?_cons_zero, List.getElem?_cons_succ, List.getElem?_nil, List.set_cons_zero, List.set_cons_succ, if_true, if_false, Bool.false_eq_true, reduceIte, ite_self, bad_turn n hl h (by omega) hp0 a b]
    unfold goB
    cases hb : (bw l s).isEmpty with
    | false => exact ⟨u, s, by simp [t_rt], fun s2 e => by simp at e⟩
    | true =>
      cases hd : doP l s p with
      | none => exact ⟨u, s, by simp [t_rt], fun s2 e => by simp at e⟩
      | some s' =>
        obtain ⟨u', s2, e1, e2⟩ := bad_loop n hl a b ps s' (B + 17) (some (.d p.D)) (doP_iv hl h hp0 hd) (by omega) fun q hq => hp q (List.mem_cons_of_mem _ hq)
        refine ⟨u', s2, ?_, fun s3 e => e2 s3 (by simpa using e)⟩
        simp only [if_true, t_nx]
        exact e1
theorem all_ok (n : Nat) (ps : List Sp) (hp : ∀ p ∈ ps, p.Ok) (hlen : ps.length ≤ cap) (a b c : Option W) (S : Sto) :
    lcV false (gNm 3) tYesX (xCall (rn (n + 2) 4) (xCons (xVar 3) xNil)) [a, b, c, none] (.fx ((ps.map Sp.D).map W.d)) S = .ok (.d (.list (ps.map fun _ => .bool true))) S := by
  rw [lcv_d (e := fun d => [a, b, c, some (.d d)]) (p := fun _ => true) (h := fun _ => .bool true) (by rw [List.length_map]; exact hlen) (fun d hd => rfl) (fun d hd => rfl) (fun d hd _ => by
    obtain ⟨p, hq, rfl⟩ := List.mem_map.mp hd
    simp only [ess, es, et, ets, eto, ei, eg, egs, pv, sRet, sRetN, sNil, sIf, sAsg, sPar, sExp, sBrk, sCnt, xIte, xCall, xCons, xNil, xVar, xCon, xBin, xUn, xDic, tAnd, tOr, tNot, tBad, xBad, oNone, oSome, gNm, gsNil, gsCons, Bi.go, Tn.nm, Mt.go, Mt.rc, cmG, opG, Gxs.len, q_ok, q_bad, q_exc, q_ite, o_ok, o_bad, o_exc, o_ite, a_nx, a_rt, a_bk, a_ct, a_bad, a_ite, t_nx, t_ct, t_bk, t_rt, t_bad, t_ite, r_rt, r_nx, r_bad, r_ite, k_b, q_b, n_b, t_b, t_i, t_n, t_l, t_t, e_and, e_or, e_not, e_chn, e_bool, e_val, e_seq, w_add, w_sub, w_mul, w_div, w_mod, w_ord, w_neg, w_isn, w_isnn, w_isb, w_isbn, w_eqi, w_nei, w_eqs, w_nes, w_eqb, w_neb, w_lent, w_lenl, e_tup, e_tupc, e_lst, e_lstc, td_0, td_1, td_2, td_3, td_4, td_5, td_6, ld_0, ld_1, ld_2, ld_3, ld_4, ld_5, ld_6, ld_7, w_ixt, w_ixl, at_0, at_1, at_2, at_3, om_some, or_some, e_lc, e_gfd, e_gsb, e_mth, e_met, w_max, w_min, w_rg1, w_rg2, w_rgd, e_ival, it_l, it_t, e_for, v_fx, v_cel, l_t, isiG, tyN, isiB, isiTs, List.mem_cons, List.not_mem_nil, or_false, false_or, or_true, true_or, decide_true, decide_false, Bool.or_false, Bool.false_or, Bool.true_or, Bool.or_true, Bool.and_false, Bool.and_true, Bool.true_and, Bool.false_and, Bool.not_true, Bool.not_false, List.map_cons, List.map_nil, List.replicate_zero, List.replicate_succ, List.cons_append, List.nil_append, List.length_cons, List.length_nil, List.getElem?_cons_zero, List.getElem?_cons_succ, List.getElem?_nil, List.set_cons_zero, List.set_cons_succ, if_true, if_false, Bool.false_eq_true, reduceIte, ite_self, is_step_ok n (hp p hq)])]
  congr 3
  rw [List.filter_eq_self.mpr (fun _ _ => rfl), List.map_map]
  rfl
theorem all_t (ps : List Sp) (S : Sto) : allG [.d (.list (ps.map fun _ => PyData.bool true))] S = .ok (.d (.bool true)) S := by
  have e : boolsOf S (.d (.list (ps.map fun _ => PyData.bool true))) = some (ps.map fun _ => true) := by
    unfold boolsOf
    show allB ((ps.map fun _ => PyData.bool true).map .d) = _
    induction ps with
    | nil => rfl
    | cons p ps ih =>
      show (match allB ((ps.map fun _ => PyData.bool true).map .d) with | some xs => some (true :: xs) | none => none) = _
      rw [ih]; rfl
  show (match boolsOf S _ with | some is => _ | _ => _) = _
  rw [e]
  show Res.ok (W.d (PyData.bool ((ps.map fun _ => true).all id))) S = _
  congr 3
  rw [List.all_map]
  exact List.all_eq_true.mpr fun _ _ => rfl
theorem in_words {w : Str} {S : Sto} (h : w ∈ [("twice" : Str), "wrong", "stuck"]) : inW true (.d (.str w)) (.d (.tuple [.str ("twice" : Str), .str ("wrong" : Str), .str ("stuck" : Str)])) S = .ok (.d (.bool false)) S := by
  rw [w_int rfl rfl]
  simp only [List.mem_cons, List.not_mem_nil, or_false] at h
  rcases h with h | h | h <;> subst h <;> rfl
theorem is_bad_run (n : Nat) (hl : l.Ok) {w : Str} (hw : w ∈ [("twice" : Str), "wrong", "stuck"]) {ps : List Sp} (hp : ∀ p ∈ ps, p.Ok) (hlen : ps.length ≤ 4000) (S : Sto) :
    ∃ s', rn (n + 5) 10 [.d l.D, .d (.tuple [.str w, stD ps])] S = .ok (.d (.bool (badRun l w ps))) (PS l s' S) := by
  show ∃ s', outR (ess (rt (n + 4)) b10 [some (.d l.D), some (.d (.tuple [.str w, stD ps])), none, none] S) = _
  obtain ⟨u', s', e1, e2⟩ := bad_loop (l := l) (S := S) n hl (some (.d l.D)) (some (.d (.tuple [.str w, stD ps]))) ps MS.start 0 none (Iv.start l hl.w0) (by omega) hp
  refine ⟨s', ?_⟩
  rw [b10, stD]
  rw [stD] at e1
  have h1 : (decide (0 ≤ ((ps.map Sp.D).length : Int)) && decide (((ps.map Sp.D).length : Int) ≤ 4000)) = true := by
    rw [List.length_map]; simp; omega
  simp only [ess, es, et, ets, eto, ei, eg, egs, pv, sRet, sRetN, sNil, sIf, sAsg, sPar, sExp, sBrk, sCnt, xIte, xCall, xCons, xNil, xVar, xCon, xBin, xUn, xDic, tAnd, tOr, tNot, tBad, xBad, oNone, oSome, gNm, gsNil, gsCons, Bi.go, Tn.nm, Mt.go, Mt.rc, cmG, opG, Gxs.len, q_ok, q_bad, q_exc, q_ite, o_ok, o_bad, o_exc, o_ite, a_nx, a_rt, a_bk, a_ct, a_bad, a_ite, t_nx, t_ct, t_bk, t_rt, t_bad, t_ite, r_rt, r_nx, r_bad, r_ite, k_b, q_b, n_b, t_b, t_i, t_n, t_l, t_t, e_and, e_or, e_not, e_chn, e_bool, e_val, e_seq, w_add, w_sub, w_mul, w_div, w_mod, w_ord, w_neg, w_isn, w_isnn, w_isb, w_isbn, w_eqi, w_nei, w_eqs, w_nes, w_eqb, w_neb, w_lent, w_lenl, e_tup, e_tupc, e_lst, e_lstc, td_0, td_1, td_2, td_3, td_4, td_5, td_6, ld_0, ld_1, ld_2, ld_3, ld_4, ld_5, ld_6, ld_7, w_ixt, w_ixl, at_0, at_1, at_2, at_3, om_some, or_some, e_lc, e_gfd, e_gsb, e_mth, e_met, w_max, w_min, w_rg1, w_rg2, w_rgd, e_ival, it_l, it_t, e_for, v_fx, v_cel, l_t, isiG, tyN, isiB, isiTs, List.mem_cons, List.not_mem_nil, or_false, false_or, or_true, true_or, decide_true, decide_false, Bool.or_false, Bool.false_or, Bool.true_or, Bool.or_true, Bool.and_false, Bool.and_true, Bool.true_and, Bool.false_and, Bool.not_true, Bool.not_false, List.map_cons, List.map_nil, List.replicate_zero, List.replicate_succ, List.cons_append, List.nil_append, List.length_cons, List.length_nil, List.getElem?_cons_zero, List.getElem?_cons_succ, List.getElem?_nil, List.set_cons_zero, List.set_cons_succ, if_true, if_false, Bool.false_eq_true, reduceIte, ite_self, need_ok (n + 1) hl, is_tuple_of, c1, c4, in_words hw, h1, wipeE, all_ok (n + 2) ps hp (by unfold cap; omega), all_t]
  have hmk : ∀ r : Ev, xMk 0 (Mi.runN tbl.kt tbl.tb (n + 4) 29) (xCons (xVar 0) xNil) (some (.d l.D) :: r) S = .ok (.c S.length) (PS l MS.start S) := by
    intro r
    rw [e_mk]
    simp only [ess, es, et, ets, eto, ei, eg, egs, pv, sRet, sRetN, sNil, sIf, sAsg, sPar, sExp, sBrk, sCnt, xIte, xCall, xCons, xNil, xVar, xCon, xBin, xUn, xDic, tAnd, tOr, tNot, tBad, xBad, oNone, oSome, gNm, gsNil, gsCons, Bi.go, Tn.nm, Mt.go, Mt.rc, cmG, opG, Gxs.len, q_ok, q_bad, q_exc, q_ite, o_ok, o_bad, o_exc, o_ite, a_nx, a_rt, a_bk, a_ct, a_bad, a_ite, t_nx, t_ct, t_bk, t_rt, t_bad, t_ite, r_rt, r_nx, r_bad, r_ite, k_b, q_b, n_b, t_b, t_i, t_n, t_l, t_t, e_and, e_or, e_not, e_chn, e_bool, e_val, e_seq, w_add, w_sub, w_mul, w_div, w_mod, w_ord, w_neg, w_isn, w_isnn, w_isb, w_isbn, w_eqi, w_nei, w_eqs, w_nes, w_eqb, w_neb, w_lent, w_lenl, e_tup, e_tupc, e_lst, e_lstc, td_0, td_1, td_2, td_3, td_4, td_5, td_6, ld_0, ld_1, ld_2, ld_3, ld_4, ld_5, ld_6, ld_7, w_ixt, w_ixl, at_0, at_1, at_2, at_3, om_some, or_some, e_lc, e_gfd, e_gsb, e_mth, e_met, w_max, w_min, w_rg1, w_rg2, w_rgd, e_ival, it_l, it_t, e_for, v_fx, v_cel, l_t, isiG, tyN, isiB, isiTs, List.mem_cons, List.not_mem_nil, or_false, false_or, or_true, true_or, decide_true, decide_false, Bool.or_false, Bool.false_or, Bool.true_or, Bool.or_true, Bool.and_false, Bool.and_true, Bool.true_and, Bool.false_and, Bool.not_true, Bool.not_false, List.map_cons, List.map_nil, List.replicate_zero, List.replicate_succ, List.cons_append, List.nil_append, List.length_cons, List.length_nil, List.getElem?_cons_zero, List.getElem?_cons_succ, List.getElem?_nil, List.set_cons_zero, List.set_cons_succ, if_true, if_false, Bool.false_eq_true, reduceIte, ite_self, init_ok (l := l) (S := S) (n + 3)]
  rw [hmk]
  simp only [ess, es, et, ets, eto, ei, eg, egs, pv, sRet, sRetN, sNil, sIf, sAsg, sPar, sExp, sBrk, sCnt, xIte, xCall, xCons, xNil, xVar, xCon, xBin, xUn, xDic, tAnd, tOr, tNot, tBad, xBad, oNone, oSome, gNm, gsNil, gsCons, Bi.go, Tn.nm, Mt.go, Mt.rc, cmG, opG, Gxs.len, q_ok, q_bad, q_exc, q_ite, o_ok, o_bad, o_exc, o_ite, a_nx, a_rt, a_bk, a_ct, a_bad, a_ite, t_nx, t_ct, t_bk, t_rt, t_bad, t_ite, r_rt, r_nx, r_bad, r_ite, k_b, q_b, n_b, t_b, t_i, t_n, t_l, t_t, e_and, e_or, e_not, e_chn, e_bool, e_val, e_seq, w_add, w_sub, w_mul, w_div, w_mod, w_ord, w_neg, w_isn, w_isnn, w_isb, w_isbn, w_eqi, w_nei, w_eqs, w_nes, w_eqb, w_neb, w_lent, w_lenl, e_tup, e_tupc, e_lst, e_lstc, td_0, td_1, td_2, td_3, td_4, td_5, td_6, ld_0, ld_1, ld_2, ld_3, ld_4, ld_5, ld_6, ld_7, w_ixt, w_ixl, at_0, at_1, at_2, at_3, om_some, or_some, e_lc, e_gfd, e_gsb, e_mth, e_met, w_max, w_min, w_rg1, w_rg2, w_rgd, e_ival, it_l, it_t, e_for, v_fx, v_cel, l_t, isiG, tyN, isiB, isiTs, List.mem_cons, List.not_mem_nil, or_false, false_or, or_true, true_or, decide_true, decide_false, Bool.or_false, Bool.false_or, Bool.true_or, Bool.or_true, Bool.and_false, Bool.and_true, Bool.true_and, Bool.false_and, Bool.not_true, Bool.not_false, List.map_cons, List.map_nil, List.replicate_zero, List.replicate_succ, List.cons_append, List.nil_append, List.length_cons, List.length_nil, List.getElem?_cons_zero, List.getElem?_cons_succ, List.getElem?_nil, List.set_cons_zero, List.set_cons_succ, if_true, if_false, Bool.false_eq_true, reduceIte, ite_self]
  rw [e1]
  unfold badRun
  cases hg : goB l ps MS.start with
  | none => simp only [ess, es, et, ets, eto, ei, eg, egs, pv, sRet, sRetN, sNil, sIf, sAsg, sPar, sExp, sBrk, sCnt, xIte, xCall, xCons, xNil, xVar, xCon, xBin, xUn, xDic, tAnd, tOr, tNot, tBad, xBad, oNone, oSome, gNm, gsNil, gsCons, Bi.go, Tn.nm, Mt.go, Mt.rc, cmG, opG, Gxs.len, q_ok, q_bad, q_exc, q_ite, o_ok, o_bad, o_exc, o_ite, a_nx, a_rt, a_bk, a_ct, a_bad, a_ite, t_nx, t_ct, t_bk, t_rt, t_bad, t_ite, r_rt, r_nx, r_bad, r_ite, k_b, q_b, n_b, t_b, t_i, t_n, t_l, t_t, e_and, e_or, e_not, e_chn, e_bool, e_val, e_seq, w_add, w_sub, w_mul, w_div, w_mod, w_ord, w_neg, w_isn, w_isnn, w_isb, w_isbn, w_eqi, w_nei, w_eqs, w_nes, w_eqb, w_neb, w_lent, w_lenl, e_tup, e_tupc, e_lst, e_lstc, td_0, td_1, td_2, td_3, td_4, td_5, td_6, ld_0, ld_1, ld_2, ld_3, ld_4, ld_5, ld_6, ld_7, w_ixt, w_ixl, at_0, at_1, at_2, at_3, om_some, or_some, e_lc, e_gfd, e_gsb, e_mth, e_met, w_max, w_min, w_rg1, w_rg2, w_rgd, e_ival, it_l, it_t, e_for, v_fx, v_cel, l_t, isiG, tyN, isiB, isiTs, List.mem_cons, List.not_mem_nil, or_false, false_or, or_true, true_or, decide_true, decide_false, Bool.or_false, Bool.false_or, Bool.true_or, Bool.or_true, Bool.and_false, Bool.and_true, Bool.true_and, Bool.false_and, Bool.not_true, Bool.not_false, List.map_cons, List.map_nil, List.replicate_zero, List.replicate_succ, List.cons_append, List.nil_append, List.length_cons, List.length_nil, List.getElem?_cons_zero, List.getElem?_cons_succ, List.getElem?_nil, List.set_cons_zero, List.set_cons_succ, if_true, if_false, Bool.false_eq_true, reduceIte, ite_self]; rfl
  | some s2 =>
    have e3 := e2 s2 hg
    subst e3
    simp only [ess, es, et, ets, eto, ei, eg, egs, pv, sRet, sRetN, sNil, sIf, sAsg, sPar, sExp, sBrk, sCnt, xIte, xCall, xCons, xNil, xVar, xCon, xBin, xUn, xDic, tAnd, tOr, tNot, tBad, xBad, oNone, oSome, gNm, gsNil, gsCons, Bi.go, Tn.nm, Mt.go, Mt.rc, cmG, opG, Gxs.len, q_ok, q_bad, q_exc, q_ite, o_ok, o_bad, o_exc, o_ite, a_nx, a_rt, a_bk, a_ct, a_bad, a_ite, t_nx, t_ct, t_bk, t_rt, t_bad, t_ite, r_rt, r_nx, r_bad, r_ite, k_b, q_b, n_b, t_b, t_i, t_n, t_l, t_t, e_and, e_or, e_not, e_chn, e_bool, e_val, e_seq, w_add, w_sub, w_mul, w_div, w_mod, w_ord, w_neg, w_isn, w_isnn, w_isb, w_isbn, w_eqi, w_nei, w_eqs, w_nes, w_eqb, w_neb, w_lent, w_lenl, e_tup, e_tupc, e_lst, e_lstc, td_0, td_1, td_2, td_3, td_4, td_5, td_6, ld_0, ld_1, ld_2, ld_3, ld_4, ld_5, ld_6, ld_7, w_ixt, w_ixl, at_0, at_1, at_2, at_3, om_some, or_some, e_lc, e_gfd, e_gsb, e_mth, e_met, w_max, w_min, w_rg1, w_rg2, w_rgd, e_ival, it_l, it_t, e_for, v_fx, v_cel, l_t, isiG, tyN, isiB, isiTs, List.mem_cons, List.not_mem_nil, or_false, false_or, or_true, true_or, decide_true, decide_false, Bool.or_false, Bool.false_or, Bool.true_or, Bool.or_true, Bool.and_false, Bool.and_true, Bool.true_and, Bool.false_and, Bool.not_true, Bool.not_false, List.map_cons, List.map_nil, List.replicate_zero, List.replicate_succ, List.cons_append, List.nil_append, List.length_cons, List.length_nil, List.getElem?_cons_zero, List.getElem?_cons_succ, List.getElem?_nil, List.set_cons_zero, List.set_cons_succ, if_true, if_false, Bool.false_eq_true, reduceIte, ite_self, i_bad, bw_ok]
    unfold bwD
    simp only [ess, es, et, ets, eto, ei, eg, egs, pv, sRet, sRetN, sNil, sIf, sAsg, sPar, sExp, sBrk, sCnt, xIte, xCall, xCons, xNil, xVar, xCon, xBin, xUn, xDic, tAnd, tOr, tNot, tBad, xBad, oNone, oSome, gNm, gsNil, gsCons, Bi.go, Tn.nm, Mt.go, Mt.rc, cmG, opG, Gxs.len, q_ok, q_bad, q_exc, q_ite, o_ok, o_bad, o_exc, o_ite, a_nx, a_rt, a_bk, a_ct, a_bad, a_ite, t_nx, t_ct, t_bk, t_rt, t_bad, t_ite, r_rt, r_nx, r_bad, r_ite, k_b, q_b, n_b, t_b, t_i, t_n, t_l, t_t, e_and, e_or, e_not, e_chn, e_bool, e_val, e_seq, w_add, w_sub, w_mul, w_div, w_mod, w_ord, w_neg, w_isn, w_isnn, w_isb, w_isbn, w_eqi, w_nei, w_eqs, w_nes, w_eqb, w_neb, w_lent, w_lenl, e_tup, e_tupc, e_lst, e_lstc, td_0, td_1, td_2, td_3, td_4, td_5, td_6, ld_0, ld_1, ld_2, ld_3, ld_4, ld_5, ld_6, ld_7, w_ixt, w_ixl, at_0, at_1, at_2, at_3, om_some, or_some, e_lc, e_gfd, e_gsb, e_mth, e_met, w_max, w_min, w_rg1, w_rg2, w_rgd, e_ival, it_l, it_t, e_for, v_fx, v_cel, l_t, isiG, tyN, isiB, isiTs, List.mem_cons, List.not_mem_nil, or_false, false_or, or_true, true_or, decide_true, decide_false, Bool.or_false, Bool.false_or, Bool.true_or, Bool.or_true, Bool.and_false, Bool.and_true, Bool.true_and, Bool.false_and, Bool.not_true, Bool.not_false, List.map_cons, List.map_nil, List.replicate_zero, List.replicate_succ, List.cons_append, List.nil_append, List.length_cons, List.length_nil, List.getElem?_cons_zero, List.getElem?_cons_succ, List.getElem?_nil, List.set_cons_zero, List.set_cons_succ, if_true, if_false, Bool.false_eq_true, reduceIte, ite_self, in_w]
    rfl
end
end K75
end
section
set_option Elab.async false
set_option linter.all false
set_option maxRecDepth 100000
set_option maxHeartbeats 4000000
namespace K75
open PySem Mi
theorem same_mk {r a b : Int} (h : 0 ≤ r) (hr : r ≠ 0) : ((a - b).fmod r = 0) ↔ (a.fmod r = b.fmod r) := by
  rw [Int.fmod_eq_emod_of_nonneg _ h, Int.fmod_eq_emod_of_nonneg _ h, Int.fmod_eq_emod_of_nonneg _ h]
  exact (Int.emod_eq_emod_iff_emod_sub_eq_zero).symm
theorem w_toi {i : Int} {S : Sto} : intG [.d (.int i)] S = .ok (.d (.int i)) S := rfl
section
variable {l : Ln} {s : MS} {S T : Sto} {n : Nat}
theorem same_ok (n : Nat) (hl : l.Ok) (a b : Int) (S : Sto) : rn (n + 1) 18 [.d l.D, .d (.int a), .d (.int b)] S = .ok (.d (.bool (decide (mk l.ring a = mk l.ring b)))) S := by
  show outR (ess (rt n) b18 [some (.d l.D), some (.d (.int a)), some (.d (.int b))] S) = _
  rw [b18, Ln.D]
  simp only [ess, es, et, ets, eto, ei, eg, egs, pv, sRet, sRetN, sNil, sIf, sAsg, sPar, sExp, sBrk, sCnt, xIte, xCall, xCons, xNil, xVar, xCon, xBin, xUn, xDic, tAnd, tOr, tNot, tBad, xBad, oNone, oSome, gNm, gsNil, gsCons, Bi.go, Tn.nm, Mt.go, Mt.rc, cmG, opG, Gxs.len, q_ok, q_bad, q_exc, q_ite, o_ok, o_bad, o_exc, o_ite, a_nx, a_rt, a_bk, a_ct, a_bad, a_ite, t_nx, t_ct, t_bk, t_rt, t_bad, t_ite, r_rt, r_nx, r_bad, r_ite, k_b, q_b, n_b, t_b, t_i, t_n, t_l, t_t, e_and, e_or, e_not, e_chn, e_bool, e_val, e_seq, w_add, w_sub, w_mul, w_div, w_mod, w_ord, w_neg, w_isn, w_isnn, w_isb, w_isbn, w_eqi, w_nei, w_eqs, w_nes, w_eqb, w_neb, w_lent, w_lenl, e_tup, e_tupc, e_lst, e_lstc, td_0, td_1, td_2, td_3, td_4, td_5, td_6, ld_0, ld_1, ld_2, ld_3, ld_4, ld_5, ld_6, ld_7, w_ixt, w_ixl, at_0, at_1, at_2, at_3, om_some, or_some, e_lc, e_gfd, e_gsb, e_mth, e_met, w_max, w_min, w_rg1, w_rg2, w_rgd, e_ival, it_l, it_t, e_for, v_fx, v_cel, l_t, isiG, tyN, isiB, isiTs, List.mem_cons, List.not_mem_nil, or_false, false_or, or_true, true_or, decide_true, decide_false, Bool.or_false, Bool.false_or, Bool.true_or, Bool.or_true, Bool.and_false, Bool.and_true, Bool.true_and, Bool.false_and, Bool.not_true, Bool.not_false, List.map_cons, List.map_nil, List.replicate_zero, List.replicate_succ, List.cons_append, List.nil_append, List.length_cons, List.length_nil, List.getElem?_cons_zero, List.getElem?_cons_succ, List.getElem?_nil, List.set_cons_zero, List.set_cons_succ, if_true, if_false, Bool.false_eq_true, reduceIte, ite_self, w_toi]
  unfold mk
  by_cases h : l.ring = 0
  · simp [h, r_rt, o_ok]
  · simp [h, r_rt, o_ok]
    exact same_mk hl.r0 h
def DK (is : List Int) (kvs : List (L2.Key × W)) : Prop := kvs.map (·.1) = is.map (Sum.inl : Int → L2.Key)
theorem dk_get {x : Int} : ∀ {is : List Int} {kvs : List (L2.Key × W)}, DK is kvs → (kget (.inl x) kvs).isSome = decide (x ∈ is)
  | [], [], _ => rfl
  | [], p :: ps, h => by cases h
  | i :: is, [], h => by cases h
  | i :: is, (k, v) :: ps, h => by
    have h1 : k = .inl i ∧ DK is ps := by
      unfold DK at h ⊢
      rw [List.map_cons, List.map_cons, List.cons.injEq] at h
      exact h
    obtain ⟨rfl, h2⟩ := h1
    show (if decide (Sum.inl i = (Sum.inl x : L2.Key)) = true then some v else kget (.inl x) ps).isSome = _
    by_cases e : i = x
    · subst e
      rw [if_pos (decide_eq_true rfl)]
      simp
    · rw [if_neg (by simp [e]), dk_get h2]
      have : x ≠ i := fun z => e z.symm
      simp [this]
theorem dk_put {x : Int} {v : W} {is : List Int} {kvs : List (L2.Key × W)} (h : DK is kvs) (hx : x ∉ is) : kput (.inl x) v kvs = kvs ++ [(.inl x, v)] ∧ DK (is ++ [x]) (kvs ++ [(.inl x, v)]) := by
  have e : (kvs.any fun p => decide (p.1 = (.inl x : L2.Key))) = false := by
    rw [List.any_eq_false]
    intro p hp hk
    have hk := of_decide_eq_true hk
    have hm : p.1 ∈ kvs.map (·.1) := List.mem_map_of_mem hp
    rw [show kvs.map (·.1) = is.map Sum.inl from h, hk] at hm
    obtain ⟨y, hy, e⟩ := List.mem_map.mp hm
    cases e
    exact hx hy
  refine ⟨?_, ?_⟩
  · unfold kput
    rw [e]; rfl
  · unfold DK at h ⊢
    rw [List.map_append, h, List.map_append]; rfl
theorem minL_spec : ∀ (is : List Int) (x : Int), minL (x :: is) ∈ x :: is ∧ ∀ y ∈ x :: is, minL (x :: is) ≤ y
  | [], x => ⟨by simp [minL], by simp [minL]⟩
  | z :: is, x => by
    obtain ⟨h1, h2⟩ := minL_spec is z
    show (if minL (z :: is) < x then minL (z :: is) else x) ∈ _ ∧ ∀ y ∈ _, (if minL (z :: is) < x then minL (z :: is) else x) ≤ y
    split
    · exact ⟨List.mem_cons_of_mem _ h1, fun y hy => by
        rcases List.mem_cons.mp hy with e | hy
        · omega
        · exact h2 y hy⟩
    · exact ⟨List.mem_cons_self, fun y hy => by
        rcases List.mem_cons.mp hy with e | hy
        · omega
        · have := h2 y hy; omega⟩
theorem min_is {is : List Int} {u : Int} (h : u ∈ is) (ha : ∀ y ∈ is, u ≤ y) (S : Sto) : minG [.d (.list (is.map .int))] S = .ok (.d (.int u)) S := by
  have e : intsOf S (.d (.list (is.map .int))) = some is := by
    unfold intsOf
    show allI ((is.map PyData.int).map .d) = _
    clear h ha
    induction is with
    | nil => rfl
    | cons p ps ih =>
      show (match allI ((ps.map PyData.int).map .d) with | some xs => some (p :: xs) | none => none) = _
      rw [ih]
  show (match intsOf S _ with | some (x :: r) => _ | _ => _) = _
  rw [e]
  cases is with
  | nil => cases h
  | cons x r =>
    obtain ⟨h1, h2⟩ := minL_spec r x
    show Res.ok (W.d (PyData.int (minL (x :: r)))) S = _
    have e : minL (x :: r) = u := by
      have a1 := h2 u h
      have a2 := ha _ h1
      omega
    rw [e]
theorem least_go {B : Nat} (h : Iv l s B) {k : Nat} {kt : List (L2.Key × W)} (hk : S[k]? = some (.dic kt)) (hd : DK s.ans kt) (j m : Nat) (en : Ev) (f : D → Ev) (hg : ∀ d, (gNm j) (.d d) en S = .ok (f d) S) (hv : ∀ d, (f d)[j]? = some (some (.d d))) (hm : ∀ d, (f d)[m]? = some (some (.c k))) :
    ((lcV false (gNm j) (tBool (xBin (inW true) (xVar j) (xVar m))) (xVar j) en (.fx (((upI 0 (s.sent + 1 - 0).toNat).map .int).map .d)) S).andThen fun x S1 => Res.ok [x] S1).andThen minG = .ok (.d (.int s.una)) S := by
  have e0 := h.s0; have e1 := h.s1
  rw [lcv_d (e := f) (p := fun d => match d with | .int i => !decide (i ∈ s.ans) | _ => false) (h := fun d => d) (by unfold upI; simp; unfold cap; omega) (fun d hd => hg d) (fun d hd' => by
    obtain ⟨i, hi, rfl⟩ := List.mem_map.mp hd'
    simp only [ess, es, et, ets, eto, ei, eg, egs, pv, sRet, sRetN, sNil, sIf, sAsg, sPar, sExp, sBrk, sCnt, xIte, xCall, xCons, xNil, xVar, xCon, xBin, xUn, xDic, tAnd, tOr, tNot, tBad, xBad, oNone, oSome, gNm, gsNil, gsCons, Bi.go, Tn.nm, Mt.go, Mt.rc, cmG, opG, Gxs.len, q_ok, q_bad, q_exc, q_ite, o_ok, o_bad, o_exc, o_ite, a_nx, a_rt, a_bk, a_ct, a_bad, a_ite, t_nx, t_ct, t_bk, t_rt, t_bad, t_ite, r_rt, r_nx, r_bad, r_ite, k_b, q_b, n_b, t_b, t_i, t_n, t_l, t_t, e_and, e_or, e_not, e_chn, e_bool, e_val, e_seq, w_add, w_sub, w_mul, w_div, w_mod, w_ord, w_neg, w_isn, w_isnn, w_isb, w_isbn, w_eqi, w_nei, w_eqs, w_nes, w_eqb, w_neb, w_lent, w_lenl, e_tup, e_tupc, e_lst, e_lstc, td_0, td_1, td_2, td_3, td_4, td_5, td_6, ld_0, ld_1, ld_2, ld_3, ld_4, ld_5, ld_6, ld_7, w_ixt, w_ixl, at_0, at_1, at_2, at_3, om_some, or_some, e_lc, e_gfd, e_gsb, e_mth, e_met, w_max, w_min, w_rg1, w_rg2, w_rgd, e_ival, it_l, it_t, e_for, v_fx, v_cel, l_t, isiG, tyN, isiB, isiTs, List.mem_cons, List.not_mem_nil, or_false, false_or, or_true, true_or, decide_true, decide_false, Bool.or_false, Bool.false_or, Bool.true_or, Bool.or_true, Bool.and_false, Bool.and_true, Bool.true_and, Bool.false_and, Bool.not_true, Bool.not_false, List.map_cons, List.map_nil, List.replicate_zero, List.replicate_succ, List.cons_append, List.nil_append, List.length_cons, List.length_nil, List.getElem?_cons_zero, List.getElem?_cons_succ, List.getElem?_nil, List.set_cons_zero, List.set_cons_succ, if_true, if_false, Bool.false_eq_true, reduceIte, ite_self, hv, hm, w_indic hk, dk_get hd]) (fun d hd hp => by simp only [ess, es, et, ets, eto, ei, eg, egs, pv, sRet, sRetN, sNil, sIf, sAsg, sPar, sExp, sBrk, sCnt, xIte, xCall, xCons, xNil, xVar, xCon, xBin, xUn, xDic, tAnd, tOr, tNot, tBad, xBad, oNone, oSome, gNm, gsNil, gsCons, Bi.go, Tn.nm, Mt.go, Mt.rc, cmG, opG, Gxs.len, q_ok, q_bad, q_exc, q_ite, o_ok, o_bad, o_exc, o_ite, a_nx, a_rt, a_bk, a_ct, a_bad, a_ite, t_nx, t_ct, t_bk, t_rt, t_bad, t_ite, r_rt, r_nx, r_bad, r_ite, k_b, q_b, n_b, t_b, t_i, t_n, t_l, t_t, e_and, e_or, e_not, e_chn, e_bool, e_val, e_seq, w_add, w_sub, w_mul, w_div, w_mod, w_ord, w_neg, w_isn, w_isnn, w_isb, w_isbn, w_eqi, w_nei, w_eqs, w_nes, w_eqb, w_neb, w_lent, w_lenl, e_tup, e_tupc, e_lst, e_lstc, td_0, td_1, td_2, td_3, td_4, td_5, td_6, ld_0, ld_1, ld_2, ld_3, ld_4, ld_5, ld_6, ld_7, w_ixt, w_ixl, at_0, at_1, at_2, at_3, om_some, or_some, e_lc, e_gfd, e_gsb, e_mth, e_met, w_max, w_min, w_rg1, w_rg2, w_rgd, e_ival, it_l, it_t, e_for, v_fx, v_cel, l_t, isiG, tyN, isiB, isiTs, List.mem_cons, List.not_mem_nil, or_false, false_or, or_true, true_or, decide_true, decide_false, Bool.or_false, Bool.false_or, Bool.true_or, Bool.or_true, Bool.and_false, Bool.and_true, Bool.true_and, Bool.false_and, Bool.not_true, Bool.not_false, List.map_cons, List.map_nil, List.replicate_zero, List.replicate_succ, List.cons_append, List.nil_append, List.length_cons, List.length_nil, List.getElem?_cons_zero, List.getElem?_cons_succ, List.getElem?_nil, List.set_cons_zero, List.set_cons_succ, if_true, if_false, Bool.false_eq_true, reduceIte, ite_self, hv]), List.map_id', List.filter_map]
  show minG [.d (.list (((upI 0 (s.sent + 1 - 0).toNat).filter fun i => !decide (i ∈ s.ans)).map .int))] S = _
  have hus := h.us
  have hu := h.una
  refine min_is (List.mem_filter.mpr ⟨mem_upI.mpr ⟨hu.nn, by omega⟩, by simpa using hu.out⟩) (fun y hy => ?_) S
  obtain ⟨y1, y2⟩ := List.mem_filter.mp hy
  have y3 := (mem_upI.mp y1).1
  by_cases hz : s.una ≤ y
  · exact hz
  · have := hu.all y y3 (by omega)
    simp [this] at y2
theorem words_ok {B : Nat} (h : Iv l s B) {k kb : Nat} {kt : List (L2.Key × W)} (hk : S[k]? = some (.dic kt)) (hd : DK s.ans kt) (hb : S[kb]? = some (.lst (iw s.r1))) (n : Nat) :
    rn (n + 1) 17 [.d l.D, .d (.int s.sent), .d (.int s.done), .c k, .c kb, .d (.bool s.tw), .d (.bool s.wr)] S = .ok (.d (bwD l s)) S := by
  have e0 := h.s0; have e1 := h.s1
  show outR (ess (rt n) b17 [some (.d l.D), some (.d (.int s.sent)), some (.d (.int s.done)), some (.c k), some (.c kb), some (.d (.bool s.tw)), some (.d (.bool s.wr)), none, none, none, none, none] S) = _
  rw [b17, Ln.D]
  have a1 := least_go (l := l) (s := s) (S := S) h hk hd 9 3 [some (.d (.tuple [.str (oS l.any), .int l.ring, .int l.wide, .int l.kept])), some (.d (.int s.sent)), some (.d (.int s.done)), some (.c k), some (.c kb), some (.d (.bool s.tw)), some (.d (.bool s.wr)), none, none, none, none, none]
    (fun d => [some (.d (.tuple [.str (oS l.any), .int l.ring, .int l.wide, .int l.kept])), some (.d (.int s.sent)), some (.d (.int s.done)), some (.c k), some (.c kb), some (.d (.bool s.tw)), some (.d (.bool s.wr)), none, none, some (.d d), none, none]) (fun d => rfl) (fun d => rfl) (fun d => rfl)
  simp only [ess, es, et, ets, eto, ei, eg, egs, pv, sRet, sRetN, sNil, sIf, sAsg, sPar, sExp, sBrk, sCnt, xIte, xCall, xCons, xNil, xVar, xCon, xBin, xUn, xDic, tAnd, tOr, tNot, tBad, xBad, oNone, oSome, gNm, gsNil, gsCons, Bi.go, Tn.nm, Mt.go, Mt.rc, cmG, opG, Gxs.len, q_ok, q_bad, q_exc, q_ite, o_ok, o_bad, o_exc, o_ite, a_nx, a_rt, a_bk, a_ct, a_bad, a_ite, t_nx, t_ct, t_bk, t_rt, t_bad, t_ite, r_rt, r_nx, r_bad, r_ite, k_b, q_b, n_b, t_b, t_i, t_n, t_l, t_t, e_and, e_or, e_not, e_chn, e_bool, e_val, e_seq, w_add, w_sub, w_mul, w_div, w_mod, w_ord, w_neg, w_isn, w_isnn, w_isb, w_isbn, w_eqi, w_nei, w_eqs, w_nes, w_eqb, w_neb, w_lent, w_lenl, e_tup, e_tupc, e_lst, e_lstc, td_0, td_1, td_2, td_3, td_4, td_5, td_6, ld_0, ld_1, ld_2, ld_3, ld_4, ld_5, ld_6, ld_7, w_ixt, w_ixl, at_0, at_1, at_2, at_3, om_some, or_some, e_lc, e_gfd, e_gsb, e_mth, e_met, w_max, w_min, w_rg1, w_rg2, w_rgd, e_ival, it_l, it_t, e_for, v_fx, v_cel, l_t, isiG, tyN, isiB, isiTs, List.mem_cons, List.not_mem_nil, or_false, false_or, or_true, true_or, decide_true, decide_false, Bool.or_false, Bool.false_or, Bool.true_or, Bool.or_true, Bool.and_false, Bool.and_true, Bool.true_and, Bool.false_and, Bool.not_true, Bool.not_false, List.map_cons, List.map_nil, List.replicate_zero, List.replicate_succ, List.cons_append, List.nil_append, List.length_cons, List.length_nil, List.getElem?_cons_zero, List.getElem?_cons_succ, List.getElem?_nil, List.set_cons_zero, List.set_cons_succ, if_true, if_false, Bool.false_eq_true, reduceIte, ite_self, it_up (S := S) (i := 0) (j := s.sent + 1) (by omega) (by omega) (by omega) (by omega), rgL_up, wipeE]
  rw [a1]
  have hi : inW true (.d (.int s.una)) (.c kb) S = .ok (.d (.bool !(decide (s.una ∈ s.r1)))) S := in_iw hb
  simp only [ess, es, et, ets, eto, ei, eg, egs, pv, sRet, sRetN, sNil, sIf, sAsg, sPar, sExp, sBrk, sCnt, xIte, xCall, xCons, xNil, xVar, xCon, xBin, xUn, xDic, tAnd, tOr, tNot, tBad, xBad, oNone, oSome, gNm, gsNil, gsCons, Bi.go, Tn.nm, Mt.go, Mt.rc, cmG, opG, Gxs.len, q_ok, q_bad, q_exc, q_ite, o_ok, o_bad, o_exc, o_ite, a_nx, a_rt, a_bk, a_ct, a_bad, a_ite, t_nx, t_ct, t_bk, t_rt, t_bad, t_ite, r_rt, r_nx, r_bad, r_ite, k_b, q_b, n_b, t_b, t_i, t_n, t_l, t_t, e_and, e_or, e_not, e_chn, e_bool, e_val, e_seq, w_add, w_sub, w_mul, w_div, w_mod, w_ord, w_neg, w_isn, w_isnn, w_isb, w_isbn, w_eqi, w_nei, w_eqs, w_nes, w_eqb, w_neb, w_lent, w_lenl, e_tup, e_tupc, e_lst, e_lstc, td_0, td_1, td_2, td_3, td_4, td_5, td_6, ld_0, ld_1, ld_2, ld_3, ld_4, ld_5, ld_6, ld_7, w_ixt, w_ixl, at_0, at_1, at_2, at_3, om_some, or_some, e_lc, e_gfd, e_gsb, e_mth, e_met, w_max, w_min, w_rg1, w_rg2, w_rgd, e_ival, it_l, it_t, e_for, v_fx, v_cel, l_t, isiG, tyN, isiB, isiTs, List.mem_cons, List.not_mem_nil, or_false, false_or, or_true, true_or, decide_true, decide_false, Bool.or_false, Bool.false_or, Bool.true_or, Bool.or_true, Bool.and_false, Bool.and_true, Bool.true_and, Bool.false_and, Bool.not_true, Bool.not_false, List.map_cons, List.map_nil, List.replicate_zero, List.replicate_succ, List.cons_append, List.nil_append, List.length_cons, List.length_nil, List.getElem?_cons_zero, List.getElem?_cons_succ, List.getElem?_nil, List.set_cons_zero, List.set_cons_succ, if_true, if_false, Bool.false_eq_true, reduceIte, ite_self, hi]
  unfold bwD bw
  cases decide (s.una < s.done - l.kept) <;> cases decide (s.una ∈ s.r1) <;> cases s.tw <;> cases s.wr <;> rfl
theorem lsent_ok {B : Nat} (h : Iv l s B) {k : Nat} {kt : List (L2.Key × W)} (hk : S[k]? = some (.dic kt)) (hd : DK s.ans kt) (n : Nat) (c : Int) :
    rn (n + 1) 19 [.d l.D, .d (.int s.sent), .c k, .d (.int c)] S = .ok (.d (.bool (decide (s.una ≤ c) && decide (c < s.una + l.wide) && decide (c ≤ s.sent) && !decide (c ∈ s.ans)))) S := by
  have e0 := h.s0; have e1 := h.s1
  show outR (ess (rt n) b19 [some (.d l.D), some (.d (.int s.sent)), some (.c k), some (.d (.int c)), none, none] S) = _
  rw [b19, Ln.D]
  have a1 := least_go (l := l) (s := s) (S := S) h hk hd 5 2 [some (.d (.tuple [.str (oS l.any), .int l.ring, .int l.wide, .int l.kept])), some (.d (.int s.sent)), some (.c k), some (.d (.int c)), none, none]
    (fun d => [some (.d (.tuple [.str (oS l.any), .int l.ring, .int l.wide, .int l.kept])), some (.d (.int s.sent)), some (.c k), some (.d (.int c)), none, some (.d d)]) (fun d => rfl) (fun d => rfl) (fun d => rfl)
  simp only [ess, es, et, ets, eto, ei, eg, egs, pv, sRet, sRetN, sNil, sIf, sAsg, sPar, sExp, sBrk, sCnt, xIte, xCall, xCons, xNil, xVar, xCon, xBin, xUn, xDic, tAnd, tOr, tNot, tBad, xBad, oNone, oSome, gNm, gsNil, gsCons, Bi.go, Tn.nm, Mt.go, Mt.rc, cmG, opG, Gxs.len, q_ok, q_bad, q_exc, q_ite, o_ok, o_bad, o_exc, o_ite, a_nx, a_rt, a_bk, a_ct, a_bad, a_ite, t_nx, t_ct, t_bk, t_rt, t_bad, t_ite, r_rt, r_nx, r_bad, r_ite, k_b, q_b, n_b, t_b, t_i, t_n, t_l, t_t, e_and, e_or, e_not, e_chn, e_bool, e_val, e_seq, w_add, w_sub, w_mul, w_div, w_mod, w_ord, w_neg, w_isn, w_isnn, w_isb, w_isbn, w_eqi, w_nei, w_eqs, w_nes, w_eqb, w_neb, w_lent, w_lenl, e_tup, e_tupc, e_lst, e_lstc, td_0, td_1, td_2, td_3, td_4, td_5, td_6, ld_0, ld_1, ld_2, ld_3, ld_4, ld_5, ld_6, ld_7, w_ixt, w_ixl, at_0, at_1, at_2, at_3, om_some, or_some, e_lc, e_gfd, e_gsb, e_mth, e_met, w_max, w_min, w_rg1, w_rg2, w_rgd, e_ival, it_l, it_t, e_for, v_fx, v_cel, l_t, isiG, tyN, isiB, isiTs, List.mem_cons, List.not_mem_nil, or_false, false_or, or_true, true_or, decide_true, decide_false, Bool.or_false, Bool.false_or, Bool.true_or, Bool.or_true, Bool.and_false, Bool.and_true, Bool.true_and, Bool.false_and, Bool.not_true, Bool.not_false, List.map_cons, List.map_nil, List.replicate_zero, List.replicate_succ, List.cons_append, List.nil_append, List.length_cons, List.length_nil, List.getElem?_cons_zero, List.getElem?_cons_succ, List.getElem?_nil, List.set_cons_zero, List.set_cons_succ, if_true, if_false, Bool.false_eq_true, reduceIte, ite_self, it_up (S := S) (i := 0) (j := s.sent + 1) (by omega) (by omega) (by omega) (by omega), rgL_up, wipeE]
  rw [a1]
  have hi : inW true (.d (.int c)) (.c k) S = .ok (.d (.bool !(decide (c ∈ s.ans)))) S := by rw [w_indic hk, dk_get hd]; rfl
  simp only [ess, es, et, ets, eto, ei, eg, egs, pv, sRet, sRetN, sNil, sIf, sAsg, sPar, sExp, sBrk, sCnt, xIte, xCall, xCons, xNil, xVar, xCon, xBin, xUn, xDic, tAnd, tOr, tNot, tBad, xBad, oNone, oSome, gNm, gsNil, gsCons, Bi.go, Tn.nm, Mt.go, Mt.rc, cmG, opG, Gxs.len, q_ok, q_bad, q_exc, q_ite, o_ok, o_bad, o_exc, o_ite, a_nx, a_rt, a_bk, a_ct, a_bad, a_ite, t_nx, t_ct, t_bk, t_rt, t_bad, t_ite, r_rt, r_nx, r_bad, r_ite, k_b, q_b, n_b, t_b, t_i, t_n, t_l, t_t, e_and, e_or, e_not, e_chn, e_bool, e_val, e_seq, w_add, w_sub, w_mul, w_div, w_mod, w_ord, w_neg, w_isn, w_isnn, w_isb, w_isbn, w_eqi, w_nei, w_eqs, w_nes, w_eqb, w_neb, w_lent, w_lenl, e_tup, e_tupc, e_lst, e_lstc, td_0, td_1, td_2, td_3, td_4, td_5, td_6, ld_0, ld_1, ld_2, ld_3, ld_4, ld_5, ld_6, ld_7, w_ixt, w_ixl, at_0, at_1, at_2, at_3, om_some, or_some, e_lc, e_gfd, e_gsb, e_mth, e_met, w_max, w_min, w_rg1, w_rg2, w_rgd, e_ival, it_l, it_t, e_for, v_fx, v_cel, l_t, isiG, tyN, isiB, isiTs, List.mem_cons, List.not_mem_nil, or_false, false_or, or_true, true_or, decide_true, decide_false, Bool.or_false, Bool.false_or, Bool.true_or, Bool.or_true, Bool.and_false, Bool.and_true, Bool.true_and, Bool.false_and, Bool.not_true, Bool.not_false, List.map_cons, List.map_nil, List.replicate_zero, List.replicate_succ, List.cons_append, List.nil_append, List.length_cons, List.length_nil, List.getElem?_cons_zero, List.getElem?_cons_succ, List.getElem?_nil, List.set_cons_zero, List.set_cons_succ, if_true, if_false, Bool.false_eq_true, reduceIte, ite_self, hi]
  cases decide (s.una ≤ c) <;> cases decide (c < s.una + l.wide) <;> cases decide (c ≤ s.sent) <;> cases decide (c ∈ s.ans) <;> rfl
def LT (r0 r1 : List Int) (kp kt : List (L2.Key × W)) (fs : List W) (o : Nat) : Sto := [.dic kp, .dic kt, .lst (iw r0), .lst (iw r1), .tup [.c (o + 2), .c (o + 3)], .lst fs]
def LS (r0 r1 : List Int) (kp kt : List (L2.Key × W)) (fs : List W) (S : Sto) : Sto := S ++ LT r0 r1 kp kt fs S.length
def LE (l : Ln) (st : D) (s : MS) (o : Nat) (x3 x11 x12 x13 x14 x15 x16 : Option W) : Ev := [some (.d l.D), some (.d st), some (.c (o + 5)), x3, some (.d (.int s.sent)), some (.d (.int s.done)), some (.c o), some (.c (o + 1)), some (.c (o + 4)), some (.d (.bool s.tw)), some (.d (.bool s.wr)), x11, x12, x13, x14, x15, x16]
variable {kp kt : List (L2.Key × W)} {fs : List W} {r0 r1 : List Int}
theorem h_0 : (LS r0 r1 kp kt fs S)[S.length]? = some (.dic kp) := tget0
theorem h_1 : (LS r0 r1 kp kt fs S)[S.length + 1]? = some (.dic kt) := tget
theorem h_2 : (LS r0 r1 kp kt fs S)[S.length + 2]? = some (.lst (iw r0)) := tget
theorem h_3 : (LS r0 r1 kp kt fs S)[S.length + 3]? = some (.lst (iw r1)) := tget
theorem h_4 : (LS r0 r1 kp kt fs S)[S.length + 4]? = some (.tup [.c (S.length + 2), .c (S.length + 3)]) := tget
theorem h_5 : (LS r0 r1 kp kt fs S)[S.length + 5]? = some (.lst fs) := tget
theorem y_0 : ixG (.c (S.length + 4)) (.d (.int 0)) (LS r0 r1 kp kt fs S) = .ok (.c (S.length + 2)) (LS r0 r1 kp kt fs S) := by rw [w_ixu h_4, at_0]; rfl
theorem y_1 : ixG (.c (S.length + 4)) (.d (.int 1)) (LS r0 r1 kp kt fs S) = .ok (.c (S.length + 3)) (LS r0 r1 kp kt fs S) := by rw [w_ixu h_4, at_1]; rfl
theorem ap_l {k : Nat} {T' : Sto} {ws : List W} {x : W} (h : T[k]? = some (.lst ws)) (hc : ws.length < cap) (e : T.set k (.lst (ws ++ [x])) = T') : appG (.c (S.length + k)) [x] (S ++ T) = .ok (.d .none) (S ++ T') := by
  have g : (S ++ T)[S.length + k]? = some (.lst ws) := tget.trans h
  simp only [appG, g, hc, if_true]
  rw [tset, e]
theorem q_r0 {x : Int} (h : r0.length < cap) : appG (.c (S.length + 2)) [.d (.int x)] (LS r0 r1 kp kt fs S) = .ok (.d .none) (LS (r0 ++ [x]) r1 kp kt fs S) := ap_l (ws := iw r0) rfl (by unfold iw; rw [List.length_map]; exact h) (by rw [iw_app]; rfl)
theorem q_r1 {x : Int} (h : r1.length < cap) : appG (.c (S.length + 3)) [.d (.int x)] (LS r0 r1 kp kt fs S) = .ok (.d .none) (LS r0 (r1 ++ [x]) kp kt fs S) := ap_l (ws := iw r1) rfl (by unfold iw; rw [List.length_map]; exact h) (by rw [iw_app]; rfl)
theorem q_fs {x : W} (h : fs.length < cap) : appG (.c (S.length + 5)) [x] (LS r0 r1 kp kt fs S) = .ok (.d .none) (LS r0 r1 kp kt (fs ++ [x]) S) := ap_l (ws := fs) rfl h rfl
theorem k_r0 : isLst (.c (S.length + 2)) (LS r0 r1 kp kt fs S) = true := l_any h_2
theorem k_r1 : isLst (.c (S.length + 3)) (LS r0 r1 kp kt fs S) = true := l_any h_3
theorem k_fs : isLst (.c (S.length + 5)) (LS r0 r1 kp kt fs S) = true := l_any h_5
theorem ln_r0 : lenG [.c (S.length + 2)] (LS r0 r1 kp kt fs S) = .ok (.d (.int r0.length)) (LS r0 r1 kp kt fs S) := by rw [w_lenc h_2]; simp [iw]
theorem ln_r1 : lenG [.c (S.length + 3)] (LS r0 r1 kp kt fs S) = .ok (.d (.int r1.length)) (LS r0 r1 kp kt fs S) := by rw [w_lenc h_3]; simp [iw]
theorem xl_r0 {i : Nat} {x : Int} (h : r0[i]? = some x) : ixG (.c (S.length + 2)) (.d (.int i)) (LS r0 r1 kp kt fs S) = .ok (.d (.int x)) (LS r0 r1 kp kt fs S) := by
  rw [w_ixc h_2, at_nat, iw_at h]; rfl
theorem xl_r1 {i : Nat} {x : Int} (h : r1[i]? = some x) : ixG (.c (S.length + 3)) (.d (.int i)) (LS r0 r1 kp kt fs S) = .ok (.d (.int x)) (LS r0 r1 kp kt fs S) := by
  rw [w_ixc h_3, at_nat, iw_at h]; rfl
theorem pl_any {k : Nat} {T' : Sto} {is : List Int} {i : Nat} {x : Int} (h : T[k]? = some (.lst (iw is))) (hx : is[i]? = some x) (hc : is.length ≤ cap) (e : T.set k (.lst (iw (is.eraseIdx i))) = T') : popG (.c (S.length + k)) [.d (.int i)] (S ++ T) = .ok (.d (.int x)) (S ++ T') := by
  have g : (S ++ T)[S.length + k]? = some (.lst (iw is)) := tget.trans h
  have hl : i < is.length := (List.getElem?_eq_some_iff.mp hx).1
  have z : (iw is).length = is.length := by unfold iw; rw [List.length_map]
  have c1 : (decide (0 ≤ (i : Int)) && decide ((i : Int) < (iw is).length) && decide ((iw is).length ≤ cap)) = true := by
    rw [z]; simp; exact ⟨hl, hc⟩
  have hx' : (iw is)[(i : Int).toNat]? = some (.d (.int x)) := iw_at hx
  simp only [popG, g]
  rw [if_pos c1, hx']
  show Res.ok _ _ = _
  have e2 : (iw is).eraseIdx ((i : Int).toNat) = iw (is.eraseIdx i) := iw_er is i
  rw [e2, tset, e]
theorem pl_r0 {i : Nat} {x : Int} (hx : r0[i]? = some x) (hc : r0.length ≤ cap) : popG (.c (S.length + 2)) [.d (.int i)] (LS r0 r1 kp kt fs S) = .ok (.d (.int x)) (LS (r0.eraseIdx i) r1 kp kt fs S) := pl_any rfl hx hc rfl
theorem pl_r1 {i : Nat} {x : Int} (hx : r1[i]? = some x) (hc : r1.length ≤ cap) : popG (.c (S.length + 3)) [.d (.int i)] (LS r0 r1 kp kt fs S) = .ok (.d (.int x)) (LS r0 (r1.eraseIdx i) kp kt fs S) := pl_any rfl hx hc rfl
theorem st_any {k : Nat} {T' : Sto} {kvs : List (L2.Key × W)} {x : Int} {v : W} (h : T[k]? = some (.dic kvs)) (hc : kvs.length < cap) (e : T.set k (.dic (kput (.inl x) v kvs)) = T') : setIx (.c (S.length + k)) (.d (.int x)) v (S ++ T) = .ok () (S ++ T') := by
  have g : (S ++ T)[S.length + k]? = some (.dic kvs) := tget.trans h
  simp only [setIx, g, keyOf, hc, if_true]
  rw [tset, e]
theorem st_put {x : Int} {v : W} {is : List Int} (hd : DK is kp) (hx : x ∉ is) (hc : is.length < cap) : setIx (.c S.length) (.d (.int x)) v (LS r0 r1 kp kt fs S) = .ok () (LS r0 r1 (kp ++ [(.inl x, v)]) kt fs S) := by
  have hl : kp.length = is.length := by
    have := congrArg List.length hd
    simpa using this
  exact st_any (k := 0) rfl (by rw [hl]; exact hc) (by rw [(dk_put hd hx).1]; rfl)
theorem st_told {x : Int} {v : W} {is : List Int} (hd : DK is kt) (hx : x ∉ is) (hc : is.length < cap) : setIx (.c (S.length + 1)) (.d (.int x)) v (LS r0 r1 kp kt fs S) = .ok () (LS r0 r1 kp (kt ++ [(.inl x, v)]) fs S) := by
  have hl : kt.length = is.length := by
    have := congrArg List.length hd
    simpa using this
  exact st_any (k := 1) rfl (by rw [hl]; exact hc) (by rw [(dk_put hd hx).1]; rfl)
end
end K75
end
section
set_option Elab.async false
set_option linter.all false
set_option maxRecDepth 100000
set_option maxHeartbeats 8000000
namespace K75
open PySem Mi
section
variable {l : Ln} {s : MS} {S : Sto} {n : Nat} {kp kt : List (L2.Key × W)} {fs : List W} {st : D}
def TurnOk (n : Nat) (l : Ln) (st : D) (s : MS) (kp kt : List (L2.Key × W)) (fs : List W) (S : Sto) (p : Sp) (x11 x12 x13 x14 x15 x16 : Option W) : Prop := match doP l s p with
  | none => ∃ S', ess (rt n) b20_3 (LE l st s S.length (some (.d p.D)) x11 x12 x13 x14 x15 x16) (LS s.r0 s.r1 kp kt fs S) = .rt (.d .none) (S ++ S')
  | some s' => ∃ y11 y12 y13 y14 y15 y16 kp' kt', DK s'.put kp' ∧ DK s'.ans kt' ∧ ess (rt n) b20_3 (LE l st s S.length (some (.d p.D)) x11 x12 x13 x14 x15 x16) (LS s.r0 s.r1 kp kt fs S) =
      .nx (LE l st s' S.length (some (.d p.D)) y11 y12 y13 y14 y15 y16) (LS s'.r0 s'.r1 kp' kt' (fs ++ [.d (bwD l s')]) S)
theorem turn_send (n : Nat) {B : Nat} (hl : l.Ok) (h : Iv l s B) (hB : B < 400000) (hp : DK s.put kp) (ht : DK s.ans kt) (hf : fs.length < cap) {c : Int} (hc : (Sp.send c).Ok) (x11 x12 x13 x14 x15 x16 : Option W) :
    TurnOk (n + 1) l st s kp kt fs S (.send c) x11 x12 x13 x14 x15 x16 := by
  have a1 := lsent_ok (l := l) (s := s) (S := LS s.r0 s.r1 kp kt fs S) h h_1 ht n c
  have hr : s.r0.length < cap := by have := h.l0; unfold cap; omega
  unfold TurnOk
  rw [b20_3, LE, Sp.D]
  by_cases hb : (decide (s.una ≤ c) && decide (c < s.una + l.wide) && decide (c ≤ s.sent) && !decide (c ∈ s.ans)) = true
  · have e : doP l s (.send c) = some { s with sent := max s.sent (c + 1), r0 := s.r0 ++ [c] } := by simp only [doP]; rw [if_pos hb]
    have h' := doP_iv hl h hc e
    rw [e]
    refine ⟨some (.d (.list [])), x12, x13, x14, x15, x16, kp, kt, hp, ht, ?_⟩
    have a2 := words_ok (l := l) (S := LS (s.r0 ++ [c]) s.r1 kp kt fs S) h' h_1 ht h_3 n
    simp only [ess, es, et, ets, eto, ei, eg, egs, pv, sRet, sRetN, sNil, sIf, sAsg, sPar, sExp, sBrk, sCnt, xIte, xCall, xCons, xNil, xVar, xCon, xBin, xUn, xDic, tAnd, tOr, tNot, tBad, xBad, oNone, oSome, gNm, gsNil, gsCons, Bi.go, Tn.nm, Mt.go, Mt.rc, cmG, opG, Gxs.len, q_ok, q_bad, q_exc, q_ite, o_ok, o_bad, o_exc, o_ite, a_nx, a_rt, a_bk, a_ct, a_bad, a_ite, t_nx, t_ct, t_bk, t_rt, t_bad, t_ite, r_rt, r_nx, r_bad, r_ite, k_b, q_b, n_b, t_b, t_i, t_n, t_l, t_t, e_and, e_or, e_not, e_chn, e_bool, e_val, e_seq, w_add, w_sub, w_mul, w_div, w_mod, w_ord, w_neg, w_isn, w_isnn, w_isb, w_isbn, w_eqi, w_nei, w_eqs, w_nes, w_eqb, w_neb, w_lent, w_lenl, e_tup, e_tupc, e_lst, e_lstc, td_0, td_1, td_2, td_3, td_4, td_5, td_6, ld_0, ld_1, ld_2, ld_3, ld_4, ld_5, ld_6, ld_7, w_ixt, w_ixl, at_0, at_1, at_2, at_3, om_some, or_some, e_lc, e_gfd, e_gsb, e_mth, e_met, w_max, w_min, w_rg1, w_rg2, w_rgd, e_ival, it_l, it_t, e_for, v_fx, v_cel, l_t, isiG, tyN, isiB, isiTs, List.mem_cons, List.not_mem_nil, or_false, false_or, or_true, true_or, decide_true, decide_false, Bool.or_false, Bool.false_or, Bool.true_or, Bool.or_true, Bool.and_false, Bool.and_true, Bool.true_and, Bool.false_and, Bool.not_true, Bool.not_false, List.map_cons, List.map_nil, List.replicate_zero, List.replicate_succ, List.cons_append, List.nil_append, List.length_cons, List.length_nil, List.getElem?_cons_zero, List.getElem?_cons_succ, List.getElem?_nil, List.set_cons_zero, List.set_cons_succ, if_true, if_false, Bool.false_eq_true, reduceIte, ite_self, b20_2, a1, hb, y_0, y_1, k_r0, q_r0 (kp := kp) (kt := kt) (fs := fs) (S := S) (x := c) hr, k_fs, a2, q_fs hf]
    rfl
  · have hb' : (decide (s.una ≤ c) && decide (c < s.una + l.wide) && decide (c ≤ s.sent) && !decide (c ∈ s.ans)) = false := by simpa using hb
    have e : doP l s (.send c) = none := by simp only [doP]; rw [if_neg hb]
    rw [e]
    refine ⟨LT s.r0 s.r1 kp kt fs S.length, ?_⟩
    simp only [ess, es, et, ets, eto, ei, eg, egs, pv, sRet, sRetN, sNil, sIf, sAsg, sPar, sExp, sBrk, sCnt, xIte, xCall, xCons, xNil, xVar, xCon, xBin, xUn, xDic, tAnd, tOr, tNot, tBad, xBad, oNone, oSome, gNm, gsNil, gsCons, Bi.go, Tn.nm, Mt.go, Mt.rc, cmG, opG, Gxs.len, q_ok, q_bad, q_exc, q_ite, o_ok, o_bad, o_exc, o_ite, a_nx, a_rt, a_bk, a_ct, a_bad, a_ite, t_nx, t_ct, t_bk, t_rt, t_bad, t_ite, r_rt, r_nx, r_bad, r_ite, k_b, q_b, n_b, t_b, t_i, t_n, t_l, t_t, e_and, e_or, e_not, e_chn, e_bool, e_val, e_seq, w_add, w_sub, w_mul, w_div, w_mod, w_ord, w_neg, w_isn, w_isnn, w_isb, w_isbn, w_eqi, w_nei, w_eqs, w_nes, w_eqb, w_neb, w_lent, w_lenl, e_tup, e_tupc, e_lst, e_lstc, td_0, td_1, td_2, td_3, td_4, td_5, td_6, ld_0, ld_1, ld_2, ld_3, ld_4, ld_5, ld_6, ld_7, w_ixt, w_ixl, at_0, at_1, at_2, at_3, om_some, or_some, e_lc, e_gfd, e_gsb, e_mth, e_met, w_max, w_min, w_rg1, w_rg2, w_rgd, e_ival, it_l, it_t, e_for, v_fx, v_cel, l_t, isiG, tyN, isiB, isiTs, List.mem_cons, List.not_mem_nil, or_false, false_or, or_true, true_or, decide_true, decide_false, Bool.or_false, Bool.false_or, Bool.true_or, Bool.or_true, Bool.and_false, Bool.and_true, Bool.true_and, Bool.false_and, Bool.not_true, Bool.not_false, List.map_cons, List.map_nil, List.replicate_zero, List.replicate_succ, List.cons_append, List.nil_append, List.length_cons, List.length_nil, List.getElem?_cons_zero, List.getElem?_cons_succ, List.getElem?_nil, List.set_cons_zero, List.set_cons_succ, if_true, if_false, Bool.false_eq_true, reduceIte, ite_self, b20_2, a1, hb']
    rfl
theorem turn_lose0 (n : Nat) {B : Nat} (hl : l.Ok) (h : Iv l s B) (hB : B < 400000) (hp : DK s.put kp) (ht : DK s.ans kt) (hf : fs.length < cap) {i : Int} (hc : (Sp.lose 0 i).Ok) (x11 x12 x13 x14 x15 x16 : Option W) :
    TurnOk (n + 1) l st s kp kt fs S (.lose 0 i) x11 x12 x13 x14 x15 x16 := by
  have hi : 0 ≤ i := hc.2.1
  have hr : s.r0.length ≤ cap := by have := h.l0; unfold cap; omega
  have hd : doP l s (.lose 0 i) = match s.r0[i.toNat]? with | none => none | some _ => some { s with r0 := s.r0.eraseIdx i.toNat } := rfl
  have ed : (Sp.lose 0 i).D = .tuple [.str ("lose" : Str), .int 0, .int ((i.toNat : Nat) : Int)] := by rw [Int.toNat_of_nonneg hi]; rfl
  unfold TurnOk
  cases hx : s.r0[i.toNat]? with
  | none =>
    rw [hd, hx, b20_3, LE, ed]
    have : s.r0.length ≤ i.toNat := List.getElem?_eq_none_iff.mp hx
    have hg : decide ((s.r0.length : Int) ≤ ((i.toNat : Nat) : Int)) = true := decide_eq_true (by omega)
    refine ⟨LT s.r0 s.r1 kp kt fs S.length, ?_⟩
    simp only [ess, es, et, ets, eto, ei, eg, egs, pv, sRet, sRetN, sNil, sIf, sAsg, sPar, sExp, sBrk, sCnt, xIte, xCall, xCons, xNil, xVar, xCon, xBin, xUn, xDic, tAnd, tOr, tNot, tBad, xBad, oNone, oSome, gNm, gsNil, gsCons, Bi.go, Tn.nm, Mt.go, Mt.rc, cmG, opG, Gxs.len, q_ok, q_bad, q_exc, q_ite, o_ok, o_bad, o_exc, o_ite, a_nx, a_rt, a_bk, a_ct, a_bad, a_ite, t_nx, t_ct, t_bk, t_rt, t_bad, t_ite, r_rt, r_nx, r_bad, r_ite, k_b, q_b, n_b, t_b, t_i, t_n, t_l, t_t, e_and, e_or, e_not, e_chn, e_bool, e_val, e_seq, w_add, w_sub, w_mul, w_div, w_mod, w_ord, w_neg, w_isn, w_isnn, w_isb, w_isbn, w_eqi, w_nei, w_eqs, w_nes, w_eqb, w_neb, w_lent, w_lenl, e_tup, e_tupc, e_lst, e_lstc, td_0, td_1, td_2, td_3, td_4, td_5, td_6, ld_0, ld_1, ld_2, ld_3, ld_4, ld_5, ld_6, ld_7, w_ixt, w_ixl, at_0, at_1, at_2, at_3, om_some, or_some, e_lc, e_gfd, e_gsb, e_mth, e_met, w_max, w_min, w_rg1, w_rg2, w_rgd, e_ival, it_l, it_t, e_for, v_fx, v_cel, l_t, isiG, tyN, isiB, isiTs, List.mem_cons, List.not_mem_nil, or_false, false_or, or_true, true_or, decide_true, decide_false, Bool.or_false, Bool.false_or, Bool.true_or, Bool.or_true, Bool.and_false, Bool.and_true, Bool.true_and, Bool.false_and, Bool.not_true, Bool.not_false, List.map_cons, List.map_nil, List.replicate_zero, List.replicate_succ, List.cons_append, List.nil_append, List.length_cons, List.length_nil, List.getElem?_cons_zero, List.getElem?_cons_succ, List.getElem?_nil, List.set_cons_zero, List.set_cons_succ, if_true, if_false, Bool.false_eq_true, reduceIte, ite_self, b20_2, s1, y_0, y_1, ln_r0, hg]
    rfl
  | some m =>
    have hlt : i.toNat < s.r0.length := (List.getElem?_eq_some_iff.mp hx).1
    have hg : decide ((s.r0.length : Int) ≤ ((i.toNat : Nat) : Int)) = false := decide_eq_false (by omega)
    have e : doP l s (.lose 0 i) = some { s with r0 := s.r0.eraseIdx i.toNat } := by rw [hd, hx]
    have h' := doP_iv hl h hc e
    rw [e, b20_3, LE, ed]
    have a2 := words_ok (l := l) (S := LS (s.r0.eraseIdx i.toNat) s.r1 kp kt fs S) h' h_1 ht h_3 n
    refine ⟨some (.c (S.length + 2)), some (.d (.int m)), x13, x14, x15, x16, kp, kt, hp, ht, ?_⟩
    simp only [ess, es, et, ets, eto, ei, eg, egs, pv, sRet, sRetN, sNil, sIf, sAsg, sPar, sExp, sBrk, sCnt, xIte, xCall, xCons, xNil, xVar, xCon, xBin, xUn, xDic, tAnd, tOr, tNot, tBad, xBad, oNone, oSome, gNm, gsNil, gsCons, Bi.go, Tn.nm, Mt.go, Mt.rc, cmG, opG, Gxs.len, q_ok, q_bad, q_exc, q_ite, o_ok, o_bad, o_exc, o_ite, a_nx, a_rt, a_bk, a_ct, a_bad, a_ite, t_nx, t_ct, t_bk, t_rt, t_bad, t_ite, r_rt, r_nx, r_bad, r_ite, k_b, q_b, n_b, t_b, t_i, t_n, t_l, t_t, e_and, e_or, e_not, e_chn, e_bool, e_val, e_seq, w_add, w_sub, w_mul, w_div, w_mod, w_ord, w_neg, w_isn, w_isnn, w_isb, w_isbn, w_eqi, w_nei, w_eqs, w_nes, w_eqb, w_neb, w_lent, w_lenl, e_tup, e_tupc, e_lst, e_lstc, td_0, td_1, td_2, td_3, td_4, td_5, td_6, ld_0, ld_1, ld_2, ld_3, ld_4, ld_5, ld_6, ld_7, w_ixt, w_ixl, at_0, at_1, at_2, at_3, om_some, or_some, e_lc, e_gfd, e_gsb, e_mth, e_met, w_max, w_min, w_rg1, w_rg2, w_rgd, e_ival, it_l, it_t, e_for, v_fx, v_cel, l_t, isiG, tyN, isiB, isiTs, List.mem_cons, List.not_mem_nil, or_false, false_or, or_true, true_or, decide_true, decide_false, Bool.or_false, Bool.false_or, Bool.true_or, Bool.or_true, Bool.and_false, Bool.and_true, Bool.true_and, Bool.false_and, Bool.not_true, Bool.not_false, List.map_cons, List.map_nil, List.replicate_zero, List.replicate_succ, List.cons_append, List.nil_append, List.length_cons, List.length_nil, List.getElem?_cons_zero, List.getElem?_cons_succ, List.getElem?_nil, List.set_cons_zero, List.set_cons_succ, if_true, if_false, Bool.false_eq_true, reduceIte, ite_self, b20_2, s1, s4, y_0, y_1, ln_r0, hg, xl_r0 hx, k_r0, pl_r0 hx hr, k_fs, a2, q_fs hf]
    rfl
theorem turn_lose1 (n : Nat) {B : Nat} (hl : l.Ok) (h : Iv l s B) (hB : B < 400000) (hp : DK s.put kp) (ht : DK s.ans kt) (hf : fs.length < cap) {i : Int} (hc : (Sp.lose 1 i).Ok) (x11 x12 x13 x14 x15 x16 : Option W) :
    TurnOk (n + 1) l st s kp kt fs S (.lose 1 i) x11 x12 x13 x14 x15 x16 := by
  have hi : 0 ≤ i := hc.2.1
  have hr : s.r1.length ≤ cap := by have := h.l1; unfold cap; omega
  have hd : doP l s (.lose 1 i) = match s.r1[i.toNat]? with | none => none | some _ => some { s with r1 := s.r1.eraseIdx i.toNat } := rfl
  have ed : (Sp.lose 1 i).D = .tuple [.str ("lose" : Str), .int 1, .int ((i.toNat : Nat) : Int)] := by rw [Int.toNat_of_nonneg hi]; rfl
  unfold TurnOk
  cases hx : s.r1[i.toNat]? with
  | none =>
    rw [hd, hx, b20_3, LE, ed]
    have : s.r1.length ≤ i.toNat := List.getElem?_eq_none_iff.mp hx
    have hg : decide ((s.r1.length : Int) ≤ ((i.toNat : Nat) : Int)) = true := decide_eq_true (by omega)
    refine ⟨LT s.r0 s.r1 kp kt fs S.length, ?_⟩
    simp only [ess, es, et, ets, eto, ei, eg, egs, pv, sRet, sRetN, sNil, sIf, sAsg, sPar, sExp, sBrk, sCnt, xIte, xCall, xCons, xNil, xVar, xCon, xBin, xUn, xDic, tAnd, tOr, tNot, tBad, xBad, oNone, oSome, gNm, gsNil, gsCons, Bi.go, Tn.nm, Mt.go, Mt.rc, cmG, opG, Gxs.len, q_ok, q_bad, q_exc, q_ite, o_ok, o_bad, o_exc, o_ite, a_nx, a_rt, a_bk, a_ct, a_bad, a_ite, t_nx, t_ct, t_bk, t_rt, t_bad, t_ite, r_rt, r_nx, r_bad, r_ite, k_b, q_b, n_b, t_b, t_i, t_n, t_l, t_t, e_and, e_or, e_not, e_chn, e_bool, e_val, e_seq, w_add, w_sub, w_mul, w_div, w_mod, w_ord, w_neg, w_isn, w_isnn, w_isb, w_isbn, w_eqi, w_nei, w_eqs, w_nes, w_eqb, w_neb, w_lent, w_lenl, e_tup, e_tupc, e_lst, e_lstc, td_0, td_1, td_2, td_3, td_4, td_5, td_6, ld_0, ld_1, ld_2, ld_3, ld_4, ld_5, ld_6, ld_7, w_ixt, w_ixl, at_0, at_1, at_2, at_3, om_some, or_some, e_lc, e_gfd, e_gsb, e_mth, e_met, w_max, w_min, w_rg1, w_rg2, w_rgd, e_ival, it_l, it_t, e_for, v_fx, v_cel, l_t, isiG, tyN, isiB, isiTs, List.mem_cons, List.not_mem_nil, or_false, false_or, or_true, true_or, decide_true, decide_false, Bool.or_false, Bool.false_or, Bool.true_or, Bool.or_true, Bool.and_false, Bool.and_true, Bool.true_and, Bool.false_and, Bool.not_true, Bool.not_false, List.map_cons, List.map_nil, List.replicate_zero, List.replicate_succ, List.cons_append, List.nil_append, List.length_cons, List.length_nil, List.getElem?_cons_zero, List.getElem?_cons_succ, List.getElem?_nil, List.set_cons_zero, List.set_cons_succ, if_true, if_false, Bool.false_eq_true, reduceIte, ite_self, b20_2, s1, y_0, y_1, ln_r1, hg]
    rfl
  | some m =>
    have hlt : i.toNat < s.r1.length := (List.getElem?_eq_some_iff.mp hx).1
    have hg : decide ((s.r1.length : Int) ≤ ((i.toNat : Nat) : Int)) = false := decide_eq_false (by omega)
    have e : doP l s (.lose 1 i) = some { s with r1 := s.r1.eraseIdx i.toNat } := by rw [hd, hx]
    have h' := doP_iv hl h hc e
    rw [e, b20_3, LE, ed]
    have a2 := words_ok (l := l) (S := LS s.r0 (s.r1.eraseIdx i.toNat) kp kt fs S) h' h_1 ht h_3 n
    refine ⟨some (.c (S.length + 3)), some (.d (.int m)), x13, x14, x15, x16, kp, kt, hp, ht, ?_⟩
    simp only [ess, es, et, ets, eto, ei, eg, egs, pv, sRet, sRetN, sNil, sIf, sAsg, sPar, sExp, sBrk, sCnt, xIte, xCall, xCons, xNil, xVar, xCon, xBin, xUn, xDic, tAnd, tOr, tNot, tBad, xBad, oNone, oSome, gNm, gsNil, gsCons, Bi.go, Tn.nm, Mt.go, Mt.rc, cmG, opG, Gxs.len, q_ok, q_bad, q_exc, q_ite, o_ok, o_bad, o_exc, o_ite, a_nx, a_rt, a_bk, a_ct, a_bad, a_ite, t_nx, t_ct, t_bk, t_rt, t_bad, t_ite, r_rt, r_nx, r_bad, r_ite, k_b, q_b, n_b, t_b, t_i, t_n, t_l, t_t, e_and, e_or, e_not, e_chn, e_bool, e_val, e_seq, w_add, w_sub, w_mul, w_div, w_mod, w_ord, w_neg, w_isn, w_isnn, w_isb, w_isbn, w_eqi, w_nei, w_eqs, w_nes, w_eqb, w_neb, w_lent, w_lenl, e_tup, e_tupc, e_lst, e_lstc, td_0, td_1, td_2, td_3, td_4, td_5, td_6, ld_0, ld_1, ld_2, ld_3, ld_4, ld_5, ld_6, ld_7, w_ixt, w_ixl, at_0, at_1, at_2, at_3, om_some, or_some, e_lc, e_gfd, e_gsb, e_mth, e_met, w_max, w_min, w_rg1, w_rg2, w_rgd, e_ival, it_l, it_t, e_for, v_fx, v_cel, l_t, isiG, tyN, isiB, isiTs, List.mem_cons, List.not_mem_nil, or_false, false_or, or_true, true_or, decide_true, decide_false, Bool.or_false, Bool.false_or, Bool.true_or, Bool.or_true, Bool.and_false, Bool.and_true, Bool.true_and, Bool.false_and, Bool.not_true, Bool.not_false, List.map_cons, List.map_nil, List.replicate_zero, List.replicate_succ, List.cons_append, List.nil_append, List.length_cons, List.length_nil, List.getElem?_cons_zero, List.getElem?_cons_succ, List.getElem?_nil, List.set_cons_zero, List.set_cons_succ, if_true, if_false, Bool.false_eq_true, reduceIte, ite_self, b20_2, s1, s4, y_0, y_1, ln_r1, hg, xl_r1 hx, k_r1, pl_r1 hx hr, k_fs, a2, q_fs hf]
    rfl
theorem done_loop (n : Nat) {put : List Int} (hd : DK put kp) {d' : Int} (a0 a1 a2 a3 a4 : Option W) (r : Ev) : ∀ (m : Nat) (d : Int) (r1 : List Int) (r0 : List Int), Nxt put d d' → (d' - d).toNat < m → r1.length + (d' - d).toNat < cap →
    whileD (tBool (xBin (inW false) (xVar 5) (xVar 6))) (ess (rt n) b20_0) m (a0 :: a1 :: a2 :: a3 :: a4 :: some (.d (.int d)) :: some (.c S.length) :: some (.c (S.length + 1)) :: some (.c (S.length + 4)) :: r) (LS r0 r1 kp kt fs S) =
      .nx (a0 :: a1 :: a2 :: a3 :: a4 :: some (.d (.int d')) :: some (.c S.length) :: some (.c (S.length + 1)) :: some (.c (S.length + 4)) :: r) (LS r0 (r1 ++ upI d (d' - d).toNat) kp kt fs S)
  | 0, d, r1, r0, h, hm, hc => by omega
  | m + 1, d, r1, r0, h, hm, hc => by
    rw [e_whl1]
    have hle := h.le
    by_cases e : d = d'
    · subst e
      simp only [ess, es, et, ets, eto, ei, eg, egs, pv, sRet, sRetN, sNil, sIf, sAsg, sPar, sExp, sBrk, sCnt, xIte, xCall, xCons, xNil, xVar, xCon, xBin, xUn, xDic, tAnd, tOr, tNot, tBad, xBad, oNone, oSome, gNm, gsNil, gsCons, Bi.go, Tn.nm, Mt.go, Mt.rc, cmG, opG, Gxs.len, q_ok, q_bad, q_exc, q_ite, o_ok, o_bad, o_exc, o_ite, a_nx, a_rt, a_bk, a_ct, a_bad, a_ite, t_nx, t_ct, t_bk, t_rt, t_bad, t_ite, r_rt, r_nx, r_bad, r_ite, k_b, q_b, n_b, t_b, t_i, t_n, t_l, t_t, e_and, e_or, e_not, e_chn, e_bool, e_val, e_seq, w_add, w_sub, w_mul, w_div, w_mod, w_ord, w_neg, w_isn, w_isnn, w_isb, w_isbn, w_eqi, w_nei, w_eqs, w_nes, w_eqb, w_neb, w_lent, w_lenl, e_tup, e_tupc, e_lst, e_lstc, td_0, td_1, td_2, td_3, td_4, td_5, td_6, ld_0, ld_1, ld_2, ld_3, ld_4, ld_5, ld_6, ld_7, w_ixt, w_ixl, at_0, at_1, at_2, at_3, om_some, or_some, e_lc, e_gfd, e_gsb, e_mth, e_met, w_max, w_min, w_rg1, w_rg2, w_rgd, e_ival, it_l, it_t, e_for, v_fx, v_cel, l_t, isiG, tyN, isiB, isiTs, List.mem_cons, List.not_mem_nil, or_false, false_or, or_true, true_or, decide_true, decide_false, Bool.or_false, Bool.false_or, Bool.true_or, Bool.or_true, Bool.and_false, Bool.and_true, Bool.true_and, Bool.false_and, Bool.not_true, Bool.not_false, List.map_cons, List.map_nil, List.replicate_zero, List.replicate_succ, List.cons_append, List.nil_append, List.length_cons, List.length_nil, List.getElem?_cons_zero, List.getElem?_cons_succ, List.getElem?_nil, List.set_cons_zero, List.set_cons_succ, if_true, if_false, Bool.false_eq_true, reduceIte, ite_self, w_indic h_0, dk_get hd]
      rw [decide_eq_false h.out]
      have z : (d - d).toNat = 0 := by omega
      rw [z, upI_0, List.append_nil]
      rfl
    · have hin : d ∈ put := h.all d (Int.le_refl _) (by omega)
      simp only [ess, es, et, ets, eto, ei, eg, egs, pv, sRet, sRetN, sNil, sIf, sAsg, sPar, sExp, sBrk, sCnt, xIte, xCall, xCons, xNil, xVar, xCon, xBin, xUn, xDic, tAnd, tOr, tNot, tBad, xBad, oNone, oSome, gNm, gsNil, gsCons, Bi.go, Tn.nm, Mt.go, Mt.rc, cmG, opG, Gxs.len, q_ok, q_bad, q_exc, q_ite, o_ok, o_bad, o_exc, o_ite, a_nx, a_rt, a_bk, a_ct, a_bad, a_ite, t_nx, t_ct, t_bk, t_rt, t_bad, t_ite, r_rt, r_nx, r_bad, r_ite, k_b, q_b, n_b, t_b, t_i, t_n, t_l, t_t, e_and, e_or, e_not, e_chn, e_bool, e_val, e_seq, w_add, w_sub, w_mul, w_div, w_mod, w_ord, w_neg, w_isn, w_isnn, w_isb, w_isbn, w_eqi, w_nei, w_eqs, w_nes, w_eqb, w_neb, w_lent, w_lenl, e_tup, e_tupc, e_lst, e_lstc, td_0, td_1, td_2, td_3, td_4, td_5, td_6, ld_0, ld_1, ld_2, ld_3, ld_4, ld_5, ld_6, ld_7, w_ixt, w_ixl, at_0, at_1, at_2, at_3, om_some, or_some, e_lc, e_gfd, e_gsb, e_mth, e_met, w_max, w_min, w_rg1, w_rg2, w_rgd, e_ival, it_l, it_t, e_for, v_fx, v_cel, l_t, isiG, tyN, isiB, isiTs, List.mem_cons, List.not_mem_nil, or_false, false_or, or_true, true_or, decide_true, decide_false, Bool.or_false, Bool.false_or, Bool.true_or, Bool.or_true, Bool.and_false, Bool.and_true, Bool.true_and, Bool.false_and, Bool.not_true, Bool.not_false, List.map_cons, List.map_nil, List.replicate_zero, List.replicate_succ, List.cons_append, List.nil_append, List.length_cons, List.length_nil, List.getElem?_cons_zero, List.getElem?_cons_succ, List.getElem?_nil, List.set_cons_zero, List.set_cons_succ, if_true, if_false, Bool.false_eq_true, reduceIte, ite_self, w_indic h_0, dk_get hd]
      rw [decide_eq_true hin]
      have hb : ess (rt n) b20_0 (a0 :: a1 :: a2 :: a3 :: a4 :: some (.d (.int d)) :: some (.c S.length) :: some (.c (S.length + 1)) :: some (.c (S.length + 4)) :: r) (LS r0 r1 kp kt fs S) = .nx (a0 :: a1 :: a2 :: a3 :: a4 :: some (.d (.int (d + 1))) :: some (.c S.length) :: some (.c (S.length + 1)) :: some (.c (S.length + 4)) :: r) (LS r0 (r1 ++ [d]) kp kt fs S) := by
        rw [b20_0]
        simp only [ess, es, et, ets, eto, ei, eg, egs, pv, sRet, sRetN, sNil, sIf, sAsg, sPar, sExp, sBrk, sCnt, xIte, xCall, xCons, xNil, xVar, xCon, xBin, xUn, xDic, tAnd, tOr, tNot, tBad, xBad, oNone, oSome, gNm, gsNil, gsCons, Bi.go, Tn.nm, Mt.go, Mt.rc, cmG, opG, Gxs.len, q_ok, q_bad, q_exc, q_ite, o_ok, o_bad, o_exc, o_ite, a_nx, a_rt, a_bk, a_ct, a_bad, a_ite, t_nx, t_ct, t_bk, t_rt, t_bad, t_ite, r_rt, r_nx, r_bad, r_ite, k_b, q_b, n_b, t_b, t_i, t_n, t_l, t_t, e_and, e_or, e_not, e_chn, e_bool, e_val, e_seq, w_add, w_sub, w_mul, w_div, w_mod, w_ord, w_neg, w_isn, w_isnn, w_isb, w_isbn, w_eqi, w_nei, w_eqs, w_nes, w_eqb, w_neb, w_lent, w_lenl, e_tup, e_tupc, e_lst, e_lstc, td_0, td_1, td_2, td_3, td_4, td_5, td_6, ld_0, ld_1, ld_2, ld_3, ld_4, ld_5, ld_6, ld_7, w_ixt, w_ixl, at_0, at_1, at_2, at_3, om_some, or_some, e_lc, e_gfd, e_gsb, e_mth, e_met, w_max, w_min, w_rg1, w_rg2, w_rgd, e_ival, it_l, it_t, e_for, v_fx, v_cel, l_t, isiG, tyN, isiB, isiTs, List.mem_cons, List.not_mem_nil, or_false, false_or, or_true, true_or, decide_true, decide_false, Bool.or_false, Bool.false_or, Bool.true_or, Bool.or_true, Bool.and_false, Bool.and_true, Bool.true_and, Bool.false_and, Bool.not_true, Bool.not_false, List.map_cons, List.map_nil, List.replicate_zero, List.replicate_succ, List.cons_append, List.nil_append, List.length_cons, List.length_nil, List.getElem?_cons_zero, List.getElem?_cons_succ, List.getElem?_nil, List.set_cons_zero, List.set_cons_succ, if_true, if_false, Bool.false_eq_true, reduceIte, ite_self, y_1, k_r1, q_r1 (r0 := r0) (r1 := r1) (kp := kp) (kt := kt) (fs := fs) (S := S) (x := d) (by omega)]
      rw [if_pos rfl, hb, t_nx, done_loop n hd a0 a1 a2 a3 a4 r m (d + 1) (r1 ++ [d]) r0 ⟨by omega, h.out, fun x x1 x2 => h.all x (by omega) x2⟩ (by omega) (by simp; omega)]
      have z : (d' - d).toNat = (d' - (d + 1)).toNat + 1 := by omega
      rw [z, upI_s, List.append_assoc]
      rfl
def sameL (l : Ln) (m : Int) (is : List Int) : List Int := is.filter fun c => decide (mk l.ring c = mk l.ring m)
theorem same_list (n : Nat) (hl : l.Ok) (m : Int) (is : List Int) (hc : is.length ≤ cap) (en : Ev) (f : D → Ev) (hg : ∀ d, (gNm 16) (.d d) en S = .ok (f d) S) (hv : ∀ d, (f d)[16]? = some (some (.d d))) (h0 : ∀ d, (f d)[0]? = some (some (.d l.D))) (hm : ∀ d, (f d)[12]? = some (some (.d (.int m)))) :
    lcV false (gNm 16) (tVal (xCall (Mi.runN tbl.kt tbl.tb (n + 1) 18) (xCons (xVar 0) (xCons (xVar 16) (xCons (xVar 12) xNil))))) (xVar 16) en (.fx ((is.map .int).map .d)) S = .ok (.d (.list ((sameL l m is).map .int))) S := by
  rw [lcv_d (e := f) (p := fun d => match d with | .int i => decide (mk l.ring i = mk l.ring m) | _ => false) (h := fun d => d) (by rw [List.length_map]; exact hc) (fun d hd => hg d) (fun d hd => by
    obtain ⟨i, hi, rfl⟩ := List.mem_map.mp hd
    simp only [ess, es, et, ets, eto, ei, eg, egs, pv, sRet, sRetN, sNil, sIf, sAsg, sPar, sExp, sBrk, sCnt, xIte, xCall, xCons, xNil, xVar, xCon, xBin, xUn, xDic, tAnd, tOr, tNot, tBad, xBad, oNone, oSome, gNm, gsNil, gsCons, Bi.go, Tn.nm, Mt.go, Mt.rc, cmG, opG, Gxs.len, q_ok, q_bad, q_exc, q_ite, o_ok, o_bad, o_exc, o_ite, a_nx, a_rt, a_bk, a_ct, a_bad, a_ite, t_nx, t_ct, t_bk, t_rt, t_bad, t_ite, r_rt, r_nx, r_bad, r_ite, k_b, q_b, n_b, t_b, t_i, t_n, t_l, t_t, e_and, e_or, e_not, e_chn, e_bool, e_val, e_seq, w_add, w_sub, w_mul, w_div, w_mod, w_ord, w_neg, w_isn, w_isnn, w_isb, w_isbn, w_eqi, w_nei, w_eqs, w_nes, w_eqb, w_neb, w_lent, w_lenl, e_tup, e_tupc, e_lst, e_lstc, td_0, td_1, td_2, td_3, td_4, td_5, td_6, ld_0, ld_1, ld_2, ld_3, ld_4, ld_5, ld_6, ld_7, w_ixt, w_ixl, at_0, at_1, at_2, at_3, om_some, or_some, e_lc, e_gfd, e_gsb, e_mth, e_met, w_max, w_min, w_rg1, w_rg2, w_rgd, e_ival, it_l, it_t, e_for, v_fx, v_cel, l_t, isiG, tyN, isiB, isiTs, List.mem_cons, List.not_mem_nil, or_false, false_or, or_true, true_or, decide_true, decide_false, Bool.or_false, Bool.false_or, Bool.true_or, Bool.or_true, Bool.and_false, Bool.and_true, Bool.true_and, Bool.false_and, Bool.not_true, Bool.not_false, List.map_cons, List.map_nil, List.replicate_zero, List.replicate_succ, List.cons_append, List.nil_append, List.length_cons, List.length_nil, List.getElem?_cons_zero, List.getElem?_cons_succ, List.getElem?_nil, List.set_cons_zero, List.set_cons_succ, if_true, if_false, Bool.false_eq_true, reduceIte, ite_self, hv, h0, hm, same_ok n hl]) (fun d hd hp => by simp only [ess, es, et, ets, eto, ei, eg, egs, pv, sRet, sRetN, sNil, sIf, sAsg, sPar, sExp, sBrk, sCnt, xIte, xCall, xCons, xNil, xVar, xCon, xBin, xUn, xDic, tAnd, tOr, tNot, tBad, xBad, oNone, oSome, gNm, gsNil, gsCons, Bi.go, Tn.nm, Mt.go, Mt.rc, cmG, opG, Gxs.len, q_ok, q_bad, q_exc, q_ite, o_ok, o_bad, o_exc, o_ite, a_nx, a_rt, a_bk, a_ct, a_bad, a_ite, t_nx, t_ct, t_bk, t_rt, t_bad, t_ite, r_rt, r_nx, r_bad, r_ite, k_b, q_b, n_b, t_b, t_i, t_n, t_l, t_t, e_and, e_or, e_not, e_chn, e_bool, e_val, e_seq, w_add, w_sub, w_mul, w_div, w_mod, w_ord, w_neg, w_isn, w_isnn, w_isb, w_isbn, w_eqi, w_nei, w_eqs, w_nes, w_eqb, w_neb, w_lent, w_lenl, e_tup, e_tupc, e_lst, e_lstc, td_0, td_1, td_2, td_3, td_4, td_5, td_6, ld_0, ld_1, ld_2, ld_3, ld_4, ld_5, ld_6, ld_7, w_ixt, w_ixl, at_0, at_1, at_2, at_3, om_some, or_some, e_lc, e_gfd, e_gsb, e_mth, e_met, w_max, w_min, w_rg1, w_rg2, w_rgd, e_ival, it_l, it_t, e_for, v_fx, v_cel, l_t, isiG, tyN, isiB, isiTs, List.mem_cons, List.not_mem_nil, or_false, false_or, or_true, true_or, decide_true, decide_false, Bool.or_false, Bool.false_or, Bool.true_or, Bool.or_true, Bool.and_false, Bool.and_true, Bool.true_and, Bool.false_and, Bool.not_true, Bool.not_false, List.map_cons, List.map_nil, List.replicate_zero, List.replicate_succ, List.cons_append, List.nil_append, List.length_cons, List.length_nil, List.getElem?_cons_zero, List.getElem?_cons_succ, List.getElem?_nil, List.set_cons_zero, List.set_cons_succ, if_true, if_false, Bool.false_eq_true, reduceIte, ite_self, hv]), List.map_id', List.filter_map]
  rfl
theorem head_find {p : Int → Bool} : ∀ is : List Int, (is.filter p).head? = is.find? p
  | [] => rfl
  | i :: is => by
    cases h : p i with
    | true => rw [List.filter_cons_of_pos h, List.find?_cons_of_pos h]; rfl
    | false =>
      rw [List.filter_cons_of_neg (by rw [h]; decide), List.find?_cons_of_neg (by rw [h]; decide)]
      exact head_find is
theorem dn_up (i : Int) (n : Nat) : dnI (i + n - 1) n = (upI i n).reverse := by
  unfold dnI upI
  apply List.ext_getElem
  · simp
  · intro k h1 h2
    simp only [List.length_map, List.length_range] at h1
    simp only [List.getElem_map, List.getElem_range, List.getElem_reverse, List.length_map, List.length_range]
    omega
theorem last_find {p : Int → Bool} (is : List Int) : (is.filter p).getLast? = is.reverse.find? p := by
  rw [← head_find, List.filter_reverse, List.head?_reverse]
theorem new_is (s : MS) (m : Int) : (sameL l m (upI s.done l.wide.toNat)).head? = newOf l s m := head_find _
theorem old_is (s : MS) (m : Int) (h : 0 ≤ s.done) (hk : 0 ≤ l.kept) : (sameL l m (upI (max 0 (s.done - l.kept)) (s.done - max 0 (s.done - l.kept)).toNat)).getLast? = oldOf l s m := by
  unfold sameL oldOf
  rw [last_find, ← dn_up]
  congr 2
  omega
theorem ne_l {is : List Int} : eqW true (.d (.list (is.map .int))) (.d (.list [])) S = .ok (.d (.bool (!is.isEmpty))) S := by
  rw [w_eq rfl]
  cases is <;> simp [PyData.eqv, PyData.eqvAll]
theorem eq_l {is : List Int} : eqW false (.d (.list (is.map .int))) (.d (.list [])) S = .ok (.d (.bool is.isEmpty)) S := by
  rw [w_eq rfl]
  cases is <;> simp [PyData.eqv, PyData.eqvAll]
theorem at_m1 {is : List Int} {x : Int} (h : is.getLast? = some x) : ixG (.d (.list (is.map .int))) (.d (.int (-1))) S = .ok (.d (.int x)) S := by
  obtain ⟨ys, rfl⟩ := List.getLast?_eq_some_iff.mp h
  rw [w_ixl, List.map_append]
  show oR ((L2.atI (ys.map PyData.int ++ [PyData.int x]) (-1)).map W.d) S = _
  rw [at_last]; rfl
theorem tl_s {S : Sto} {is : List Int} {c : Int} {r : List Int} (h : is = c :: r) : ixG (.d (.list (is.map .int))) (.d (.int 0)) S = .ok (.d (.int c)) S := by
  subst h
  rw [w_ixl, List.map_cons, at_0]; rfl
theorem dz01 : decide ((0 : Int) = 1) = false := rfl
theorem dz10 : decide ((1 : Int) = 0) = false := rfl
theorem ld0 {S : Sto} : ixG (.d l.D) (.d (.int 0)) S = .ok (.d (.str (oS l.any))) S := by rw [Ln.D, w_ixt, at_0]; rfl
theorem ld2 {S : Sto} : ixG (.d l.D) (.d (.int 2)) S = .ok (.d (.int l.wide)) S := by rw [Ln.D, w_ixt, at_2]; rfl
theorem ld3 {S : Sto} : ixG (.d l.D) (.d (.int 3)) S = .ok (.d (.int l.kept)) S := by rw [Ln.D, w_ixt, at_3]; rfl
theorem house_blk (n : Nat) {B : Nat} (hl : l.Ok) (h : Iv l s B) (hB : B < 400000) (hp : DK s.put kp) (r0 : List Int) (m : Int) (x3 x11 x13 x14 x15 x16 : Option W) :
    ∃ y13 y14 kp', DK (hs l s m).put kp' ∧ ess (rt (n + 1)) b20_1 (LE l st s S.length x3 x11 (some (.d (.int m))) x13 x14 x15 x16) (LS r0 s.r1 kp kt fs S) =
      .nx (LE l st (hs l s m) S.length x3 x11 (some (.d (.int m))) y13 y14 x15 x16) (LS r0 (hs l s m).r1 kp' kt fs S) := by
  have w0 := hl.w0; have w1 := hl.w1; have k0 := hl.k0; have k1 := hl.k1
  have d0 := h.d0; have d1 := h.d1
  have lp := h.lp; have l1 := h.l1
  have eL : l.D = .tuple [.str (oS l.any), .int l.ring, .int l.wide, .int l.kept] := rfl
  have e1 : (s.done + l.wide - s.done).toNat = l.wide.toNat := by congr 1; omega
  have ew : (l.wide.toNat : Int) = l.wide := Int.toNat_of_nonneg (by omega)
  have nw := new_is (l := l) s m
  have od := old_is (l := l) s m d0 k0
  have f1 := same_list (l := l) (S := LS r0 s.r1 kp kt fs S) n hl m (upI s.done l.wide.toNat) (by unfold upI; simp; unfold cap; omega) (wipeE (LE l st s S.length x3 x11 (some (.d (.int m))) x13 x14 x15 x16) [16]) (fun d => LE l st s S.length x3 x11 (some (.d (.int m))) x13 x14 x15 (some (.d d))) (fun d => rfl) (fun d => rfl) (fun d => rfl) (fun d => rfl)
  have f2 := fun y13 => same_list (l := l) (S := LS r0 s.r1 kp kt fs S) n hl m (upI (max 0 (s.done - l.kept)) (s.done - max 0 (s.done - l.kept)).toNat) (by unfold upI; simp; unfold cap; omega) (wipeE (LE l st s S.length x3 x11 (some (.d (.int m))) y13 x14 x15 x16) [16]) (fun d => LE l st s S.length x3 x11 (some (.d (.int m))) y13 x14 x15 (some (.d d))) (fun d => rfl) (fun d => rfl) (fun d => rfl) (fun d => rfl)
  generalize hnl : sameL l m (upI s.done l.wide.toNat) = nl at nw f1
  generalize hol : sameL l m (upI (max 0 (s.done - l.kept)) (s.done - max 0 (s.done - l.kept)).toNat) = ol at od f2
  have it1 : itG (.r s.done (s.done + l.wide) 1) (LS r0 s.r1 kp kt fs S) = .ok (.fx (((upI s.done l.wide.toNat).map .int).map .d)) (LS r0 s.r1 kp kt fs S) := by
    rw [it_up (by omega) (by omega) (by omega) (by omega), e1, rgL_up]
  have it2 : itG (.r (max 0 (s.done - l.kept)) s.done 1) (LS r0 s.r1 kp kt fs S) = .ok (.fx (((upI (max 0 (s.done - l.kept)) (s.done - max 0 (s.done - l.kept)).toNat).map .int).map .d)) (LS r0 s.r1 kp kt fs S) := by
    rw [it_up (by omega) (by omega) (by omega) (by omega), rgL_up]
  have key : ∀ (s1 : MS) (kp1 : List (L2.Key × W)) (d' : Int) (y13 y14 : Option W), s1.done = s.done → s1.r1.length ≤ B + 1 → DK s1.put kp1 → Nxt s1.put s.done d' → d' ≤ s.done + l.wide → 
      whileD (tBool (xBin (inW false) (xVar 5) (xVar 6))) (ess (rt (n + 1)) b20_0) 100000 (LE l st s1 S.length x3 x11 (some (.d (.int m))) y13 y14 x15 x16) (LS r0 s1.r1 kp1 kt fs S) =
      .nx (LE l st { s1 with done := d', r1 := s1.r1 ++ upI s.done (d' - s.done).toNat } S.length x3 x11 (some (.d (.int m))) y13 y14 x15 x16) (LS r0 (s1.r1 ++ upI s.done (d' - s.done).toNat) kp1 kt fs S) := by
    intro s1 kp1 d' y13 y14 h1 h2 h3 h4 h5
    have q := done_loop (S := S) (kt := kt) (fs := fs) (n + 1) h3 (d' := d') (some (.d l.D)) (some (.d st)) (some (.c (S.length + 5))) x3 (some (.d (.int s1.sent))) [some (.d (.bool s1.tw)), some (.d (.bool s1.wr)), x11, some (.d (.int m)), y13, y14, x15, x16] 100000 s.done s1.r1 r0 h4 (by omega) (by unfold cap; omega)
    unfold LE
    rw [h1]
    exact q
  unfold hs
  cases hn : newOf l s m with
  | none =>
    have hnil : nl = [] := by
      cases nl with
      | nil => rfl
      | cons a b => rw [hn] at nw; cases nw
    cases ho : oldOf l s m with
    | none =>
      have honil : ol = [] := by
        cases ol with
        | nil => rfl
        | cons a b => rw [ho] at od; cases hz : (a :: b).getLast? with
          | none => simp at hz
          | some z => rw [hz] at od; cases od
      subst hnil honil
      have kk := key s kp s.done (some (.d (.list []))) (some (.d (.list []))) rfl (by omega) hp ⟨Int.le_refl _, h.pd, fun x x1 x2 => by omega⟩ (by omega)
      have z : (s.done - s.done).toNat = 0 := by omega
      rw [z, upI_0, List.append_nil] at kk
      refine ⟨some (.d (.list [])), some (.d (.list [])), kp, hp, ?_⟩
      rw [b20_1]
      simp only [LE] at f1 f2 kk ⊢
      simp only [ess, es, et, ets, eto, ei, eg, egs, pv, sRet, sRetN, sNil, sIf, sAsg, sPar, sExp, sBrk, sCnt, xIte, xCall, xCons, xNil, xVar, xCon, xBin, xUn, xDic, tAnd, tOr, tNot, tBad, xBad, oNone, oSome, gNm, gsNil, gsCons, Bi.go, Tn.nm, Mt.go, Mt.rc, cmG, opG, Gxs.len, q_ok, q_bad, q_exc, q_ite, o_ok, o_bad, o_exc, o_ite, a_nx, a_rt, a_bk, a_ct, a_bad, a_ite, t_nx, t_ct, t_bk, t_rt, t_bad, t_ite, r_rt, r_nx, r_bad, r_ite, k_b, q_b, n_b, t_b, t_i, t_n, t_l, t_t, e_and, e_or, e_not, e_chn, e_bool, e_val, e_seq, w_add, w_sub, w_mul, w_div, w_mod, w_ord, w_neg, w_isn, w_isnn, w_isb, w_isbn, w_eqi, w_nei, w_eqs, w_nes, w_eqb, w_neb, w_lent, w_lenl, e_tup, e_tupc, e_lst, e_lstc, td_0, td_1, td_2, td_3, td_4, td_5, td_6, ld_0, ld_1, ld_2, ld_3, ld_4, ld_5, ld_6, ld_7, w_ixt, w_ixl, at_0, at_1, at_2, at_3, om_some, or_some, e_lc, e_gfd, e_gsb, e_mth, e_met, w_max, w_min, w_rg1, w_rg2, w_rgd, e_ival, it_l, it_t, e_for, v_fx, v_cel, l_t, isiG, tyN, isiB, isiTs, List.mem_cons, List.not_mem_nil, or_false, false_or, or_true, true_or, decide_true, decide_false, Bool.or_false, Bool.false_or, Bool.true_or, Bool.or_true, Bool.and_false, Bool.and_true, Bool.true_and, Bool.false_and, Bool.not_true, Bool.not_false, List.map_cons, List.map_nil, List.replicate_zero, List.replicate_succ, List.cons_append, List.nil_append, List.length_cons, List.length_nil, List.getElem?_cons_zero, List.getElem?_cons_succ, List.getElem?_nil, List.set_cons_zero, List.set_cons_succ, if_true, if_false, Bool.false_eq_true, reduceIte, ite_self, ld2, ld3, it1, it2, f1, f2]
      have z1 : ∀ S : Sto, eqW true (.d (.list (([] : List Int).map .int))) (.d (.list [])) S = .ok (.d (.bool false)) S := fun S => ne_l
      have z2 : ∀ S : Sto, eqW false (.d (.list (([] : List Int).map .int))) (.d (.list [])) S = .ok (.d (.bool true)) S := fun S => eq_l
      simp only [List.map_nil] at z1 z2
      simp only [ess, es, et, ets, eto, ei, eg, egs, pv, sRet, sRetN, sNil, sIf, sAsg, sPar, sExp, sBrk, sCnt, xIte, xCall, xCons, xNil, xVar, xCon, xBin, xUn, xDic, tAnd, tOr, tNot, tBad, xBad, oNone, oSome, gNm, gsNil, gsCons, Bi.go, Tn.nm, Mt.go, Mt.rc, cmG, opG, Gxs.len, q_ok, q_bad, q_exc, q_ite, o_ok, o_bad, o_exc, o_ite, a_nx, a_rt, a_bk, a_ct, a_bad, a_ite, t_nx, t_ct, t_bk, t_rt, t_bad, t_ite, r_rt, r_nx, r_bad, r_ite, k_b, q_b, n_b, t_b, t_i, t_n, t_l, t_t, e_and, e_or, e_not, e_chn, e_bool, e_val, e_seq, w_add, w_sub, w_mul, w_div, w_mod, w_ord, w_neg, w_isn, w_isnn, w_isb, w_isbn, w_eqi, w_nei, w_eqs, w_nes, w_eqb, w_neb, w_lent, w_lenl, e_tup, e_tupc, e_lst, e_lstc, td_0, td_1, td_2, td_3, td_4, td_5, td_6, ld_0, ld_1, ld_2, ld_3, ld_4, ld_5, ld_6, ld_7, w_ixt, w_ixl, at_0, at_1, at_2, at_3, om_some, or_some, e_lc, e_gfd, e_gsb, e_mth, e_met, w_max, w_min, w_rg1, w_rg2, w_rgd, e_ival, it_l, it_t, e_for, v_fx, v_cel, l_t, isiG, tyN, isiB, isiTs, List.mem_cons, List.not_mem_nil, or_false, false_or, or_true, true_or, decide_true, decide_false, Bool.or_false, Bool.false_or, Bool.true_or, Bool.or_true, Bool.and_false, Bool.and_true, Bool.true_and, Bool.false_and, Bool.not_true, Bool.not_false, List.map_cons, List.map_nil, List.replicate_zero, List.replicate_succ, List.cons_append, List.nil_append, List.length_cons, List.length_nil, List.getElem?_cons_zero, List.getElem?_cons_succ, List.getElem?_nil, List.set_cons_zero, List.set_cons_succ, if_true, if_false, Bool.false_eq_true, reduceIte, ite_self, z1, z2]
      rw [kk]
      rfl
    | some c =>
      subst hnil
      have hone : (!ol.isEmpty) = true := by
        cases ol with
        | nil => rw [ho] at od; cases od
        | cons a b => rfl
      have hlast : ol.getLast? = some c := by rw [od, ho]
      have kk := key { s with r1 := s.r1 ++ [c] } kp s.done (some (.d (.list []))) (some (.d (.list (ol.map .int)))) rfl (by show (s.r1 ++ [c]).length ≤ _; simp; omega) hp ⟨Int.le_refl _, h.pd, fun x x1 x2 => by omega⟩ (by omega)
      have z : (s.done - s.done).toNat = 0 := by omega
      rw [z, upI_0, List.append_nil] at kk
      refine ⟨some (.d (.list [])), some (.d (.list (ol.map .int))), kp, hp, ?_⟩
      rw [b20_1]
      simp only [LE] at f1 f2 kk ⊢
      simp only [ess, es, et, ets, eto, ei, eg, egs, pv, sRet, sRetN, sNil, sIf, sAsg, sPar, sExp, sBrk, sCnt, xIte, xCall, xCons, xNil, xVar, xCon, xBin, xUn, xDic, tAnd, tOr, tNot, tBad, xBad, oNone, oSome, gNm, gsNil, gsCons, Bi.go, Tn.nm, Mt.go, Mt.rc, cmG, opG, Gxs.len, q_ok, q_bad, q_exc, q_ite, o_ok, o_bad, o_exc, o_ite, a_nx, a_rt, a_bk, a_ct, a_bad, a_ite, t_nx, t_ct, t_bk, t_rt, t_bad, t_ite, r_rt, r_nx, r_bad, r_ite, k_b, q_b, n_b, t_b, t_i, t_n, t_l, t_t, e_and, e_or, e_not, e_chn, e_bool, e_val, e_seq, w_add, w_sub, w_mul, w_div, w_mod, w_ord, w_neg, w_isn, w_isnn, w_isb, w_isbn, w_eqi, w_nei, w_eqs, w_nes, w_eqb, w_neb, w_lent, w_lenl, e_tup, e_tupc, e_lst, e_lstc, td_0, td_1, td_2, td_3, td_4, td_5, td_6, ld_0, ld_1, ld_2, ld_3, ld_4, ld_5, ld_6, ld_7, w_ixt, w_ixl, at_0, at_1, at_2, at_3, om_some, or_some, e_lc, e_gfd, e_gsb, e_mth, e_met, w_max, w_min, w_rg1, w_rg2, w_rgd, e_ival, it_l, it_t, e_for, v_fx, v_cel, l_t, isiG, tyN, isiB, isiTs, List.mem_cons, List.not_mem_nil, or_false, false_or, or_true, true_or, decide_true, decide_false, Bool.or_false, Bool.false_or, Bool.true_or, Bool.or_true, Bool.and_false, Bool.and_true, Bool.true_and, Bool.false_and, Bool.not_true, Bool.not_false, List.map_cons, List.map_nil, List.replicate_zero, List.replicate_succ, List.cons_append, List.nil_append, List.length_cons, List.length_nil, List.getElem?_cons_zero, List.getElem?_cons_succ, List.getElem?_nil, List.set_cons_zero, List.set_cons_succ, if_true, if_false, Bool.false_eq_true, reduceIte, ite_self, ld2, ld3, it1, it2, f1, f2]
      have z1 : ∀ S : Sto, eqW true (.d (.list (([] : List Int).map .int))) (.d (.list [])) S = .ok (.d (.bool false)) S := fun S => ne_l
      have z2 : ∀ S : Sto, eqW false (.d (.list (([] : List Int).map .int))) (.d (.list [])) S = .ok (.d (.bool true)) S := fun S => eq_l
      have z3 : ∀ S : Sto, eqW true (.d (.list (ol.map .int))) (.d (.list [])) S = .ok (.d (.bool true)) S := fun S => by rw [ne_l, hone]
      simp only [List.map_nil] at z1 z2
      simp only [ess, es, et, ets, eto, ei, eg, egs, pv, sRet, sRetN, sNil, sIf, sAsg, sPar, sExp, sBrk, sCnt, xIte, xCall, xCons, xNil, xVar, xCon, xBin, xUn, xDic, tAnd, tOr, tNot, tBad, xBad, oNone, oSome, gNm, gsNil, gsCons, Bi.go, Tn.nm, Mt.go, Mt.rc, cmG, opG, Gxs.len, q_ok, q_bad, q_exc, q_ite, o_ok, o_bad, o_exc, o_ite, a_nx, a_rt, a_bk, a_ct, a_bad, a_ite, t_nx, t_ct, t_bk, t_rt, t_bad, t_ite, r_rt, r_nx, r_bad, r_ite, k_b, q_b, n_b, t_b, t_i, t_n, t_l, t_t, e_and, e_or, e_not, e_chn, e_bool, e_val, e_seq, w_add, w_sub, w_mul, w_div, w_mod, w_ord, w_neg, w_isn, w_isnn, w_isb, w_isbn, w_eqi, w_nei, w_eqs, w_nes, w_eqb, w_neb, w_lent, w_lenl, e_tup, e_tupc, e_lst, e_lstc, td_0, td_1, td_2, td_3, td_4, td_5, td_6, ld_0, ld_1, ld_2, ld_3, ld_4, ld_5, ld_6, ld_7, w_ixt, w_ixl, at_0, at_1, at_2, at_3, om_some, or_some, e_lc, e_gfd, e_gsb, e_mth, e_met, w_max, w_min, w_rg1, w_rg2, w_rgd, e_ival, it_l, it_t, e_for, v_fx, v_cel, l_t, isiG, tyN, isiB, isiTs, List.mem_cons, List.not_mem_nil, or_false, false_or, or_true, true_or, decide_true, decide_false, Bool.or_false, Bool.false_or, Bool.true_or, Bool.or_true, Bool.and_false, Bool.and_true, Bool.true_and, Bool.false_and, Bool.not_true, Bool.not_false, List.map_cons, List.map_nil, List.replicate_zero, List.replicate_succ, List.cons_append, List.nil_append, List.length_cons, List.length_nil, List.getElem?_cons_zero, List.getElem?_cons_succ, List.getElem?_nil, List.set_cons_zero, List.set_cons_succ, if_true, if_false, Bool.false_eq_true, reduceIte, ite_self, z1, z2, z3, w_neg, y_1, k_r1, at_m1 hlast, q_r1 (r0 := r0) (r1 := s.r1) (kp := kp) (kt := kt) (fs := fs) (S := S) (x := c) (by unfold cap; omega)]
      rw [kk]
      rfl
  | some c =>
    obtain ⟨r, hnl2⟩ : ∃ r, nl = c :: r := by
      cases nl with
      | nil => rw [hn] at nw; cases nw
      | cons a b =>
        rw [hn] at nw
        cases nw
        exact ⟨b, rfl⟩
    have hne : (!nl.isEmpty) = true := by rw [hnl2]; rfl
    have hem : nl.isEmpty = false := by rw [hnl2]; rfl
    have hc : s.done ≤ c ∧ c < s.done + l.wide := by
      have h1 := List.mem_of_find?_eq_some hn
      have h2 := mem_upI.mp h1
      omega
    have z1 : ∀ S : Sto, eqW true (.d (.list (nl.map .int))) (.d (.list [])) S = .ok (.d (.bool true)) S := fun S => by rw [ne_l, hne]
    have z2 : ∀ S : Sto, eqW false (.d (.list (nl.map .int))) (.d (.list [])) S = .ok (.d (.bool false)) S := fun S => by rw [eq_l, hem]
    have z4 : ∀ S : Sto, ixG (.d (.list (nl.map .int))) (.d (.int 0)) S = .ok (.d (.int c)) S := fun S => tl_s hnl2
    by_cases hcp : c ∈ s.put
    · have kk := key s kp s.done (some (.d (.list (nl.map .int)))) (some (.d (.list (ol.map .int)))) rfl (by omega) hp ⟨Int.le_refl _, h.pd, fun x x1 x2 => by omega⟩ (by omega)
      have z : (s.done - s.done).toNat = 0 := by omega
      rw [z, upI_0, List.append_nil] at kk
      have e2 : putN s c m = s := by unfold putN; rw [decide_eq_true hcp]; rfl
      have e3 : adv (upI s.done l.wide.toNat) s = s := by
        rw [adv_is l.wide.toNat s (d' := s.done) ⟨Int.le_refl _, h.pd, fun x x1 x2 => by omega⟩ (by omega), z, upI_0, List.append_nil]
      refine ⟨some (.d (.list (nl.map .int))), some (.d (.list (ol.map .int))), kp, ?_, ?_⟩
      · show DK (adv (upI s.done l.wide.toNat) (putN s c m)).put kp
        rw [e2, e3]; exact hp
      · show _ = Out.nx (LE l st (adv (upI s.done l.wide.toNat) (putN s c m)) S.length x3 x11 (some (.d (.int m))) _ _ x15 x16) (LS r0 (adv (upI s.done l.wide.toNat) (putN s c m)).r1 kp kt fs S)
        rw [e2, e3, b20_1]
        have hin : ∀ S' : Sto, S'[S.length]? = some (.dic kp) → inW true (.d (.int c)) (.c S.length) S' = .ok (.d (.bool false)) S' := fun S' hS => by rw [w_indic hS, dk_get hp, decide_eq_true hcp]; rfl
        simp only [LE] at f1 f2 kk ⊢
        simp only [ess, es, et, ets, eto, ei, eg, egs, pv, sRet, sRetN, sNil, sIf, sAsg, sPar, sExp, sBrk, sCnt, xIte, xCall, xCons, xNil, xVar, xCon, xBin, xUn, xDic, tAnd, tOr, tNot, tBad, xBad, oNone, oSome, gNm, gsNil, gsCons, Bi.go, Tn.nm, Mt.go, Mt.rc, cmG, opG, Gxs.len, q_ok, q_bad, q_exc, q_ite, o_ok, o_bad, o_exc, o_ite, a_nx, a_rt, a_bk, a_ct, a_bad, a_ite, t_nx, t_ct, t_bk, t_rt, t_bad, t_ite, r_rt, r_nx, r_bad, r_ite, k_b, q_b, n_b, t_b, t_i, t_n, t_l, t_t, e_and, e_or, e_not, e_chn, e_bool, e_val, e_seq, w_add, w_sub, w_mul, w_div, w_mod, w_ord, w_neg, w_isn, w_isnn, w_isb, w_isbn, w_eqi, w_nei, w_eqs, w_nes, w_eqb, w_neb, w_lent, w_lenl, e_tup, e_tupc, e_lst, e_lstc, td_0, td_1, td_2, td_3, td_4, td_5, td_6, ld_0, ld_1, ld_2, ld_3, ld_4, ld_5, ld_6, ld_7, w_ixt, w_ixl, at_0, at_1, at_2, at_3, om_some, or_some, e_lc, e_gfd, e_gsb, e_mth, e_met, w_max, w_min, w_rg1, w_rg2, w_rgd, e_ival, it_l, it_t, e_for, v_fx, v_cel, l_t, isiG, tyN, isiB, isiTs, List.mem_cons, List.not_mem_nil, or_false, false_or, or_true, true_or, decide_true, decide_false, Bool.or_false, Bool.false_or, Bool.true_or, Bool.or_true, Bool.and_false, Bool.and_true, Bool.true_and, Bool.false_and, Bool.not_true, Bool.not_false, List.map_cons, List.map_nil, List.replicate_zero, List.replicate_succ, List.cons_append, List.nil_append, List.length_cons, List.length_nil, List.getElem?_cons_zero, List.getElem?_cons_succ, List.getElem?_nil, List.set_cons_zero, List.set_cons_succ, if_true, if_false, Bool.false_eq_true, reduceIte, ite_self, ld2, ld3, it1, it2, f1, f2, z1, z2, z4, hin _ h_0]
        rw [kk]
        rfl
    · have hpu : ∀ x ∈ s.put ++ [c], x < s.done + (l.wide.toNat : Int) := fun x hx => by
        rw [ew]
        rcases List.mem_append.mp hx with z | z
        · exact h.pb x z
        · have : x = c := by simpa using z
          omega
      obtain ⟨d', hN, hdl⟩ := Nxt.has (put := s.put ++ [c]) (d := s.done) l.wide.toNat hpu
      have dp := dk_put (v := .d (.int m)) hp hcp
      have e2 : putN s c m = { s with put := s.put ++ [c], tw := s.tw || !decide (c = m) } := by unfold putN; rw [decide_eq_false hcp]; rfl
      have e3 := adv_is l.wide.toNat (putN s c m) (d' := d') (by rw [e2]; exact hN) (by rw [e2]; exact hdl)
      have e4 : (putN s c m).done = s.done := by rw [e2]
      rw [e4] at e3
      have kk := key (putN s c m) (kp ++ [(.inl c, .d (.int m))]) d' (some (.d (.list (nl.map .int)))) (some (.d (.list (ol.map .int)))) e4 (by rw [e2]; show s.r1.length ≤ _; omega) (by rw [e2]; exact dp.2) (by rw [e2]; exact hN) (by omega)
      refine ⟨some (.d (.list (nl.map .int))), some (.d (.list (ol.map .int))), kp ++ [(.inl c, .d (.int m))], ?_, ?_⟩
      · show DK (adv (upI s.done l.wide.toNat) (putN s c m)).put _
        rw [e3, e2]; exact dp.2
      · show _ = Out.nx (LE l st (adv (upI s.done l.wide.toNat) (putN s c m)) S.length x3 x11 (some (.d (.int m))) _ _ x15 x16) (LS r0 (adv (upI s.done l.wide.toNat) (putN s c m)).r1 _ kt fs S)
        rw [e3]
        have hin : ∀ S' : Sto, S'[S.length]? = some (.dic kp) → inW true (.d (.int c)) (.c S.length) S' = .ok (.d (.bool true)) S' := fun S' hS => by rw [w_indic hS, dk_get hp, decide_eq_false hcp]; rfl
        have hset := st_put (r0 := r0) (r1 := s.r1) (kt := kt) (fs := fs) (S := S) (v := .d (.int m)) hp hcp (by unfold cap; omega)
        rw [b20_1]
        rw [e2] at kk ⊢
        simp only [LE] at f1 f2 kk ⊢
        cases hw : s.tw with
        | true =>
          rw [hw] at f1 f2 kk
          simp only [ess, es, et, ets, eto, ei, eg, egs, pv, sRet, sRetN, sNil, sIf, sAsg, sPar, sExp, sBrk, sCnt, xIte, xCall, xCons, xNil, xVar, xCon, xBin, xUn, xDic, tAnd, tOr, tNot, tBad, xBad, oNone, oSome, gNm, gsNil, gsCons, Bi.go, Tn.nm, Mt.go, Mt.rc, cmG, opG, Gxs.len, q_ok, q_bad, q_exc, q_ite, o_ok, o_bad, o_exc, o_ite, a_nx, a_rt, a_bk, a_ct, a_bad, a_ite, t_nx, t_ct, t_bk, t_rt, t_bad, t_ite, r_rt, r_nx, r_bad, r_ite, k_b, q_b, n_b, t_b, t_i, t_n, t_l, t_t, e_and, e_or, e_not, e_chn, e_bool, e_val, e_seq, w_add, w_sub, w_mul, w_div, w_mod, w_ord, w_neg, w_isn, w_isnn, w_isb, w_isbn, w_eqi, w_nei, w_eqs, w_nes, w_eqb, w_neb, w_lent, w_lenl, e_tup, e_tupc, e_lst, e_lstc, td_0, td_1, td_2, td_3, td_4, td_5, td_6, ld_0, ld_1, ld_2, ld_3, ld_4, ld_5, ld_6, ld_7, w_ixt, w_ixl, at_0, at_1, at_2, at_3, om_some, or_some, e_lc, e_gfd, e_gsb, e_mth, e_met, w_max, w_min, w_rg1, w_rg2, w_rgd, e_ival, it_l, it_t, e_for, v_fx, v_cel, l_t, isiG, tyN, isiB, isiTs, List.mem_cons, List.not_mem_nil, or_false, false_or, or_true, true_or, decide_true, decide_false, Bool.or_false, Bool.false_or, Bool.true_or, Bool.or_true, Bool.and_false, Bool.and_true, Bool.true_and, Bool.false_and, Bool.not_true, Bool.not_false, List.map_cons, List.map_nil, List.replicate_zero, List.replicate_succ, List.cons_append, List.nil_append, List.length_cons, List.length_nil, List.getElem?_cons_zero, List.getElem?_cons_succ, List.getElem?_nil, List.set_cons_zero, List.set_cons_succ, if_true, if_false, Bool.false_eq_true, reduceIte, ite_self, ld2, ld3, it1, it2, f1, f2, z1, z2, z4, hin _ h_0, e_gsb, hset]
          simp only [Bool.true_or, Bool.false_or] at kk
          rw [kk]
          rfl
        | false =>
          rw [hw] at f1 f2 kk
          simp only [ess, es, et, ets, eto, ei, eg, egs, pv, sRet, sRetN, sNil, sIf, sAsg, sPar, sExp, sBrk, sCnt, xIte, xCall, xCons, xNil, xVar, xCon, xBin, xUn, xDic, tAnd, tOr, tNot, tBad, xBad, oNone, oSome, gNm, gsNil, gsCons, Bi.go, Tn.nm, Mt.go, Mt.rc, cmG, opG, Gxs.len, q_ok, q_bad, q_exc, q_ite, o_ok, o_bad, o_exc, o_ite, a_nx, a_rt, a_bk, a_ct, a_bad, a_ite, t_nx, t_ct, t_bk, t_rt, t_bad, t_ite, r_rt, r_nx, r_bad, r_ite, k_b, q_b, n_b, t_b, t_i, t_n, t_l, t_t, e_and, e_or, e_not, e_chn, e_bool, e_val, e_seq, w_add, w_sub, w_mul, w_div, w_mod, w_ord, w_neg, w_isn, w_isnn, w_isb, w_isbn, w_eqi, w_nei, w_eqs, w_nes, w_eqb, w_neb, w_lent, w_lenl, e_tup, e_tupc, e_lst, e_lstc, td_0, td_1, td_2, td_3, td_4, td_5, td_6, ld_0, ld_1, ld_2, ld_3, ld_4, ld_5, ld_6, ld_7, w_ixt, w_ixl, at_0, at_1, at_2, at_3, om_some, or_some, e_lc, e_gfd, e_gsb, e_mth, e_met, w_max, w_min, w_rg1, w_rg2, w_rgd, e_ival, it_l, it_t, e_for, v_fx, v_cel, l_t, isiG, tyN, isiB, isiTs, List.mem_cons, List.not_mem_nil, or_false, false_or, or_true, true_or, decide_true, decide_false, Bool.or_false, Bool.false_or, Bool.true_or, Bool.or_true, Bool.and_false, Bool.and_true, Bool.true_and, Bool.false_and, Bool.not_true, Bool.not_false, List.map_cons, List.map_nil, List.replicate_zero, List.replicate_succ, List.cons_append, List.nil_append, List.length_cons, List.length_nil, List.getElem?_cons_zero, List.getElem?_cons_succ, List.getElem?_nil, List.set_cons_zero, List.set_cons_succ, if_true, if_false, Bool.false_eq_true, reduceIte, ite_self, ld2, ld3, it1, it2, f1, f2, z1, z2, z4, hin _ h_0, e_gsb, hset]
          simp only [Bool.true_or, Bool.false_or] at kk
          rw [kk]
          rfl
theorem hs_ans {l : Ln} {s : MS} {B : Nat} (hl : l.Ok) (h : Iv l s B) (m : Int) : (hs l s m).ans = s.ans := by
  unfold hs
  cases newOf l s m with
  | none => cases oldOf l s m <;> rfl
  | some c =>
    have key : ∀ (cs : List Int) (s : MS), (adv cs s).ans = s.ans := by
      intro cs
      induction cs with
      | nil => intro s; rfl
      | cons c cs ih =>
        intro s
        show (adv cs (adv1 c s)).ans = _
        rw [ih]
        unfold adv1
        split <;> rfl
    show (adv _ (putN s c m)).ans = _
    rw [key]
    unfold putN
    split <;> rfl
theorem turn_bring0 (n : Nat) {B : Nat} (hl : l.Ok) (h : Iv l s B) (hB : B < 400000) (hp : DK s.put kp) (ht : DK s.ans kt) (hf : fs.length < cap) {i : Int} {k : Bool} (hc : (Sp.bring 0 i k).Ok) (x11 x12 x13 x14 x15 x16 : Option W) :
    TurnOk (n + 2) l st s kp kt fs S (.bring 0 i k) x11 x12 x13 x14 x15 x16 := by
  have hi : 0 ≤ i := hc.2.1
  have hr : s.r0.length ≤ cap := by have := h.l0; unfold cap; omega
  have hd : doP l s (.bring 0 i k) = match s.r0[i.toNat]? with
    | none => none
    | some m => if (!l.any && decide (0 < i)) = true then none else some (hs l (if k = true then s else { s with r0 := s.r0.eraseIdx i.toNat }) m) := rfl
  have ed : (Sp.bring 0 i k).D = .tuple [.str ("bring" : Str), .int 0, .int ((i.toNat : Nat) : Int), .bool k] := by rw [Int.toNat_of_nonneg hi]; rfl
  have e0 : decide (0 < ((i.toNat : Nat) : Int)) = decide (0 < i) := by congr 1; rw [Int.toNat_of_nonneg hi]
  have eL : l.D = .tuple [.str (oS l.any), .int l.ring, .int l.wide, .int l.kept] := rfl
  unfold TurnOk
  cases hx : s.r0[i.toNat]? with
  | none =>
    rw [hd, hx, b20_3, LE, ed]
    have : s.r0.length ≤ i.toNat := List.getElem?_eq_none_iff.mp hx
    have hg : decide ((s.r0.length : Int) ≤ ((i.toNat : Nat) : Int)) = true := decide_eq_true (by omega)
    refine ⟨LT s.r0 s.r1 kp kt fs S.length, ?_⟩
    simp only [ess, es, et, ets, eto, ei, eg, egs, pv, sRet, sRetN, sNil, sIf, sAsg, sPar, sExp, sBrk, sCnt, xIte, xCall, xCons, xNil, xVar, xCon, xBin, xUn, xDic, tAnd, tOr, tNot, tBad, xBad, oNone, oSome, gNm, gsNil, gsCons, Bi.go, Tn.nm, Mt.go, Mt.rc, cmG, opG, Gxs.len, q_ok, q_bad, q_exc, q_ite, o_ok, o_bad, o_exc, o_ite, a_nx, a_rt, a_bk, a_ct, a_bad, a_ite, t_nx, t_ct, t_bk, t_rt, t_bad, t_ite, r_rt, r_nx, r_bad, r_ite, k_b, q_b, n_b, t_b, t_i, t_n, t_l, t_t, e_and, e_or, e_not, e_chn, e_bool, e_val, e_seq, w_add, w_sub, w_mul, w_div, w_mod, w_ord, w_neg, w_isn, w_isnn, w_isb, w_isbn, w_eqi, w_nei, w_eqs, w_nes, w_eqb, w_neb, w_lent, w_lenl, e_tup, e_tupc, e_lst, e_lstc, td_0, td_1, td_2, td_3, td_4, td_5, td_6, ld_0, ld_1, ld_2, ld_3, ld_4, ld_5, ld_6, ld_7, w_ixt, w_ixl, at_0, at_1, at_2, at_3, om_some, or_some, e_lc, e_gfd, e_gsb, e_mth, e_met, w_max, w_min, w_rg1, w_rg2, w_rgd, e_ival, it_l, it_t, e_for, v_fx, v_cel, l_t, isiG, tyN, isiB, isiTs, List.mem_cons, List.not_mem_nil, or_false, false_or, or_true, true_or, decide_true, decide_false, Bool.or_false, Bool.false_or, Bool.true_or, Bool.or_true, Bool.and_false, Bool.and_true, Bool.true_and, Bool.false_and, Bool.not_true, Bool.not_false, List.map_cons, List.map_nil, List.replicate_zero, List.replicate_succ, List.cons_append, List.nil_append, List.length_cons, List.length_nil, List.getElem?_cons_zero, List.getElem?_cons_succ, List.getElem?_nil, List.set_cons_zero, List.set_cons_succ, if_true, if_false, Bool.false_eq_true, reduceIte, ite_self, b20_2, s2, y_0, y_1, ln_r0, hg]
    rfl
  | some m =>
    have hlt : i.toNat < s.r0.length := (List.getElem?_eq_some_iff.mp hx).1
    have hg : decide ((s.r0.length : Int) ≤ ((i.toNat : Nat) : Int)) = false := decide_eq_false (by omega)
    cases hk : (!l.any && decide (0 < i)) with
    | true =>
      have e : doP l s (.bring 0 i k) = none := by
        rw [hd, hx]
        show (if (!l.any && decide (0 < i)) = true then _ else _) = _
        rw [hk]; rfl
      rw [e, b20_3, LE, ed]
      have hk2 : (!l.any) = true ∧ decide (0 < i) = true := by rwa [Bool.and_eq_true] at hk
      refine ⟨LT s.r0 s.r1 kp kt fs S.length, ?_⟩
      rw [eL]
      simp only [ess, es, et, ets, eto, ei, eg, egs, pv, sRet, sRetN, sNil, sIf, sAsg, sPar, sExp, sBrk, sCnt, xIte, xCall, xCons, xNil, xVar, xCon, xBin, xUn, xDic, tAnd, tOr, tNot, tBad, xBad, oNone, oSome, gNm, gsNil, gsCons, Bi.go, Tn.nm, Mt.go, Mt.rc, cmG, opG, Gxs.len, q_ok, q_bad, q_exc, q_ite, o_ok, o_bad, o_exc, o_ite, a_nx, a_rt, a_bk, a_ct, a_bad, a_ite, t_nx, t_ct, t_bk, t_rt, t_bad, t_ite, r_rt, r_nx, r_bad, r_ite, k_b, q_b, n_b, t_b, t_i, t_n, t_l, t_t, e_and, e_or, e_not, e_chn, e_bool, e_val, e_seq, w_add, w_sub, w_mul, w_div, w_mod, w_ord, w_neg, w_isn, w_isnn, w_isb, w_isbn, w_eqi, w_nei, w_eqs, w_nes, w_eqb, w_neb, w_lent, w_lenl, e_tup, e_tupc, e_lst, e_lstc, td_0, td_1, td_2, td_3, td_4, td_5, td_6, ld_0, ld_1, ld_2, ld_3, ld_4, ld_5, ld_6, ld_7, w_ixt, w_ixl, at_0, at_1, at_2, at_3, om_some, or_some, e_lc, e_gfd, e_gsb, e_mth, e_met, w_max, w_min, w_rg1, w_rg2, w_rgd, e_ival, it_l, it_t, e_for, v_fx, v_cel, l_t, isiG, tyN, isiB, isiTs, List.mem_cons, List.not_mem_nil, or_false, false_or, or_true, true_or, decide_true, decide_false, Bool.or_false, Bool.false_or, Bool.true_or, Bool.or_true, Bool.and_false, Bool.and_true, Bool.true_and, Bool.false_and, Bool.not_true, Bool.not_false, List.map_cons, List.map_nil, List.replicate_zero, List.replicate_succ, List.cons_append, List.nil_append, List.length_cons, List.length_nil, List.getElem?_cons_zero, List.getElem?_cons_succ, List.getElem?_nil, List.set_cons_zero, List.set_cons_succ, if_true, if_false, Bool.false_eq_true, reduceIte, ite_self, b20_2, s2, y_0, y_1, ln_r0, hg, oS_kept, hk2.1, e0, hk2.2]
      rfl
    | false =>
      have e : doP l s (.bring 0 i k) = some (hs l (if k = true then s else { s with r0 := s.r0.eraseIdx i.toNat }) m) := by
        rw [hd, hx]
        show (if (!l.any && decide (0 < i)) = true then _ else _) = _
        rw [hk]; rfl
      have h' := doP_iv hl h hc e
      have hk2 : (!l.any) = false ∨ decide (0 < i) = false := by
        cases ha : (!l.any) with
        | false => exact .inl rfl
        | true => rw [ha] at hk; exact .inr hk
      have hfin : ∀ (s1 : MS) (r0' : List Int), Iv l s1 B → s1.sent = s.sent → s1.done = s.done → s1.tw = s.tw → s1.wr = s.wr → s1.r1 = s.r1 → s1.put = s.put → s1.ans = s.ans → s1.r0 = r0' → ∃ y13 y14 kp', DK (hs l s1 m).put kp' ∧ DK (hs l s1 m).ans kt ∧
          ess (rt (n + 2)) b20_1 (LE l st s S.length (some (.d (Sp.bring 0 i k).D)) (some (.c (S.length + 2))) (some (.d (.int m))) x13 x14 x15 x16) (LS r0' s.r1 kp kt fs S) =
          .nx (LE l st (hs l s1 m) S.length (some (.d (Sp.bring 0 i k).D)) (some (.c (S.length + 2))) (some (.d (.int m))) y13 y14 x15 x16) (LS (hs l s1 m).r0 (hs l s1 m).r1 kp' kt fs S) := by
        intro s1 r0' g1 g2 g3 g4 g5 g6 g7 g8 g9
        obtain ⟨y13, y14, kp', q1, q2⟩ := house_blk (S := S) (kt := kt) (fs := fs) (st := st) (n + 1) hl g1 hB (by rw [g7]; exact hp) r0' m (some (.d (Sp.bring 0 i k).D)) (some (.c (S.length + 2))) x13 x14 x15 x16
        refine ⟨y13, y14, kp', q1, ?_, ?_⟩
        · have : (hs l s1 m).ans = s1.ans := hs_ans hl g1 m
          rw [this, g8]; exact ht
        · rw [(hs_iv hl g1 m).2, g9, ← g6]
          unfold LE at q2 ⊢
          rw [← g2, ← g3, ← g4, ← g5]
          exact q2
      cases k with
      | true =>
        have e' : doP l s (.bring 0 i true) = some (hs l s m) := e
        have h' : Iv l (hs l s m) (B + 17) := h'
        rw [e']
        obtain ⟨y13, y14, kp', q1, q3, q2⟩ := hfin s s.r0 h rfl rfl rfl rfl rfl rfl rfl rfl
        have a2 := words_ok (l := l) (S := LS (hs l s m).r0 (hs l s m).r1 kp' kt fs S) h' h_1 q3 h_3 (n + 1)
        refine ⟨some (.c (S.length + 2)), some (.d (.int m)), y13, y14, x15, x16, kp', kt, q1, q3, ?_⟩
        rw [b20_3, LE]
        rw [ed] at q2 ⊢
        simp only [LE] at q2 ⊢
        rcases hk2 with hk2 | hk2 <;> simp only [ess, es, et, ets, eto, ei, eg, egs, pv, sRet, sRetN, sNil, sIf, sAsg, sPar, sExp, sBrk, sCnt, xIte, xCall, xCons, xNil, xVar, xCon, xBin, xUn, xDic, tAnd, tOr, tNot, tBad, xBad, oNone, oSome, gNm, gsNil, gsCons, Bi.go, Tn.nm, Mt.go, Mt.rc, cmG, opG, Gxs.len, q_ok, q_bad, q_exc, q_ite, o_ok, o_bad, o_exc, o_ite, a_nx, a_rt, a_bk, a_ct, a_bad, a_ite, t_nx, t_ct, t_bk, t_rt, t_bad, t_ite, r_rt, r_nx, r_bad, r_ite, k_b, q_b, n_b, t_b, t_i, t_n, t_l, t_t, e_and, e_or, e_not, e_chn, e_bool, e_val, e_seq, w_add, w_sub, w_mul, w_div, w_mod, w_ord, w_neg, w_isn, w_isnn, w_isb, w_isbn, w_eqi, w_nei, w_eqs, w_nes, w_eqb, w_neb, w_lent, w_lenl, e_tup, e_tupc, e_lst, e_lstc, td_0, td_1, td_2, td_3, td_4, td_5, td_6, ld_0, ld_1, ld_2, ld_3, ld_4, ld_5, ld_6, ld_7, w_ixt, w_ixl, at_0, at_1, at_2, at_3, om_some, or_some, e_lc, e_gfd, e_gsb, e_mth, e_met, w_max, w_min, w_rg1, w_rg2, w_rgd, e_ival, it_l, it_t, e_for, v_fx, v_cel, l_t, isiG, tyN, isiB, isiTs, List.mem_cons, List.not_mem_nil, or_false, false_or, or_true, true_or, decide_true, decide_false, Bool.or_false, Bool.false_or, Bool.true_or, Bool.or_true, Bool.and_false, Bool.and_true, Bool.true_and, Bool.false_and, Bool.not_true, Bool.not_false, List.map_cons, List.map_nil, List.replicate_zero, List.replicate_succ, List.cons_append, List.nil_append, List.length_cons, List.length_nil, List.getElem?_cons_zero, List.getElem?_cons_succ, List.getElem?_nil, List.set_cons_zero, List.set_cons_succ, if_true, if_false, Bool.false_eq_true, reduceIte, ite_self, b20_2, s2, s3, dz01, y_0, y_1, ln_r0, hg, ld0, oS_kept, hk2, e0, xl_r0 hx, q2, k_fs, a2, q_fs hf]
      | false =>
        have e' : doP l s (.bring 0 i false) = some (hs l { s with r0 := s.r0.eraseIdx i.toNat } m) := e
        have h' : Iv l (hs l { s with r0 := s.r0.eraseIdx i.toNat } m) (B + 17) := h'
        have hz : (s.r0.eraseIdx i.toNat).length ≤ s.r0.length := List.length_eraseIdx_le _ _
        have g1 : Iv l { s with r0 := s.r0.eraseIdx i.toNat } B := ⟨h.s0, h.s1, h.d0, h.d1, h.una, h.ab, h.pb, h.pd, h.lp, h.la, Nat.le_trans hz h.l0, h.l1⟩
        rw [e']
        obtain ⟨y13, y14, kp', q1, q3, q2⟩ := hfin { s with r0 := s.r0.eraseIdx i.toNat } (s.r0.eraseIdx i.toNat) g1 rfl rfl rfl rfl rfl rfl rfl rfl
        generalize hs l { s with r0 := s.r0.eraseIdx i.toNat } m = sv at h' q1 q2 q3 ⊢
        have a2 := words_ok (l := l) (S := LS sv.r0 sv.r1 kp' kt fs S) h' h_1 q3 h_3 (n + 1)
        refine ⟨some (.c (S.length + 2)), some (.d (.int m)), y13, y14, x15, x16, kp', kt, q1, q3, ?_⟩
        rw [b20_3, LE]
        rw [ed] at q2 ⊢
        simp only [LE] at q2 ⊢
        rcases hk2 with hk2 | hk2 <;> simp only [ess, es, et, ets, eto, ei, eg, egs, pv, sRet, sRetN, sNil, sIf, sAsg, sPar, sExp, sBrk, sCnt, xIte, xCall, xCons, xNil, xVar, xCon, xBin, xUn, xDic, tAnd, tOr, tNot, tBad, xBad, oNone, oSome, gNm, gsNil, gsCons, Bi.go, Tn.nm, Mt.go, Mt.rc, cmG, opG, Gxs.len, q_ok, q_bad, q_exc, q_ite, o_ok, o_bad, o_exc, o_ite, a_nx, a_rt, a_bk, a_ct, a_bad, a_ite, t_nx, t_ct, t_bk, t_rt, t_bad, t_ite, r_rt, r_nx, r_bad, r_ite, k_b, q_b, n_b, t_b, t_i, t_n, t_l, t_t, e_and, e_or, e_not, e_chn, e_bool, e_val, e_seq, w_add, w_sub, w_mul, w_div, w_mod, w_ord, w_neg, w_isn, w_isnn, w_isb, w_isbn, w_eqi, w_nei, w_eqs, w_nes, w_eqb, w_neb, w_lent, w_lenl, e_tup, e_tupc, e_lst, e_lstc, td_0, td_1, td_2, td_3, td_4, td_5, td_6, ld_0, ld_1, ld_2, ld_3, ld_4, ld_5, ld_6, ld_7, w_ixt, w_ixl, at_0, at_1, at_2, at_3, om_some, or_some, e_lc, e_gfd, e_gsb, e_mth, e_met, w_max, w_min, w_rg1, w_rg2, w_rgd, e_ival, it_l, it_t, e_for, v_fx, v_cel, l_t, isiG, tyN, isiB, isiTs, List.mem_cons, List.not_mem_nil, or_false, false_or, or_true, true_or, decide_true, decide_false, Bool.or_false, Bool.false_or, Bool.true_or, Bool.or_true, Bool.and_false, Bool.and_true, Bool.true_and, Bool.false_and, Bool.not_true, Bool.not_false, List.map_cons, List.map_nil, List.replicate_zero, List.replicate_succ, List.cons_append, List.nil_append, List.length_cons, List.length_nil, List.getElem?_cons_zero, List.getElem?_cons_succ, List.getElem?_nil, List.set_cons_zero, List.set_cons_succ, if_true, if_false, Bool.false_eq_true, reduceIte, ite_self, b20_2, s2, s3, dz01, y_0, y_1, ln_r0, hg, ld0, oS_kept, hk2, e0, xl_r0 hx, k_r0, pl_r0 hx hr, q2, k_fs, a2, q_fs hf]
end
end K75
end
section
set_option Elab.async false
set_option linter.all false
set_option maxRecDepth 100000
set_option maxHeartbeats 8000000
namespace K75
open PySem Mi
section
variable {l : Ln} {s : MS} {S : Sto} {n : Nat} {kp kt : List (L2.Key × W)} {fs : List W} {st : D}
def tkL (l : Ln) (s : MS) (m : Int) : List Int := (upI 0 (s.sent - 0).toNat).filter fun c => !decide (c ∈ s.ans) && decide (mk l.ring c = mk l.ring m)
theorem upI_app (i : Int) (a b : Nat) : upI i (a + b) = upI i a ++ upI (i + a) b := by
  induction a generalizing i with
  | zero => simp [upI_0]
  | succ a ih =>
    rw [show a + 1 + b = (a + b) + 1 by omega, upI_s, upI_s, ih]
    show _ = i :: (upI (i + 1) a ++ upI (i + ((a + 1 : Nat) : Int)) b)
    congr 3
    omega
theorem find_and {p q : Int → Bool} : ∀ is : List Int, is.find? (fun c => q c && p c) = (is.filter q).find? p
  | [] => rfl
  | i :: is => by
    cases h : q i with
    | true =>
      rw [List.filter_cons_of_pos h, List.find?_cons, List.find?_cons, h, Bool.true_and]
      rw [find_and is]
    | false =>
      rw [List.filter_cons_of_neg (by rw [h]; decide), List.find?_cons, h, Bool.false_and]
      exact find_and is
theorem tk_is {B : Nat} (h : Iv l s B) (m : Int) : (tkL l s m).head? = takenOf l s m := by
  unfold tkL takenOf
  have hu := h.una; have hus := h.us
  have := hu.nn
  rw [head_find, show (s.sent - 0).toNat = s.una.toNat + (s.sent - s.una).toNat by omega, upI_app, List.find?_append]
  have e1 : (upI 0 s.una.toNat).find? (fun c => !decide (c ∈ s.ans) && decide (mk l.ring c = mk l.ring m)) = none := by
    rw [List.find?_eq_none]
    intro x hx
    have h1 := mem_upI.mp hx
    have h2 := hu.all x h1.1 (by omega)
    simp [h2]
  rw [e1, Option.none_or, find_and]
  congr 3
  omega
theorem taken_list (n : Nat) (hl : l.Ok) {B : Nat} (h : Iv l s B) (ht : DK s.ans kt) {k : Nat} (hS : S[k]? = some (.dic kt)) (m : Int) (en : Ev) (f : D → Ev) (hg : ∀ d, (gNm 16) (.d d) en S = .ok (f d) S) (hv : ∀ d, (f d)[16]? = some (some (.d d))) (h0 : ∀ d, (f d)[0]? = some (some (.d l.D))) (hm : ∀ d, (f d)[12]? = some (some (.d (.int m)))) (h7 : ∀ d, (f d)[7]? = some (some (.c k))) :
    lcV false (gNm 16) (tAnd (tBool (xBin (inW true) (xVar 16) (xVar 7))) (tVal (xCall (Mi.runN tbl.kt tbl.tb (n + 1) 18) (xCons (xVar 0) (xCons (xVar 16) (xCons (xVar 12) xNil)))))) (xVar 16) en (.fx (((upI 0 (s.sent - 0).toNat).map .int).map .d)) S = .ok (.d (.list ((tkL l s m).map .int))) S := by
  have e0 := h.s0; have e1 := h.s1
  rw [lcv_d (e := f) (p := fun d => match d with | .int i => !decide (i ∈ s.ans) && decide (mk l.ring i = mk l.ring m) | _ => false) (h := fun d => d) (by rw [List.length_map]; unfold upI; simp; unfold cap; omega) (fun d hd => hg d) (fun d hd => by
    obtain ⟨i, hi, rfl⟩ := List.mem_map.mp hd
    simp only [ess, es, et, ets, eto, ei, eg, egs, pv, sRet, sRetN, sNil, sIf, sAsg, sPar, sExp, sBrk, sCnt, xIte, xCall, xCons, xNil, xVar, xCon, xBin, xUn, xDic, tAnd, tOr, tNot, tBad, xBad, oNone, oSome, gNm, gsNil, gsCons, Bi.go, Tn.nm, Mt.go, Mt.rc, cmG, opG, Gxs.len, q_ok, q_bad, q_exc, q_ite, o_ok, o_bad, o_exc, o_ite, a_nx, a_rt, a_bk, a_ct, a_bad, a_ite, t_nx, t_ct, t_bk, t_rt, t_bad, t_ite, r_rt, r_nx, r_bad, r_ite, k_b, q_b, n_b, t_b, t_i, t_n, t_l, t_t, e_and, e_or, e_not, e_chn, e_bool, e_val, e_seq, w_add, w_sub, w_mul, w_div, w_mod, w_ord, w_neg, w_isn, w_isnn, w_isb, w_isbn, w_eqi, w_nei, w_eqs, w_nes, w_eqb, w_neb, w_lent, w_lenl, e_tup, e_tupc, e_lst, e_lstc, td_0, td_1, td_2, td_3, td_4, td_5, td_6, ld_0, ld_1, ld_2, ld_3, ld_4, ld_5, ld_6, ld_7, w_ixt, w_ixl, at_0, at_1, at_2, at_3, om_some, or_some, e_lc, e_gfd, e_gsb, e_mth, e_met, w_max, w_min, w_rg1, w_rg2, w_rgd, e_ival, it_l, it_t, e_for, v_fx, v_cel, l_t, isiG, tyN, isiB, isiTs, List.mem_cons, List.not_mem_nil, or_false, false_or, or_true, true_or, decide_true, decide_false, Bool.or_false, Bool.false_or, Bool.true_or, Bool.or_true, Bool.and_false, Bool.and_true, Bool.true_and, Bool.false_and, Bool.not_true, Bool.not_false, List.map_cons, List.map_nil, List.replicate_zero, List.replicate_succ, List.cons_append, List.nil_append, List.length_cons, List.length_nil, List.getElem?_cons_zero, List.getElem?_cons_succ, List.getElem?_nil, List.set_cons_zero, List.set_cons_succ, if_true, if_false, Bool.false_eq_true, reduceIte, ite_self, hv, h0, hm, h7, same_ok n hl, w_indic hS, dk_get ht]
    cases decide (i ∈ s.ans) <;> rfl) (fun d hd hp => by simp only [ess, es, et, ets, eto, ei, eg, egs, pv, sRet, sRetN, sNil, sIf, sAsg, sPar, sExp, sBrk, sCnt, xIte, xCall, xCons, xNil, xVar, xCon, xBin, xUn, xDic, tAnd, tOr, tNot, tBad, xBad, oNone, oSome, gNm, gsNil, gsCons, Bi.go, Tn.nm, Mt.go, Mt.rc, cmG, opG, Gxs.len, q_ok, q_bad, q_exc, q_ite, o_ok, o_bad, o_exc, o_ite, a_nx, a_rt, a_bk, a_ct, a_bad, a_ite, t_nx, t_ct, t_bk, t_rt, t_bad, t_ite, r_rt, r_nx, r_bad, r_ite, k_b, q_b, n_b, t_b, t_i, t_n, t_l, t_t, e_and, e_or, e_not, e_chn, e_bool, e_val, e_seq, w_add, w_sub, w_mul, w_div, w_mod, w_ord, w_neg, w_isn, w_isnn, w_isb, w_isbn, w_eqi, w_nei, w_eqs, w_nes, w_eqb, w_neb, w_lent, w_lenl, e_tup, e_tupc, e_lst, e_lstc, td_0, td_1, td_2, td_3, td_4, td_5, td_6, ld_0, ld_1, ld_2, ld_3, ld_4, ld_5, ld_6, ld_7, w_ixt, w_ixl, at_0, at_1, at_2, at_3, om_some, or_some, e_lc, e_gfd, e_gsb, e_mth, e_met, w_max, w_min, w_rg1, w_rg2, w_rgd, e_ival, it_l, it_t, e_for, v_fx, v_cel, l_t, isiG, tyN, isiB, isiTs, List.mem_cons, List.not_mem_nil, or_false, false_or, or_true, true_or, decide_true, decide_false, Bool.or_false, Bool.false_or, Bool.true_or, Bool.or_true, Bool.and_false, Bool.and_true, Bool.true_and, Bool.false_and, Bool.not_true, Bool.not_false, List.map_cons, List.map_nil, List.replicate_zero, List.replicate_succ, List.cons_append, List.nil_append, List.length_cons, List.length_nil, List.getElem?_cons_zero, List.getElem?_cons_succ, List.getElem?_nil, List.set_cons_zero, List.set_cons_succ, if_true, if_false, Bool.false_eq_true, reduceIte, ite_self, hv]), List.map_id', List.filter_map]
  rfl
theorem turn_bring1 (n : Nat) {B : Nat} (hl : l.Ok) (h : Iv l s B) (hB : B < 400000) (hp : DK s.put kp) (ht : DK s.ans kt) (hf : fs.length < cap) {i : Int} {k : Bool} (hc : (Sp.bring 1 i k).Ok) (x11 x12 x13 x14 x15 x16 : Option W) :
    TurnOk (n + 2) l st s kp kt fs S (.bring 1 i k) x11 x12 x13 x14 x15 x16 := by
  have hi : 0 ≤ i := hc.2.1
  have hr : s.r1.length ≤ cap := by have := h.l1; unfold cap; omega
  have e0 := h.s0; have e1 := h.s1
  have hd : doP l s (.bring 1 i k) = match s.r1[i.toNat]? with
    | none => none
    | some m => if (!l.any && decide (0 < i)) = true then none else some (ss l (if k = true then s else { s with r1 := s.r1.eraseIdx i.toNat }) m) := rfl
  have ed : (Sp.bring 1 i k).D = .tuple [.str ("bring" : Str), .int 1, .int ((i.toNat : Nat) : Int), .bool k] := by rw [Int.toNat_of_nonneg hi]; rfl
  have e0' : decide (0 < ((i.toNat : Nat) : Int)) = decide (0 < i) := by congr 1; rw [Int.toNat_of_nonneg hi]
  unfold TurnOk
  cases hx : s.r1[i.toNat]? with
  | none =>
    rw [hd, hx, b20_3, LE, ed]
    have : s.r1.length ≤ i.toNat := List.getElem?_eq_none_iff.mp hx
    have hg : decide ((s.r1.length : Int) ≤ ((i.toNat : Nat) : Int)) = true := decide_eq_true (by omega)
    refine ⟨LT s.r0 s.r1 kp kt fs S.length, ?_⟩
    simp only [ess, es, et, ets, eto, ei, eg, egs, pv, sRet, sRetN, sNil, sIf, sAsg, sPar, sExp, sBrk, sCnt, xIte, xCall, xCons, xNil, xVar, xCon, xBin, xUn, xDic, tAnd, tOr, tNot, tBad, xBad, oNone, oSome, gNm, gsNil, gsCons, Bi.go, Tn.nm, Mt.go, Mt.rc, cmG, opG, Gxs.len, q_ok, q_bad, q_exc, q_ite, o_ok, o_bad, o_exc, o_ite, a_nx, a_rt, a_bk, a_ct, a_bad, a_ite, t_nx, t_ct, t_bk, t_rt, t_bad, t_ite, r_rt, r_nx, r_bad, r_ite, k_b, q_b, n_b, t_b, t_i, t_n, t_l, t_t, e_and, e_or, e_not, e_chn, e_bool, e_val, e_seq, w_add, w_sub, w_mul, w_div, w_mod, w_ord, w_neg, w_isn, w_isnn, w_isb, w_isbn, w_eqi, w_nei, w_eqs, w_nes, w_eqb, w_neb, w_lent, w_lenl, e_tup, e_tupc, e_lst, e_lstc, td_0, td_1, td_2, td_3, td_4, td_5, td_6, ld_0, ld_1, ld_2, ld_3, ld_4, ld_5, ld_6, ld_7, w_ixt, w_ixl, at_0, at_1, at_2, at_3, om_some, or_some, e_lc, e_gfd, e_gsb, e_mth, e_met, w_max, w_min, w_rg1, w_rg2, w_rgd, e_ival, it_l, it_t, e_for, v_fx, v_cel, l_t, isiG, tyN, isiB, isiTs, List.mem_cons, List.not_mem_nil, or_false, false_or, or_true, true_or, decide_true, decide_false, Bool.or_false, Bool.false_or, Bool.true_or, Bool.or_true, Bool.and_false, Bool.and_true, Bool.true_and, Bool.false_and, Bool.not_true, Bool.not_false, List.map_cons, List.map_nil, List.replicate_zero, List.replicate_succ, List.cons_append, List.nil_append, List.length_cons, List.length_nil, List.getElem?_cons_zero, List.getElem?_cons_succ, List.getElem?_nil, List.set_cons_zero, List.set_cons_succ, if_true, if_false, Bool.false_eq_true, reduceIte, ite_self, b20_2, s2, y_0, y_1, ln_r1, hg]
    rfl
  | some m =>
    have hlt : i.toNat < s.r1.length := (List.getElem?_eq_some_iff.mp hx).1
    have hg : decide ((s.r1.length : Int) ≤ ((i.toNat : Nat) : Int)) = false := decide_eq_false (by omega)
    cases hk : (!l.any && decide (0 < i)) with
    | true =>
      have e : doP l s (.bring 1 i k) = none := by
        rw [hd, hx]
        show (if (!l.any && decide (0 < i)) = true then _ else _) = _
        rw [hk]; rfl
      rw [e, b20_3, LE, ed]
      have hk2 : (!l.any) = true ∧ decide (0 < i) = true := by rwa [Bool.and_eq_true] at hk
      refine ⟨LT s.r0 s.r1 kp kt fs S.length, ?_⟩
      simp only [ess, es, et, ets, eto, ei, eg, egs, pv, sRet, sRetN, sNil, sIf, sAsg, sPar, sExp, sBrk, sCnt, xIte, xCall, xCons, xNil, xVar, xCon, xBin, xUn, xDic, tAnd, tOr, tNot, tBad, xBad, oNone, oSome, gNm, gsNil, gsCons, Bi.go, Tn.nm, Mt.go, Mt.rc, cmG, opG, Gxs.len, q_ok, q_bad, q_exc, q_ite, o_ok, o_bad, o_exc, o_ite, a_nx, a_rt, a_bk, a_ct, a_bad, a_ite, t_nx, t_ct, t_bk, t_rt, t_bad, t_ite, r_rt, r_nx, r_bad, r_ite, k_b, q_b, n_b, t_b, t_i, t_n, t_l, t_t, e_and, e_or, e_not, e_chn, e_bool, e_val, e_seq, w_add, w_sub, w_mul, w_div, w_mod, w_ord, w_neg, w_isn, w_isnn, w_isb, w_isbn, w_eqi, w_nei, w_eqs, w_nes, w_eqb, w_neb, w_lent, w_lenl, e_tup, e_tupc, e_lst, e_lstc, td_0, td_1, td_2, td_3, td_4, td_5, td_6, ld_0, ld_1, ld_2, ld_3, ld_4, ld_5, ld_6, ld_7, w_ixt, w_ixl, at_0, at_1, at_2, at_3, om_some, or_some, e_lc, e_gfd, e_gsb, e_mth, e_met, w_max, w_min, w_rg1, w_rg2, w_rgd, e_ival, it_l, it_t, e_for, v_fx, v_cel, l_t, isiG, tyN, isiB, isiTs, List.mem_cons, List.not_mem_nil, or_false, false_or, or_true, true_or, decide_true, decide_false, Bool.or_false, Bool.false_or, Bool.true_or, Bool.or_true, Bool.and_false, Bool.and_true, Bool.true_and, Bool.false_and, Bool.not_true, Bool.not_false, List.map_cons, List.map_nil, List.replicate_zero, List.replicate_succ, List.cons_append, List.nil_append, List.length_cons, List.length_nil, List.getElem?_cons_zero, List.getElem?_cons_succ, List.getElem?_nil, List.set_cons_zero, List.set_cons_succ, if_true, if_false, Bool.false_eq_true, reduceIte, ite_self, b20_2, s2, y_0, y_1, ln_r1, hg, ld0, oS_kept, hk2.1, e0', hk2.2]
      rfl
    | false =>
      have e : doP l s (.bring 1 i k) = some (ss l (if k = true then s else { s with r1 := s.r1.eraseIdx i.toNat }) m) := by
        rw [hd, hx]
        show (if (!l.any && decide (0 < i)) = true then _ else _) = _
        rw [hk]; rfl
      have h' := doP_iv hl h hc e
      have hk2 : (!l.any) = false ∨ decide (0 < i) = false := by
        cases ha : (!l.any) with
        | false => exact .inl rfl
        | true => rw [ha] at hk; exact .inr hk
      have hz : (s.r1.eraseIdx i.toNat).length ≤ s.r1.length := List.length_eraseIdx_le _ _
      obtain ⟨sv, r1', hsv, g1, g2, g3, g4, g5, g6, g7, g8, g9, g10⟩ : ∃ (sv : MS) (r1' : List Int), sv = (if k = true then s else { s with r1 := s.r1.eraseIdx i.toNat }) ∧ r1' = (if k = true then s.r1 else s.r1.eraseIdx i.toNat) ∧ Iv l sv B ∧ sv.sent = s.sent ∧ sv.done = s.done ∧ sv.tw = s.tw ∧ sv.wr = s.wr ∧ sv.r0 = s.r0 ∧ sv.put = s.put ∧ sv.ans = s.ans ∧ sv.r1 = r1' := by
        cases k with
        | true => exact ⟨s, s.r1, rfl, rfl, h, rfl, rfl, rfl, rfl, rfl, rfl, rfl, rfl⟩
        | false => exact ⟨{ s with r1 := s.r1.eraseIdx i.toNat }, s.r1.eraseIdx i.toNat, rfl, rfl, ⟨h.s0, h.s1, h.d0, h.d1, h.una, h.ab, h.pb, h.pd, h.lp, h.la, h.l0, Nat.le_trans hz h.l1⟩, rfl, rfl, rfl, rfl, rfl, rfl, rfl, rfl⟩
      rw [← hsv] at e h'
      rw [e]
      have tk := tk_is g2 m
      have f1 := taken_list (l := l) (s := sv) (kt := kt) (S := LS s.r0 r1' kp kt fs S) (k := S.length + 1) (n + 1) hl g2 (by rw [g9]; exact ht) h_1 m (wipeE (LE l st s S.length (some (.d (Sp.bring 1 i k).D)) (some (.c (S.length + 3))) (some (.d (.int m))) x13 x14 x15 x16) [16]) (fun d => LE l st s S.length (some (.d (Sp.bring 1 i k).D)) (some (.c (S.length + 3))) (some (.d (.int m))) x13 x14 x15 (some (.d d))) (fun d => rfl) (fun d => rfl) (fun d => rfl) (fun d => rfl) (fun d => rfl)
      rw [g3] at f1
      generalize htl : tkL l sv m = tl at tk f1
      have it1 : itG (.r 0 s.sent 1) (LS s.r0 r1' kp kt fs S) = .ok (.fx (((upI 0 (s.sent - 0).toNat).map .int).map .d)) (LS s.r0 r1' kp kt fs S) := by
        rw [it_up (by omega) (by omega) (by omega) (by omega), rgL_up]
      have hpop : (if k = true then LS s.r0 s.r1 kp kt fs S else LS s.r0 (s.r1.eraseIdx i.toNat) kp kt fs S) = LS s.r0 r1' kp kt fs S := by rw [g1]; cases k <;> rfl
      rw [b20_3]
      rw [ed] at f1 ⊢
      simp only [LE] at f1 ⊢
      cases htk : takenOf l sv m with
      | none =>
        have hnil : tl = [] := by
          cases tl with
          | nil => rfl
          | cons a b => rw [htk] at tk; cases tk
        subst hnil
        have eqs : ss l sv m = sv := by unfold ss; rw [htk]
        rw [eqs] at h' ⊢
        have a2 := words_ok (l := l) (s := sv) (S := LS s.r0 r1' kp kt fs S) (kb := S.length + 3) g2 h_1 (by rw [g9]; exact ht) (by rw [g10]; exact h_3) (n + 1)
        rw [g3, g4, g5, g6] at a2
        refine ⟨some (.c (S.length + 3)), some (.d (.int m)), x13, x14, some (.d (.list [])), x16, kp, kt, by rw [g8]; exact hp, by rw [g9]; exact ht, ?_⟩
        rw [g3, g4, g5, g6, g7, g10]
        have z1 : ∀ S : Sto, eqW true (.d (.list (([] : List Int).map .int))) (.d (.list [])) S = .ok (.d (.bool false)) S := fun S => ne_l
        simp only [List.map_nil] at z1 f1
        cases k with
        | true =>
          have g1 : r1' = s.r1 := g1
          subst g1
          rcases hk2 with hk2 | hk2 <;> simp only [ess, es, et, ets, eto, ei, eg, egs, pv, sRet, sRetN, sNil, sIf, sAsg, sPar, sExp, sBrk, sCnt, xIte, xCall, xCons, xNil, xVar, xCon, xBin, xUn, xDic, tAnd, tOr, tNot, tBad, xBad, oNone, oSome, gNm, gsNil, gsCons, Bi.go, Tn.nm, Mt.go, Mt.rc, cmG, opG, Gxs.len, q_ok, q_bad, q_exc, q_ite, o_ok, o_bad, o_exc, o_ite, a_nx, a_rt, a_bk, a_ct, a_bad, a_ite, t_nx, t_ct, t_bk, t_rt, t_bad, t_ite, r_rt, r_nx, r_bad, r_ite, k_b, q_b, n_b, t_b, t_i, t_n, t_l, t_t, e_and, e_or, e_not, e_chn, e_bool, e_val, e_seq, w_add, w_sub, w_mul, w_div, w_mod, w_ord, w_neg, w_isn, w_isnn, w_isb, w_isbn, w_eqi, w_nei, w_eqs, w_nes, w_eqb, w_neb, w_lent, w_lenl, e_tup, e_tupc, e_lst, e_lstc, td_0, td_1, td_2, td_3, td_4, td_5, td_6, ld_0, ld_1, ld_2, ld_3, ld_4, ld_5, ld_6, ld_7, w_ixt, w_ixl, at_0, at_1, at_2, at_3, om_some, or_some, e_lc, e_gfd, e_gsb, e_mth, e_met, w_max, w_min, w_rg1, w_rg2, w_rgd, e_ival, it_l, it_t, e_for, v_fx, v_cel, l_t, isiG, tyN, isiB, isiTs, List.mem_cons, List.not_mem_nil, or_false, false_or, or_true, true_or, decide_true, decide_false, Bool.or_false, Bool.false_or, Bool.true_or, Bool.or_true, Bool.and_false, Bool.and_true, Bool.true_and, Bool.false_and, Bool.not_true, Bool.not_false, List.map_cons, List.map_nil, List.replicate_zero, List.replicate_succ, List.cons_append, List.nil_append, List.length_cons, List.length_nil, List.getElem?_cons_zero, List.getElem?_cons_succ, List.getElem?_nil, List.set_cons_zero, List.set_cons_succ, if_true, if_false, Bool.false_eq_true, reduceIte, ite_self, b20_2, s2, s3, dz10, y_0, y_1, ln_r1, hg, ld0, oS_kept, hk2, e0', xl_r1 hx, it1, f1, z1, k_fs, a2, q_fs hf]
        | false =>
          have g1 : r1' = s.r1.eraseIdx i.toNat := g1
          subst g1
          rcases hk2 with hk2 | hk2 <;> simp only [ess, es, et, ets, eto, ei, eg, egs, pv, sRet, sRetN, sNil, sIf, sAsg, sPar, sExp, sBrk, sCnt, xIte, xCall, xCons, xNil, xVar, xCon, xBin, xUn, xDic, tAnd, tOr, tNot, tBad, xBad, oNone, oSome, gNm, gsNil, gsCons, Bi.go, Tn.nm, Mt.go, Mt.rc, cmG, opG, Gxs.len, q_ok, q_bad, q_exc, q_ite, o_ok, o_bad, o_exc, o_ite, a_nx, a_rt, a_bk, a_ct, a_bad, a_ite, t_nx, t_ct, t_bk, t_rt, t_bad, t_ite, r_rt, r_nx, r_bad, r_ite, k_b, q_b, n_b, t_b, t_i, t_n, t_l, t_t, e_and, e_or, e_not, e_chn, e_bool, e_val, e_seq, w_add, w_sub, w_mul, w_div, w_mod, w_ord, w_neg, w_isn, w_isnn, w_isb, w_isbn, w_eqi, w_nei, w_eqs, w_nes, w_eqb, w_neb, w_lent, w_lenl, e_tup, e_tupc, e_lst, e_lstc, td_0, td_1, td_2, td_3, td_4, td_5, td_6, ld_0, ld_1, ld_2, ld_3, ld_4, ld_5, ld_6, ld_7, w_ixt, w_ixl, at_0, at_1, at_2, at_3, om_some, or_some, e_lc, e_gfd, e_gsb, e_mth, e_met, w_max, w_min, w_rg1, w_rg2, w_rgd, e_ival, it_l, it_t, e_for, v_fx, v_cel, l_t, isiG, tyN, isiB, isiTs, List.mem_cons, List.not_mem_nil, or_false, false_or, or_true, true_or, decide_true, decide_false, Bool.or_false, Bool.false_or, Bool.true_or, Bool.or_true, Bool.and_false, Bool.and_true, Bool.true_and, Bool.false_and, Bool.not_true, Bool.not_false, List.map_cons, List.map_nil, List.replicate_zero, List.replicate_succ, List.cons_append, List.nil_append, List.length_cons, List.length_nil, List.getElem?_cons_zero, List.getElem?_cons_succ, List.getElem?_nil, List.set_cons_zero, List.set_cons_succ, if_true, if_false, Bool.false_eq_true, reduceIte, ite_self, b20_2, s2, s3, dz10, y_0, y_1, ln_r1, hg, ld0, oS_kept, hk2, e0', xl_r1 hx, k_r1, pl_r1 hx hr, it1, f1, z1, k_fs, a2, q_fs hf]
      | some c =>
        obtain ⟨r, htl2⟩ : ∃ r, tl = c :: r := by
          cases tl with
          | nil => rw [htk] at tk; cases tk
          | cons a b =>
            rw [htk] at tk
            cases tk
            exact ⟨b, rfl⟩
        have hne : (!tl.isEmpty) = true := by rw [htl2]; rfl
        have hca : c ∉ s.ans := by
          have h1 := List.mem_of_find?_eq_some htk
          have h2 := (List.mem_filter.mp h1).2
          rw [g9] at h2
          simpa using h2
        have eqs : ss l sv m = { sv with wr := sv.wr || !decide (c = m), ans := sv.ans ++ [c], una := lsO (sv.ans ++ [c]) } := by unfold ss; rw [htk]
        have dp := dk_put (v := .d (.int m)) ht hca
        have hset := st_told (r0 := s.r0) (r1 := r1') (kp := kp) (fs := fs) (S := S) (v := .d (.int m)) ht hca (by have := h.la; unfold cap; omega)
        have z1 : ∀ S : Sto, eqW true (.d (.list (tl.map .int))) (.d (.list [])) S = .ok (.d (.bool true)) S := fun S => by rw [ne_l, hne]
        have z4 : ∀ S : Sto, ixG (.d (.list (tl.map .int))) (.d (.int 0)) S = .ok (.d (.int c)) S := fun S => tl_s htl2
        have a2 := words_ok (l := l) (s := ss l sv m) (S := LS s.r0 r1' kp (kt ++ [(.inl c, .d (.int m))]) fs S) (kb := S.length + 3) h' h_1 (by rw [eqs]; show DK (sv.ans ++ [c]) _; rw [g9]; exact dp.2) (by rw [eqs]; show _ = some (Ob.lst (iw sv.r1)); rw [g10]; exact h_3) (n + 1)
        have j1 : (ss l sv m).sent = s.sent := by rw [eqs]; exact g3
        have j2 : (ss l sv m).done = s.done := by rw [eqs]; exact g4
        have j3 : (ss l sv m).tw = s.tw := by rw [eqs]; exact g5
        have j4 : (ss l sv m).wr = (s.wr || !decide (c = m)) := by rw [eqs, ← g6]
        have j5 : (ss l sv m).r0 = s.r0 := by rw [eqs]; exact g7
        have j6 : (ss l sv m).r1 = r1' := by rw [eqs]; exact g10
        rw [j1, j2, j3, j4] at a2
        refine ⟨some (.c (S.length + 3)), some (.d (.int m)), x13, x14, some (.d (.list (tl.map .int))), x16, kp, kt ++ [(.inl c, .d (.int m))], by rw [eqs]; show DK sv.put kp; rw [g8]; exact hp, by rw [eqs]; show DK (sv.ans ++ [c]) _; rw [g9]; exact dp.2, ?_⟩
        rw [j1, j2, j3, j4, j5, j6]
        cases hw : s.wr with
        | true =>
          rw [hw] at f1 a2
          cases k with
          | true =>
            have g1 : r1' = s.r1 := g1
            subst g1
            simp only [Bool.true_or] at a2
            rcases hk2 with hk2 | hk2 <;> simp only [ess, es, et, ets, eto, ei, eg, egs, pv, sRet, sRetN, sNil, sIf, sAsg, sPar, sExp, sBrk, sCnt, xIte, xCall, xCons, xNil, xVar, xCon, xBin, xUn, xDic, tAnd, tOr, tNot, tBad, xBad, oNone, oSome, gNm, gsNil, gsCons, Bi.go, Tn.nm, Mt.go, Mt.rc, cmG, opG, Gxs.len, q_ok, q_bad, q_exc, q_ite, o_ok, o_bad, o_exc, o_ite, a_nx, a_rt, a_bk, a_ct, a_bad, a_ite, t_nx, t_ct, t_bk, t_rt, t_bad, t_ite, r_rt, r_nx, r_bad, r_ite, k_b, q_b, n_b, t_b, t_i, t_n, t_l, t_t, e_and, e_or, e_not, e_chn, e_bool, e_val, e_seq, w_add, w_sub, w_mul, w_div, w_mod, w_ord, w_neg, w_isn, w_isnn, w_isb, w_isbn, w_eqi, w_nei, w_eqs, w_nes, w_eqb, w_neb, w_lent, w_lenl, e_tup, e_tupc, e_lst, e_lstc, td_0, td_1, td_2, td_3, td_4, td_5, td_6, ld_0, ld_1, ld_2, ld_3, ld_4, ld_5, ld_6, ld_7, w_ixt, w_ixl, at_0, at_1, at_2, at_3, om_some, or_some, e_lc, e_gfd, e_gsb, e_mth, e_met, w_max, w_min, w_rg1, w_rg2, w_rgd, e_ival, it_l, it_t, e_for, v_fx, v_cel, l_t, isiG, tyN, isiB, isiTs, List.mem_cons, List.not_mem_nil, or_false, false_or, or_true, true_or, decide_true, decide_false, Bool.or_false, Bool.false_or, Bool.true_or, Bool.or_true, Bool.and_false, Bool.and_true, Bool.true_and, Bool.false_and, Bool.not_true, Bool.not_false, List.map_cons, List.map_nil, List.replicate_zero, List.replicate_succ, List.cons_append, List.nil_append, List.length_cons, List.length_nil, List.getElem?_cons_zero, List.getElem?_cons_succ, List.getElem?_nil, List.set_cons_zero, List.set_cons_succ, if_true, if_false, Bool.false_eq_true, reduceIte, ite_self, b20_2, s2, s3, dz10, y_0, y_1, ln_r1, hg, ld0, oS_kept, hk2, e0', xl_r1 hx, it1, f1, z1, z4, e_gsb, hset, k_fs, a2, q_fs hf]
          | false =>
            have g1 : r1' = s.r1.eraseIdx i.toNat := g1
            subst g1
            simp only [Bool.true_or] at a2
            rcases hk2 with hk2 | hk2 <;> simp only [ess, es, et, ets, eto, ei, eg, egs, pv, sRet, sRetN, sNil, sIf, sAsg, sPar, sExp, sBrk, sCnt, xIte, xCall, xCons, xNil, xVar, xCon, xBin, xUn, xDic, tAnd, tOr, tNot, tBad, xBad, oNone, oSome, gNm, gsNil, gsCons, Bi.go, Tn.nm, Mt.go, Mt.rc, cmG, opG, Gxs.len, q_ok, q_bad, q_exc, q_ite, o_ok, o_bad, o_exc, o_ite, a_nx, a_rt, a_bk, a_ct, a_bad, a_ite, t_nx, t_ct, t_bk, t_rt, t_bad, t_ite, r_rt, r_nx, r_bad, r_ite, k_b, q_b, n_b, t_b, t_i, t_n, t_l, t_t, e_and, e_or, e_not, e_chn, e_bool, e_val, e_seq, w_add, w_sub, w_mul, w_div, w_mod, w_ord, w_neg, w_isn, w_isnn, w_isb, w_isbn, w_eqi, w_nei, w_eqs, w_nes, w_eqb, w_neb, w_lent, w_lenl, e_tup, e_tupc, e_lst, e_lstc, td_0, td_1, td_2, td_3, td_4, td_5, td_6, ld_0, ld_1, ld_2, ld_3, ld_4, ld_5, ld_6, ld_7, w_ixt, w_ixl, at_0, at_1, at_2, at_3, om_some, or_some, e_lc, e_gfd, e_gsb, e_mth, e_met, w_max, w_min, w_rg1, w_rg2, w_rgd, e_ival, it_l, it_t, e_for, v_fx, v_cel, l_t, isiG, tyN, isiB, isiTs, List.mem_cons, List.not_mem_nil, or_false, false_or, or_true, true_or, decide_true, decide_false, Bool.or_false, Bool.false_or, Bool.true_or, Bool.or_true, Bool.and_false, Bool.and_true, Bool.true_and, Bool.false_and, Bool.not_true, Bool.not_false, List.map_cons, List.map_nil, List.replicate_zero, List.replicate_succ, List.cons_append, List.nil_append, List.length_cons, List.length_nil, List.getElem?_cons_zero, List.getElem?_cons_succ, List.getElem?_nil, List.set_cons_zero, List.set_cons_succ, if_true, if_false, Bool.false_eq_true, reduceIte, ite_self, b20_2, s2, s3, dz10, y_0, y_1, ln_r1, hg, ld0, oS_kept, hk2, e0', xl_r1 hx, k_r1, pl_r1 hx hr, it1, f1, z1, z4, e_gsb, hset, k_fs, a2, q_fs hf]
        | false =>
          rw [hw] at f1 a2
          cases k with
          | true =>
            have g1 : r1' = s.r1 := g1
            subst g1
            simp only [Bool.false_or] at a2
            rcases hk2 with hk2 | hk2 <;> simp only [ess, es, et, ets, eto, ei, eg, egs, pv, sRet, sRetN, sNil, sIf, sAsg, sPar, sExp, sBrk, sCnt, xIte, xCall, xCons, xNil, xVar, xCon, xBin, xUn, xDic, tAnd, tOr, tNot, tBad, xBad, oNone, oSome, gNm, gsNil, gsCons, Bi.go, Tn.nm, Mt.go, Mt.rc, cmG, opG, Gxs.len, q_ok, q_bad, q_exc, q_ite, o_ok, o_bad, o_exc, o_ite, a_nx, a_rt, a_bk, a_ct, a_bad, a_ite, t_nx, t_ct, t_bk, t_rt, t_bad, t_ite, r_rt, r_nx, r_bad, r_ite, k_b, q_b, n_b, t_b, t_i, t_n, t_l, t_t, e_and, e_or, e_not, e_chn, e_bool, e_val, e_seq, w_add, w_sub, w_mul, w_div, w_mod, w_ord, w_neg, w_isn, w_isnn, w_isb, w_isbn, w_eqi, w_nei, w_eqs, w_nes, w_eqb, w_neb, w_lent, w_lenl, e_tup, e_tupc, e_lst, e_lstc, td_0, td_1, td_2, td_3, td_4, td_5, td_6, ld_0, ld_1, ld_2, ld_3, ld_4, ld_5, ld_6, ld_7, w_ixt, w_ixl, at_0, at_1, at_2, at_3, om_some, or_some, e_lc, e_gfd, e_gsb, e_mth, e_met, w_max, w_min, w_rg1, w_rg2, w_rgd, e_ival, it_l, it_t, e_for, v_fx, v_cel, l_t, isiG, tyN, isiB, isiTs, List.mem_cons, List.not_mem_nil, or_false, false_or, or_true, true_or, decide_true, decide_false, Bool.or_false, Bool.false_or, Bool.true_or, Bool.or_true, Bool.and_false, Bool.and_true, Bool.true_and, Bool.false_and, Bool.not_true, Bool.not_false, List.map_cons, List.map_nil, List.replicate_zero, List.replicate_succ, List.cons_append, List.nil_append, List.length_cons, List.length_nil, List.getElem?_cons_zero, List.getElem?_cons_succ, List.getElem?_nil, List.set_cons_zero, List.set_cons_succ, if_true, if_false, Bool.false_eq_true, reduceIte, ite_self, b20_2, s2, s3, dz10, y_0, y_1, ln_r1, hg, ld0, oS_kept, hk2, e0', xl_r1 hx, it1, f1, z1, z4, e_gsb, hset, k_fs, a2, q_fs hf]
          | false =>
            have g1 : r1' = s.r1.eraseIdx i.toNat := g1
            subst g1
            simp only [Bool.false_or] at a2
            rcases hk2 with hk2 | hk2 <;> simp only [ess, es, et, ets, eto, ei, eg, egs, pv, sRet, sRetN, sNil, sIf, sAsg, sPar, sExp, sBrk, sCnt, xIte, xCall, xCons, xNil, xVar, xCon, xBin, xUn, xDic, tAnd, tOr, tNot, tBad, xBad, oNone, oSome, gNm, gsNil, gsCons, Bi.go, Tn.nm, Mt.go, Mt.rc, cmG, opG, Gxs.len, q_ok, q_bad, q_exc, q_ite, o_ok, o_bad, o_exc, o_ite, a_nx, a_rt, a_bk, a_ct, a_bad, a_ite, t_nx, t_ct, t_bk, t_rt, t_bad, t_ite, r_rt, r_nx, r_bad, r_ite, k_b, q_b, n_b, t_b, t_i, t_n, t_l, t_t, e_and, e_or, e_not, e_chn, e_bool, e_val, e_seq, w_add, w_sub, w_mul, w_div, w_mod, w_ord, w_neg, w_isn, w_isnn, w_isb, w_isbn, w_eqi, w_nei, w_eqs, w_nes, w_eqb, w_neb, w_lent, w_lenl, e_tup, e_tupc, e_lst, e_lstc, td_0, td_1, td_2, td_3, td_4, td_5, td_6, ld_0, ld_1, ld_2, ld_3, ld_4, ld_5, ld_6, ld_7, w_ixt, w_ixl, at_0, at_1, at_2, at_3, om_some, or_some, e_lc, e_gfd, e_gsb, e_mth, e_met, w_max, w_min, w_rg1, w_rg2, w_rgd, e_ival, it_l, it_t, e_for, v_fx, v_cel, l_t, isiG, tyN, isiB, isiTs, List.mem_cons, List.not_mem_nil, or_false, false_or, or_true, true_or, decide_true, decide_false, Bool.or_false, Bool.false_or, Bool.true_or, Bool.or_true, Bool.and_false, Bool.and_true, Bool.true_and, Bool.false_and, Bool.not_true, Bool.not_false, List.map_cons, List.map_nil, List.replicate_zero, List.replicate_succ, List.cons_append, List.nil_append, List.length_cons, List.length_nil, List.getElem?_cons_zero, List.getElem?_cons_succ, List.getElem?_nil, List.set_cons_zero, List.set_cons_succ, if_true, if_false, Bool.false_eq_true, reduceIte, ite_self, b20_2, s2, s3, dz10, y_0, y_1, ln_r1, hg, ld0, oS_kept, hk2, e0', xl_r1 hx, k_r1, pl_r1 hx hr, it1, f1, z1, z4, e_gsb, hset, k_fs, a2, q_fs hf]
end
end K75
end
section
set_option Elab.async false
set_option linter.all false
set_option maxRecDepth 100000
set_option maxHeartbeats 8000000
namespace K75
open PySem Mi
def goL (l : Ln) : List Sp → MS → Option (List (List Str))
  | [], _ => some []
  | p :: ps, s => match doP l s p with
    | none => none
    | some s' => (match goL l ps s' with
      | none => none
      | some ws => some (bw l s' :: ws))
def wD (ws : List Str) : D := .list (ws.map .str)
def inB (w : Str) (ws : List Str) : Bool := decide (w ∈ ws)
def lastB (w : Str) : List Str → List (List Str) → Bool
  | x, [] => inB w x
  | x, y :: r => x.isEmpty && lastB w y r
def lawBad (l : Ln) (w : Str) (ps : List Sp) : Bool := match goL l ps MS.start with
  | none => false
  | some ws => lastB w [] ws
def gB (l : Ln) (w : Str) (ps : List Sp) (s : MS) : Bool := match goB l ps s with
  | some s' => inB w (bw l s')
  | none => false
def gL (l : Ln) (w : Str) (ps : List Sp) (s : MS) : Bool := match goL l ps s with
  | none => false
  | some ws => lastB w (bw l s) ws
theorem gL_cons (l : Ln) (w : Str) (p : Sp) (ps : List Sp) (s : MS) : gL l w (p :: ps) s = match doP l s p with
    | none => false
    | some s' => (bw l s).isEmpty && gL l w ps s' := by
  unfold gL
  rw [goL]
  cases doP l s p with
  | none => rfl
  | some s' =>
    show (match (match goL l ps s' with
      | none => none
      | some ws => some (bw l s' :: ws)) with
    | none => false
    | some ws => lastB w (bw l s) ws) = ((bw l s).isEmpty && match goL l ps s' with
      | none => false
      | some ws => lastB w (bw l s') ws)
    cases goL l ps s' with
    | none => simp
    | some ws => rfl
theorem gB_cons (l : Ln) (w : Str) (p : Sp) (ps : List Sp) (s : MS) : gB l w (p :: ps) s = match doP l s p with
    | none => false
    | some s' => (bw l s).isEmpty && gB l w ps s' := by
  unfold gB
  rw [goB]
  cases (bw l s).isEmpty with
  | false => cases doP l s p <;> rfl
  | true => cases doP l s p <;> rfl
theorem same_bad (l : Ln) (w : Str) : ∀ (ps : List Sp) (s : MS), gB l w ps s = gL l w ps s
  | [], s => rfl
  | p :: ps, s => by
    rw [gL_cons, gB_cons]
    cases doP l s p with
    | none => rfl
    | some s' => simp only [same_bad l w ps s']
theorem bw_start {l : Ln} (hl : l.Ok) : bw l MS.start = [] := by
  have h : decide (MS.start.una < MS.start.done - l.kept) = false := by
    have := hl.k0
    rw [decide_eq_false_iff_not]
    show ¬ ((0 : Int) < 0 - l.kept)
    omega
  unfold bw
  rw [h]; rfl
theorem law_bad {l : Ln} (hl : l.Ok) (w : Str) (ps : List Sp) : lawBad l w ps = badRun l w ps := by
  have h := same_bad l w ps MS.start
  have e : gL l w ps MS.start = lawBad l w ps := by unfold gL lawBad; rw [bw_start hl]
  rw [← e, ← h]
  rfl
section
variable {l : Ln} {s : MS} {S : Sto} {n : Nat} {kp kt : List (L2.Key × W)} {fs : List W} {st : D}
theorem turn_ok (n : Nat) {B : Nat} (hl : l.Ok) (h : Iv l s B) (hB : B < 400000) (hp : DK s.put kp) (ht : DK s.ans kt) (hf : fs.length < cap) {p : Sp} (hc : p.Ok) (x11 x12 x13 x14 x15 x16 : Option W) :
    TurnOk (n + 2) l st s kp kt fs S p x11 x12 x13 x14 x15 x16 := by
  cases p with
  | send c => exact turn_send (n + 1) hl h hB hp ht hf hc _ _ _ _ _ _
  | lose r i =>
    have h0 := hc.1
    rcases h0 with h0 | h0
    · subst h0; exact turn_lose0 (n + 1) hl h hB hp ht hf hc _ _ _ _ _ _
    · subst h0; exact turn_lose1 (n + 1) hl h hB hp ht hf hc _ _ _ _ _ _
  | bring r i k =>
    have h0 := hc.1
    rcases h0 with h0 | h0
    · subst h0; exact turn_bring0 n hl h hB hp ht hf hc _ _ _ _ _ _
    · subst h0; exact turn_bring1 n hl h hB hp ht hf hc _ _ _ _ _ _
theorem run_loop (n : Nat) (hl : l.Ok) : ∀ (ps : List Sp) (s : MS) (B : Nat) (kp kt : List (L2.Key × W)) (fs : List W) (x3 x11 x12 x13 x14 x15 x16 : Option W), Iv l s B → B + 17 * ps.length < 400000 → (∀ p ∈ ps, p.Ok) → DK s.put kp → DK s.ans kt → fs.length + ps.length < cap →
    match goL l ps s with
    | none => ∃ T, forD (gNm 3) (ess (rt (n + 2)) b20_3) ((ps.map Sp.D).map W.d) (LE l st s S.length x3 x11 x12 x13 x14 x15 x16) (LS s.r0 s.r1 kp kt fs S) = .rt (.d .none) (S ++ T)
    | some ws => ∃ (s' : MS) (kp' kt' : List (L2.Key × W)) (y3 y11 y12 y13 y14 y15 y16 : Option W), forD (gNm 3) (ess (rt (n + 2)) b20_3) ((ps.map Sp.D).map W.d) (LE l st s S.length x3 x11 x12 x13 x14 x15 x16) (LS s.r0 s.r1 kp kt fs S) =
        .nx (LE l st s' S.length y3 y11 y12 y13 y14 y15 y16) (LS s'.r0 s'.r1 kp' kt' (fs ++ ws.map fun w => .d (wD w)) S)
  | [], s, B, kp, kt, fs, x3, x11, x12, x13, x14, x15, x16, h, hB, hp, d1, d2, hf => by
    refine ⟨s, kp, kt, x3, x11, x12, x13, x14, x15, x16, ?_⟩
    show _ = Out.nx _ (LS s.r0 s.r1 kp kt (fs ++ []) S)
    rw [List.append_nil]
    rfl
  | p :: ps, s, B, kp, kt, fs, x3, x11, x12, x13, x14, x15, x16, h, hB, hp, d1, d2, hf => by
    have hB' : B + 17 * (ps.length + 1) < 400000 := by simpa using hB
    have hf' : fs.length + (ps.length + 1) < cap := by simpa using hf
    have hp0 := hp p List.mem_cons_self
    have T := turn_ok (st := st) (S := S) n hl h (by omega) d1 d2 (fs := fs) (by omega) hp0 x11 x12 x13 x14 x15 x16
    have hset : gNm 3 (.d p.D) (LE l st s S.length x3 x11 x12 x13 x14 x15 x16) (LS s.r0 s.r1 kp kt fs S) = .ok (LE l st s S.length (some (.d p.D)) x11 x12 x13 x14 x15 x16) (LS s.r0 s.r1 kp kt fs S) := rfl
    unfold TurnOk at T
    unfold goL
    rw [List.map_cons, List.map_cons, e_for1, hset, o_ok]
    cases hd : doP l s p with
    | none =>
      rw [hd] at T
      obtain ⟨S', T⟩ := T
      rw [T]
      exact ⟨S', rfl⟩
    | some s' =>
      rw [hd] at T
      obtain ⟨y11, y12, y13, y14, y15, y16, kp', kt', e1, e2, T⟩ := T
      rw [T, t_nx]
      have ih := run_loop n hl ps s' (B + 17) kp' kt' (fs ++ [.d (bwD l s')]) (some (.d p.D)) y11 y12 y13 y14 y15 y16 (doP_iv hl h hp0 hd) (by omega) (fun q hq => hp q (List.mem_cons_of_mem _ hq)) e1 e2 (by simp; omega)
      show match (match goL l ps s' with
        | none => none
        | some ws => some (bw l s' :: ws)) with
        | none => _
        | some ws => _
      cases hg : goL l ps s' with
      | none =>
        rw [hg] at ih
        exact ih
      | some ws =>
        rw [hg] at ih
        obtain ⟨s2, kp2, kt2, z3, z11, z12, z13, z14, z15, z16, e⟩ := ih
        refine ⟨s2, kp2, kt2, z3, z11, z12, z13, z14, z15, z16, ?_⟩
        rw [e, List.append_assoc]
        rfl
theorem run_ok (n : Nat) (hl : l.Ok) (ps : List Sp) (hlen : ps.length ≤ 4000) (hp : ∀ p ∈ ps, p.Ok) (S : Sto) : match goL l ps MS.start with
    | none => ∃ T, rn (n + 3) 20 [.d l.D, .d (stD ps)] S = .ok (.d .none) (S ++ T)
    | some ws => ∃ T, rn (n + 3) 20 [.d l.D, .d (stD ps)] S = .ok (.c (S.length + 5)) (S ++ T) ∧ (S ++ T)[S.length + 5]? = some (.lst ((([] : List Str) :: ws).map fun w => .d (wD w))) := by
  have L := run_loop (st := stD ps) (S := S) n hl ps MS.start 0 [] [] [.d (wD [])] none none none none none none none (Iv.start l hl.w0) (by omega) hp rfl rfl (by unfold cap; simp; omega)
  have key : rn (n + 3) 20 [.d l.D, .d (stD ps)] S = outR ((forD (gNm 3) (ess (rt (n + 2)) b20_3) ((ps.map Sp.D).map W.d) (LE l (stD ps) MS.start S.length none none none none none none none) (LS MS.start.r0 MS.start.r1 [] [] [.d (wD [])] S)).andO (sSeq (sRet (xVar 2)) sNil)) := by
    show outR (ess (rt (n + 2)) b20 [some (.d l.D), some (.d (stD ps)), none, none, none, none, none, none, none, none, none, none, none, none, none, none, none] S) = _
    rw [b20, stD]
    simp only [ess, es, et, ets, eto, ei, eg, egs, pv, sRet, sRetN, sNil, sIf, sAsg, sPar, sExp, sBrk, sCnt, xIte, xCall, xCons, xNil, xVar, xCon, xBin, xUn, xDic, tAnd, tOr, tNot, tBad, xBad, oNone, oSome, gNm, gsNil, gsCons, Bi.go, Tn.nm, Mt.go, Mt.rc, cmG, opG, Gxs.len, q_ok, q_bad, q_exc, q_ite, o_ok, o_bad, o_exc, o_ite, a_nx, a_rt, a_bk, a_ct, a_bad, a_ite, t_nx, t_ct, t_bk, t_rt, t_bad, t_ite, r_rt, r_nx, r_bad, r_ite, k_b, q_b, n_b, t_b, t_i, t_n, t_l, t_t, e_and, e_or, e_not, e_chn, e_bool, e_val, e_seq, w_add, w_sub, w_mul, w_div, w_mod, w_ord, w_neg, w_isn, w_isnn, w_isb, w_isbn, w_eqi, w_nei, w_eqs, w_nes, w_eqb, w_neb, w_lent, w_lenl, e_tup, e_tupc, e_lst, e_lstc, td_0, td_1, td_2, td_3, td_4, td_5, td_6, ld_0, ld_1, ld_2, ld_3, ld_4, ld_5, ld_6, ld_7, w_ixt, w_ixl, at_0, at_1, at_2, at_3, om_some, or_some, e_lc, e_gfd, e_gsb, e_mth, e_met, w_max, w_min, w_rg1, w_rg2, w_rgd, e_ival, it_l, it_t, e_for, v_fx, v_cel, l_t, isiG, tyN, isiB, isiTs, List.mem_cons, List.not_mem_nil, or_false, false_or, or_true, true_or, decide_true, decide_false, Bool.or_false, Bool.false_or, Bool.true_or, Bool.or_true, Bool.and_false, Bool.and_true, Bool.true_and, Bool.false_and, Bool.not_true, Bool.not_false, List.map_cons, List.map_nil, List.replicate_zero, List.replicate_succ, List.cons_append, List.nil_append, List.length_cons, List.length_nil, List.getElem?_cons_zero, List.getElem?_cons_succ, List.getElem?_nil, List.set_cons_zero, List.set_cons_succ, if_true, if_false, Bool.false_eq_true, reduceIte, ite_self, mkTupC, mkLstC, List.length_append]
    have c0 : 0 ≤ cap := Nat.zero_le _
    have c2 : 0 + 1 + 1 ≤ cap := by unfold cap; omega
    have c1 : 0 + 1 ≤ cap := by unfold cap; omega
    rw [if_pos c0, if_pos c0, if_pos c2, if_pos c1]
    simp only [List.append_assoc, List.cons_append, List.nil_append]
    rfl
  rw [key]
  cases hg : goL l ps MS.start with
  | none =>
    rw [hg] at L
    obtain ⟨T, e⟩ := L
    rw [e]
    exact ⟨T, rfl⟩
  | some ws =>
    rw [hg] at L
    obtain ⟨s', kp', kt', y3, y11, y12, y13, y14, y15, y16, e⟩ := L
    rw [e]
    have hh := h_5 (S := S) (r0 := s'.r0) (r1 := s'.r1) (kp := kp') (kt := kt') (fs := [W.d (wD [])] ++ ws.map fun w => W.d (wD w))
    exact ⟨LT s'.r0 s'.r1 kp' kt' ([W.d (wD [])] ++ ws.map fun w => W.d (wD w)) S.length, rfl, hh⟩
end

theorem at_m1w {α : Type} {ws : List α} {x : α} (h : ws.getLast? = some x) : L2.atI ws (-1) = some x := by
  obtain ⟨ys, rfl⟩ := List.getLast?_eq_some_iff.mp h
  exact at_last
theorem cut_m1 {α : Type} (ws : List α) : cutG ws none (some (-1)) = ws.dropLast := by
  unfold cutG
  have e1 : HT.sIx ws.length 0 none = 0 := rfl
  have e2 : HT.sIx ws.length ws.length (some (-1)) = ((-1 : Int) + (ws.length : Int)).toNat := rfl
  rw [e1, e2, List.drop_zero, List.dropLast_eq_take]
  congr 1
  omega
def lastO (w : Str) (o : Option (List Str)) : Bool := match o with
  | some y => inB w y
  | none => false
theorem lastB_is (w : Str) : ∀ (ws : List (List Str)) (x : List Str), lastB w x ws = (lastO w (x :: ws).getLast? && ((x :: ws).dropLast.filter fun y => !y.isEmpty).isEmpty)
  | [], x => by
    show inB w x = (inB w x && true)
    rw [Bool.and_true]
  | y :: r, x => by
    rw [lastB, lastB_is w r y, List.getLast?_cons_cons, List.dropLast_cons₂, List.filter_cons]
    cases hx : x.isEmpty with
    | true => simp
    | false => simp
theorem is_bad_ok (n : Nat) {l : Ln} (hl : l.Ok) {w : Str} {ps : List Sp} (hp : ∀ p ∈ ps, p.Ok) (hlen : ps.length ≤ 4000) (S : Sto) :
    ∃ T, rn (n + 4) 21 [.d l.D, .d (.str w), .d (stD ps)] S = .ok (.d (.bool (badRun l w ps))) (S ++ T) := by
  rw [← law_bad hl]
  have R := run_ok n hl ps hlen hp S
  show ∃ T, outR (ess (rt (n + 3)) b21 [some (.d l.D), some (.d (.str w)), some (.d (stD ps)), none, none] S) = _
  rw [b21]
  cases hg : goL l ps MS.start with
  | none =>
    rw [hg] at R
    obtain ⟨T, e⟩ := R
    have e2 : lawBad l w ps = false := by unfold lawBad; rw [hg]
    refine ⟨T, ?_⟩
    rw [e2]
    simp only [ess, es, et, ets, eto, ei, eg, egs, pv, sRet, sRetN, sNil, sIf, sAsg, sPar, sExp, sBrk, sCnt, xIte, xCall, xCons, xNil, xVar, xCon, xBin, xUn, xDic, tAnd, tOr, tNot, tBad, xBad, oNone, oSome, gNm, gsNil, gsCons, Bi.go, Tn.nm, Mt.go, Mt.rc, cmG, opG, Gxs.len, q_ok, q_bad, q_exc, q_ite, o_ok, o_bad, o_exc, o_ite, a_nx, a_rt, a_bk, a_ct, a_bad, a_ite, t_nx, t_ct, t_bk, t_rt, t_bad, t_ite, r_rt, r_nx, r_bad, r_ite, k_b, q_b, n_b, t_b, t_i, t_n, t_l, t_t, e_and, e_or, e_not, e_chn, e_bool, e_val, e_seq, w_add, w_sub, w_mul, w_div, w_mod, w_ord, w_neg, w_isn, w_isnn, w_isb, w_isbn, w_eqi, w_nei, w_eqs, w_nes, w_eqb, w_neb, w_lent, w_lenl, e_tup, e_tupc, e_lst, e_lstc, td_0, td_1, td_2, td_3, td_4, td_5, td_6, ld_0, ld_1, ld_2, ld_3, ld_4, ld_5, ld_6, ld_7, w_ixt, w_ixl, at_0, at_1, at_2, at_3, om_some, or_some, e_lc, e_gfd, e_gsb, e_mth, e_met, w_max, w_min, w_rg1, w_rg2, w_rgd, e_ival, it_l, it_t, e_for, v_fx, v_cel, l_t, isiG, tyN, isiB, isiTs, List.mem_cons, List.not_mem_nil, or_false, false_or, or_true, true_or, decide_true, decide_false, Bool.or_false, Bool.false_or, Bool.true_or, Bool.or_true, Bool.and_false, Bool.and_true, Bool.true_and, Bool.false_and, Bool.not_true, Bool.not_false, List.map_cons, List.map_nil, List.replicate_zero, List.replicate_succ, List.cons_append, List.nil_append, List.length_cons, List.length_nil, List.getElem?_cons_zero, List.getElem?_cons_succ, List.getElem?_nil, List.set_cons_zero, List.set_cons_succ, if_true, if_false, Bool.false_eq_true, reduceIte, ite_self, e, non_n]
  | some ws =>
    rw [hg] at R
    obtain ⟨T, e, h5⟩ := R
    have e2 : lawBad l w ps = lastB w [] ws := by unfold lawBad; rw [hg]
    refine ⟨T, ?_⟩
    rw [e2, lastB_is]
    simp only [ess, es, et, ets, eto, ei, eg, egs, pv, sRet, sRetN, sNil, sIf, sAsg, sPar, sExp, sBrk, sCnt, xIte, xCall, xCons, xNil, xVar, xCon, xBin, xUn, xDic, tAnd, tOr, tNot, tBad, xBad, oNone, oSome, gNm, gsNil, gsCons, Bi.go, Tn.nm, Mt.go, Mt.rc, cmG, opG, Gxs.len, q_ok, q_bad, q_exc, q_ite, o_ok, o_bad, o_exc, o_ite, a_nx, a_rt, a_bk, a_ct, a_bad, a_ite, t_nx, t_ct, t_bk, t_rt, t_bad, t_ite, r_rt, r_nx, r_bad, r_ite, k_b, q_b, n_b, t_b, t_i, t_n, t_l, t_t, e_and, e_or, e_not, e_chn, e_bool, e_val, e_seq, w_add, w_sub, w_mul, w_div, w_mod, w_ord, w_neg, w_isn, w_isnn, w_isb, w_isbn, w_eqi, w_nei, w_eqs, w_nes, w_eqb, w_neb, w_lent, w_lenl, e_tup, e_tupc, e_lst, e_lstc, td_0, td_1, td_2, td_3, td_4, td_5, td_6, ld_0, ld_1, ld_2, ld_3, ld_4, ld_5, ld_6, ld_7, w_ixt, w_ixl, at_0, at_1, at_2, at_3, om_some, or_some, e_lc, e_gfd, e_gsb, e_mth, e_met, w_max, w_min, w_rg1, w_rg2, w_rgd, e_ival, it_l, it_t, e_for, v_fx, v_cel, l_t, isiG, tyN, isiB, isiTs, List.mem_cons, List.not_mem_nil, or_false, false_or, or_true, true_or, decide_true, decide_false, Bool.or_false, Bool.false_or, Bool.true_or, Bool.or_true, Bool.and_false, Bool.and_true, Bool.true_and, Bool.false_and, Bool.not_true, Bool.not_false, List.map_cons, List.map_nil, List.replicate_zero, List.replicate_succ, List.cons_append, List.nil_append, List.length_cons, List.length_nil, List.getElem?_cons_zero, List.getElem?_cons_succ, List.getElem?_nil, List.set_cons_zero, List.set_cons_succ, if_true, if_false, Bool.false_eq_true, reduceIte, ite_self, e, w_neg]
    have i1 : ∀ S : Sto, isW true (.c (S.length + 5)) (.d .none) S = .ok (.d (.bool true)) S := fun S => rfl
    have i1' : isW true (.c (S.length + 5)) (.d .none) (S ++ T) = .ok (.d (.bool true)) (S ++ T) := rfl
    obtain ⟨y, hy⟩ : ∃ y, (([] : List Str) :: ws).getLast? = some y := by
      cases hz : (([] : List Str) :: ws).getLast? with
      | none => simp at hz
      | some y => exact ⟨y, rfl⟩
    have i2 : ixG (.c (S.length + 5)) (.d (.int (-1))) (S ++ T) = .ok (.d (.list (y.map .str))) (S ++ T) := by
      rw [w_ixc h5, at_m1w (x := .d (wD y)) (by rw [List.getLast?_map, hy]; rfl)]; rfl
    have i3 : slG false (.c (S.length + 5)) none (some (-1)) (S ++ T) = .ok (.d (.list (((([] : List Str) :: ws).dropLast).map wD))) (S ++ T) := by
      have e3 : seqOf (S ++ T) (.c (S.length + 5)) = some (true, (([] : List Str) :: ws).map fun w => .d (wD w)) := by
        show obSeq (S ++ T)[S.length + 5]? = _
        rw [h5]; rfl
      show (match seqOf (S ++ T) (.c (S.length + 5)) with
        | some (true, ws) => if false = true then _ else (match allD (cutG ws none (some (-1))) with
          | some ds => Res.ok (W.d (.list ds)) (S ++ T)
          | none => .bad)
        | _ => .bad) = _
      rw [e3]
      show (match allD (cutG ((([] : List Str) :: ws).map fun w => W.d (wD w)) none (some (-1))) with
          | some ds => Res.ok (W.d (.list ds)) (S ++ T)
          | none => .bad) = _
      rw [cut_m1, ← List.map_dropLast]
      have e4 : (((([] : List Str) :: ws).dropLast).map fun w => W.d (wD w)) = ((((([] : List Str) :: ws).dropLast).map wD).map W.d) := by rw [List.map_map]; rfl
      rw [e4, allD_map]
    have i4 : ∀ en : Ev, en = wipeE [some (.d l.D), some (.d (.str w)), some (.d (stD ps)), some (.c (S.length + 5)), none] [4] → lcV false (gNm 4) (tBool (xBin (eqW true) (xVar 4) (xLst false xNil))) (xCon (.d (.int 1))) en (.fx (((((([] : List Str) :: ws).dropLast).map wD)).map .d)) (S ++ T) = .ok (.d (.list ((((([] : List Str) :: ws).dropLast.filter fun y => !y.isEmpty).map fun _ => PyData.int 1)))) (S ++ T) := by
      rintro en rfl
      have hlen : ((([] : List Str) :: ws).dropLast).length ≤ cap := by
        have h6 : ws.length = ps.length := by
          clear hy h5 e i1' i2 i3
          have key : ∀ (ps : List Sp) (s : MS) (ws : List (List Str)), goL l ps s = some ws → ws.length = ps.length := by
            intro ps
            induction ps with
            | nil => intro s ws h; cases h; rfl
            | cons p ps ih =>
              intro s ws h
              rw [goL] at h
              split at h
              · cases h
              · split at h
                · cases h
                · rename_i h7
                  cases h
                  rw [List.length_cons, List.length_cons, ih _ _ h7]
          exact key ps _ ws hg
        simp
        unfold cap
        omega
      rw [lcv_d (e := fun d => [some (.d l.D), some (.d (.str w)), some (.d (stD ps)), some (.c (S.length + 5)), some (.d d)]) (p := fun d => match d with | .list ds => !ds.isEmpty | _ => false) (h := fun _ => .int 1) (by rw [List.length_map]; exact hlen) (fun d hd => rfl) (fun d hd => by
        obtain ⟨y, hy, rfl⟩ := List.mem_map.mp hd
        unfold wD
        simp only [ess, es, et, ets, eto, ei, eg, egs, pv, sRet, sRetN, sNil, sIf, sAsg, sPar, sExp, sBrk, sCnt, xIte, xCall, xCons, xNil, xVar, xCon, xBin, xUn, xDic, tAnd, tOr, tNot, tBad, xBad, oNone, oSome, gNm, gsNil, gsCons, Bi.go, Tn.nm, Mt.go, Mt.rc, cmG, opG, Gxs.len, q_ok, q_bad, q_exc, q_ite, o_ok, o_bad, o_exc, o_ite, a_nx, a_rt, a_bk, a_ct, a_bad, a_ite, t_nx, t_ct, t_bk, t_rt, t_bad, t_ite, r_rt, r_nx, r_bad, r_ite, k_b, q_b, n_b, t_b, t_i, t_n, t_l, t_t, e_and, e_or, e_not, e_chn, e_bool, e_val, e_seq, w_add, w_sub, w_mul, w_div, w_mod, w_ord, w_neg, w_isn, w_isnn, w_isb, w_isbn, w_eqi, w_nei, w_eqs, w_nes, w_eqb, w_neb, w_lent, w_lenl, e_tup, e_tupc, e_lst, e_lstc, td_0, td_1, td_2, td_3, td_4, td_5, td_6, ld_0, ld_1, ld_2, ld_3, ld_4, ld_5, ld_6, ld_7, w_ixt, w_ixl, at_0, at_1, at_2, at_3, om_some, or_some, e_lc, e_gfd, e_gsb, e_mth, e_met, w_max, w_min, w_rg1, w_rg2, w_rgd, e_ival, it_l, it_t, e_for, v_fx, v_cel, l_t, isiG, tyN, isiB, isiTs, List.mem_cons, List.not_mem_nil, or_false, false_or, or_true, true_or, decide_true, decide_false, Bool.or_false, Bool.false_or, Bool.true_or, Bool.or_true, Bool.and_false, Bool.and_true, Bool.true_and, Bool.false_and, Bool.not_true, Bool.not_false, List.map_cons, List.map_nil, List.replicate_zero, List.replicate_succ, List.cons_append, List.nil_append, List.length_cons, List.length_nil, List.getElem?_cons_zero, List.getElem?_cons_succ, List.getElem?_nil, List.set_cons_zero, List.set_cons_succ, if_true, if_false, Bool.false_eq_true, reduceIte, ite_self, ne_e]
        cases y <;> rfl) (fun d hd hp => rfl), List.filter_map, List.map_map]
      congr 3
      rw [show ((fun d => match d with | PyData.list ds => !ds.isEmpty | _ => false) ∘ wD) = fun y => !y.isEmpty from by
        funext y
        unfold wD
        cases y <;> rfl]
      rfl
    have i5 : ∀ is : List (List Str), eqW false (.d (.list (is.map fun _ => PyData.int 1))) (.d (.list [])) (S ++ T) = .ok (.d (.bool is.isEmpty)) (S ++ T) := by
      intro is
      rw [w_eq rfl]
      cases is <;> simp [PyData.eqv, PyData.eqvAll]
    rw [hy]
    simp only [ess, es, et, ets, eto, ei, eg, egs, pv, sRet, sRetN, sNil, sIf, sAsg, sPar, sExp, sBrk, sCnt, xIte, xCall, xCons, xNil, xVar, xCon, xBin, xUn, xDic, tAnd, tOr, tNot, tBad, xBad, oNone, oSome, gNm, gsNil, gsCons, Bi.go, Tn.nm, Mt.go, Mt.rc, cmG, opG, Gxs.len, q_ok, q_bad, q_exc, q_ite, o_ok, o_bad, o_exc, o_ite, a_nx, a_rt, a_bk, a_ct, a_bad, a_ite, t_nx, t_ct, t_bk, t_rt, t_bad, t_ite, r_rt, r_nx, r_bad, r_ite, k_b, q_b, n_b, t_b, t_i, t_n, t_l, t_t, e_and, e_or, e_not, e_chn, e_bool, e_val, e_seq, w_add, w_sub, w_mul, w_div, w_mod, w_ord, w_neg, w_isn, w_isnn, w_isb, w_isbn, w_eqi, w_nei, w_eqs, w_nes, w_eqb, w_neb, w_lent, w_lenl, e_tup, e_tupc, e_lst, e_lstc, td_0, td_1, td_2, td_3, td_4, td_5, td_6, ld_0, ld_1, ld_2, ld_3, ld_4, ld_5, ld_6, ld_7, w_ixt, w_ixl, at_0, at_1, at_2, at_3, om_some, or_some, e_lc, e_gfd, e_gsb, e_mth, e_met, w_max, w_min, w_rg1, w_rg2, w_rgd, e_ival, it_l, it_t, e_for, v_fx, v_cel, l_t, isiG, tyN, isiB, isiTs, List.mem_cons, List.not_mem_nil, or_false, false_or, or_true, true_or, decide_true, decide_false, Bool.or_false, Bool.false_or, Bool.true_or, Bool.or_true, Bool.and_false, Bool.and_true, Bool.true_and, Bool.false_and, Bool.not_true, Bool.not_false, List.map_cons, List.map_nil, List.replicate_zero, List.replicate_succ, List.cons_append, List.nil_append, List.length_cons, List.length_nil, List.getElem?_cons_zero, List.getElem?_cons_succ, List.getElem?_nil, List.set_cons_zero, List.set_cons_succ, if_true, if_false, Bool.false_eq_true, reduceIte, ite_self, i1', i2, i3, in_w, i4 _ rfl, i5]
    show _ = Res.ok (W.d (.bool (decide (w ∈ y) && _))) _
    cases decide (w ∈ y) <;> rfl
end K75
end
section
set_option Elab.async false
set_option linter.all false
set_option maxRecDepth 100000
set_option maxHeartbeats 8000000
namespace K75
open PySem Mi
theorem sort_b (n : Nat) (b : Bool) (S : Sto) : rn (n + 1) 15 [.d (.bool b)] S = .ok (.d (.int 1)) S := by
  show outR (ess (rt n) b15 [some (.d (.bool b))] S) = _
  rw [b15]
  simp only [ess, es, et, ets, eto, ei, eg, egs, pv, sRet, sRetN, sNil, sIf, sAsg, sPar, sExp, sBrk, sCnt, xIte, xCall, xCons, xNil, xVar, xCon, xBin, xUn, xDic, tAnd, tOr, tNot, tBad, xBad, oNone, oSome, gNm, gsNil, gsCons, Bi.go, Tn.nm, Mt.go, Mt.rc, cmG, opG, Gxs.len, q_ok, q_bad, q_exc, q_ite, o_ok, o_bad, o_exc, o_ite, a_nx, a_rt, a_bk, a_ct, a_bad, a_ite, t_nx, t_ct, t_bk, t_rt, t_bad, t_ite, r_rt, r_nx, r_bad, r_ite, k_b, q_b, n_b, t_b, t_i, t_n, t_l, t_t, e_and, e_or, e_not, e_chn, e_bool, e_val, e_seq, w_add, w_sub, w_mul, w_div, w_mod, w_ord, w_neg, w_isn, w_isnn, w_isb, w_isbn, w_eqi, w_nei, w_eqs, w_nes, w_eqb, w_neb, w_lent, w_lenl, e_tup, e_tupc, e_lst, e_lstc, td_0, td_1, td_2, td_3, td_4, td_5, td_6, ld_0, ld_1, ld_2, ld_3, ld_4, ld_5, ld_6, ld_7, w_ixt, w_ixl, at_0, at_1, at_2, at_3, om_some, or_some, e_lc, e_gfd, e_gsb, e_mth, e_met, w_max, w_min, w_rg1, w_rg2, w_rgd, e_ival, it_l, it_t, e_for, v_fx, v_cel, l_t, isiG, tyN, isiB, isiTs, List.mem_cons, List.not_mem_nil, or_false, false_or, or_true, true_or, decide_true, decide_false, Bool.or_false, Bool.false_or, Bool.true_or, Bool.or_true, Bool.and_false, Bool.and_true, Bool.true_and, Bool.false_and, Bool.not_true, Bool.not_false, List.map_cons, List.map_nil, List.replicate_zero, List.replicate_succ, List.cons_append, List.nil_append, List.length_cons, List.length_nil, List.getElem?_cons_zero, List.getElem?_cons_succ, List.getElem?_nil, List.set_cons_zero, List.set_cons_succ, if_true, if_false, Bool.false_eq_true, reduceIte, ite_self]
  rfl
theorem like_b (n : Nat) (b : Bool) (S : Sto) : rn (n + 2) 16 [.d (.bool b), .d (.bool b)] S = .ok (.d (.bool true)) S := by
  show outR (ess (rt (n + 1)) b16 [some (.d (.bool b)), some (.d (.bool b)), none, none, none] S) = _
  rw [b16]
  have i1 : inW false (.d (.int 1)) (.d (.tuple [.int 4, .int 5])) S = .ok (.d (.bool false)) S := rfl
  simp only [ess, es, et, ets, eto, ei, eg, egs, pv, sRet, sRetN, sNil, sIf, sAsg, sPar, sExp, sBrk, sCnt, xIte, xCall, xCons, xNil, xVar, xCon, xBin, xUn, xDic, tAnd, tOr, tNot, tBad, xBad, oNone, oSome, gNm, gsNil, gsCons, Bi.go, Tn.nm, Mt.go, Mt.rc, cmG, opG, Gxs.len, q_ok, q_bad, q_exc, q_ite, o_ok, o_bad, o_exc, o_ite, a_nx, a_rt, a_bk, a_ct, a_bad, a_ite, t_nx, t_ct, t_bk, t_rt, t_bad, t_ite, r_rt, r_nx, r_bad, r_ite, k_b, q_b, n_b, t_b, t_i, t_n, t_l, t_t, e_and, e_or, e_not, e_chn, e_bool, e_val, e_seq, w_add, w_sub, w_mul, w_div, w_mod, w_ord, w_neg, w_isn, w_isnn, w_isb, w_isbn, w_eqi, w_nei, w_eqs, w_nes, w_eqb, w_neb, w_lent, w_lenl, e_tup, e_tupc, e_lst, e_lstc, td_0, td_1, td_2, td_3, td_4, td_5, td_6, ld_0, ld_1, ld_2, ld_3, ld_4, ld_5, ld_6, ld_7, w_ixt, w_ixl, at_0, at_1, at_2, at_3, om_some, or_some, e_lc, e_gfd, e_gsb, e_mth, e_met, w_max, w_min, w_rg1, w_rg2, w_rgd, e_ival, it_l, it_t, e_for, v_fx, v_cel, l_t, isiG, tyN, isiB, isiTs, List.mem_cons, List.not_mem_nil, or_false, false_or, or_true, true_or, decide_true, decide_false, Bool.or_false, Bool.false_or, Bool.true_or, Bool.or_true, Bool.and_false, Bool.and_true, Bool.true_and, Bool.false_and, Bool.not_true, Bool.not_false, List.map_cons, List.map_nil, List.replicate_zero, List.replicate_succ, List.cons_append, List.nil_append, List.length_cons, List.length_nil, List.getElem?_cons_zero, List.getElem?_cons_succ, List.getElem?_nil, List.set_cons_zero, List.set_cons_succ, if_true, if_false, Bool.false_eq_true, reduceIte, ite_self, sort_b, i1]
  rfl
def Cup (S : Sto) (k : Nat) : Prop := ∃ a b : Int, S[k]? = some (.lst [.d (.int a), .d (.int b)])
structure Kp2 (S S' : Sto) (k : Nat) : Prop where
  len : S.length ≤ S'.length
  old : ∀ j, j < S.length → j ≠ k → S'[j]? = S[j]?
  cup : Cup S' k
theorem Kp2.rfl' {S : Sto} {k : Nat} (h : Cup S k) : Kp2 S S k := ⟨Nat.le_refl _, fun _ _ _ => rfl, h⟩
theorem Kp2.trans {S S1 S2 : Sto} {k : Nat} (a : Kp2 S S1 k) (b : Kp2 S1 S2 k) : Kp2 S S2 k := ⟨Nat.le_trans a.len b.len, fun j h1 h2 => (b.old j (Nat.lt_of_lt_of_le h1 a.len) h2).trans (a.old j h1 h2), b.cup⟩
theorem Cup.lt {S : Sto} {k : Nat} (h : Cup S k) : k < S.length := by
  obtain ⟨a, b, e⟩ := h
  exact (List.getElem?_eq_some_iff.mp e).1
theorem Kp2.app {S : Sto} {k : Nat} (h : Cup S k) (T : Sto) : Kp2 S (S ++ T) k := by
  refine ⟨by simp, fun j h1 _ => List.getElem?_append_left h1, ?_⟩
  obtain ⟨a, b, e⟩ := id h
  exact ⟨a, b, by rw [List.getElem?_append_left h.lt]; exact e⟩
theorem Kp2.set {S : Sto} {k : Nat} (h : Cup S k) (a b : Int) : Kp2 S (S.set k (.lst [.d (.int a), .d (.int b)])) k := by
  refine ⟨by simp, fun j h1 h2 => List.getElem?_set_ne (Ne.symm h2), a, b, ?_⟩
  rw [List.getElem?_set_self h.lt]
theorem set_0 {S : Sto} {k : Nat} {a b : Int} (h : S[k]? = some (.lst [.d (.int a), .d (.int b)])) (v : Int) : setIx (.c k) (.d (.int 0)) (.d (.int v)) S = .ok () (S.set k (.lst [.d (.int v), .d (.int b)])) := by
  simp only [setIx, h]
  rfl
theorem set_1 {S : Sto} {k : Nat} {a b : Int} (h : S[k]? = some (.lst [.d (.int a), .d (.int b)])) (v : Int) : setIx (.c k) (.d (.int 1)) (.d (.int v)) S = .ok () (S.set k (.lst [.d (.int a), .d (.int v)])) := by
  simp only [setIx, h]
  rfl
theorem fmod_lt (x : Int) {m : Int} (h : 0 < m) : 0 ≤ x.fmod m ∧ x.fmod m < m := by
  rw [Int.fmod_eq_emod_of_nonneg _ (by omega)]
  exact ⟨Int.emod_nonneg _ (by omega), Int.emod_lt_of_pos _ h⟩
theorem roll_ok (n : Nat) {S : Sto} {k : Nat} (h : Cup S k) {m : Int} (m1 : 1 ≤ m) (m2 : m < 1000000) : ∃ r S', rn (n + 1) 13 [.c k, .d (.int m)] S = .ok (.d (.int r)) S' ∧ 0 ≤ r ∧ r < m ∧ Kp2 S S' k := by
  obtain ⟨a, b, e⟩ := id h
  have x0 : ∀ {S : Sto} {a b : Int}, S[k]? = some (.lst [.d (.int a), .d (.int b)]) → ixG (.c k) (.d (.int 0)) S = .ok (.d (.int a)) S := fun e => by rw [w_ixc e, at_0]; rfl
  have x1 : ∀ {S : Sto} {a b : Int}, S[k]? = some (.lst [.d (.int a), .d (.int b)]) → ixG (.c k) (.d (.int 1)) S = .ok (.d (.int b)) S := fun e => by rw [w_ixc e, at_1]; rfl
  have hm : decide (m ≠ 0) = true := decide_eq_true (by omega)
  have hm2 : decide (m.natAbs < 1073741824) = true := decide_eq_true (by omega)
  show ∃ r S', outR (ess (rt n) b13 [some (.c k), some (.d (.int m)), none, none] S) = _ ∧ _
  rw [b13]
  by_cases ha : 0 < a
  · refine ⟨a.fmod m, S.set k (.lst [.d (.int (a.fdiv m)), .d (.int b)]), ?_, (fmod_lt a (by omega)).1, (fmod_lt a (by omega)).2, Kp2.set h _ _⟩
    simp only [ess, es, et, ets, eto, ei, eg, egs, pv, sRet, sRetN, sNil, sIf, sAsg, sPar, sExp, sBrk, sCnt, xIte, xCall, xCons, xNil, xVar, xCon, xBin, xUn, xDic, tAnd, tOr, tNot, tBad, xBad, oNone, oSome, gNm, gsNil, gsCons, Bi.go, Tn.nm, Mt.go, Mt.rc, cmG, opG, Gxs.len, q_ok, q_bad, q_exc, q_ite, o_ok, o_bad, o_exc, o_ite, a_nx, a_rt, a_bk, a_ct, a_bad, a_ite, t_nx, t_ct, t_bk, t_rt, t_bad, t_ite, r_rt, r_nx, r_bad, r_ite, k_b, q_b, n_b, t_b, t_i, t_n, t_l, t_t, e_and, e_or, e_not, e_chn, e_bool, e_val, e_seq, w_add, w_sub, w_mul, w_div, w_mod, w_ord, w_neg, w_isn, w_isnn, w_isb, w_isbn, w_eqi, w_nei, w_eqs, w_nes, w_eqb, w_neb, w_lent, w_lenl, e_tup, e_tupc, e_lst, e_lstc, td_0, td_1, td_2, td_3, td_4, td_5, td_6, ld_0, ld_1, ld_2, ld_3, ld_4, ld_5, ld_6, ld_7, w_ixt, w_ixl, at_0, at_1, at_2, at_3, om_some, or_some, e_lc, e_gfd, e_gsb, e_mth, e_met, w_max, w_min, w_rg1, w_rg2, w_rgd, e_ival, it_l, it_t, e_for, v_fx, v_cel, l_t, isiG, tyN, isiB, isiTs, List.mem_cons, List.not_mem_nil, or_false, false_or, or_true, true_or, decide_true, decide_false, Bool.or_false, Bool.false_or, Bool.true_or, Bool.or_true, Bool.and_false, Bool.and_true, Bool.true_and, Bool.false_and, Bool.not_true, Bool.not_false, List.map_cons, List.map_nil, List.replicate_zero, List.replicate_succ, List.cons_append, List.nil_append, List.length_cons, List.length_nil, List.getElem?_cons_zero, List.getElem?_cons_succ, List.getElem?_nil, List.set_cons_zero, List.set_cons_succ, if_true, if_false, Bool.false_eq_true, reduceIte, ite_self, x0 e, decide_eq_true ha, w_toi, hm, hm2, e_gsb, set_0 e]
  · have hb2 := fmod_lt (b * 30757 + 8219) (m := 2147483543) (by omega)
    generalize hbn : (b * 30757 + 8219).fmod 2147483543 = b2 at hb2
    have e' : (S.set k (.lst [.d (.int a), .d (.int b2)]))[k]? = some (.lst [.d (.int a), .d (.int b2)]) := List.getElem?_set_self h.lt
    have k1 : mulOk b 30757 = true := by unfold mulOk; simp
    have k2 : mulOk b2 (b2 + 251) = true := by
      unfold mulOk
      simp only [Bool.or_eq_true, Bool.and_eq_true, decide_eq_true_eq]
      left; omega
    have d1 : decide ((2147483543 : Int) ≠ 0) = true := rfl
    have d2 : decide ((2147483587 : Int) ≠ 0) = true := rfl
    have d3 : (decide ((829 : Int) ≠ 0) && decide ((829 : Int).natAbs < 1073741824)) = true := rfl
    have hr := fmod_lt ((((b2 * (b2 + 251)).fmod 2147483587).fdiv 829)) (m := m) (by omega)
    refine ⟨(((b2 * (b2 + 251)).fmod 2147483587).fdiv 829).fmod m, S.set k (.lst [.d (.int a), .d (.int b2)]), ?_, hr.1, hr.2, Kp2.set h _ _⟩
    simp only [ess, es, et, ets, eto, ei, eg, egs, pv, sRet, sRetN, sNil, sIf, sAsg, sPar, sExp, sBrk, sCnt, xIte, xCall, xCons, xNil, xVar, xCon, xBin, xUn, xDic, tAnd, tOr, tNot, tBad, xBad, oNone, oSome, gNm, gsNil, gsCons, Bi.go, Tn.nm, Mt.go, Mt.rc, cmG, opG, Gxs.len, q_ok, q_bad, q_exc, q_ite, o_ok, o_bad, o_exc, o_ite, a_nx, a_rt, a_bk, a_ct, a_bad, a_ite, t_nx, t_ct, t_bk, t_rt, t_bad, t_ite, r_rt, r_nx, r_bad, r_ite, k_b, q_b, n_b, t_b, t_i, t_n, t_l, t_t, e_and, e_or, e_not, e_chn, e_bool, e_val, e_seq, w_add, w_sub, w_mul, w_div, w_mod, w_ord, w_neg, w_isn, w_isnn, w_isb, w_isbn, w_eqi, w_nei, w_eqs, w_nes, w_eqb, w_neb, w_lent, w_lenl, e_tup, e_tupc, e_lst, e_lstc, td_0, td_1, td_2, td_3, td_4, td_5, td_6, ld_0, ld_1, ld_2, ld_3, ld_4, ld_5, ld_6, ld_7, w_ixt, w_ixl, at_0, at_1, at_2, at_3, om_some, or_some, e_lc, e_gfd, e_gsb, e_mth, e_met, w_max, w_min, w_rg1, w_rg2, w_rgd, e_ival, it_l, it_t, e_for, v_fx, v_cel, l_t, isiG, tyN, isiB, isiTs, List.mem_cons, List.not_mem_nil, or_false, false_or, or_true, true_or, decide_true, decide_false, Bool.or_false, Bool.false_or, Bool.true_or, Bool.or_true, Bool.and_false, Bool.and_true, Bool.true_and, Bool.false_and, Bool.not_true, Bool.not_false, List.map_cons, List.map_nil, List.replicate_zero, List.replicate_succ, List.cons_append, List.nil_append, List.length_cons, List.length_nil, List.getElem?_cons_zero, List.getElem?_cons_succ, List.getElem?_nil, List.set_cons_zero, List.set_cons_succ, if_true, if_false, Bool.false_eq_true, reduceIte, ite_self, x0 e, x1 e, decide_eq_false ha, w_toi, hm, hm2, e_gsb, set_1 e, k1, d1, hbn, x1 e', k2, d2, d3]
end K75
end
section
set_option Elab.async false
set_option linter.all false
set_option maxRecDepth 100000
set_option maxHeartbeats 8000000
namespace K75
open PySem Mi
theorem some_ok (n : Nat) {S : Sto} {k : Nat} (h : Cup S k) {ds : List D} (h1 : ds ≠ []) (h2 : ds.length < 1000000) : ∃ d S', rn (n + 2) 14 [.c k, .d (.list ds)] S = .ok (.d d) S' ∧ d ∈ ds ∧ Kp2 S S' k := by
  have hl : 0 < ds.length := List.length_pos_iff.mpr h1
  obtain ⟨r, S', e, r0, r1, kp⟩ := roll_ok n h (m := (ds.length : Int)) (by omega) (by omega)
  have hr : ((r.toNat : Nat) : Int) = r := Int.toNat_of_nonneg r0
  have hlt : r.toNat < ds.length := by omega
  refine ⟨ds[r.toNat], S', ?_, List.getElem_mem hlt, kp⟩
  show outR (ess (rt (n + 1)) b14 [some (.c k), some (.d (.list ds))] S) = _
  rw [b14]
  simp only [ess, es, et, ets, eto, ei, eg, egs, pv, sRet, sRetN, sNil, sIf, sAsg, sPar, sExp, sBrk, sCnt, xIte, xCall, xCons, xNil, xVar, xCon, xBin, xUn, xDic, tAnd, tOr, tNot, tBad, xBad, oNone, oSome, gNm, gsNil, gsCons, Bi.go, Tn.nm, Mt.go, Mt.rc, cmG, opG, Gxs.len, q_ok, q_bad, q_exc, q_ite, o_ok, o_bad, o_exc, o_ite, a_nx, a_rt, a_bk, a_ct, a_bad, a_ite, t_nx, t_ct, t_bk, t_rt, t_bad, t_ite, r_rt, r_nx, r_bad, r_ite, k_b, q_b, n_b, t_b, t_i, t_n, t_l, t_t, e_and, e_or, e_not, e_chn, e_bool, e_val, e_seq, w_add, w_sub, w_mul, w_div, w_mod, w_ord, w_neg, w_isn, w_isnn, w_isb, w_isbn, w_eqi, w_nei, w_eqs, w_nes, w_eqb, w_neb, w_lent, w_lenl, e_tup, e_tupc, e_lst, e_lstc, td_0, td_1, td_2, td_3, td_4, td_5, td_6, ld_0, ld_1, ld_2, ld_3, ld_4, ld_5, ld_6, ld_7, w_ixt, w_ixl, at_0, at_1, at_2, at_3, om_some, or_some, e_lc, e_gfd, e_gsb, e_mth, e_met, w_max, w_min, w_rg1, w_rg2, w_rgd, e_ival, it_l, it_t, e_for, v_fx, v_cel, l_t, isiG, tyN, isiB, isiTs, List.mem_cons, List.not_mem_nil, or_false, false_or, or_true, true_or, decide_true, decide_false, Bool.or_false, Bool.false_or, Bool.true_or, Bool.or_true, Bool.and_false, Bool.and_true, Bool.true_and, Bool.false_and, Bool.not_true, Bool.not_false, List.map_cons, List.map_nil, List.replicate_zero, List.replicate_succ, List.cons_append, List.nil_append, List.length_cons, List.length_nil, List.getElem?_cons_zero, List.getElem?_cons_succ, List.getElem?_nil, List.set_cons_zero, List.set_cons_succ, if_true, if_false, Bool.false_eq_true, reduceIte, ite_self, e]
  have ea : L2.atI ds r = some ds[r.toNat] := by
    have z := at_nat (xs := ds) (j := r.toNat)
    rw [hr] at z
    rw [z, List.getElem?_eq_getElem hlt]
  rw [ea]
  rfl
theorem add_t {xs ys : List D} {S : Sto} (h : xs.length + ys.length ≤ cap) : addW (.d (.tuple xs)) (.d (.tuple ys)) S = .ok (.d (.tuple (xs ++ ys))) S := by
  show (if xs.length + ys.length ≤ cap then _ else _) = _
  rw [if_pos h]
theorem add_l {xs ys : List D} {S : Sto} (h : xs.length + ys.length ≤ cap) : addW (.d (.list xs)) (.d (.list ys)) S = .ok (.d (.list (xs ++ ys))) S := by
  show (match allD (xs.map .d), allD (ys.map .d) with
    | some ds, some es => if ds.length + es.length ≤ cap then Res.ok (W.d (.list (ds ++ es))) S else .bad
    | _, _ => .bad) = _
  rw [allD_map, allD_map]
  show (if xs.length + ys.length ≤ cap then _ else _) = _
  rw [if_pos h]
theorem cup_ok (n : Nat) (ns : List Int) (hn : ns.length ≤ 63) (S : Sto) : ∃ a b : Int, rn (n + 1) 12 [.s ns] S = .ok (.c S.length) (S ++ [.lst [.d (.int a), .d (.int b)]]) := by
  show ∃ a b : Int, outR (ess (rt n) b12 [some (.s ns), none] S) = _
  have e1 : lstG false [.s ns] S = .ok (.d (.list (ns.map .int))) S := by
    show lstN false (ns.map fun i => W.d (.int i)) S = _
    have : (ns.map fun i => W.d (.int i)) = (ns.map .int).map .d := by rw [List.map_map]; rfl
    rw [this, l_f]
  have e2 : addW (.d (.list (ns.map .int))) (.d (.list [.int 0])) S = .ok (.d (.list ((ns.map .int) ++ [.int 0]))) S := add_l (by simp; unfold cap; omega)
  obtain ⟨c, r, hc⟩ : ∃ (c : Int) (r : List D), (ns.map PyData.int) ++ [PyData.int 0] = .int c :: r := by
    cases ns with
    | nil => exact ⟨0, [], rfl⟩
    | cons a b => exact ⟨a, _, rfl⟩
  rw [hc] at e2
  have e3 : ∀ S : Sto, absG [.d (.int c)] S = .ok (.d (.int (if c < 0 then -c else c))) S := fun _ => rfl
  generalize (if c < 0 then -c else c) = x at e3
  have e4 : ∀ S : Sto, powW (.d (.int 10)) (.d (.int 18)) S = .ok (.d (.int (10 ^ 18))) S := fun _ => rfl
  have m1 : mulOk x 311 = true := by unfold mulOk; simp
  have d1 : decide ((2061584333 : Int) ≠ 0) = true := rfl
  have d2 : (decide ((83 : Int) ≠ 0) && decide ((83 : Int).natAbs < 1073741824)) = true := rfl
  have c2 : 2 ≤ cap := by unfold cap; omega
  by_cases h : (10 ^ 18 : Int) ≤ x
  · refine ⟨x.fdiv 83, (x * 311 + 4597).fmod 2061584333 + 179, ?_⟩
    rw [b12]
    simp only [ess, es, et, ets, eto, ei, eg, egs, pv, sRet, sRetN, sNil, sIf, sAsg, sPar, sExp, sBrk, sCnt, xIte, xCall, xCons, xNil, xVar, xCon, xBin, xUn, xDic, tAnd, tOr, tNot, tBad, xBad, oNone, oSome, gNm, gsNil, gsCons, Bi.go, Tn.nm, Mt.go, Mt.rc, cmG, opG, Gxs.len, q_ok, q_bad, q_exc, q_ite, o_ok, o_bad, o_exc, o_ite, a_nx, a_rt, a_bk, a_ct, a_bad, a_ite, t_nx, t_ct, t_bk, t_rt, t_bad, t_ite, r_rt, r_nx, r_bad, r_ite, k_b, q_b, n_b, t_b, t_i, t_n, t_l, t_t, e_and, e_or, e_not, e_chn, e_bool, e_val, e_seq, w_add, w_sub, w_mul, w_div, w_mod, w_ord, w_neg, w_isn, w_isnn, w_isb, w_isbn, w_eqi, w_nei, w_eqs, w_nes, w_eqb, w_neb, w_lent, w_lenl, e_tup, e_tupc, e_lst, e_lstc, td_0, td_1, td_2, td_3, td_4, td_5, td_6, ld_0, ld_1, ld_2, ld_3, ld_4, ld_5, ld_6, ld_7, w_ixt, w_ixl, at_0, at_1, at_2, at_3, om_some, or_some, e_lc, e_gfd, e_gsb, e_mth, e_met, w_max, w_min, w_rg1, w_rg2, w_rgd, e_ival, it_l, it_t, e_for, v_fx, v_cel, l_t, isiG, tyN, isiB, isiTs, List.mem_cons, List.not_mem_nil, or_false, false_or, or_true, true_or, decide_true, decide_false, Bool.or_false, Bool.false_or, Bool.true_or, Bool.or_true, Bool.and_false, Bool.and_true, Bool.true_and, Bool.false_and, Bool.not_true, Bool.not_false, List.map_cons, List.map_nil, List.replicate_zero, List.replicate_succ, List.cons_append, List.nil_append, List.length_cons, List.length_nil, List.getElem?_cons_zero, List.getElem?_cons_succ, List.getElem?_nil, List.set_cons_zero, List.set_cons_succ, if_true, if_false, Bool.false_eq_true, reduceIte, ite_self, e1, e2, e3, e4, decide_eq_true h, d1, d2, m1, w_toi, mkLstC]
    rw [if_pos c2]
  · refine ⟨0, (x * 311 + 4597).fmod 2061584333 + 179, ?_⟩
    rw [b12]
    simp only [ess, es, et, ets, eto, ei, eg, egs, pv, sRet, sRetN, sNil, sIf, sAsg, sPar, sExp, sBrk, sCnt, xIte, xCall, xCons, xNil, xVar, xCon, xBin, xUn, xDic, tAnd, tOr, tNot, tBad, xBad, oNone, oSome, gNm, gsNil, gsCons, Bi.go, Tn.nm, Mt.go, Mt.rc, cmG, opG, Gxs.len, q_ok, q_bad, q_exc, q_ite, o_ok, o_bad, o_exc, o_ite, a_nx, a_rt, a_bk, a_ct, a_bad, a_ite, t_nx, t_ct, t_bk, t_rt, t_bad, t_ite, r_rt, r_nx, r_bad, r_ite, k_b, q_b, n_b, t_b, t_i, t_n, t_l, t_t, e_and, e_or, e_not, e_chn, e_bool, e_val, e_seq, w_add, w_sub, w_mul, w_div, w_mod, w_ord, w_neg, w_isn, w_isnn, w_isb, w_isbn, w_eqi, w_nei, w_eqs, w_nes, w_eqb, w_neb, w_lent, w_lenl, e_tup, e_tupc, e_lst, e_lstc, td_0, td_1, td_2, td_3, td_4, td_5, td_6, ld_0, ld_1, ld_2, ld_3, ld_4, ld_5, ld_6, ld_7, w_ixt, w_ixl, at_0, at_1, at_2, at_3, om_some, or_some, e_lc, e_gfd, e_gsb, e_mth, e_met, w_max, w_min, w_rg1, w_rg2, w_rgd, e_ival, it_l, it_t, e_for, v_fx, v_cel, l_t, isiG, tyN, isiB, isiTs, List.mem_cons, List.not_mem_nil, or_false, false_or, or_true, true_or, decide_true, decide_false, Bool.or_false, Bool.false_or, Bool.true_or, Bool.or_true, Bool.and_false, Bool.and_true, Bool.true_and, Bool.false_and, Bool.not_true, Bool.not_false, List.map_cons, List.map_nil, List.replicate_zero, List.replicate_succ, List.cons_append, List.nil_append, List.length_cons, List.length_nil, List.getElem?_cons_zero, List.getElem?_cons_succ, List.getElem?_nil, List.set_cons_zero, List.set_cons_succ, if_true, if_false, Bool.false_eq_true, reduceIte, ite_self, e1, e2, e3, e4, decide_eq_false h, d1, m1, w_toi, mkLstC]
    rw [if_pos c2]
theorem step_ok (n : Nat) {S : Sto} {k : Nat} (h : Cup S k) {wide : Int} (w1 : 1 ≤ wide) (w2 : wide ≤ 16) : ∃ p S', rn (n + 3) 22 [.c k, .d (.int wide)] S = .ok (.d (Sp.D p)) S' ∧ p.Ok ∧ Kp2 S S' k := by
  obtain ⟨r, S1, e1, r0, r1, k1⟩ := roll_ok (n + 1) h (m := 8) (by omega) (by omega)
  show ∃ p S', outR (ess (rt (n + 2)) b22 [some (.c k), some (.d (.int wide)), none] S) = _ ∧ _
  rw [b22]
  simp only [ess, es, et, ets, eto, ei, eg, egs, pv, sRet, sRetN, sNil, sIf, sAsg, sPar, sExp, sBrk, sCnt, xIte, xCall, xCons, xNil, xVar, xCon, xBin, xUn, xDic, tAnd, tOr, tNot, tBad, xBad, oNone, oSome, gNm, gsNil, gsCons, Bi.go, Tn.nm, Mt.go, Mt.rc, cmG, opG, Gxs.len, q_ok, q_bad, q_exc, q_ite, o_ok, o_bad, o_exc, o_ite, a_nx, a_rt, a_bk, a_ct, a_bad, a_ite, t_nx, t_ct, t_bk, t_rt, t_bad, t_ite, r_rt, r_nx, r_bad, r_ite, k_b, q_b, n_b, t_b, t_i, t_n, t_l, t_t, e_and, e_or, e_not, e_chn, e_bool, e_val, e_seq, w_add, w_sub, w_mul, w_div, w_mod, w_ord, w_neg, w_isn, w_isnn, w_isb, w_isbn, w_eqi, w_nei, w_eqs, w_nes, w_eqb, w_neb, w_lent, w_lenl, e_tup, e_tupc, e_lst, e_lstc, td_0, td_1, td_2, td_3, td_4, td_5, td_6, ld_0, ld_1, ld_2, ld_3, ld_4, ld_5, ld_6, ld_7, w_ixt, w_ixl, at_0, at_1, at_2, at_3, om_some, or_some, e_lc, e_gfd, e_gsb, e_mth, e_met, w_max, w_min, w_rg1, w_rg2, w_rgd, e_ival, it_l, it_t, e_for, v_fx, v_cel, l_t, isiG, tyN, isiB, isiTs, List.mem_cons, List.not_mem_nil, or_false, false_or, or_true, true_or, decide_true, decide_false, Bool.or_false, Bool.false_or, Bool.true_or, Bool.or_true, Bool.and_false, Bool.and_true, Bool.true_and, Bool.false_and, Bool.not_true, Bool.not_false, List.map_cons, List.map_nil, List.replicate_zero, List.replicate_succ, List.cons_append, List.nil_append, List.length_cons, List.length_nil, List.getElem?_cons_zero, List.getElem?_cons_succ, List.getElem?_nil, List.set_cons_zero, List.set_cons_succ, if_true, if_false, Bool.false_eq_true, reduceIte, ite_self, e1]
  by_cases h3 : r < 3
  · obtain ⟨c, S2, e2, c0, c1, k2⟩ := roll_ok (n + 1) k1.cup (m := wide + 4) (by omega) (by omega)
    refine ⟨.send c, S2, ?_, ⟨c0, by omega⟩, k1.trans k2⟩
    rw [decide_eq_true h3]
    simp only [ess, es, et, ets, eto, ei, eg, egs, pv, sRet, sRetN, sNil, sIf, sAsg, sPar, sExp, sBrk, sCnt, xIte, xCall, xCons, xNil, xVar, xCon, xBin, xUn, xDic, tAnd, tOr, tNot, tBad, xBad, oNone, oSome, gNm, gsNil, gsCons, Bi.go, Tn.nm, Mt.go, Mt.rc, cmG, opG, Gxs.len, q_ok, q_bad, q_exc, q_ite, o_ok, o_bad, o_exc, o_ite, a_nx, a_rt, a_bk, a_ct, a_bad, a_ite, t_nx, t_ct, t_bk, t_rt, t_bad, t_ite, r_rt, r_nx, r_bad, r_ite, k_b, q_b, n_b, t_b, t_i, t_n, t_l, t_t, e_and, e_or, e_not, e_chn, e_bool, e_val, e_seq, w_add, w_sub, w_mul, w_div, w_mod, w_ord, w_neg, w_isn, w_isnn, w_isb, w_isbn, w_eqi, w_nei, w_eqs, w_nes, w_eqb, w_neb, w_lent, w_lenl, e_tup, e_tupc, e_lst, e_lstc, td_0, td_1, td_2, td_3, td_4, td_5, td_6, ld_0, ld_1, ld_2, ld_3, ld_4, ld_5, ld_6, ld_7, w_ixt, w_ixl, at_0, at_1, at_2, at_3, om_some, or_some, e_lc, e_gfd, e_gsb, e_mth, e_met, w_max, w_min, w_rg1, w_rg2, w_rgd, e_ival, it_l, it_t, e_for, v_fx, v_cel, l_t, isiG, tyN, isiB, isiTs, List.mem_cons, List.not_mem_nil, or_false, false_or, or_true, true_or, decide_true, decide_false, Bool.or_false, Bool.false_or, Bool.true_or, Bool.or_true, Bool.and_false, Bool.and_true, Bool.true_and, Bool.false_and, Bool.not_true, Bool.not_false, List.map_cons, List.map_nil, List.replicate_zero, List.replicate_succ, List.cons_append, List.nil_append, List.length_cons, List.length_nil, List.getElem?_cons_zero, List.getElem?_cons_succ, List.getElem?_nil, List.set_cons_zero, List.set_cons_succ, if_true, if_false, Bool.false_eq_true, reduceIte, ite_self, e2]
    rfl
  · rw [decide_eq_false h3]
    obtain ⟨q, S2, e2, q0, q1, k2⟩ := roll_ok (n + 1) k1.cup (m := 2) (by omega) (by omega)
    have hq : q = 0 ∨ q = 1 := by omega
    by_cases h4 : r = 3
    · obtain ⟨d, S3, e3, hd, k3⟩ := some_ok n k2.cup (ds := [.int 0, .int 0, .int 1]) (by simp) (by simp)
      have hd' : ∃ i : Int, d = .int i ∧ 0 ≤ i ∧ i ≤ 4000 := by
        simp only [List.mem_cons, List.not_mem_nil, or_false] at hd
        rcases hd with hd | hd | hd <;> exact ⟨_, hd, by omega, by omega⟩
      obtain ⟨i, rfl, i0, i1⟩ := hd'
      refine ⟨.lose q i, S3, ?_, ⟨hq, i0, i1⟩, (k1.trans k2).trans k3⟩
      rw [decide_eq_true h4]
      simp only [ess, es, et, ets, eto, ei, eg, egs, pv, sRet, sRetN, sNil, sIf, sAsg, sPar, sExp, sBrk, sCnt, xIte, xCall, xCons, xNil, xVar, xCon, xBin, xUn, xDic, tAnd, tOr, tNot, tBad, xBad, oNone, oSome, gNm, gsNil, gsCons, Bi.go, Tn.nm, Mt.go, Mt.rc, cmG, opG, Gxs.len, q_ok, q_bad, q_exc, q_ite, o_ok, o_bad, o_exc, o_ite, a_nx, a_rt, a_bk, a_ct, a_bad, a_ite, t_nx, t_ct, t_bk, t_rt, t_bad, t_ite, r_rt, r_nx, r_bad, r_ite, k_b, q_b, n_b, t_b, t_i, t_n, t_l, t_t, e_and, e_or, e_not, e_chn, e_bool, e_val, e_seq, w_add, w_sub, w_mul, w_div, w_mod, w_ord, w_neg, w_isn, w_isnn, w_isb, w_isbn, w_eqi, w_nei, w_eqs, w_nes, w_eqb, w_neb, w_lent, w_lenl, e_tup, e_tupc, e_lst, e_lstc, td_0, td_1, td_2, td_3, td_4, td_5, td_6, ld_0, ld_1, ld_2, ld_3, ld_4, ld_5, ld_6, ld_7, w_ixt, w_ixl, at_0, at_1, at_2, at_3, om_some, or_some, e_lc, e_gfd, e_gsb, e_mth, e_met, w_max, w_min, w_rg1, w_rg2, w_rgd, e_ival, it_l, it_t, e_for, v_fx, v_cel, l_t, isiG, tyN, isiB, isiTs, List.mem_cons, List.not_mem_nil, or_false, false_or, or_true, true_or, decide_true, decide_false, Bool.or_false, Bool.false_or, Bool.true_or, Bool.or_true, Bool.and_false, Bool.and_true, Bool.true_and, Bool.false_and, Bool.not_true, Bool.not_false, List.map_cons, List.map_nil, List.replicate_zero, List.replicate_succ, List.cons_append, List.nil_append, List.length_cons, List.length_nil, List.getElem?_cons_zero, List.getElem?_cons_succ, List.getElem?_nil, List.set_cons_zero, List.set_cons_succ, if_true, if_false, Bool.false_eq_true, reduceIte, ite_self, e2, e3]
      rfl
    · obtain ⟨d, S3, e3, hd, k3⟩ := some_ok n k2.cup (ds := [.int 0, .int 0, .int 0, .int 1, .int 2]) (by simp) (by simp)
      have hd' : ∃ i : Int, d = .int i ∧ 0 ≤ i ∧ i ≤ 4000 := by
        simp only [List.mem_cons, List.not_mem_nil, or_false] at hd
        rcases hd with hd | hd | hd | hd | hd <;> exact ⟨_, hd, by omega, by omega⟩
      obtain ⟨i, rfl, i0, i1⟩ := hd'
      obtain ⟨z, S4, e4, z0, z1, k4⟩ := roll_ok (n + 1) k3.cup (m := 3) (by omega) (by omega)
      refine ⟨.bring q i (decide (z = 0)), S4, ?_, ⟨hq, i0, i1⟩, ((k1.trans k2).trans k3).trans k4⟩
      rw [decide_eq_false h4]
      simp only [ess, es, et, ets, eto, ei, eg, egs, pv, sRet, sRetN, sNil, sIf, sAsg, sPar, sExp, sBrk, sCnt, xIte, xCall, xCons, xNil, xVar, xCon, xBin, xUn, xDic, tAnd, tOr, tNot, tBad, xBad, oNone, oSome, gNm, gsNil, gsCons, Bi.go, Tn.nm, Mt.go, Mt.rc, cmG, opG, Gxs.len, q_ok, q_bad, q_exc, q_ite, o_ok, o_bad, o_exc, o_ite, a_nx, a_rt, a_bk, a_ct, a_bad, a_ite, t_nx, t_ct, t_bk, t_rt, t_bad, t_ite, r_rt, r_nx, r_bad, r_ite, k_b, q_b, n_b, t_b, t_i, t_n, t_l, t_t, e_and, e_or, e_not, e_chn, e_bool, e_val, e_seq, w_add, w_sub, w_mul, w_div, w_mod, w_ord, w_neg, w_isn, w_isnn, w_isb, w_isbn, w_eqi, w_nei, w_eqs, w_nes, w_eqb, w_neb, w_lent, w_lenl, e_tup, e_tupc, e_lst, e_lstc, td_0, td_1, td_2, td_3, td_4, td_5, td_6, ld_0, ld_1, ld_2, ld_3, ld_4, ld_5, ld_6, ld_7, w_ixt, w_ixl, at_0, at_1, at_2, at_3, om_some, or_some, e_lc, e_gfd, e_gsb, e_mth, e_met, w_max, w_min, w_rg1, w_rg2, w_rgd, e_ival, it_l, it_t, e_for, v_fx, v_cel, l_t, isiG, tyN, isiB, isiTs, List.mem_cons, List.not_mem_nil, or_false, false_or, or_true, true_or, decide_true, decide_false, Bool.or_false, Bool.false_or, Bool.true_or, Bool.or_true, Bool.and_false, Bool.and_true, Bool.true_and, Bool.false_and, Bool.not_true, Bool.not_false, List.map_cons, List.map_nil, List.replicate_zero, List.replicate_succ, List.cons_append, List.nil_append, List.length_cons, List.length_nil, List.getElem?_cons_zero, List.getElem?_cons_succ, List.getElem?_nil, List.set_cons_zero, List.set_cons_succ, if_true, if_false, Bool.false_eq_true, reduceIte, ite_self, e2, e3, e4]
      rfl
def drawnL (l : Ln) : Prop := l.wide ∈ [(1 : Int), 2, 3, 4, 16] ∧ l.kept ∈ [max 0 (min 16 (l.wide + -1)), max 0 (min 16 (l.wide + 0)), max 0 (min 16 (l.wide + 1)), max 0 (min 16 (l.wide + 5))] ∧ 0 ≤ l.ring ∧ l.ring ≤ 64
theorem line_ok (n : Nat) {S : Sto} {k : Nat} (h : Cup S k) : ∃ (l : Ln) (S' : Sto), rn (n + 3) 24 [.c k] S = .ok (.d l.D) S' ∧ drawnL l ∧ Kp2 S S' k := by
  obtain ⟨d1, S1, e1, hd1, k1⟩ := some_ok n h (ds := [.int 1, .int 1, .int 2, .int 2, .int 3, .int 4, .int 16]) (by simp) (by simp)
  have hw : ∃ w : Int, d1 = .int w ∧ w ∈ [(1 : Int), 2, 3, 4, 16] := by
    simp only [List.mem_cons, List.not_mem_nil, or_false] at hd1
    rcases hd1 with hd | hd | hd | hd | hd | hd | hd <;> exact ⟨_, hd, by simp⟩
  obtain ⟨w, rfl, hw⟩ := hw
  obtain ⟨d2, S2, e2, hd2, k2⟩ := some_ok n k1.cup (ds := [.int (-1), .int 0, .int 0, .int 0, .int 1, .int 5]) (by simp) (by simp)
  have hx : ∃ x : Int, d2 = .int x ∧ x ∈ [(-1 : Int), 0, 1, 5] := by
    simp only [List.mem_cons, List.not_mem_nil, or_false] at hd2
    rcases hd2 with hd | hd | hd | hd | hd | hd <;> exact ⟨_, hd, by simp⟩
  obtain ⟨x, rfl, hx⟩ := hx
  obtain ⟨q, S3, e3, q0, q1, k3⟩ := roll_ok (n + 1) k2.cup (m := 65) (by omega) (by omega)
  obtain ⟨d4, S4, e4, hd4, k4⟩ := some_ok n k3.cup (ds := [.int 0, .int 1, .int (2 * w - 1), .int (2 * w), .int (2 * w + 1), .int w, .int (w + 1), .int 64, .int q]) (by simp) (by simp)
  have w0 : 1 ≤ w ∧ w ≤ 16 := by
    simp only [List.mem_cons, List.not_mem_nil, or_false] at hw
    omega
  have hr : ∃ r : Int, d4 = .int r ∧ 0 ≤ r ∧ r ≤ 64 := by
    simp only [List.mem_cons, List.not_mem_nil, or_false] at hd4
    rcases hd4 with hd | hd | hd | hd | hd | hd | hd | hd | hd <;> exact ⟨_, hd, by omega, by omega⟩
  obtain ⟨r, rfl, r0, r1⟩ := hr
  obtain ⟨d5, S5, e5, hd5, k5⟩ := some_ok n k4.cup (ds := [.str ("kept" : Str), .str ("kept" : Str), .str ("any" : Str)]) (by simp) (by simp)
  have ho : ∃ a : Bool, d5 = .str (oS a) := by
    simp only [List.mem_cons, List.not_mem_nil, or_false] at hd5
    rcases hd5 with hd | hd | hd
    · exact ⟨false, hd⟩
    · exact ⟨false, hd⟩
    · exact ⟨true, hd⟩
  obtain ⟨a, rfl⟩ := ho
  refine ⟨⟨a, r, w, max 0 (min 16 (w + x))⟩, S5, ?_, ⟨hw, ?_, r0, r1⟩, (((k1.trans k2).trans k3).trans k4).trans k5⟩
  · show outR (ess (rt (n + 2)) b24 [some (.c k), none, none, none] S) = _
    rw [b24]
    have m2 : mulOk 2 w = true := by unfold mulOk; simp
    have l9 : ∀ {a b c d e f g h i : D} {S : Sto}, lD [.d a, .d b, .d c, .d d, .d e, .d f, .d g, .d h, .d i] S = .ok (.d (.list [a, b, c, d, e, f, g, h, i])) S := rfl
    simp only [ess, es, et, ets, eto, ei, eg, egs, pv, sRet, sRetN, sNil, sIf, sAsg, sPar, sExp, sBrk, sCnt, xIte, xCall, xCons, xNil, xVar, xCon, xBin, xUn, xDic, tAnd, tOr, tNot, tBad, xBad, oNone, oSome, gNm, gsNil, gsCons, Bi.go, Tn.nm, Mt.go, Mt.rc, cmG, opG, Gxs.len, q_ok, q_bad, q_exc, q_ite, o_ok, o_bad, o_exc, o_ite, a_nx, a_rt, a_bk, a_ct, a_bad, a_ite, t_nx, t_ct, t_bk, t_rt, t_bad, t_ite, r_rt, r_nx, r_bad, r_ite, k_b, q_b, n_b, t_b, t_i, t_n, t_l, t_t, e_and, e_or, e_not, e_chn, e_bool, e_val, e_seq, w_add, w_sub, w_mul, w_div, w_mod, w_ord, w_neg, w_isn, w_isnn, w_isb, w_isbn, w_eqi, w_nei, w_eqs, w_nes, w_eqb, w_neb, w_lent, w_lenl, e_tup, e_tupc, e_lst, e_lstc, td_0, td_1, td_2, td_3, td_4, td_5, td_6, ld_0, ld_1, ld_2, ld_3, ld_4, ld_5, ld_6, ld_7, w_ixt, w_ixl, at_0, at_1, at_2, at_3, om_some, or_some, e_lc, e_gfd, e_gsb, e_mth, e_met, w_max, w_min, w_rg1, w_rg2, w_rgd, e_ival, it_l, it_t, e_for, v_fx, v_cel, l_t, isiG, tyN, isiB, isiTs, List.mem_cons, List.not_mem_nil, or_false, false_or, or_true, true_or, decide_true, decide_false, Bool.or_false, Bool.false_or, Bool.true_or, Bool.or_true, Bool.and_false, Bool.and_true, Bool.true_and, Bool.false_and, Bool.not_true, Bool.not_false, List.map_cons, List.map_nil, List.replicate_zero, List.replicate_succ, List.cons_append, List.nil_append, List.length_cons, List.length_nil, List.getElem?_cons_zero, List.getElem?_cons_succ, List.getElem?_nil, List.set_cons_zero, List.set_cons_succ, if_true, if_false, Bool.false_eq_true, reduceIte, ite_self, e1, w_neg, e2, m2, e3, l9, e4, e5]
    rfl
  · simp only [List.mem_cons, List.not_mem_nil, or_false] at hx ⊢
    rcases hx with hx | hx | hx | hx <;> subst hx <;> simp
theorem drawnL.ok {l : Ln} (h : drawnL l) : l.Ok := by
  obtain ⟨h1, h2, h3, h4⟩ := h
  simp only [List.mem_cons, List.not_mem_nil, or_false] at h1 h2
  exact ⟨h3, h4, by omega, by omega, by omega, by omega⟩
theorem stD_len {ps : List Sp} {S : Sto} : lenG [.d (stD ps)] S = .ok (.d (.int ps.length)) S := by
  unfold stD
  rw [w_lent, List.length_map]
theorem sl_t {xs : List D} {lo hi : Option Int} {S : Sto} : slG false (.d (.tuple xs)) lo hi S = .ok (.d (.tuple (cutG xs lo hi))) S := rfl
theorem cut_map {α β : Type} (f : α → β) (xs : List α) (lo hi : Option Int) : cutG (xs.map f) lo hi = (cutG xs lo hi).map f := cutG_map f xs lo hi
theorem cut_sub {α : Type} {xs : List α} {lo hi : Option Int} : ∀ x ∈ cutG xs lo hi, x ∈ xs := fun x hx => List.mem_of_mem_drop (List.mem_of_mem_take hx)
theorem cut_len {α : Type} {xs : List α} {lo hi : Option Int} : (cutG xs lo hi).length ≤ xs.length := by
  unfold cutG
  rw [List.length_take, List.length_drop]
  omega
theorem cut_two {α : Type} {xs : List α} (a : Int) (h0 : 0 ≤ a) : (cutG xs none (some a)).length + (cutG xs (some a) none).length ≤ xs.length := by
  unfold cutG
  have e0 : HT.sIx xs.length 0 none = 0 := rfl
  have e1 : HT.sIx xs.length xs.length none = xs.length := rfl
  have e2 : ∀ d, HT.sIx xs.length d (some a) = min a.toNat xs.length := fun d => by
    show (if a < 0 then _ else min a.toNat xs.length) = _
    rw [if_neg (by omega)]
  rw [e0, e1, e2, e2, List.length_take, List.length_drop, List.length_take, List.length_drop]
  omega
end K75
end
section
set_option Elab.async false
set_option linter.all false
set_option maxRecDepth 100000
set_option maxHeartbeats 8000000
namespace K75
open PySem Mi
theorem eq_e {ws : List Str} {S : Sto} : eqW false (.d (.list (ws.map .str))) (.d (.list [])) S = .ok (.d (.bool ws.isEmpty)) S := by
  rw [w_eq rfl]
  cases ws <;> simp [PyData.eqv, PyData.eqvAll]
theorem run_some (n : Nat) {l : Ln} (hl : l.Ok) {ps : List Sp} (hlen : ps.length ≤ 4000) (hp : ∀ p ∈ ps, p.Ok) (hg : (goL l ps MS.start).isSome = true) (S : Sto) :
    ∃ T y, rn (n + 3) 20 [.d l.D, .d (stD ps)] S = .ok (.c (S.length + 5)) (S ++ T) ∧ (∀ S' : Sto, S'[S.length + 5]? = (S ++ T)[S.length + 5]? → ixG (.c (S.length + 5)) (.d (.int (-1))) S' = .ok (.d (wD y)) S') ∧ ∃ ws, goL l ps MS.start = some ws ∧ (([] : List Str) :: ws).getLast? = some y := by
  have R := run_ok n hl ps hlen hp S
  cases hz : goL l ps MS.start with
  | none => rw [hz] at hg; cases hg
  | some ws =>
    rw [hz] at R
    obtain ⟨T, e1, e2⟩ := R
    obtain ⟨y, hy⟩ : ∃ y, (([] : List Str) :: ws).getLast? = some y := by
      cases hq : (([] : List Str) :: ws).getLast? with
      | none => simp at hq
      | some y => exact ⟨y, rfl⟩
    refine ⟨T, y, e1, fun S' h' => ?_, ws, rfl, hy⟩
    rw [w_ixc (h'.trans e2), at_m1w (x := .d (wD y)) (by rw [List.getLast?_map, hy]; rfl)]
    rfl
theorem run_try (n : Nat) {l : Ln} (hl : l.Ok) {ps : List Sp} (hlen : ps.length ≤ 4000) (hp : ∀ p ∈ ps, p.Ok) (S : Sto) :
    ∃ T w, rn (n + 3) 20 [.d l.D, .d (stD ps)] S = .ok w (S ++ T) ∧ isW true w (.d .none) (S ++ T) = .ok (.d (.bool (goL l ps MS.start).isSome)) (S ++ T) := by
  have R := run_ok n hl ps hlen hp S
  cases hz : goL l ps MS.start with
  | none =>
    rw [hz] at R
    obtain ⟨T, e1⟩ := R
    exact ⟨T, _, e1, rfl⟩
  | some ws =>
    rw [hz] at R
    obtain ⟨T, e1, e2⟩ := R
    exact ⟨T, _, e1, rfl⟩
structure Runs (l : Ln) (ps : List Sp) (m : Nat) : Prop where
  ok : ∀ p ∈ ps, p.Ok
  len : ps.length ≤ m
  go : (goL l ps MS.start).isSome = true
theorem drawn_turn (n : Nat) {l : Ln} (hl : l.Ok) {S : Sto} {k : Nat} (h : Cup S k) {ps : List Sp} {m : Nat} (hm : m ≤ 1000) (hr : Runs l ps m) (a x5 x6 x4 : Option W) :
    ∃ (qs : List Sp) (S' : Sto) (y5 y6 : Option W), ess (rt (n + 4)) b23_0 [some (.c k), some (.d l.D), a, some (.d (stD ps)), x4, x5, x6] S = .nx [some (.c k), some (.d l.D), a, some (.d (stD qs)), x4, y5, y6] S' ∧ Runs l qs (m + 1) ∧ Kp2 S S' k := by
  have hw := hl.w0; have hw1 := hl.w1
  have hlen := hr.len
  obtain ⟨T, y, e1, e2, _⟩ := run_some (n + 1) hl (ps := ps) (by omega) hr.ok hr.go S
  have k1 := Kp2.app h T
  obtain ⟨p, S2, e3, hpo, k2⟩ := step_ok (n + 1) k1.cup hw hw1
  have e4 := e2 S2 (k2.old _ (by
    have z : (S ++ T)[S.length + 5]? ≠ none := by
      intro z
      have := e2 (S ++ T) rfl
      simp only [ixG, z] at this
      cases this
    by_cases hlt : S.length + 5 < (S ++ T).length
    · exact hlt
    · exact absurd (List.getElem?_eq_none (by omega)) z) (by have := h.lt; omega))
  have hq : ∀ q ∈ ps ++ [p], q.Ok := fun q hq => by
    rcases List.mem_append.mp hq with z | z
    · exact hr.ok q z
    · have : q = p := by simpa using z
      rw [this]; exact hpo
  have hql : (ps ++ [p]).length ≤ m + 1 := by simp; omega
  obtain ⟨T3, w, e5, e6⟩ := run_try (n + 1) hl (ps := ps ++ [p]) (by omega) hq S2
  have ea : addW (.d (stD ps)) (.d (.tuple [p.D])) S2 = .ok (.d (stD (ps ++ [p]))) S2 := by
    unfold stD
    rw [add_t (by simp; unfold cap; omega), List.map_append]
    rfl
  have k3 := Kp2.app k2.cup T3
  rw [b23_0]
  simp only [ess, es, et, ets, eto, ei, eg, egs, pv, sRet, sRetN, sNil, sIf, sAsg, sPar, sExp, sBrk, sCnt, xIte, xCall, xCons, xNil, xVar, xCon, xBin, xUn, xDic, tAnd, tOr, tNot, tBad, xBad, oNone, oSome, gNm, gsNil, gsCons, Bi.go, Tn.nm, Mt.go, Mt.rc, cmG, opG, Gxs.len, q_ok, q_bad, q_exc, q_ite, o_ok, o_bad, o_exc, o_ite, a_nx, a_rt, a_bk, a_ct, a_bad, a_ite, t_nx, t_ct, t_bk, t_rt, t_bad, t_ite, r_rt, r_nx, r_bad, r_ite, k_b, q_b, n_b, t_b, t_i, t_n, t_l, t_t, e_and, e_or, e_not, e_chn, e_bool, e_val, e_seq, w_add, w_sub, w_mul, w_div, w_mod, w_ord, w_neg, w_isn, w_isnn, w_isb, w_isbn, w_eqi, w_nei, w_eqs, w_nes, w_eqb, w_neb, w_lent, w_lenl, e_tup, e_tupc, e_lst, e_lstc, td_0, td_1, td_2, td_3, td_4, td_5, td_6, ld_0, ld_1, ld_2, ld_3, ld_4, ld_5, ld_6, ld_7, w_ixt, w_ixl, at_0, at_1, at_2, at_3, om_some, or_some, e_lc, e_gfd, e_gsb, e_mth, e_met, w_max, w_min, w_rg1, w_rg2, w_rgd, e_ival, it_l, it_t, e_for, v_fx, v_cel, l_t, isiG, tyN, isiB, isiTs, List.mem_cons, List.not_mem_nil, or_false, false_or, or_true, true_or, decide_true, decide_false, Bool.or_false, Bool.false_or, Bool.true_or, Bool.or_true, Bool.and_false, Bool.and_true, Bool.true_and, Bool.false_and, Bool.not_true, Bool.not_false, List.map_cons, List.map_nil, List.replicate_zero, List.replicate_succ, List.cons_append, List.nil_append, List.length_cons, List.length_nil, List.getElem?_cons_zero, List.getElem?_cons_succ, List.getElem?_nil, List.set_cons_zero, List.set_cons_succ, if_true, if_false, Bool.false_eq_true, reduceIte, ite_self, e1, ld2, e3, ea, w_neg, e4]
  unfold wD
  simp only [ess, es, et, ets, eto, ei, eg, egs, pv, sRet, sRetN, sNil, sIf, sAsg, sPar, sExp, sBrk, sCnt, xIte, xCall, xCons, xNil, xVar, xCon, xBin, xUn, xDic, tAnd, tOr, tNot, tBad, xBad, oNone, oSome, gNm, gsNil, gsCons, Bi.go, Tn.nm, Mt.go, Mt.rc, cmG, opG, Gxs.len, q_ok, q_bad, q_exc, q_ite, o_ok, o_bad, o_exc, o_ite, a_nx, a_rt, a_bk, a_ct, a_bad, a_ite, t_nx, t_ct, t_bk, t_rt, t_bad, t_ite, r_rt, r_nx, r_bad, r_ite, k_b, q_b, n_b, t_b, t_i, t_n, t_l, t_t, e_and, e_or, e_not, e_chn, e_bool, e_val, e_seq, w_add, w_sub, w_mul, w_div, w_mod, w_ord, w_neg, w_isn, w_isnn, w_isb, w_isbn, w_eqi, w_nei, w_eqs, w_nes, w_eqb, w_neb, w_lent, w_lenl, e_tup, e_tupc, e_lst, e_lstc, td_0, td_1, td_2, td_3, td_4, td_5, td_6, ld_0, ld_1, ld_2, ld_3, ld_4, ld_5, ld_6, ld_7, w_ixt, w_ixl, at_0, at_1, at_2, at_3, om_some, or_some, e_lc, e_gfd, e_gsb, e_mth, e_met, w_max, w_min, w_rg1, w_rg2, w_rgd, e_ival, it_l, it_t, e_for, v_fx, v_cel, l_t, isiG, tyN, isiB, isiTs, List.mem_cons, List.not_mem_nil, or_false, false_or, or_true, true_or, decide_true, decide_false, Bool.or_false, Bool.false_or, Bool.true_or, Bool.or_true, Bool.and_false, Bool.and_true, Bool.true_and, Bool.false_and, Bool.not_true, Bool.not_false, List.map_cons, List.map_nil, List.replicate_zero, List.replicate_succ, List.cons_append, List.nil_append, List.length_cons, List.length_nil, List.getElem?_cons_zero, List.getElem?_cons_succ, List.getElem?_nil, List.set_cons_zero, List.set_cons_succ, if_true, if_false, Bool.false_eq_true, reduceIte, ite_self, eq_e, e5, e6]
  cases hy : y.isEmpty with
  | false => exact ⟨ps, S2, _, _, rfl, ⟨hr.ok, by omega, hr.go⟩, k1.trans k2⟩
  | true =>
    cases hgo : (goL l (ps ++ [p]) MS.start).isSome with
    | false => exact ⟨ps, S2 ++ T3, _, _, rfl, ⟨hr.ok, by omega, hr.go⟩, (k1.trans k2).trans k3⟩
    | true => exact ⟨ps ++ [p], S2 ++ T3, _, _, rfl, ⟨hq, hql, hgo⟩, (k1.trans k2).trans k3⟩
theorem drawn_loop (n : Nat) {l : Ln} (hl : l.Ok) {k : Nat} (a : Option W) : ∀ (ts : List W) {S : Sto} {ps : List Sp} {m : Nat} (x4 x5 x6 : Option W), Cup S k → m + ts.length ≤ 1000 → Runs l ps m →
    ∃ (qs : List Sp) (S' : Sto) (y4 y5 y6 : Option W), forD (gNm 4) (ess (rt (n + 4)) b23_0) ts [some (.c k), some (.d l.D), a, some (.d (stD ps)), x4, x5, x6] S = .nx [some (.c k), some (.d l.D), a, some (.d (stD qs)), y4, y5, y6] S' ∧ Runs l qs (m + ts.length) ∧ Kp2 S S' k
  | [], S, ps, m, x4, x5, x6, h, hm, hr => ⟨ps, S, x4, x5, x6, rfl, hr, Kp2.rfl' h⟩
  | t :: ts, S, ps, m, x4, x5, x6, h, hm, hr => by
    have hm' : m + (ts.length + 1) ≤ 1000 := by simpa using hm
    obtain ⟨qs, S1, y5, y6, e1, r1, k1⟩ := drawn_turn n hl h (by omega) hr a x5 x6 (some t)
    obtain ⟨us, S2, z4, z5, z6, e2, r2, k2⟩ := drawn_loop n hl a ts (some t) y5 y6 k1.cup (m := m + 1) (by omega) r1
    refine ⟨us, S2, z4, z5, z6, ?_, ?_, k1.trans k2⟩
    · rw [e_for1]
      simp only [ess, es, et, ets, eto, ei, eg, egs, pv, sRet, sRetN, sNil, sIf, sAsg, sPar, sExp, sBrk, sCnt, xIte, xCall, xCons, xNil, xVar, xCon, xBin, xUn, xDic, tAnd, tOr, tNot, tBad, xBad, oNone, oSome, gNm, gsNil, gsCons, Bi.go, Tn.nm, Mt.go, Mt.rc, cmG, opG, Gxs.len, q_ok, q_bad, q_exc, q_ite, o_ok, o_bad, o_exc, o_ite, a_nx, a_rt, a_bk, a_ct, a_bad, a_ite, t_nx, t_ct, t_bk, t_rt, t_bad, t_ite, r_rt, r_nx, r_bad, r_ite, k_b, q_b, n_b, t_b, t_i, t_n, t_l, t_t, e_and, e_or, e_not, e_chn, e_bool, e_val, e_seq, w_add, w_sub, w_mul, w_div, w_mod, w_ord, w_neg, w_isn, w_isnn, w_isb, w_isbn, w_eqi, w_nei, w_eqs, w_nes, w_eqb, w_neb, w_lent, w_lenl, e_tup, e_tupc, e_lst, e_lstc, td_0, td_1, td_2, td_3, td_4, td_5, td_6, ld_0, ld_1, ld_2, ld_3, ld_4, ld_5, ld_6, ld_7, w_ixt, w_ixl, at_0, at_1, at_2, at_3, om_some, or_some, e_lc, e_gfd, e_gsb, e_mth, e_met, w_max, w_min, w_rg1, w_rg2, w_rgd, e_ival, it_l, it_t, e_for, v_fx, v_cel, l_t, isiG, tyN, isiB, isiTs, List.mem_cons, List.not_mem_nil, or_false, false_or, or_true, true_or, decide_true, decide_false, Bool.or_false, Bool.false_or, Bool.true_or, Bool.or_true, Bool.and_false, Bool.and_true, Bool.true_and, Bool.false_and, Bool.not_true, Bool.not_false, List.map_cons, List.map_nil, List.replicate_zero, List.replicate_succ, List.cons_append, List.nil_append, List.length_cons, List.length_nil, List.getElem?_cons_zero, List.getElem?_cons_succ, List.getElem?_nil, List.set_cons_zero, List.set_cons_succ, if_true, if_false, Bool.false_eq_true, reduceIte, ite_self, e1]
      exact e2
    · have : m + (t :: ts).length = m + 1 + ts.length := by simp; omega
      rw [this]; exact r2
theorem drawn_ok (n : Nat) {l : Ln} (hl : l.Ok) {S : Sto} {k : Nat} (h : Cup S k) : ∃ (qs : List Sp) (y : List Str) (S' : Sto), rn (n + 5) 23 [.c k, .d l.D, .d (.int 14)] S = .ok (.d (.tuple [stD qs, wD y])) S' ∧ Runs l qs 14 ∧ Kp2 S S' k ∧ ∃ ws, goL l qs MS.start = some ws ∧ (([] : List Str) :: ws).getLast? = some y := by
  obtain ⟨qs, S1, y4, y5, y6, e1, r1, k1⟩ := drawn_loop n hl (some (.d (.int 14))) ((rgL 0 1 14).map .d) none none none h (m := 0) (ps := []) (by decide) ⟨by simp, by simp, rfl⟩
  have r1 : Runs l qs 14 := r1
  have hq := r1.len
  obtain ⟨T, y, e2, e3, e4⟩ := run_some (n + 1) hl (ps := qs) (by omega) r1.ok r1.go S1
  have it : itG (.r 0 14 1) S = .ok (.fx ((rgL 0 1 14).map .d)) S := it_up (by decide) (by decide) (by decide) (by decide)
  refine ⟨qs, y, S1 ++ T, ?_, r1, k1.trans (Kp2.app k1.cup T), e4⟩
  show outR (ess (rt (n + 4)) b23 [some (.c k), some (.d l.D), some (.d (.int 14)), none, none, none, none] S) = _
  rw [b23]
  have e0 : stD [] = .tuple [] := rfl
  rw [e0] at e1
  simp only [ess, es, et, ets, eto, ei, eg, egs, pv, sRet, sRetN, sNil, sIf, sAsg, sPar, sExp, sBrk, sCnt, xIte, xCall, xCons, xNil, xVar, xCon, xBin, xUn, xDic, tAnd, tOr, tNot, tBad, xBad, oNone, oSome, gNm, gsNil, gsCons, Bi.go, Tn.nm, Mt.go, Mt.rc, cmG, opG, Gxs.len, q_ok, q_bad, q_exc, q_ite, o_ok, o_bad, o_exc, o_ite, a_nx, a_rt, a_bk, a_ct, a_bad, a_ite, t_nx, t_ct, t_bk, t_rt, t_bad, t_ite, r_rt, r_nx, r_bad, r_ite, k_b, q_b, n_b, t_b, t_i, t_n, t_l, t_t, e_and, e_or, e_not, e_chn, e_bool, e_val, e_seq, w_add, w_sub, w_mul, w_div, w_mod, w_ord, w_neg, w_isn, w_isnn, w_isb, w_isbn, w_eqi, w_nei, w_eqs, w_nes, w_eqb, w_neb, w_lent, w_lenl, e_tup, e_tupc, e_lst, e_lstc, td_0, td_1, td_2, td_3, td_4, td_5, td_6, ld_0, ld_1, ld_2, ld_3, ld_4, ld_5, ld_6, ld_7, w_ixt, w_ixl, at_0, at_1, at_2, at_3, om_some, or_some, e_lc, e_gfd, e_gsb, e_mth, e_met, w_max, w_min, w_rg1, w_rg2, w_rgd, e_ival, it_l, it_t, e_for, v_fx, v_cel, l_t, isiG, tyN, isiB, isiTs, List.mem_cons, List.not_mem_nil, or_false, false_or, or_true, true_or, decide_true, decide_false, Bool.or_false, Bool.false_or, Bool.true_or, Bool.or_true, Bool.and_false, Bool.and_true, Bool.true_and, Bool.false_and, Bool.not_true, Bool.not_false, List.map_cons, List.map_nil, List.replicate_zero, List.replicate_succ, List.cons_append, List.nil_append, List.length_cons, List.length_nil, List.getElem?_cons_zero, List.getElem?_cons_succ, List.getElem?_nil, List.set_cons_zero, List.set_cons_succ, if_true, if_false, Bool.false_eq_true, reduceIte, ite_self, it]
  rw [e1]
  simp only [ess, es, et, ets, eto, ei, eg, egs, pv, sRet, sRetN, sNil, sIf, sAsg, sPar, sExp, sBrk, sCnt, xIte, xCall, xCons, xNil, xVar, xCon, xBin, xUn, xDic, tAnd, tOr, tNot, tBad, xBad, oNone, oSome, gNm, gsNil, gsCons, Bi.go, Tn.nm, Mt.go, Mt.rc, cmG, opG, Gxs.len, q_ok, q_bad, q_exc, q_ite, o_ok, o_bad, o_exc, o_ite, a_nx, a_rt, a_bk, a_ct, a_bad, a_ite, t_nx, t_ct, t_bk, t_rt, t_bad, t_ite, r_rt, r_nx, r_bad, r_ite, k_b, q_b, n_b, t_b, t_i, t_n, t_l, t_t, e_and, e_or, e_not, e_chn, e_bool, e_val, e_seq, w_add, w_sub, w_mul, w_div, w_mod, w_ord, w_neg, w_isn, w_isnn, w_isb, w_isbn, w_eqi, w_nei, w_eqs, w_nes, w_eqb, w_neb, w_lent, w_lenl, e_tup, e_tupc, e_lst, e_lstc, td_0, td_1, td_2, td_3, td_4, td_5, td_6, ld_0, ld_1, ld_2, ld_3, ld_4, ld_5, ld_6, ld_7, w_ixt, w_ixl, at_0, at_1, at_2, at_3, om_some, or_some, e_lc, e_gfd, e_gsb, e_mth, e_met, w_max, w_min, w_rg1, w_rg2, w_rgd, e_ival, it_l, it_t, e_for, v_fx, v_cel, l_t, isiG, tyN, isiB, isiTs, List.mem_cons, List.not_mem_nil, or_false, false_or, or_true, true_or, decide_true, decide_false, Bool.or_false, Bool.false_or, Bool.true_or, Bool.or_true, Bool.and_false, Bool.and_true, Bool.true_and, Bool.false_and, Bool.not_true, Bool.not_false, List.map_cons, List.map_nil, List.replicate_zero, List.replicate_succ, List.cons_append, List.nil_append, List.length_cons, List.length_nil, List.getElem?_cons_zero, List.getElem?_cons_succ, List.getElem?_nil, List.set_cons_zero, List.set_cons_succ, if_true, if_false, Bool.false_eq_true, reduceIte, ite_self, e2, w_neg, e3 (S1 ++ T) rfl]
end K75
end
section
set_option Elab.async false
set_option linter.all false
set_option maxRecDepth 100000
set_option maxHeartbeats 4000000
namespace K75
open PySem Mi
structure Rt (l : Ln) : Prop where
  w1 : 1 ≤ l.wide
  k0 : l.wide ≤ l.kept
  r : l.ring = 0 ∨ (l.any = false ∧ 2 * l.wide ≤ l.ring)
structure Rv (l : Ln) (s : MS) : Prop where
  sb : s.sent ≤ 4001
  ud : s.una ≤ s.done
  ds : s.done ≤ s.sent
  sw : s.sent ≤ s.una + l.wide
  pt : ∀ x ∈ s.put, 0 ≤ x ∧ x < s.sent
  pd : ∀ x, 0 ≤ x → x < s.done → x ∈ s.put
  an : ∀ x ∈ s.ans, 0 ≤ x ∧ x < s.done
  ls : Lst s.ans s.una
  a0 : ∀ m ∈ s.r0, 0 ≤ m ∧ m < s.sent
  p0 : l.any = false → ∀ m ∈ s.r0, ∀ x ∈ s.put, x < m + l.wide
  w0 : l.any = false → s.r0.Pairwise fun x m => x < m + l.wide
  a1 : ∀ m ∈ s.r1, 0 ≤ m ∧ m < s.done
  p1 : l.any = false → ∀ m ∈ s.r1, ∀ x ∈ s.ans, x < m + l.wide
  w1 : l.any = false → s.r1.Pairwise fun x m => x < m + l.wide
  tw : s.tw = false
  wr : s.wr = false
theorem Rv.start (l : Ln) (h : Rt l) : Rv l MS.start := by
  have := h.w1
  refine ⟨by decide, by decide, by decide, by show (0 : Int) ≤ 0 + l.wide; omega, ?_, fun x h1 h2 => by have h2 : x < 0 := h2; omega, ?_, ⟨by decide, by simp [MS.start], fun x h1 h2 => ?_⟩, ?_, ?_, ?_, ?_, ?_, ?_, rfl, rfl⟩ <;> try (simp [MS.start]; done)
  have h2 : x < 0 := h2
  omega
theorem Rv.bw {l : Ln} {s : MS} (h : Rt l) (v : Rv l s) : bw l s = [] := by
  have := h.k0; have := v.ds; have := v.sw
  have e : decide (s.una < s.done - l.kept) = false := decide_eq_false (by omega)
  unfold K75.bw
  rw [v.tw, v.wr, e]
  rfl
theorem mk_near {r c m : Int} (h : r = 0 ∨ (c - m < r ∧ m - c < r)) (e : mk r c = mk r m) : c = m := by
  unfold mk at e
  by_cases hr : r = 0
  · rw [if_pos hr, if_pos hr] at e; exact e
  · rw [if_neg hr, if_neg hr] at e
    have h : c - m < r ∧ m - c < r := by
      rcases h with h | h
      · exact absurd h hr
      · exact h
    have r0 : 0 ≤ r := by omega
    rw [Int.fmod_eq_emod_of_nonneg _ r0, Int.fmod_eq_emod_of_nonneg _ r0] at e
    have hd : r ∣ c - m := Int.dvd_of_emod_eq_zero (Int.emod_eq_emod_iff_emod_sub_eq_zero.mp e)
    obtain ⟨k, hk⟩ := hd
    have h1 : -r < r * k := by omega
    have h2 : r * k < r := by omega
    have k1 : k < 1 := by
      by_cases hk1 : 1 ≤ k
      · have := Int.mul_le_mul_of_nonneg_left hk1 r0
        omega
      · omega
    have k2 : -1 < k := by
      by_cases hk1 : k ≤ -1
      · have := Int.mul_le_mul_of_nonneg_left hk1 r0
        omega
      · omega
    have k3 : k = 0 := by omega
    rw [k3] at hk
    omega
theorem una_le {ans : List Int} {u b : Int} (h : Lst ans u) (hb : 0 ≤ b) (ha : ∀ x ∈ ans, x < b) : u ≤ b := by
  by_cases hu : u ≤ b
  · exact hu
  · have := ha b (h.all b hb (by omega))
    omega
theorem mem_erase {xs : List Int} {i : Nat} {x : Int} (h : x ∈ xs.eraseIdx i) : x ∈ xs := List.mem_of_mem_eraseIdx h
theorem pw_erase {R : Int → Int → Prop} {xs : List Int} {i : Nat} (h : xs.Pairwise R) : (xs.eraseIdx i).Pairwise R := h.sublist (List.eraseIdx_sublist xs i)
theorem Rv.lose0 {l : Ln} {s : MS} (v : Rv l s) (i : Nat) : Rv l { s with r0 := s.r0.eraseIdx i } :=
  ⟨v.sb, v.ud, v.ds, v.sw, v.pt, v.pd, v.an, v.ls, fun m hm => v.a0 m (mem_erase hm), fun ha m hm => v.p0 ha m (mem_erase hm), fun ha => pw_erase (v.w0 ha), v.a1, v.p1, v.w1, v.tw, v.wr⟩
theorem Rv.lose1 {l : Ln} {s : MS} (v : Rv l s) (i : Nat) : Rv l { s with r1 := s.r1.eraseIdx i } :=
  ⟨v.sb, v.ud, v.ds, v.sw, v.pt, v.pd, v.an, v.ls, v.a0, v.p0, v.w0, fun m hm => v.a1 m (mem_erase hm), fun ha m hm => v.p1 ha m (mem_erase hm), fun ha => pw_erase (v.w1 ha), v.tw, v.wr⟩
theorem Rv.adv1 {l : Ln} {s : MS} (h : Rt l) (v : Rv l s) (c : Int) : Rv l (adv1 c s) := by
  unfold K75.adv1
  by_cases hc : (decide (c = s.done) && decide (c ∈ s.put)) = true
  · rw [if_pos hc]
    simp only [Bool.and_eq_true, decide_eq_true_eq] at hc
    obtain ⟨rfl, hp⟩ := hc
    have h1 := v.pt _ hp
    have hw := h.w1
    refine ⟨v.sb, ?_, ?_, v.sw, v.pt, fun x x0 x1 => ?_, fun x hx => ?_, v.ls, v.a0, v.p0, v.w0, fun m hm => ?_, fun ha m hm x hx => ?_, fun ha => ?_, v.tw, v.wr⟩
    · have := v.ud; show s.una ≤ s.done + 1; omega
    · show s.done + 1 ≤ s.sent; omega
    · have x1 : x < s.done + 1 := x1
      by_cases e : x = s.done
      · rw [e]; exact hp
      · exact v.pd x x0 (by omega)
    · have := v.an x hx; exact ⟨this.1, by show x < s.done + 1; omega⟩
    · rcases List.mem_append.mp hm with z | z
      · have := v.a1 m z; exact ⟨this.1, by show m < s.done + 1; omega⟩
      · have e : m = s.done := by simpa using z
        rw [e]; exact ⟨h1.1, by show s.done < s.done + 1; omega⟩
    · have hx' := v.an x hx
      rcases List.mem_append.mp hm with z | z
      · exact v.p1 ha m z x hx
      · have e : m = s.done := by simpa using z
        rw [e]; omega
    · refine List.pairwise_append.mpr ⟨v.w1 ha, by simp, fun x hx m hm => ?_⟩
      have e : m = s.done := by simpa using hm
      have := v.a1 x hx
      rw [e]; omega
  · rw [if_neg hc]; exact v
theorem Rv.adv {l : Ln} (h : Rt l) : ∀ (cs : List Int) {s : MS}, Rv l s → Rv l (adv cs s)
  | [], s, v => v
  | c :: cs, s, v => Rv.adv h cs (v.adv1 h c)
theorem Rv.house {l : Ln} {s : MS} (h : Rt l) (v : Rv l s) {m : Int} (m0 : 0 ≤ m) (m1 : m < s.sent) (hp : l.any = false → ∀ x ∈ s.put, x < m + l.wide) (hr : l.any = false → ∀ x ∈ s.r0, m < x + l.wide) : Rv l (hs l s m) := by
  have hw := h.w1; have hk := h.k0; have hud := v.ud; have hsw := v.sw; have hds := v.ds; have hnn := v.ls.nn
  have hlow : l.any = false → s.done ≤ m + l.wide := fun ha => by
    by_cases hd : s.done ≤ 0
    · omega
    · have := hp ha _ (v.pd (s.done - 1) (by omega) (by omega))
      omega
  unfold hs
  cases hn : newOf l s m with
  | some c =>
    have hn' : (upI s.done l.wide.toNat).find? (fun c => decide (K75.mk l.ring c = K75.mk l.ring m)) = some c := hn
    have hc := mem_upI.mp (List.mem_of_find?_eq_some hn')
    have he := List.find?_some hn'
    have he : K75.mk l.ring c = K75.mk l.ring m := by simpa using he
    have e : c = m := mk_near (by
      rcases h.r with z | ⟨z1, z2⟩
      · exact .inl z
      · have := hlow z1
        exact .inr ⟨by omega, by omega⟩) he
    subst e
    show Rv l (K75.adv (upI s.done l.wide.toNat) (putN s c c))
    refine Rv.adv h _ ?_
    unfold putN
    by_cases hq : (!decide (c ∈ s.put)) = true
    · rw [if_pos hq]
      refine ⟨v.sb, v.ud, v.ds, v.sw, fun x hx => ?_, fun x x0 x1 => List.mem_append_left _ (v.pd x x0 x1), v.an, v.ls, v.a0, fun ha m hm x hx => ?_, v.w0, v.a1, v.p1, v.w1, ?_, v.wr⟩
      · rcases List.mem_append.mp hx with z | z
        · exact v.pt x z
        · have e : x = c := by simpa using z
          rw [e]; exact ⟨m0, m1⟩
      · rcases List.mem_append.mp hx with z | z
        · exact v.p0 ha m hm x z
        · have e : x = c := by simpa using z
          rw [e]; exact hr ha m hm
      · show (s.tw || !decide (c = c)) = false
        rw [v.tw]; simp
    · rw [if_neg hq]; exact v
  | none =>
    show Rv l (match oldOf l s m with
      | some c => { s with r1 := s.r1 ++ [c] }
      | none => s)
    cases ho : oldOf l s m with
    | none => exact v
    | some c =>
      have ho' : (dnI (s.done - 1) (s.done - max 0 (s.done - l.kept)).toNat).find? (fun c => decide (K75.mk l.ring c = K75.mk l.ring m)) = some c := ho
      have hc : max 0 (s.done - l.kept) ≤ c ∧ c < s.done := by
        have := List.mem_of_find?_eq_some ho'
        unfold dnI at this
        obtain ⟨k, hk, e⟩ := List.mem_map.mp this
        have := List.mem_range.mp hk
        omega
      have hge : l.any = false → s.done ≤ c + l.wide := fun ha => by
        have hl := hlow ha
        by_cases hm : m < s.done
        · -- m itself is among them, and it is found if none before it is
          by_cases hcm : m ≤ c
          · omega
          · exfalso
            rw [List.find?_eq_some_iff_append] at ho'
            obtain ⟨_, as, bs, e1, e2⟩ := ho'
            have hmem : m ∈ dnI (s.done - 1) (s.done - max 0 (s.done - l.kept)).toNat := by
              unfold dnI
              exact List.mem_map.mpr ⟨(s.done - 1 - m).toNat, List.mem_range.mpr (by omega), by omega⟩
            have hsort : (dnI (s.done - 1) (s.done - max 0 (s.done - l.kept)).toNat).Pairwise fun a b => b < a := by
              unfold dnI
              rw [List.pairwise_map]
              exact List.pairwise_lt_range.imp fun {a b} h => by omega
            rw [e1] at hmem hsort
            rcases List.mem_append.mp hmem with z | z
            · have := e2 m z
              simp at this
            · rcases List.mem_cons.mp z with z | z
              · omega
              · have := (List.pairwise_append.mp hsort).2.1
                have := (List.pairwise_cons.mp this).1 m z
                omega
        · -- else it is new
          exfalso
          have hn' : (upI s.done l.wide.toNat).find? (fun c => decide (K75.mk l.ring c = K75.mk l.ring m)) = none := hn
          have := List.find?_eq_none.mp hn' m (mem_upI.mpr ⟨by omega, by omega⟩)
          simp at this
      refine ⟨v.sb, v.ud, v.ds, v.sw, v.pt, v.pd, v.an, v.ls, v.a0, v.p0, v.w0, fun x hx => ?_, fun ha x hx y hy => ?_, fun ha => ?_, v.tw, v.wr⟩
      · rcases List.mem_append.mp hx with z | z
        · exact v.a1 x z
        · have e : x = c := by simpa using z
          rw [e]; exact ⟨by omega, hc.2⟩
      · have hy' := v.an y hy
        rcases List.mem_append.mp hx with z | z
        · exact v.p1 ha x z y hy
        · have e : x = c := by simpa using z
          have := hge ha
          rw [e]; omega
      · refine List.pairwise_append.mpr ⟨v.w1 ha, by simp, fun x hx y hy => ?_⟩
        have e : y = c := by simpa using hy
        have := v.a1 x hx
        have := hge ha
        rw [e]; omega
theorem Rv.sender {l : Ln} {s : MS} (h : Rt l) (v : Rv l s) {m : Int} (m0 : 0 ≤ m) (m1 : m < s.done) (hp : l.any = false → ∀ x ∈ s.ans, x < m + l.wide) (hr : l.any = false → ∀ x ∈ s.r1, m < x + l.wide) : Rv l (ss l s m) := by
  have hw := h.w1; have hk := h.k0; have hud := v.ud; have hsw := v.sw; have hds := v.ds; have hnn := v.ls.nn
  unfold ss
  cases hn : takenOf l s m with
  | none => exact v
  | some c =>
    have hn' : ((upI s.una (s.sent - s.una).toNat).filter fun c => !decide (c ∈ s.ans)).find? (fun c => decide (K75.mk l.ring c = K75.mk l.ring m)) = some c := hn
    have hc := List.mem_of_find?_eq_some hn'
    rw [List.mem_filter] at hc
    have hc1 := mem_upI.mp hc.1
    have he := List.find?_some hn'
    have he : K75.mk l.ring c = K75.mk l.ring m := by simpa using he
    have e : c = m := mk_near (by
      rcases h.r with z | ⟨z1, z2⟩
      · exact .inl z
      · have := una_le v.ls (by omega) (hp z1)
        exact .inr ⟨by omega, by omega⟩) he
    subst e
    have hans : ∀ x ∈ s.ans ++ [c], 0 ≤ x ∧ x < s.done := fun x hx => by
      rcases List.mem_append.mp hx with z | z
      · exact v.an x z
      · have e : x = c := by simpa using z
        rw [e]; exact ⟨m0, m1⟩
    have hsb := v.sb
    have L : Lst (s.ans ++ [c]) (lsO (s.ans ++ [c])) := lsO_spec fun x hx => by have := hans x hx; omega
    have hle : lsO (s.ans ++ [c]) ≤ s.done := una_le L (by omega) fun x hx => (hans x hx).2
    have hge : s.una ≤ lsO (s.ans ++ [c]) := by
      by_cases hz : s.una ≤ lsO (s.ans ++ [c])
      · exact hz
      · exact absurd (List.mem_append_left _ (v.ls.all _ L.nn (by omega))) L.out
    refine ⟨v.sb, hle, v.ds, ?_, v.pt, v.pd, hans, L, v.a0, v.p0, v.w0, v.a1, fun ha x hx y hy => ?_, v.w1, v.tw, ?_⟩
    · show s.sent ≤ lsO (s.ans ++ [c]) + l.wide; omega
    · rcases List.mem_append.mp hy with z | z
      · exact v.p1 ha x hx y z
      · have e : y = c := by simpa using z
        rw [e]; exact hr ha x hx
    · show (s.wr || !decide (c = c)) = false
      rw [v.wr]; simp
theorem Rv.send {l : Ln} {s : MS} (h : Rt l) (v : Rv l s) {c : Int} (c1 : s.una ≤ c) (c2 : c < s.una + l.wide) (c3 : c ≤ s.sent) (c4 : c ≤ 4000) : Rv l { s with sent := max s.sent (c + 1), r0 := s.r0 ++ [c] } := by
  have hw := h.w1; have hsw := v.sw; have hsb := v.sb; have hds := v.ds; have hnn := v.ls.nn
  refine ⟨?_, v.ud, ?_, ?_, fun x hx => ?_, v.pd, v.an, v.ls, fun m hm => ?_, fun ha m hm x hx => ?_, fun ha => ?_, v.a1, v.p1, v.w1, v.tw, v.wr⟩
  · show max s.sent (c + 1) ≤ 4001; omega
  · show s.done ≤ max s.sent (c + 1); omega
  · show max s.sent (c + 1) ≤ s.una + l.wide; omega
  · have := v.pt x hx; exact ⟨this.1, by show x < max s.sent (c + 1); omega⟩
  · rcases List.mem_append.mp hm with z | z
    · have := v.a0 m z; exact ⟨this.1, by show m < max s.sent (c + 1); omega⟩
    · have e : m = c := by simpa using z
      rw [e]; exact ⟨by omega, by show c < max s.sent (c + 1); omega⟩
  · rcases List.mem_append.mp hm with z | z
    · exact v.p0 ha m z x hx
    · have e : m = c := by simpa using z
      have := v.pt x hx
      rw [e]; omega
  · refine List.pairwise_append.mpr ⟨v.w0 ha, by simp, fun x hx m hm => ?_⟩
    have e : m = c := by simpa using hm
    have := v.a0 x hx
    rw [e]; omega
theorem head_pw {l : Ln} {xs : List Int} {m : Int} {k : Bool} (hw : 1 ≤ l.wide) (h0 : xs[0]? = some m) (hp : xs.Pairwise fun x m => x < m + l.wide) : ∀ x ∈ (if k = true then xs else xs.eraseIdx 0), m < x + l.wide := by
  cases xs with
  | nil => cases h0
  | cons a r =>
    cases h0
    have hp := (List.pairwise_cons.mp hp).1
    intro x hx
    have hx : x ∈ m :: r := by
      cases k with
      | true => exact hx
      | false => exact List.mem_cons_of_mem _ hx
    rcases List.mem_cons.mp hx with e | e
    · rw [e]; omega
    · exact hp x e
theorem Rv.step {l : Ln} {s s' : MS} (h : Rt l) (v : Rv l s) {p : Sp} (hp : p.Ok) (e : doP l s p = some s') : Rv l s' := by
  have hw := h.w1
  cases p with
  | send c =>
    have e : (if (decide (s.una ≤ c) && decide (c < s.una + l.wide) && decide (c ≤ s.sent) && !decide (c ∈ s.ans)) = true then some { s with sent := max s.sent (c + 1), r0 := s.r0 ++ [c] } else none) = some s' := e
    split at e
    · rename_i hc
      cases e
      simp only [Bool.and_eq_true, decide_eq_true_eq] at hc
      exact v.send h hc.1.1.1 hc.1.1.2 hc.1.2 hp.2
    · cases e
  | lose r i =>
    have e : (match (rowOf s r)[i.toNat]? with
      | none => none
      | some _ => some (putRow s r ((rowOf s r).eraseIdx i.toNat))) = some s' := e
    split at e
    · cases e
    · cases e
      rcases hp.1 with z | z
      · subst z; exact v.lose0 _
      · subst z; exact v.lose1 _
  | bring r i k =>
    have e : (match (rowOf s r)[i.toNat]? with
      | none => none
      | some m => if (!l.any && decide (0 < i)) = true then none else
        some (if r = 0 then hs l (if k = true then s else putRow s r ((rowOf s r).eraseIdx i.toNat)) m else ss l (if k = true then s else putRow s r ((rowOf s r).eraseIdx i.toNat)) m)) = some s' := e
    split at e
    · cases e
    · rename_i m hm
      split at e
      · cases e
      · rename_i hi
        cases e
        have hi0 : l.any = false → i.toNat = 0 := fun ha => by
          rw [ha] at hi
          simp at hi
          omega
        rcases hp.1 with z | z
        · subst z
          have hm : s.r0[i.toNat]? = some m := hm
          have hmem := v.a0 m (List.mem_of_getElem? hm)
          show Rv l (hs l (if k = true then s else { s with r0 := s.r0.eraseIdx i.toNat }) m)
          have hr : l.any = false → ∀ x ∈ (if k = true then s.r0 else s.r0.eraseIdx 0), m < x + l.wide := fun ha => head_pw hw (by rw [hi0 ha] at hm; exact hm) (v.w0 ha)
          cases k with
          | true => exact v.house h hmem.1 hmem.2 (fun ha => v.p0 ha m (List.mem_of_getElem? hm)) fun ha => hr ha
          | false => exact (v.lose0 i.toNat).house h hmem.1 hmem.2 (fun ha => v.p0 ha m (List.mem_of_getElem? hm)) fun ha => by rw [hi0 ha]; exact hr ha
        · subst z
          have hm : s.r1[i.toNat]? = some m := hm
          have hmem := v.a1 m (List.mem_of_getElem? hm)
          show Rv l (ss l (if k = true then s else { s with r1 := s.r1.eraseIdx i.toNat }) m)
          have hr : l.any = false → ∀ x ∈ (if k = true then s.r1 else s.r1.eraseIdx 0), m < x + l.wide := fun ha => head_pw hw (by rw [hi0 ha] at hm; exact hm) (v.w1 ha)
          cases k with
          | true => exact v.sender h hmem.1 hmem.2 (fun ha => v.p1 ha m (List.mem_of_getElem? hm)) fun ha => hr ha
          | false => exact (v.lose1 i.toNat).sender h hmem.1 hmem.2 (fun ha => v.p1 ha m (List.mem_of_getElem? hm)) fun ha => by rw [hi0 ha]; exact hr ha
theorem right_go {l : Ln} (h : Rt l) : ∀ (ps : List Sp) {s : MS}, Rv l s → (∀ p ∈ ps, p.Ok) → ∀ ws, goL l ps s = some ws → ∀ w ∈ ws, w = []
  | [], s, v, hp, ws, e => by cases e; simp
  | p :: ps, s, v, hp, ws, e => by
    have e : (match doP l s p with
      | none => none
      | some s' => (match goL l ps s' with
        | none => none
        | some ws => some (K75.bw l s' :: ws))) = some ws := e
    cases q : doP l s p with
    | none => rw [q] at e; cases e
    | some s' =>
      rw [q] at e
      have v' := v.step h (hp p List.mem_cons_self) q
      have e : (match goL l ps s' with
        | none => none
        | some ws => some (K75.bw l s' :: ws)) = some ws := e
      cases q2 : goL l ps s' with
      | none => rw [q2] at e; cases e
      | some us =>
        rw [q2] at e
        cases e
        intro w hw
        rcases List.mem_cons.mp hw with z | z
        · rw [z]; exact v'.bw h
        · exact right_go h ps v' (fun p hp' => hp p (List.mem_cons_of_mem _ hp')) us q2 w z
theorem right_goB {l : Ln} (h : Rt l) : ∀ (ps : List Sp) {s s' : MS}, Rv l s → (∀ p ∈ ps, p.Ok) → goB l ps s = some s' → Rv l s'
  | [], s, s', v, hp, e => by cases e; exact v
  | p :: ps, s, s', v, hp, e => by
    have e : (if (K75.bw l s).isEmpty = true then (match doP l s p with
      | some s' => goB l ps s'
      | none => none) else none) = some s' := e
    split at e
    · cases q : doP l s p with
      | none => rw [q] at e; cases e
      | some s2 =>
        rw [q] at e
        exact right_goB h ps (v.step h (hp p List.mem_cons_self) q) (fun p hp' => hp p (List.mem_cons_of_mem _ hp')) e
    · cases e
theorem right_bad {l : Ln} (h : Rt l) {ps : List Sp} (hp : ∀ p ∈ ps, p.Ok) (w : Str) : badRun l w ps = false := by
  unfold badRun
  cases q : goB l ps MS.start with
  | none => rfl
  | some s' =>
    show decide (w ∈ K75.bw l s') = false
    rw [(right_goB h ps (Rv.start l h) hp q).bw h]
    simp
end K75
end
section
set_option Elab.async false
set_option linter.all false
set_option maxRecDepth 100000
set_option maxHeartbeats 8000000
namespace K75
open PySem Mi
def sends (l : Ln) : List Sp := (upI 0 l.wide.toNat).map .send
def brings (n : Nat) : List Sp := (upI 0 n).map fun _ => .bring 0 0 false
def knownP (l : Ln) : Option (Str × List Sp) :=
  if decide (l.kept < l.wide) = true then some ("stuck", sends l ++ brings l.wide.toNat ++ [.lose 1 0]) else
  if decide (l.ring = 0) || (!l.any && decide (2 * l.wide ≤ l.ring)) = true then none else
  if decide (l.ring ≤ l.wide) = true then some ("twice", [.send 0, .bring 0 0 true, .bring 0 0 false]) else
  if (!l.any) = true then some ("twice", sends l ++ [.send 0] ++ brings (l.wide + 1).toNat) else none
def knownOk (l : Ln) : Bool := match knownP l with
  | none => true
  | some (w, ps) => badRun l w ps
def allL : List Ln := [false, true].flatMap fun a => (List.range 65).flatMap fun r => [(1 : Int), 2, 3, 4, 16].flatMap fun w => [(-1 : Int), 0, 1, 5].map fun x => ⟨a, (r : Nat), w, max 0 (min 16 (w + x))⟩
theorem allL_ok : allL.all knownOk = true := by decide +kernel
theorem mem_all {l : Ln} (h : drawnL l) : l ∈ allL := by
  obtain ⟨h1, h2, h3, h4⟩ := h
  obtain ⟨a, r, w, k⟩ := l
  unfold allL
  rw [List.mem_flatMap]
  refine ⟨a, by cases a <;> simp, ?_⟩
  rw [List.mem_flatMap]
  have h3 : 0 ≤ r := h3
  have h4 : r ≤ 64 := h4
  refine ⟨r.toNat, List.mem_range.mpr (by omega), ?_⟩
  rw [List.mem_flatMap]
  refine ⟨w, h1, ?_⟩
  rw [List.mem_map]
  have er : ((r.toNat : Nat) : Int) = r := Int.toNat_of_nonneg h3
  simp only [List.mem_cons, List.not_mem_nil, or_false] at h2
  rcases h2 with h2 | h2 | h2 | h2
  · exact ⟨-1, by simp, by rw [er]; congr; exact h2.symm⟩
  · exact ⟨0, by simp, by rw [er]; congr; exact h2.symm⟩
  · exact ⟨1, by simp, by rw [er]; congr; exact h2.symm⟩
  · exact ⟨5, by simp, by rw [er]; congr; exact h2.symm⟩
theorem known_bad {l : Ln} (h : drawnL l) {w : Str} {ps : List Sp} (e : knownP l = some (w, ps)) : badRun l w ps = true := by
  have h1 := List.all_eq_true.mp allL_ok l (mem_all h)
  unfold knownOk at h1
  rw [e] at h1
  exact h1
theorem goB_cons {l : Ln} {p : Sp} {ps : List Sp} {s s' : MS} (h1 : (bw l s).isEmpty = true) (h2 : doP l s p = some s') : goB l (p :: ps) s = goB l ps s' := by
  show (if (bw l s).isEmpty = true then (match doP l s p with
    | some s' => goB l ps s'
    | none => none) else none) = _
  rw [if_pos h1, h2]
def longs (n : Nat) : List Sp := (upI 1 n).flatMap fun c => [.send c, .bring 0 1 false, .bring 1 0 false]
def longP (l : Ln) : List Sp := [.send 0, .bring 0 0 true, .bring 1 0 false] ++ longs (l.ring - l.wide).toNat ++ [.bring 0 0 false]
structure Lg (l : Ln) : Prop where
  any : l.any = true
  w1 : 1 ≤ l.wide
  k1 : 1 ≤ l.kept
  r1 : l.wide < l.ring
  r2 : l.ring ≤ 64
theorem up_s (k : Nat) : upI 0 (k + 1) = upI 0 k ++ [(k : Int)] := by
  unfold upI
  rw [List.range_succ, List.map_append]
  simp
theorem up_sg (i : Int) (k : Nat) : upI i (k + 1) = upI i k ++ [i + (k : Int)] := by
  unfold upI
  rw [List.range_succ, List.map_append]
  simp
theorem up_n (k : Nat) : (k : Int) ∉ upI 0 k := fun z => by have := mem_upI.mp z; omega
def fs (k : Nat) (r0 : List Int) : MS := ⟨k, k, k, upI 0 k, upI 0 k, r0, [], false, false⟩
def fs1 (k : Nat) (r0 : List Int) : MS := ⟨k + 1, k, k, upI 0 k, upI 0 k, r0 ++ [(k : Int)], [], false, false⟩
def fs2 (k : Nat) (r0 : List Int) : MS := ⟨k + 1, k + 1, k, upI 0 (k + 1), upI 0 k, r0, [(k : Int)], false, false⟩
theorem bw_0 {l : Ln} (g : Lg l) {s : MS} (h1 : s.tw = false) (h2 : s.wr = false) (h3 : s.done ≤ s.una + 1) : (bw l s).isEmpty = true := by
  have := g.k1
  have e : decide (s.una < s.done - l.kept) = false := decide_eq_false (by omega)
  unfold bw
  rw [h1, h2, e]
  rfl
theorem send_fs {l : Ln} (g : Lg l) (k : Nat) (r0 : List Int) : doP l (fs k r0) (.send k) = some (fs1 k r0) := by
  have hw := g.w1
  have e1 : (decide ((k : Int) ≤ k) && decide ((k : Int) < k + l.wide) && decide ((k : Int) ≤ k) && !decide ((k : Int) ∈ upI 0 k)) = true := by
    simp [up_n k]
    omega
  have e : max (k : Int) (k + 1) = k + 1 := by omega
  show (if (decide ((k : Int) ≤ k) && decide ((k : Int) < k + l.wide) && decide ((k : Int) ≤ k) && !decide ((k : Int) ∈ upI 0 k)) = true then some { fs k r0 with sent := max (k : Int) (k + 1), r0 := r0 ++ [(k : Int)] } else none) = _
  rw [if_pos e1, e]
  rfl
theorem adv_stayB : ∀ (cs : List Int) {s : MS}, s.done ∉ s.put → adv cs s = s
  | [], s, h => rfl
  | c :: cs, s, h => by
    have e : adv1 c s = s := by
      unfold adv1
      refine if_neg fun z => ?_
      simp only [Bool.and_eq_true, decide_eq_true_eq] at z
      exact h (z.1 ▸ z.2)
    show adv cs (adv1 c s) = s
    rw [e]
    exact adv_stayB cs h
theorem house_next {l : Ln} (hw : 1 ≤ l.wide) {s : MS} (k : Nat) (hd : s.done = k) (hp : s.put = upI 0 k) : hs l s k = { s with put := upI 0 (k + 1), done := k + 1, r1 := s.r1 ++ [(k : Int)] } := by
  obtain ⟨n, hn⟩ : ∃ n, l.wide.toNat = n + 1 := ⟨l.wide.toNat - 1, by omega⟩
  have e1 : newOf l s k = some (k : Int) := by
    unfold newOf
    rw [hn, hd, upI_s, List.find?_cons]
    simp
  unfold hs
  rw [e1]
  show adv (upI s.done l.wide.toNat) (putN s k k) = _
  have e2 : putN s k k = { s with put := upI 0 (k + 1) } := by
    unfold putN
    rw [hp, if_pos (by simp [up_n k]), up_s]
    simp
  have e4 : upI s.done l.wide.toNat = (k : Int) :: upI ((k : Int) + 1) n := by rw [hd, hn, upI_s]
  rw [e2, e4]
  show adv (upI ((k : Int) + 1) n) (adv1 k { s with put := upI 0 (k + 1) }) = _
  have e3 : adv1 k { s with put := upI 0 (k + 1) } = { s with put := upI 0 (k + 1), done := (k : Int) + 1, r1 := s.r1 ++ [(k : Int)] } := by
    unfold adv1
    have z : (decide ((k : Int) = s.done) && decide ((k : Int) ∈ upI 0 (k + 1))) = true := by
      rw [hd]
      simp only [Bool.and_eq_true, decide_eq_true_eq]
      exact ⟨trivial, mem_upI.mpr ⟨by omega, by omega⟩⟩
    show (if (decide ((k : Int) = s.done) && decide ((k : Int) ∈ upI 0 (k + 1))) = true then _ else _) = _
    rw [if_pos z, hd]
  rw [e3]
  exact adv_stayB _ fun z => by
    have := mem_upI.mp z
    have e : (k : Int) + 1 < 0 + ((k + 1 : Nat) : Int) := this.2
    omega
theorem ls_s (k : Nat) (hk : k < 5000) : lsO (upI 0 k ++ [(k : Int)]) = k + 1 := by
  rw [← up_s]
  refine Lst.uniq (lsO_spec fun x hx => ?_) ⟨by omega, fun hx => ?_, fun x h1 h2 => mem_upI.mpr ⟨h1, by omega⟩⟩
  · have := (mem_upI.mp hx).2; omega
  · have := (mem_upI.mp hx).2; omega
theorem answer_fs {l : Ln} (k : Nat) (hk : k < 5000) (r0 : List Int) : doP l (fs2 k r0) (.bring 1 0 false) = some (fs (k + 1) r0) := by
  have h := up_n k
  have e := ls_s k hk
  have e2 : ((k : Int) + 1 - k).toNat = 1 := by omega
  have u1 : ∀ i : Int, upI i 1 = [i] := fun i => by unfold upI; simp
  simp [doP, fs, fs2, rowOf, putRow, ss, takenOf, e2, u1, h, up_s, e]
theorem bring_fs {l : Ln} (g : Lg l) (k : Nat) (x : Int) : doP l (fs1 k [x]) (.bring 0 1 false) = some (fs2 k [x]) := by
  have e := house_next (l := l) g.w1 (s := { fs1 k [x] with r0 := [x] }) k rfl rfl
  show (if (!l.any && decide ((0 : Int) < 1)) = true then none else some (hs l { fs1 k [x] with r0 := [x] } k)) = _
  rw [g.any, if_neg (by decide), e]
  rfl
theorem round_fs {l : Ln} (g : Lg l) (k : Nat) (hk : k < 5000) (x : Int) (ps : List Sp) : goB l (.send k :: .bring 0 1 false :: .bring 1 0 false :: ps) (fs k [x]) = goB l ps (fs (k + 1) [x]) := by
  rw [goB_cons (bw_0 g rfl rfl (by show (k : Int) ≤ k + 1; omega)) (send_fs g k [x]), goB_cons (bw_0 g rfl rfl (by show (k : Int) ≤ k + 1; omega)) (bring_fs g k x), goB_cons (bw_0 g rfl rfl (by show (k : Int) + 1 ≤ k + 1; omega)) (answer_fs k hk [x])]
theorem rounds_fs {l : Ln} (g : Lg l) (x : Int) : ∀ (n : Nat) (_ : n ≤ 1000) (ps : List Sp), goB l (longs n ++ ps) (fs 1 [x]) = goB l ps (fs (n + 1) [x])
  | 0, _, ps => rfl
  | n + 1, h, ps => by
    have e : longs (n + 1) = longs n ++ [.send ((n + 1 : Nat) : Int), .bring 0 1 false, .bring 1 0 false] := by
      unfold longs
      rw [up_sg, List.flatMap_append]
      have : (1 : Int) + (n : Int) = ((n + 1 : Nat) : Int) := by omega
      rw [this]
      simp
    rw [e, List.append_assoc, rounds_fs g x n (by omega)]
    exact round_fs g (n + 1) (by omega) x ps
theorem bring0_fs {l : Ln} (g : Lg l) : doP l (fs1 0 []) (.bring 0 0 true) = some (fs2 0 [0]) := by
  have e := house_next (l := l) g.w1 (s := fs1 0 []) 0 rfl rfl
  show (if (!l.any && decide ((0 : Int) < 0)) = true then none else some (hs l (fs1 0 []) ((0 : Nat) : Int))) = _
  rw [if_neg (by simp), e]
  rfl
theorem adv_tw : ∀ (cs : List Int) {s : MS}, (adv cs s).tw = s.tw
  | [], s => rfl
  | c :: cs, s => by
    have e : (adv1 c s).tw = s.tw := by
      unfold adv1
      split <;> rfl
    exact (adv_tw cs).trans e
theorem again {l : Ln} (g : Lg l) (k : Nat) (hk : (k : Int) = l.ring - l.wide + 1) : ∃ s', doP l (fs k [0]) (.bring 0 0 false) = some s' ∧ s'.tw = true := by
  have hw := g.w1; have hr := g.r1
  have hn : newOf l { fs k [0] with r0 := [] } 0 = some l.ring := by
    have m0 : mk l.ring 0 = 0 := by
      unfold mk
      split <;> simp
    have mr : mk l.ring l.ring = 0 := by
      unfold mk
      rw [if_neg (by omega)]
      exact Int.fmod_self
    obtain ⟨y, e, y1, y2, _⟩ := find_upI (p := fun c => decide (mk l.ring c = mk l.ring 0)) (n := l.wide.toNat) (i := (k : Int)) ⟨l.ring, by omega, by omega, by rw [m0, mr]; rfl⟩
    have hy := mem_upI.mp (List.mem_of_find?_eq_some e)
    have y2 : mk l.ring y = 0 := by rw [m0] at y2; simpa using y2
    have hy0 : y = l.ring := by
      unfold mk at y2
      rw [if_neg (by omega), Int.fmod_eq_emod_of_nonneg _ (by omega)] at y2
      have hd := Int.dvd_of_emod_eq_zero y2
      have := Int.le_of_dvd (by omega) hd
      omega
    rw [← hy0]
    exact e
  refine ⟨hs l { fs k [0] with r0 := [] } 0, ?_, ?_⟩
  · show (if (!l.any && decide ((0 : Int) < 0)) = true then none else some (hs l { fs k [0] with r0 := [] } 0)) = _
    rw [if_neg (by simp)]
  · unfold hs
    rw [hn]
    show (adv _ (putN { fs k [0] with r0 := [] } l.ring 0)).tw = true
    rw [adv_tw]
    have hp : l.ring ∉ upI 0 k := fun z => by have := mem_upI.mp z; omega
    unfold putN
    show (if (!decide (l.ring ∈ upI 0 k)) = true then _ else _ : MS).tw = true
    rw [if_pos (by simp [hp])]
    show (false || !decide (l.ring = 0)) = true
    simp
    omega
theorem long_bad {l : Ln} (g : Lg l) : badRun l ("twice" : Str) (longP l) = true := by
  have hw := g.w1; have hr := g.r1; have hr2 := g.r2
  have e0 : ∀ ps, goB l (.send 0 :: .bring 0 0 true :: .bring 1 0 false :: ps) (fs 0 []) = goB l ps (fs 1 [0]) := fun ps => by
    have h0 := send_fs g 0 []
    rw [show (((0 : Nat) : Int)) = 0 from rfl] at h0
    rw [goB_cons (bw_0 g rfl rfl (by decide)) h0, goB_cons (bw_0 g rfl rfl (by decide)) (bring0_fs g), goB_cons (bw_0 g rfl rfl (by decide)) (answer_fs 0 (by omega) [0])]
  obtain ⟨s', e1, e2⟩ := again g ((l.ring - l.wide).toNat + 1) (by omega)
  have e : goB l (longP l) MS.start = some s' := by
    have h1 : goB l (longP l) MS.start = goB l (longs (l.ring - l.wide).toNat ++ [.bring 0 0 false]) (fs 1 [0]) := e0 _
    rw [h1, rounds_fs g 0 _ (by omega), goB_cons (bw_0 g rfl rfl (by show (((l.ring - l.wide).toNat + 1 : Nat) : Int) ≤ (((l.ring - l.wide).toNat + 1 : Nat) : Int) + 1; omega)) e1]
    rfl
  unfold badRun
  rw [e]
  show decide (("twice" : Str) ∈ bw l s') = true
  unfold bw
  rw [e2]
  simp
theorem longs_len : ∀ n, (longs n).length = 3 * n
  | 0 => rfl
  | n + 1 => by
    unfold longs
    rw [up_sg, List.flatMap_append, List.length_append]
    have := longs_len n
    unfold longs at this
    rw [this]
    show 3 * n + 3 = _
    omega
theorem long_ok {l : Ln} (g : Lg l) : (∀ p ∈ longP l, p.Ok) ∧ (longP l).length ≤ 300 := by
  have hw := g.w1; have hr := g.r1; have hr2 := g.r2
  refine ⟨fun p hp => ?_, ?_⟩
  · unfold longP longs at hp
    rcases List.mem_append.mp hp with z | z
    · rcases List.mem_append.mp z with z | z
      · simp only [List.mem_cons, List.not_mem_nil, or_false] at z
        rcases z with z | z | z <;> rw [z]
        · exact ⟨by omega, by omega⟩
        · exact ⟨.inl rfl, by omega, by omega⟩
        · exact ⟨.inr rfl, by omega, by omega⟩
      · obtain ⟨c, hc, z⟩ := List.mem_flatMap.mp z
        have := mem_upI.mp hc
        simp only [List.mem_cons, List.not_mem_nil, or_false] at z
        rcases z with z | z | z <;> rw [z]
        · exact ⟨by omega, by omega⟩
        · exact ⟨.inl rfl, by omega, by omega⟩
        · exact ⟨.inr rfl, by omega, by omega⟩
    · have : p = .bring 0 0 false := by simpa using z
      rw [this]; exact ⟨.inl rfl, by omega, by omega⟩
  · unfold longP
    rw [List.length_append, List.length_append, longs_len]
    show 3 + 3 * _ + 1 ≤ 300
    omega
theorem known_is {l : Ln} (hl : l.Ok) {w : Str} {ps : List Sp} (e : knownP l = some (w, ps)) : w ∈ [("twice" : Str), "wrong", "stuck"] ∧ (∀ p ∈ ps, p.Ok) ∧ ps.length ≤ 100 := by
  have w0 := hl.w0; have w1 := hl.w1
  have s1 : ∀ p ∈ sends l, p.Ok := fun p hp => by
    obtain ⟨c, hc, rfl⟩ := List.mem_map.mp hp
    have := mem_upI.mp hc
    exact ⟨by omega, by omega⟩
  have b1 : ∀ n, ∀ p ∈ brings n, p.Ok := fun n p hp => by
    obtain ⟨c, hc, rfl⟩ := List.mem_map.mp hp
    exact ⟨.inl rfl, by omega, by omega⟩
  have ls : (sends l).length = l.wide.toNat := by unfold sends upI; simp
  have lb : ∀ n, (brings n).length = n := fun n => by unfold brings upI; simp
  unfold knownP at e
  split at e
  · cases e
    refine ⟨by simp, fun p hp => ?_, by simp [ls, lb]; omega⟩
    rcases List.mem_append.mp hp with z | z
    · rcases List.mem_append.mp z with z | z
      · exact s1 p z
      · exact b1 _ p z
    · have : p = .lose 1 0 := by simpa using z
      rw [this]; exact ⟨.inr rfl, by omega, by omega⟩
  · split at e
    · cases e
    · split at e
      · cases e
        refine ⟨by simp, fun p hp => ?_, by simp⟩
        simp only [List.mem_cons, List.not_mem_nil, or_false] at hp
        rcases hp with z | z | z <;> subst z
        · exact ⟨by omega, by omega⟩
        · exact ⟨.inl rfl, by omega, by omega⟩
        · exact ⟨.inl rfl, by omega, by omega⟩
      · split at e
        · cases e
          refine ⟨by simp, fun p hp => ?_, by simp [ls, lb]; omega⟩
          rcases List.mem_append.mp hp with z | z
          · rcases List.mem_append.mp z with z | z
            · exact s1 p z
            · have : p = .send 0 := by simpa using z
              rw [this]; exact ⟨by omega, by omega⟩
          · exact b1 _ p z
        · cases e
end K75
end
section
set_option Elab.async false
set_option linter.all false
set_option maxRecDepth 100000
set_option maxHeartbeats 8000000
namespace K75
open PySem Mi
def sortD : D → Int
  | .none => 0
  | .bool _ => 1
  | .int _ => 2
  | .str _ => 3
  | .tuple _ => 4
  | .list _ => 5
  | .dict _ => 6
theorem sort_ok (n : Nat) (x : D) (h : ∀ kv, x ≠ .dict kv) (S : Sto) : rn (n + 1) 15 [.d x] S = .ok (.d (.int (sortD x))) S := by
  show outR (ess (rt n) b15 [some (.d x)] S) = _
  rw [b15]
  cases x with
  | none => simp only [ess, es, et, ets, eto, ei, eg, egs, pv, sRet, sRetN, sNil, sIf, sAsg, sPar, sExp, sBrk, sCnt, xIte, xCall, xCons, xNil, xVar, xCon, xBin, xUn, xDic, tAnd, tOr, tNot, tBad, xBad, oNone, oSome, gNm, gsNil, gsCons, Bi.go, Tn.nm, Mt.go, Mt.rc, cmG, opG, Gxs.len, q_ok, q_bad, q_exc, q_ite, o_ok, o_bad, o_exc, o_ite, a_nx, a_rt, a_bk, a_ct, a_bad, a_ite, t_nx, t_ct, t_bk, t_rt, t_bad, t_ite, r_rt, r_nx, r_bad, r_ite, k_b, q_b, n_b, t_b, t_i, t_n, t_l, t_t, e_and, e_or, e_not, e_chn, e_bool, e_val, e_seq, w_add, w_sub, w_mul, w_div, w_mod, w_ord, w_neg, w_isn, w_isnn, w_isb, w_isbn, w_eqi, w_nei, w_eqs, w_nes, w_eqb, w_neb, w_lent, w_lenl, e_tup, e_tupc, e_lst, e_lstc, td_0, td_1, td_2, td_3, td_4, td_5, td_6, ld_0, ld_1, ld_2, ld_3, ld_4, ld_5, ld_6, ld_7, w_ixt, w_ixl, at_0, at_1, at_2, at_3, om_some, or_some, e_lc, e_gfd, e_gsb, e_mth, e_met, w_max, w_min, w_rg1, w_rg2, w_rgd, e_ival, it_l, it_t, e_for, v_fx, v_cel, l_t, isiG, tyN, isiB, isiTs, List.mem_cons, List.not_mem_nil, or_false, false_or, or_true, true_or, decide_true, decide_false, Bool.or_false, Bool.false_or, Bool.true_or, Bool.or_true, Bool.and_false, Bool.and_true, Bool.true_and, Bool.false_and, Bool.not_true, Bool.not_false, List.map_cons, List.map_nil, List.replicate_zero, List.replicate_succ, List.cons_append, List.nil_append, List.length_cons, List.length_nil, List.getElem?_cons_zero, List.getElem?_cons_succ, List.getElem?_nil, List.set_cons_zero, List.set_cons_succ, if_true, if_false, Bool.false_eq_true, reduceIte, ite_self]; rfl
  | bool b => simp only [ess, es, et, ets, eto, ei, eg, egs, pv, sRet, sRetN, sNil, sIf, sAsg, sPar, sExp, sBrk, sCnt, xIte, xCall, xCons, xNil, xVar, xCon, xBin, xUn, xDic, tAnd, tOr, tNot, tBad, xBad, oNone, oSome, gNm, gsNil, gsCons, Bi.go, Tn.nm, Mt.go, Mt.rc, cmG, opG, Gxs.len, q_ok, q_bad, q_exc, q_ite, o_ok, o_bad, o_exc, o_ite, a_nx, a_rt, a_bk, a_ct, a_bad, a_ite, t_nx, t_ct, t_bk, t_rt, t_bad, t_ite, r_rt, r_nx, r_bad, r_ite, k_b, q_b, n_b, t_b, t_i, t_n, t_l, t_t, e_and, e_or, e_not, e_chn, e_bool, e_val, e_seq, w_add, w_sub, w_mul, w_div, w_mod, w_ord, w_neg, w_isn, w_isnn, w_isb, w_isbn, w_eqi, w_nei, w_eqs, w_nes, w_eqb, w_neb, w_lent, w_lenl, e_tup, e_tupc, e_lst, e_lstc, td_0, td_1, td_2, td_3, td_4, td_5, td_6, ld_0, ld_1, ld_2, ld_3, ld_4, ld_5, ld_6, ld_7, w_ixt, w_ixl, at_0, at_1, at_2, at_3, om_some, or_some, e_lc, e_gfd, e_gsb, e_mth, e_met, w_max, w_min, w_rg1, w_rg2, w_rgd, e_ival, it_l, it_t, e_for, v_fx, v_cel, l_t, isiG, tyN, isiB, isiTs, List.mem_cons, List.not_mem_nil, or_false, false_or, or_true, true_or, decide_true, decide_false, Bool.or_false, Bool.false_or, Bool.true_or, Bool.or_true, Bool.and_false, Bool.and_true, Bool.true_and, Bool.false_and, Bool.not_true, Bool.not_false, List.map_cons, List.map_nil, List.replicate_zero, List.replicate_succ, List.cons_append, List.nil_append, List.length_cons, List.length_nil, List.getElem?_cons_zero, List.getElem?_cons_succ, List.getElem?_nil, List.set_cons_zero, List.set_cons_succ, if_true, if_false, Bool.false_eq_true, reduceIte, ite_self]; rfl
  | int i => simp only [ess, es, et, ets, eto, ei, eg, egs, pv, sRet, sRetN, sNil, sIf, sAsg, sPar, sExp, sBrk, sCnt, xIte, xCall, xCons, xNil, xVar, xCon, xBin, xUn, xDic, tAnd, tOr, tNot, tBad, xBad, oNone, oSome, gNm, gsNil, gsCons, Bi.go, Tn.nm, Mt.go, Mt.rc, cmG, opG, Gxs.len, q_ok, q_bad, q_exc, q_ite, o_ok, o_bad, o_exc, o_ite, a_nx, a_rt, a_bk, a_ct, a_bad, a_ite, t_nx, t_ct, t_bk, t_rt, t_bad, t_ite, r_rt, r_nx, r_bad, r_ite, k_b, q_b, n_b, t_b, t_i, t_n, t_l, t_t, e_and, e_or, e_not, e_chn, e_bool, e_val, e_seq, w_add, w_sub, w_mul, w_div, w_mod, w_ord, w_neg, w_isn, w_isnn, w_isb, w_isbn, w_eqi, w_nei, w_eqs, w_nes, w_eqb, w_neb, w_lent, w_lenl, e_tup, e_tupc, e_lst, e_lstc, td_0, td_1, td_2, td_3, td_4, td_5, td_6, ld_0, ld_1, ld_2, ld_3, ld_4, ld_5, ld_6, ld_7, w_ixt, w_ixl, at_0, at_1, at_2, at_3, om_some, or_some, e_lc, e_gfd, e_gsb, e_mth, e_met, w_max, w_min, w_rg1, w_rg2, w_rgd, e_ival, it_l, it_t, e_for, v_fx, v_cel, l_t, isiG, tyN, isiB, isiTs, List.mem_cons, List.not_mem_nil, or_false, false_or, or_true, true_or, decide_true, decide_false, Bool.or_false, Bool.false_or, Bool.true_or, Bool.or_true, Bool.and_false, Bool.and_true, Bool.true_and, Bool.false_and, Bool.not_true, Bool.not_false, List.map_cons, List.map_nil, List.replicate_zero, List.replicate_succ, List.cons_append, List.nil_append, List.length_cons, List.length_nil, List.getElem?_cons_zero, List.getElem?_cons_succ, List.getElem?_nil, List.set_cons_zero, List.set_cons_succ, if_true, if_false, Bool.false_eq_true, reduceIte, ite_self]; rfl
  | str z => simp only [ess, es, et, ets, eto, ei, eg, egs, pv, sRet, sRetN, sNil, sIf, sAsg, sPar, sExp, sBrk, sCnt, xIte, xCall, xCons, xNil, xVar, xCon, xBin, xUn, xDic, tAnd, tOr, tNot, tBad, xBad, oNone, oSome, gNm, gsNil, gsCons, Bi.go, Tn.nm, Mt.go, Mt.rc, cmG, opG, Gxs.len, q_ok, q_bad, q_exc, q_ite, o_ok, o_bad, o_exc, o_ite, a_nx, a_rt, a_bk, a_ct, a_bad, a_ite, t_nx, t_ct, t_bk, t_rt, t_bad, t_ite, r_rt, r_nx, r_bad, r_ite, k_b, q_b, n_b, t_b, t_i, t_n, t_l, t_t, e_and, e_or, e_not, e_chn, e_bool, e_val, e_seq, w_add, w_sub, w_mul, w_div, w_mod, w_ord, w_neg, w_isn, w_isnn, w_isb, w_isbn, w_eqi, w_nei, w_eqs, w_nes, w_eqb, w_neb, w_lent, w_lenl, e_tup, e_tupc, e_lst, e_lstc, td_0, td_1, td_2, td_3, td_4, td_5, td_6, ld_0, ld_1, ld_2, ld_3, ld_4, ld_5, ld_6, ld_7, w_ixt, w_ixl, at_0, at_1, at_2, at_3, om_some, or_some, e_lc, e_gfd, e_gsb, e_mth, e_met, w_max, w_min, w_rg1, w_rg2, w_rgd, e_ival, it_l, it_t, e_for, v_fx, v_cel, l_t, isiG, tyN, isiB, isiTs, List.mem_cons, List.not_mem_nil, or_false, false_or, or_true, true_or, decide_true, decide_false, Bool.or_false, Bool.false_or, Bool.true_or, Bool.or_true, Bool.and_false, Bool.and_true, Bool.true_and, Bool.false_and, Bool.not_true, Bool.not_false, List.map_cons, List.map_nil, List.replicate_zero, List.replicate_succ, List.cons_append, List.nil_append, List.length_cons, List.length_nil, List.getElem?_cons_zero, List.getElem?_cons_succ, List.getElem?_nil, List.set_cons_zero, List.set_cons_succ, if_true, if_false, Bool.false_eq_true, reduceIte, ite_self]; rfl
  | tuple ds => simp only [ess, es, et, ets, eto, ei, eg, egs, pv, sRet, sRetN, sNil, sIf, sAsg, sPar, sExp, sBrk, sCnt, xIte, xCall, xCons, xNil, xVar, xCon, xBin, xUn, xDic, tAnd, tOr, tNot, tBad, xBad, oNone, oSome, gNm, gsNil, gsCons, Bi.go, Tn.nm, Mt.go, Mt.rc, cmG, opG, Gxs.len, q_ok, q_bad, q_exc, q_ite, o_ok, o_bad, o_exc, o_ite, a_nx, a_rt, a_bk, a_ct, a_bad, a_ite, t_nx, t_ct, t_bk, t_rt, t_bad, t_ite, r_rt, r_nx, r_bad, r_ite, k_b, q_b, n_b, t_b, t_i, t_n, t_l, t_t, e_and, e_or, e_not, e_chn, e_bool, e_val, e_seq, w_add, w_sub, w_mul, w_div, w_mod, w_ord, w_neg, w_isn, w_isnn, w_isb, w_isbn, w_eqi, w_nei, w_eqs, w_nes, w_eqb, w_neb, w_lent, w_lenl, e_tup, e_tupc, e_lst, e_lstc, td_0, td_1, td_2, td_3, td_4, td_5, td_6, ld_0, ld_1, ld_2, ld_3, ld_4, ld_5, ld_6, ld_7, w_ixt, w_ixl, at_0, at_1, at_2, at_3, om_some, or_some, e_lc, e_gfd, e_gsb, e_mth, e_met, w_max, w_min, w_rg1, w_rg2, w_rgd, e_ival, it_l, it_t, e_for, v_fx, v_cel, l_t, isiG, tyN, isiB, isiTs, List.mem_cons, List.not_mem_nil, or_false, false_or, or_true, true_or, decide_true, decide_false, Bool.or_false, Bool.false_or, Bool.true_or, Bool.or_true, Bool.and_false, Bool.and_true, Bool.true_and, Bool.false_and, Bool.not_true, Bool.not_false, List.map_cons, List.map_nil, List.replicate_zero, List.replicate_succ, List.cons_append, List.nil_append, List.length_cons, List.length_nil, List.getElem?_cons_zero, List.getElem?_cons_succ, List.getElem?_nil, List.set_cons_zero, List.set_cons_succ, if_true, if_false, Bool.false_eq_true, reduceIte, ite_self]; rfl
  | list ds => simp only [ess, es, et, ets, eto, ei, eg, egs, pv, sRet, sRetN, sNil, sIf, sAsg, sPar, sExp, sBrk, sCnt, xIte, xCall, xCons, xNil, xVar, xCon, xBin, xUn, xDic, tAnd, tOr, tNot, tBad, xBad, oNone, oSome, gNm, gsNil, gsCons, Bi.go, Tn.nm, Mt.go, Mt.rc, cmG, opG, Gxs.len, q_ok, q_bad, q_exc, q_ite, o_ok, o_bad, o_exc, o_ite, a_nx, a_rt, a_bk, a_ct, a_bad, a_ite, t_nx, t_ct, t_bk, t_rt, t_bad, t_ite, r_rt, r_nx, r_bad, r_ite, k_b, q_b, n_b, t_b, t_i, t_n, t_l, t_t, e_and, e_or, e_not, e_chn, e_bool, e_val, e_seq, w_add, w_sub, w_mul, w_div, w_mod, w_ord, w_neg, w_isn, w_isnn, w_isb, w_isbn, w_eqi, w_nei, w_eqs, w_nes, w_eqb, w_neb, w_lent, w_lenl, e_tup, e_tupc, e_lst, e_lstc, td_0, td_1, td_2, td_3, td_4, td_5, td_6, ld_0, ld_1, ld_2, ld_3, ld_4, ld_5, ld_6, ld_7, w_ixt, w_ixl, at_0, at_1, at_2, at_3, om_some, or_some, e_lc, e_gfd, e_gsb, e_mth, e_met, w_max, w_min, w_rg1, w_rg2, w_rgd, e_ival, it_l, it_t, e_for, v_fx, v_cel, l_t, isiG, tyN, isiB, isiTs, List.mem_cons, List.not_mem_nil, or_false, false_or, or_true, true_or, decide_true, decide_false, Bool.or_false, Bool.false_or, Bool.true_or, Bool.or_true, Bool.and_false, Bool.and_true, Bool.true_and, Bool.false_and, Bool.not_true, Bool.not_false, List.map_cons, List.map_nil, List.replicate_zero, List.replicate_succ, List.cons_append, List.nil_append, List.length_cons, List.length_nil, List.getElem?_cons_zero, List.getElem?_cons_succ, List.getElem?_nil, List.set_cons_zero, List.set_cons_succ, if_true, if_false, Bool.false_eq_true, reduceIte, ite_self]; rfl
  | dict kv => exact absurd rfl (h kv)
theorem zip_self (xs : List D) : zipD xs xs = (xs.map fun x => pairD x x).map .d := by
  unfold zipD
  congr 1
  induction xs with
  | nil => rfl
  | cons x xs ih => rw [List.zipWith_cons_cons, List.map_cons, ih]
mutual
def smD : Nat → D → Bool
  | n, .list xs => (match n with
    | 0 => false
    | n + 1 => decide (xs.length ≤ 100000) && smDs n xs)
  | n, .tuple xs => (match n with
    | 0 => false
    | n + 1 => decide (xs.length ≤ 100000) && smDs n xs)
  | _, .dict _ => false
  | _, _ => true
def smDs : Nat → List D → Bool
  | _, [] => true
  | n, x :: xs => smD n x && smDs n xs
end
theorem smDs_mem {n : Nat} : ∀ {xs : List D}, smDs n xs = true → ∀ x ∈ xs, smD n x = true
  | [], _, x, hx => by cases hx
  | y :: ys, h, x, hx => by
    have h' : smD n y = true ∧ smDs n ys = true := by simpa [smDs] using h
    rcases List.mem_cons.mp hx with z | z
    · rw [z]; exact h'.1
    · exact smDs_mem h'.2 x z
theorem inS (i : Int) (S : Sto) : inW false (.d (.int i)) (.d (.tuple [.int 4, .int 5])) S = .ok (.d (.bool (decide (i = 4) || decide (i = 5)))) S := by
  rw [w_int rfl rfl]
  have e : ∀ j : Int, (j == i) = decide (i = j) := fun j => by
    by_cases h : i = j
    · subst h; simp
    · have : (j == i) = false := by simpa using fun z => h z.symm
      rw [this, decide_eq_false h]
  simp [PyData.eqv, e]
theorem like_scalar (n : Nat) (x : D) (h : flatD x = true) (S : Sto) : rn (n + 2) 16 [.d x, .d x] S = .ok (.d (.bool true)) S := by
  have hd : ∀ kv, x ≠ .dict kv := fun kv z => by rw [z] at h; cases h
  show outR (ess (rt (n + 1)) b16 [some (.d x), some (.d x), none, none, none] S) = _
  rw [b16]
  cases x with
  | none => simp only [ess, es, et, ets, eto, ei, eg, egs, pv, sRet, sRetN, sNil, sIf, sAsg, sPar, sExp, sBrk, sCnt, xIte, xCall, xCons, xNil, xVar, xCon, xBin, xUn, xDic, tAnd, tOr, tNot, tBad, xBad, oNone, oSome, gNm, gsNil, gsCons, Bi.go, Tn.nm, Mt.go, Mt.rc, cmG, opG, Gxs.len, q_ok, q_bad, q_exc, q_ite, o_ok, o_bad, o_exc, o_ite, a_nx, a_rt, a_bk, a_ct, a_bad, a_ite, t_nx, t_ct, t_bk, t_rt, t_bad, t_ite, r_rt, r_nx, r_bad, r_ite, k_b, q_b, n_b, t_b, t_i, t_n, t_l, t_t, e_and, e_or, e_not, e_chn, e_bool, e_val, e_seq, w_add, w_sub, w_mul, w_div, w_mod, w_ord, w_neg, w_isn, w_isnn, w_isb, w_isbn, w_eqi, w_nei, w_eqs, w_nes, w_eqb, w_neb, w_lent, w_lenl, e_tup, e_tupc, e_lst, e_lstc, td_0, td_1, td_2, td_3, td_4, td_5, td_6, ld_0, ld_1, ld_2, ld_3, ld_4, ld_5, ld_6, ld_7, w_ixt, w_ixl, at_0, at_1, at_2, at_3, om_some, or_some, e_lc, e_gfd, e_gsb, e_mth, e_met, w_max, w_min, w_rg1, w_rg2, w_rgd, e_ival, it_l, it_t, e_for, v_fx, v_cel, l_t, isiG, tyN, isiB, isiTs, List.mem_cons, List.not_mem_nil, or_false, false_or, or_true, true_or, decide_true, decide_false, Bool.or_false, Bool.false_or, Bool.true_or, Bool.or_true, Bool.and_false, Bool.and_true, Bool.true_and, Bool.false_and, Bool.not_true, Bool.not_false, List.map_cons, List.map_nil, List.replicate_zero, List.replicate_succ, List.cons_append, List.nil_append, List.length_cons, List.length_nil, List.getElem?_cons_zero, List.getElem?_cons_succ, List.getElem?_nil, List.set_cons_zero, List.set_cons_succ, if_true, if_false, Bool.false_eq_true, reduceIte, ite_self, sort_ok n _ hd, sortD, inS]; rfl
  | bool b => simp only [ess, es, et, ets, eto, ei, eg, egs, pv, sRet, sRetN, sNil, sIf, sAsg, sPar, sExp, sBrk, sCnt, xIte, xCall, xCons, xNil, xVar, xCon, xBin, xUn, xDic, tAnd, tOr, tNot, tBad, xBad, oNone, oSome, gNm, gsNil, gsCons, Bi.go, Tn.nm, Mt.go, Mt.rc, cmG, opG, Gxs.len, q_ok, q_bad, q_exc, q_ite, o_ok, o_bad, o_exc, o_ite, a_nx, a_rt, a_bk, a_ct, a_bad, a_ite, t_nx, t_ct, t_bk, t_rt, t_bad, t_ite, r_rt, r_nx, r_bad, r_ite, k_b, q_b, n_b, t_b, t_i, t_n, t_l, t_t, e_and, e_or, e_not, e_chn, e_bool, e_val, e_seq, w_add, w_sub, w_mul, w_div, w_mod, w_ord, w_neg, w_isn, w_isnn, w_isb, w_isbn, w_eqi, w_nei, w_eqs, w_nes, w_eqb, w_neb, w_lent, w_lenl, e_tup, e_tupc, e_lst, e_lstc, td_0, td_1, td_2, td_3, td_4, td_5, td_6, ld_0, ld_1, ld_2, ld_3, ld_4, ld_5, ld_6, ld_7, w_ixt, w_ixl, at_0, at_1, at_2, at_3, om_some, or_some, e_lc, e_gfd, e_gsb, e_mth, e_met, w_max, w_min, w_rg1, w_rg2, w_rgd, e_ival, it_l, it_t, e_for, v_fx, v_cel, l_t, isiG, tyN, isiB, isiTs, List.mem_cons, List.not_mem_nil, or_false, false_or, or_true, true_or, decide_true, decide_false, Bool.or_false, Bool.false_or, Bool.true_or, Bool.or_true, Bool.and_false, Bool.and_true, Bool.true_and, Bool.false_and, Bool.not_true, Bool.not_false, List.map_cons, List.map_nil, List.replicate_zero, List.replicate_succ, List.cons_append, List.nil_append, List.length_cons, List.length_nil, List.getElem?_cons_zero, List.getElem?_cons_succ, List.getElem?_nil, List.set_cons_zero, List.set_cons_succ, if_true, if_false, Bool.false_eq_true, reduceIte, ite_self, sort_ok n _ hd, sortD, inS]; simp
  | int i => simp only [ess, es, et, ets, eto, ei, eg, egs, pv, sRet, sRetN, sNil, sIf, sAsg, sPar, sExp, sBrk, sCnt, xIte, xCall, xCons, xNil, xVar, xCon, xBin, xUn, xDic, tAnd, tOr, tNot, tBad, xBad, oNone, oSome, gNm, gsNil, gsCons, Bi.go, Tn.nm, Mt.go, Mt.rc, cmG, opG, Gxs.len, q_ok, q_bad, q_exc, q_ite, o_ok, o_bad, o_exc, o_ite, a_nx, a_rt, a_bk, a_ct, a_bad, a_ite, t_nx, t_ct, t_bk, t_rt, t_bad, t_ite, r_rt, r_nx, r_bad, r_ite, k_b, q_b, n_b, t_b, t_i, t_n, t_l, t_t, e_and, e_or, e_not, e_chn, e_bool, e_val, e_seq, w_add, w_sub, w_mul, w_div, w_mod, w_ord, w_neg, w_isn, w_isnn, w_isb, w_isbn, w_eqi, w_nei, w_eqs, w_nes, w_eqb, w_neb, w_lent, w_lenl, e_tup, e_tupc, e_lst, e_lstc, td_0, td_1, td_2, td_3, td_4, td_5, td_6, ld_0, ld_1, ld_2, ld_3, ld_4, ld_5, ld_6, ld_7, w_ixt, w_ixl, at_0, at_1, at_2, at_3, om_some, or_some, e_lc, e_gfd, e_gsb, e_mth, e_met, w_max, w_min, w_rg1, w_rg2, w_rgd, e_ival, it_l, it_t, e_for, v_fx, v_cel, l_t, isiG, tyN, isiB, isiTs, List.mem_cons, List.not_mem_nil, or_false, false_or, or_true, true_or, decide_true, decide_false, Bool.or_false, Bool.false_or, Bool.true_or, Bool.or_true, Bool.and_false, Bool.and_true, Bool.true_and, Bool.false_and, Bool.not_true, Bool.not_false, List.map_cons, List.map_nil, List.replicate_zero, List.replicate_succ, List.cons_append, List.nil_append, List.length_cons, List.length_nil, List.getElem?_cons_zero, List.getElem?_cons_succ, List.getElem?_nil, List.set_cons_zero, List.set_cons_succ, if_true, if_false, Bool.false_eq_true, reduceIte, ite_self, sort_ok n _ hd, sortD, inS]; simp
  | str z => simp only [ess, es, et, ets, eto, ei, eg, egs, pv, sRet, sRetN, sNil, sIf, sAsg, sPar, sExp, sBrk, sCnt, xIte, xCall, xCons, xNil, xVar, xCon, xBin, xUn, xDic, tAnd, tOr, tNot, tBad, xBad, oNone, oSome, gNm, gsNil, gsCons, Bi.go, Tn.nm, Mt.go, Mt.rc, cmG, opG, Gxs.len, q_ok, q_bad, q_exc, q_ite, o_ok, o_bad, o_exc, o_ite, a_nx, a_rt, a_bk, a_ct, a_bad, a_ite, t_nx, t_ct, t_bk, t_rt, t_bad, t_ite, r_rt, r_nx, r_bad, r_ite, k_b, q_b, n_b, t_b, t_i, t_n, t_l, t_t, e_and, e_or, e_not, e_chn, e_bool, e_val, e_seq, w_add, w_sub, w_mul, w_div, w_mod, w_ord, w_neg, w_isn, w_isnn, w_isb, w_isbn, w_eqi, w_nei, w_eqs, w_nes, w_eqb, w_neb, w_lent, w_lenl, e_tup, e_tupc, e_lst, e_lstc, td_0, td_1, td_2, td_3, td_4, td_5, td_6, ld_0, ld_1, ld_2, ld_3, ld_4, ld_5, ld_6, ld_7, w_ixt, w_ixl, at_0, at_1, at_2, at_3, om_some, or_some, e_lc, e_gfd, e_gsb, e_mth, e_met, w_max, w_min, w_rg1, w_rg2, w_rgd, e_ival, it_l, it_t, e_for, v_fx, v_cel, l_t, isiG, tyN, isiB, isiTs, List.mem_cons, List.not_mem_nil, or_false, false_or, or_true, true_or, decide_true, decide_false, Bool.or_false, Bool.false_or, Bool.true_or, Bool.or_true, Bool.and_false, Bool.and_true, Bool.true_and, Bool.false_and, Bool.not_true, Bool.not_false, List.map_cons, List.map_nil, List.replicate_zero, List.replicate_succ, List.cons_append, List.nil_append, List.length_cons, List.length_nil, List.getElem?_cons_zero, List.getElem?_cons_succ, List.getElem?_nil, List.set_cons_zero, List.set_cons_succ, if_true, if_false, Bool.false_eq_true, reduceIte, ite_self, sort_ok n _ hd, sortD, inS]; simp
  | _ => cases h
theorem zip_in (xs : List D) (en : Ev) (S : Sto) (w : W) (hw : srcG w = some xs) : iZipM (xCons (xVar 0) (xCons (xVar 1) xNil)) (some w :: some w :: en) S = .ok (.fx ((xs.map fun x => pairD x x).map .d)) S := by
  rw [← zip_self]
  show (match srcG w, srcG w with
    | some xs, some ys => Res.ok (ItV.fx (zipD xs ys)) S
    | _, _ => .bad) = _
  rw [hw]
theorem like_seq (m : Nat) (xs : List D) (hl : xs.length ≤ 100000) (S : Sto) (ih : ∀ x ∈ xs, rn m 16 [.d x, .d x] S = .ok (.d (.bool true)) S) (x : D) (hx : x = .list xs ∨ x = .tuple xs) (n : Nat) (hm : m = n + 1) :
    rn (m + 1) 16 [.d x, .d x] S = .ok (.d (.bool true)) S := by
  have hd : ∀ kv, x ≠ .dict kv := fun kv z => by rcases hx with e | e <;> rw [e] at z <;> cases z
  have lc : ∀ (a b c : Option W), lcV false (gTp (0 + 1 + 1) (gsCons (gNm 3) (gsCons (gNm 4) gsNil))) (tNot (tVal (xCall (Mi.runN tbl.kt tbl.tb m 16) (xCons (xVar 3) (xCons (xVar 4) xNil))))) (xCon (.d (.int 1))) [a, b, c, none, none] (.fx ((xs.map fun x => pairD x x).map .d)) S = .ok (.d (.list [])) S := by
    intro a b c
    rw [lcv_d (e := fun d => match d with
      | .tuple [u, v] => [a, b, c, some (.d u), some (.d v)]
      | _ => []) (p := fun _ => false) (h := fun d => d) (by rw [List.length_map]; unfold cap; omega) (fun d hd => ?_) (fun d hd => ?_) (fun d hd z => nomatch z)]
    · rw [List.filter_eq_nil_iff.mpr (fun _ _ => by simp)]; rfl
    · obtain ⟨x, hx, rfl⟩ := List.mem_map.mp hd
      rfl
    · obtain ⟨x, hx, rfl⟩ := List.mem_map.mp hd
      show (tNot (tVal (xCall (Mi.runN tbl.kt tbl.tb m 16) (xCons (xVar 3) (xCons (xVar 4) xNil))))) [a, b, c, some (.d x), some (.d x)] S = _
      simp only [ess, es, et, ets, eto, ei, eg, egs, pv, sRet, sRetN, sNil, sIf, sAsg, sPar, sExp, sBrk, sCnt, xIte, xCall, xCons, xNil, xVar, xCon, xBin, xUn, xDic, tAnd, tOr, tNot, tBad, xBad, oNone, oSome, gNm, gsNil, gsCons, Bi.go, Tn.nm, Mt.go, Mt.rc, cmG, opG, Gxs.len, q_ok, q_bad, q_exc, q_ite, o_ok, o_bad, o_exc, o_ite, a_nx, a_rt, a_bk, a_ct, a_bad, a_ite, t_nx, t_ct, t_bk, t_rt, t_bad, t_ite, r_rt, r_nx, r_bad, r_ite, k_b, q_b, n_b, t_b, t_i, t_n, t_l, t_t, e_and, e_or, e_not, e_chn, e_bool, e_val, e_seq, w_add, w_sub, w_mul, w_div, w_mod, w_ord, w_neg, w_isn, w_isnn, w_isb, w_isbn, w_eqi, w_nei, w_eqs, w_nes, w_eqb, w_neb, w_lent, w_lenl, e_tup, e_tupc, e_lst, e_lstc, td_0, td_1, td_2, td_3, td_4, td_5, td_6, ld_0, ld_1, ld_2, ld_3, ld_4, ld_5, ld_6, ld_7, w_ixt, w_ixl, at_0, at_1, at_2, at_3, om_some, or_some, e_lc, e_gfd, e_gsb, e_mth, e_met, w_max, w_min, w_rg1, w_rg2, w_rgd, e_ival, it_l, it_t, e_for, v_fx, v_cel, l_t, isiG, tyN, isiB, isiTs, List.mem_cons, List.not_mem_nil, or_false, false_or, or_true, true_or, decide_true, decide_false, Bool.or_false, Bool.false_or, Bool.true_or, Bool.or_true, Bool.and_false, Bool.and_true, Bool.true_and, Bool.false_and, Bool.not_true, Bool.not_false, List.map_cons, List.map_nil, List.replicate_zero, List.replicate_succ, List.cons_append, List.nil_append, List.length_cons, List.length_nil, List.getElem?_cons_zero, List.getElem?_cons_succ, List.getElem?_nil, List.set_cons_zero, List.set_cons_succ, if_true, if_false, Bool.false_eq_true, reduceIte, ite_self, ih x hx]
  show outR (ess (rt m) b16 [some (.d x), some (.d x), none, none, none] S) = _
  rw [b16]
  subst hm
  rcases hx with e | e
  · subst e
    simp only [ess, es, et, ets, eto, ei, eg, egs, pv, sRet, sRetN, sNil, sIf, sAsg, sPar, sExp, sBrk, sCnt, xIte, xCall, xCons, xNil, xVar, xCon, xBin, xUn, xDic, tAnd, tOr, tNot, tBad, xBad, oNone, oSome, gNm, gsNil, gsCons, Bi.go, Tn.nm, Mt.go, Mt.rc, cmG, opG, Gxs.len, q_ok, q_bad, q_exc, q_ite, o_ok, o_bad, o_exc, o_ite, a_nx, a_rt, a_bk, a_ct, a_bad, a_ite, t_nx, t_ct, t_bk, t_rt, t_bad, t_ite, r_rt, r_nx, r_bad, r_ite, k_b, q_b, n_b, t_b, t_i, t_n, t_l, t_t, e_and, e_or, e_not, e_chn, e_bool, e_val, e_seq, w_add, w_sub, w_mul, w_div, w_mod, w_ord, w_neg, w_isn, w_isnn, w_isb, w_isbn, w_eqi, w_nei, w_eqs, w_nes, w_eqb, w_neb, w_lent, w_lenl, e_tup, e_tupc, e_lst, e_lstc, td_0, td_1, td_2, td_3, td_4, td_5, td_6, ld_0, ld_1, ld_2, ld_3, ld_4, ld_5, ld_6, ld_7, w_ixt, w_ixl, at_0, at_1, at_2, at_3, om_some, or_some, e_lc, e_gfd, e_gsb, e_mth, e_met, w_max, w_min, w_rg1, w_rg2, w_rgd, e_ival, it_l, it_t, e_for, v_fx, v_cel, l_t, isiG, tyN, isiB, isiTs, List.mem_cons, List.not_mem_nil, or_false, false_or, or_true, true_or, decide_true, decide_false, Bool.or_false, Bool.false_or, Bool.true_or, Bool.or_true, Bool.and_false, Bool.and_true, Bool.true_and, Bool.false_and, Bool.not_true, Bool.not_false, List.map_cons, List.map_nil, List.replicate_zero, List.replicate_succ, List.cons_append, List.nil_append, List.length_cons, List.length_nil, List.getElem?_cons_zero, List.getElem?_cons_succ, List.getElem?_nil, List.set_cons_zero, List.set_cons_succ, if_true, if_false, Bool.false_eq_true, reduceIte, ite_self, sort_ok n _ hd, sortD, inS]
    rw [if_neg (by decide), zip_in xs _ _ _ rfl]
    have nl : ∀ S, eqW false (.d (.list [])) (.d (.list [])) S = .ok (.d (.bool true)) S := fun _ => rfl
    simp only [ess, es, et, ets, eto, ei, eg, egs, pv, sRet, sRetN, sNil, sIf, sAsg, sPar, sExp, sBrk, sCnt, xIte, xCall, xCons, xNil, xVar, xCon, xBin, xUn, xDic, tAnd, tOr, tNot, tBad, xBad, oNone, oSome, gNm, gsNil, gsCons, Bi.go, Tn.nm, Mt.go, Mt.rc, cmG, opG, Gxs.len, q_ok, q_bad, q_exc, q_ite, o_ok, o_bad, o_exc, o_ite, a_nx, a_rt, a_bk, a_ct, a_bad, a_ite, t_nx, t_ct, t_bk, t_rt, t_bad, t_ite, r_rt, r_nx, r_bad, r_ite, k_b, q_b, n_b, t_b, t_i, t_n, t_l, t_t, e_and, e_or, e_not, e_chn, e_bool, e_val, e_seq, w_add, w_sub, w_mul, w_div, w_mod, w_ord, w_neg, w_isn, w_isnn, w_isb, w_isbn, w_eqi, w_nei, w_eqs, w_nes, w_eqb, w_neb, w_lent, w_lenl, e_tup, e_tupc, e_lst, e_lstc, td_0, td_1, td_2, td_3, td_4, td_5, td_6, ld_0, ld_1, ld_2, ld_3, ld_4, ld_5, ld_6, ld_7, w_ixt, w_ixl, at_0, at_1, at_2, at_3, om_some, or_some, e_lc, e_gfd, e_gsb, e_mth, e_met, w_max, w_min, w_rg1, w_rg2, w_rgd, e_ival, it_l, it_t, e_for, v_fx, v_cel, l_t, isiG, tyN, isiB, isiTs, List.mem_cons, List.not_mem_nil, or_false, false_or, or_true, true_or, decide_true, decide_false, Bool.or_false, Bool.false_or, Bool.true_or, Bool.or_true, Bool.and_false, Bool.and_true, Bool.true_and, Bool.false_and, Bool.not_true, Bool.not_false, List.map_cons, List.map_nil, List.replicate_zero, List.replicate_succ, List.cons_append, List.nil_append, List.length_cons, List.length_nil, List.getElem?_cons_zero, List.getElem?_cons_succ, List.getElem?_nil, List.set_cons_zero, List.set_cons_succ, if_true, if_false, Bool.false_eq_true, reduceIte, ite_self, wipeE, lc, nl]
  · subst e
    simp only [ess, es, et, ets, eto, ei, eg, egs, pv, sRet, sRetN, sNil, sIf, sAsg, sPar, sExp, sBrk, sCnt, xIte, xCall, xCons, xNil, xVar, xCon, xBin, xUn, xDic, tAnd, tOr, tNot, tBad, xBad, oNone, oSome, gNm, gsNil, gsCons, Bi.go, Tn.nm, Mt.go, Mt.rc, cmG, opG, Gxs.len, q_ok, q_bad, q_exc, q_ite, o_ok, o_bad, o_exc, o_ite, a_nx, a_rt, a_bk, a_ct, a_bad, a_ite, t_nx, t_ct, t_bk, t_rt, t_bad, t_ite, r_rt, r_nx, r_bad, r_ite, k_b, q_b, n_b, t_b, t_i, t_n, t_l, t_t, e_and, e_or, e_not, e_chn, e_bool, e_val, e_seq, w_add, w_sub, w_mul, w_div, w_mod, w_ord, w_neg, w_isn, w_isnn, w_isb, w_isbn, w_eqi, w_nei, w_eqs, w_nes, w_eqb, w_neb, w_lent, w_lenl, e_tup, e_tupc, e_lst, e_lstc, td_0, td_1, td_2, td_3, td_4, td_5, td_6, ld_0, ld_1, ld_2, ld_3, ld_4, ld_5, ld_6, ld_7, w_ixt, w_ixl, at_0, at_1, at_2, at_3, om_some, or_some, e_lc, e_gfd, e_gsb, e_mth, e_met, w_max, w_min, w_rg1, w_rg2, w_rgd, e_ival, it_l, it_t, e_for, v_fx, v_cel, l_t, isiG, tyN, isiB, isiTs, List.mem_cons, List.not_mem_nil, or_false, false_or, or_true, true_or, decide_true, decide_false, Bool.or_false, Bool.false_or, Bool.true_or, Bool.or_true, Bool.and_false, Bool.and_true, Bool.true_and, Bool.false_and, Bool.not_true, Bool.not_false, List.map_cons, List.map_nil, List.replicate_zero, List.replicate_succ, List.cons_append, List.nil_append, List.length_cons, List.length_nil, List.getElem?_cons_zero, List.getElem?_cons_succ, List.getElem?_nil, List.set_cons_zero, List.set_cons_succ, if_true, if_false, Bool.false_eq_true, reduceIte, ite_self, sort_ok n _ hd, sortD, inS]
    rw [if_neg (by decide), zip_in xs _ _ _ rfl]
    have nl : ∀ S, eqW false (.d (.list [])) (.d (.list [])) S = .ok (.d (.bool true)) S := fun _ => rfl
    simp only [ess, es, et, ets, eto, ei, eg, egs, pv, sRet, sRetN, sNil, sIf, sAsg, sPar, sExp, sBrk, sCnt, xIte, xCall, xCons, xNil, xVar, xCon, xBin, xUn, xDic, tAnd, tOr, tNot, tBad, xBad, oNone, oSome, gNm, gsNil, gsCons, Bi.go, Tn.nm, Mt.go, Mt.rc, cmG, opG, Gxs.len, q_ok, q_bad, q_exc, q_ite, o_ok, o_bad, o_exc, o_ite, a_nx, a_rt, a_bk, a_ct, a_bad, a_ite, t_nx, t_ct, t_bk, t_rt, t_bad, t_ite, r_rt, r_nx, r_bad, r_ite, k_b, q_b, n_b, t_b, t_i, t_n, t_l, t_t, e_and, e_or, e_not, e_chn, e_bool, e_val, e_seq, w_add, w_sub, w_mul, w_div, w_mod, w_ord, w_neg, w_isn, w_isnn, w_isb, w_isbn, w_eqi, w_nei, w_eqs, w_nes, w_eqb, w_neb, w_lent, w_lenl, e_tup, e_tupc, e_lst, e_lstc, td_0, td_1, td_2, td_3, td_4, td_5, td_6, ld_0, ld_1, ld_2, ld_3, ld_4, ld_5, ld_6, ld_7, w_ixt, w_ixl, at_0, at_1, at_2, at_3, om_some, or_some, e_lc, e_gfd, e_gsb, e_mth, e_met, w_max, w_min, w_rg1, w_rg2, w_rgd, e_ival, it_l, it_t, e_for, v_fx, v_cel, l_t, isiG, tyN, isiB, isiTs, List.mem_cons, List.not_mem_nil, or_false, false_or, or_true, true_or, decide_true, decide_false, Bool.or_false, Bool.false_or, Bool.true_or, Bool.or_true, Bool.and_false, Bool.and_true, Bool.true_and, Bool.false_and, Bool.not_true, Bool.not_false, List.map_cons, List.map_nil, List.replicate_zero, List.replicate_succ, List.cons_append, List.nil_append, List.length_cons, List.length_nil, List.getElem?_cons_zero, List.getElem?_cons_succ, List.getElem?_nil, List.set_cons_zero, List.set_cons_succ, if_true, if_false, Bool.false_eq_true, reduceIte, ite_self, wipeE, lc, nl]
theorem alike : ∀ (k : Nat) (x : D), smD k x = true → ∀ (n : Nat) (S : Sto), rn (n + k + 2) 16 [.d x, .d x] S = .ok (.d (.bool true)) S
  | 0, x, h, n, S => by
    have hf : flatD x = true := by cases x <;> first | rfl | (simp [smD] at h)
    exact like_scalar n x hf S
  | k + 1, x, h, n, S => by
    by_cases hf : flatD x = true
    · exact like_scalar (n + (k + 1)) x hf S
    · have key : ∃ xs, (x = .list xs ∨ x = .tuple xs) ∧ xs.length ≤ 100000 ∧ smDs k xs = true := by
        cases x with
        | list xs =>
          have h' : xs.length ≤ 100000 ∧ smDs k xs = true := by simpa [smD] using h
          exact ⟨xs, .inl rfl, h'⟩
        | tuple xs =>
          have h' : xs.length ≤ 100000 ∧ smDs k xs = true := by simpa [smD] using h
          exact ⟨xs, .inr rfl, h'⟩
        | dict kv => simp [smD] at h
        | _ => exact absurd rfl hf
      obtain ⟨xs, hx, hl, hs⟩ := key
      exact like_seq (n + k + 2) xs hl S (fun y hy => alike k y (smDs_mem hs y hy) n S) x hx (n + k + 1) rfl
end K75
end
section
set_option Elab.async false
set_option linter.all false
set_option maxRecDepth 100000
set_option maxHeartbeats 8000000
namespace K75
open PySem Mi
def rightB (l : Ln) : Bool := decide (l.wide ≤ l.kept) && (decide (l.ring = 0) || (!l.any && decide (2 * l.wide ≤ l.ring)))
theorem m2 (x : Int) : mulOk 2 x = true := by unfold mulOk; simp
theorem right_in_ok (n : Nat) (l : Ln) (S : Sto) : rn (n + 1) 5 [.d l.D] S = .ok (.d (.bool (rightB l))) S := by
  show outR (ess (rt n) b5 [some (.d l.D), none, none, none, none] S) = _
  rw [b5, Ln.D]
  simp only [ess, es, et, ets, eto, ei, eg, egs, pv, sRet, sRetN, sNil, sIf, sAsg, sPar, sExp, sBrk, sCnt, xIte, xCall, xCons, xNil, xVar, xCon, xBin, xUn, xDic, tAnd, tOr, tNot, tBad, xBad, oNone, oSome, gNm, gsNil, gsCons, Bi.go, Tn.nm, Mt.go, Mt.rc, cmG, opG, Gxs.len, q_ok, q_bad, q_exc, q_ite, o_ok, o_bad, o_exc, o_ite, a_nx, a_rt, a_bk, a_ct, a_bad, a_ite, t_nx, t_ct, t_bk, t_rt, t_bad, t_ite, r_rt, r_nx, r_bad, r_ite, k_b, q_b, n_b, t_b, t_i, t_n, t_l, t_t, e_and, e_or, e_not, e_chn, e_bool, e_val, e_seq, w_add, w_sub, w_mul, w_div, w_mod, w_ord, w_neg, w_isn, w_isnn, w_isb, w_isbn, w_eqi, w_nei, w_eqs, w_nes, w_eqb, w_neb, w_lent, w_lenl, e_tup, e_tupc, e_lst, e_lstc, td_0, td_1, td_2, td_3, td_4, td_5, td_6, ld_0, ld_1, ld_2, ld_3, ld_4, ld_5, ld_6, ld_7, w_ixt, w_ixl, at_0, at_1, at_2, at_3, om_some, or_some, e_lc, e_gfd, e_gsb, e_mth, e_met, w_max, w_min, w_rg1, w_rg2, w_rgd, e_ival, it_l, it_t, e_for, v_fx, v_cel, l_t, isiG, tyN, isiB, isiTs, List.mem_cons, List.not_mem_nil, or_false, false_or, or_true, true_or, decide_true, decide_false, Bool.or_false, Bool.false_or, Bool.true_or, Bool.or_true, Bool.and_false, Bool.and_true, Bool.true_and, Bool.false_and, Bool.not_true, Bool.not_false, List.map_cons, List.map_nil, List.replicate_zero, List.replicate_succ, List.cons_append, List.nil_append, List.length_cons, List.length_nil, List.getElem?_cons_zero, List.getElem?_cons_succ, List.getElem?_nil, List.set_cons_zero, List.set_cons_succ, if_true, if_false, Bool.false_eq_true, reduceIte, ite_self, gTp, seqOf, oS_kept, m2]
  unfold rightB
  cases decide (l.wide ≤ l.kept) <;> cases decide (l.ring = 0) <;> cases (!l.any) <;> rfl
theorem is_right_ok (n : Nat) {l : Ln} (h : l.Ok) (S : Sto) : rn (n + 4) 6 [.d l.D] S = .ok (.d (.bool (rightB l))) S := by
  show outR (ess (rt (n + 3)) b6 [some (.d l.D)] S) = _
  rw [b6]
  simp only [ess, es, et, ets, eto, ei, eg, egs, pv, sRet, sRetN, sNil, sIf, sAsg, sPar, sExp, sBrk, sCnt, xIte, xCall, xCons, xNil, xVar, xCon, xBin, xUn, xDic, tAnd, tOr, tNot, tBad, xBad, oNone, oSome, gNm, gsNil, gsCons, Bi.go, Tn.nm, Mt.go, Mt.rc, cmG, opG, Gxs.len, q_ok, q_bad, q_exc, q_ite, o_ok, o_bad, o_exc, o_ite, a_nx, a_rt, a_bk, a_ct, a_bad, a_ite, t_nx, t_ct, t_bk, t_rt, t_bad, t_ite, r_rt, r_nx, r_bad, r_ite, k_b, q_b, n_b, t_b, t_i, t_n, t_l, t_t, e_and, e_or, e_not, e_chn, e_bool, e_val, e_seq, w_add, w_sub, w_mul, w_div, w_mod, w_ord, w_neg, w_isn, w_isnn, w_isb, w_isbn, w_eqi, w_nei, w_eqs, w_nes, w_eqb, w_neb, w_lent, w_lenl, e_tup, e_tupc, e_lst, e_lstc, td_0, td_1, td_2, td_3, td_4, td_5, td_6, ld_0, ld_1, ld_2, ld_3, ld_4, ld_5, ld_6, ld_7, w_ixt, w_ixl, at_0, at_1, at_2, at_3, om_some, or_some, e_lc, e_gfd, e_gsb, e_mth, e_met, w_max, w_min, w_rg1, w_rg2, w_rgd, e_ival, it_l, it_t, e_for, v_fx, v_cel, l_t, isiG, tyN, isiB, isiTs, List.mem_cons, List.not_mem_nil, or_false, false_or, or_true, true_or, decide_true, decide_false, Bool.or_false, Bool.false_or, Bool.true_or, Bool.or_true, Bool.and_false, Bool.and_true, Bool.true_and, Bool.false_and, Bool.not_true, Bool.not_false, List.map_cons, List.map_nil, List.replicate_zero, List.replicate_succ, List.cons_append, List.nil_append, List.length_cons, List.length_nil, List.getElem?_cons_zero, List.getElem?_cons_succ, List.getElem?_nil, List.set_cons_zero, List.set_cons_succ, if_true, if_false, Bool.false_eq_true, reduceIte, ite_self, need_ok n h, right_in_ok (n + 2) l]
theorem law_right_ok (n : Nat) (l : Ln) (S : Sto) : rn (n + 1) 25 [.d l.D] S = .ok (.d (.bool (rightB l))) S := by
  show outR (ess (rt n) b25 [some (.d l.D)] S) = _
  rw [b25, Ln.D]
  simp only [ess, es, et, ets, eto, ei, eg, egs, pv, sRet, sRetN, sNil, sIf, sAsg, sPar, sExp, sBrk, sCnt, xIte, xCall, xCons, xNil, xVar, xCon, xBin, xUn, xDic, tAnd, tOr, tNot, tBad, xBad, oNone, oSome, gNm, gsNil, gsCons, Bi.go, Tn.nm, Mt.go, Mt.rc, cmG, opG, Gxs.len, q_ok, q_bad, q_exc, q_ite, o_ok, o_bad, o_exc, o_ite, a_nx, a_rt, a_bk, a_ct, a_bad, a_ite, t_nx, t_ct, t_bk, t_rt, t_bad, t_ite, r_rt, r_nx, r_bad, r_ite, k_b, q_b, n_b, t_b, t_i, t_n, t_l, t_t, e_and, e_or, e_not, e_chn, e_bool, e_val, e_seq, w_add, w_sub, w_mul, w_div, w_mod, w_ord, w_neg, w_isn, w_isnn, w_isb, w_isbn, w_eqi, w_nei, w_eqs, w_nes, w_eqb, w_neb, w_lent, w_lenl, e_tup, e_tupc, e_lst, e_lstc, td_0, td_1, td_2, td_3, td_4, td_5, td_6, ld_0, ld_1, ld_2, ld_3, ld_4, ld_5, ld_6, ld_7, w_ixt, w_ixl, at_0, at_1, at_2, at_3, om_some, or_some, e_lc, e_gfd, e_gsb, e_mth, e_met, w_max, w_min, w_rg1, w_rg2, w_rgd, e_ival, it_l, it_t, e_for, v_fx, v_cel, l_t, isiG, tyN, isiB, isiTs, List.mem_cons, List.not_mem_nil, or_false, false_or, or_true, true_or, decide_true, decide_false, Bool.or_false, Bool.false_or, Bool.true_or, Bool.or_true, Bool.and_false, Bool.and_true, Bool.true_and, Bool.false_and, Bool.not_true, Bool.not_false, List.map_cons, List.map_nil, List.replicate_zero, List.replicate_succ, List.cons_append, List.nil_append, List.length_cons, List.length_nil, List.getElem?_cons_zero, List.getElem?_cons_succ, List.getElem?_nil, List.set_cons_zero, List.set_cons_succ, if_true, if_false, Bool.false_eq_true, reduceIte, ite_self, oS_kept, m2]
  unfold rightB
  cases decide (l.wide ≤ l.kept) <;> cases decide (l.ring = 0) <;> cases (!l.any) <;> rfl
theorem tup_l {ds : List D} {S : Sto} : tupG [.d (.list ds)] S = .ok (.d (.tuple ds)) S := by
  show (match allD (ds.map .d) with
      | some ds => Res.ok (W.d (.tuple ds)) S
      | none => .bad) = _
  rw [allD_map]
theorem ls_s2 (l : Ln) : (sends l).length = l.wide.toNat := by unfold sends upI; simp
theorem lb_s2 (n : Nat) : (brings n).length = n := by unfold brings upI; simp
theorem addL {xs ys : List Sp} {S : Sto} (h1 : xs.length ≤ 2000) (h2 : ys.length ≤ 2000) : addW (.d (.list (xs.map Sp.D))) (.d (.list (ys.map Sp.D))) S = .ok (.d (.list ((xs ++ ys).map Sp.D))) S := by
  rw [add_l (by simp; unfold cap; omega), List.map_append]
theorem c_send {S : Sto} {j : Nat} {en : Ev} (f : D → Ev) (hg : ∀ d S, gNm j (.d d) en S = .ok (f d) S) (hv : ∀ d, (f d)[j]? = some (some (.d d))) (l : Ln) (hw : l.wide ≤ 16) :
    lcV false (gNm j) tYesX (xTup false (xCons (xCon (.d (.str ("send" : Str)))) (xCons (xVar j) xNil))) en (.fx (((upI 0 l.wide.toNat).map .int).map .d)) S = .ok (.d (.list ((sends l).map Sp.D))) S := by
  rw [lcv_d (e := f) (p := fun _ => true) (h := fun x => .tuple [.str ("send" : Str), x]) (by unfold upI; simp; unfold cap; omega) (fun x hx => hg x S) (fun x hx => rfl) (fun x hx _ => ?_)]
  · congr 3
    rw [List.filter_eq_self.mpr (fun _ _ => rfl)]
    unfold sends
    rw [List.map_map, List.map_map]
    rfl
  · simp only [ess, es, et, ets, eto, ei, eg, egs, pv, sRet, sRetN, sNil, sIf, sAsg, sPar, sExp, sBrk, sCnt, xIte, xCall, xCons, xNil, xVar, xCon, xBin, xUn, xDic, tAnd, tOr, tNot, tBad, xBad, oNone, oSome, gNm, gsNil, gsCons, Bi.go, Tn.nm, Mt.go, Mt.rc, cmG, opG, Gxs.len, q_ok, q_bad, q_exc, q_ite, o_ok, o_bad, o_exc, o_ite, a_nx, a_rt, a_bk, a_ct, a_bad, a_ite, t_nx, t_ct, t_bk, t_rt, t_bad, t_ite, r_rt, r_nx, r_bad, r_ite, k_b, q_b, n_b, t_b, t_i, t_n, t_l, t_t, e_and, e_or, e_not, e_chn, e_bool, e_val, e_seq, w_add, w_sub, w_mul, w_div, w_mod, w_ord, w_neg, w_isn, w_isnn, w_isb, w_isbn, w_eqi, w_nei, w_eqs, w_nes, w_eqb, w_neb, w_lent, w_lenl, e_tup, e_tupc, e_lst, e_lstc, td_0, td_1, td_2, td_3, td_4, td_5, td_6, ld_0, ld_1, ld_2, ld_3, ld_4, ld_5, ld_6, ld_7, w_ixt, w_ixl, at_0, at_1, at_2, at_3, om_some, or_some, e_lc, e_gfd, e_gsb, e_mth, e_met, w_max, w_min, w_rg1, w_rg2, w_rgd, e_ival, it_l, it_t, e_for, v_fx, v_cel, l_t, isiG, tyN, isiB, isiTs, List.mem_cons, List.not_mem_nil, or_false, false_or, or_true, true_or, decide_true, decide_false, Bool.or_false, Bool.false_or, Bool.true_or, Bool.or_true, Bool.and_false, Bool.and_true, Bool.true_and, Bool.false_and, Bool.not_true, Bool.not_false, List.map_cons, List.map_nil, List.replicate_zero, List.replicate_succ, List.cons_append, List.nil_append, List.length_cons, List.length_nil, List.getElem?_cons_zero, List.getElem?_cons_succ, List.getElem?_nil, List.set_cons_zero, List.set_cons_succ, if_true, if_false, Bool.false_eq_true, reduceIte, ite_self, hv]
theorem c_bring {S : Sto} {j : Nat} {en : Ev} (f : D → Ev) (hg : ∀ d S, gNm j (.d d) en S = .ok (f d) S) (k : Nat) (hk : k ≤ 100) :
    lcV false (gNm j) tYesX (xTup false (xCons (xCon (.d (.str ("bring" : Str)))) (xCons (xCon (.d (.int 0))) (xCons (xCon (.d (.int 0))) (xCons (xCon (.d (.bool false))) xNil))))) en (.fx (((upI 0 k).map .int).map .d)) S = .ok (.d (.list ((brings k).map Sp.D))) S := by
  rw [lcv_d (e := f) (p := fun _ => true) (h := fun x => .tuple [.str ("bring" : Str), .int 0, .int 0, .bool false]) (by unfold upI; simp; unfold cap; omega) (fun x hx => hg x S) (fun x hx => rfl) (fun x hx _ => by simp only [ess, es, et, ets, eto, ei, eg, egs, pv, sRet, sRetN, sNil, sIf, sAsg, sPar, sExp, sBrk, sCnt, xIte, xCall, xCons, xNil, xVar, xCon, xBin, xUn, xDic, tAnd, tOr, tNot, tBad, xBad, oNone, oSome, gNm, gsNil, gsCons, Bi.go, Tn.nm, Mt.go, Mt.rc, cmG, opG, Gxs.len, q_ok, q_bad, q_exc, q_ite, o_ok, o_bad, o_exc, o_ite, a_nx, a_rt, a_bk, a_ct, a_bad, a_ite, t_nx, t_ct, t_bk, t_rt, t_bad, t_ite, r_rt, r_nx, r_bad, r_ite, k_b, q_b, n_b, t_b, t_i, t_n, t_l, t_t, e_and, e_or, e_not, e_chn, e_bool, e_val, e_seq, w_add, w_sub, w_mul, w_div, w_mod, w_ord, w_neg, w_isn, w_isnn, w_isb, w_isbn, w_eqi, w_nei, w_eqs, w_nes, w_eqb, w_neb, w_lent, w_lenl, e_tup, e_tupc, e_lst, e_lstc, td_0, td_1, td_2, td_3, td_4, td_5, td_6, ld_0, ld_1, ld_2, ld_3, ld_4, ld_5, ld_6, ld_7, w_ixt, w_ixl, at_0, at_1, at_2, at_3, om_some, or_some, e_lc, e_gfd, e_gsb, e_mth, e_met, w_max, w_min, w_rg1, w_rg2, w_rgd, e_ival, it_l, it_t, e_for, v_fx, v_cel, l_t, isiG, tyN, isiB, isiTs, List.mem_cons, List.not_mem_nil, or_false, false_or, or_true, true_or, decide_true, decide_false, Bool.or_false, Bool.false_or, Bool.true_or, Bool.or_true, Bool.and_false, Bool.and_true, Bool.true_and, Bool.false_and, Bool.not_true, Bool.not_false, List.map_cons, List.map_nil, List.replicate_zero, List.replicate_succ, List.cons_append, List.nil_append, List.length_cons, List.length_nil, List.getElem?_cons_zero, List.getElem?_cons_succ, List.getElem?_nil, List.set_cons_zero, List.set_cons_succ, if_true, if_false, Bool.false_eq_true, reduceIte, ite_self])]
  congr 3
  rw [List.filter_eq_self.mpr (fun _ _ => rfl)]
  unfold brings
  rw [List.map_map, List.map_map]
  rfl
theorem it_w {i : Int} (h1 : 0 ≤ i) (h2 : i ≤ 1000) (S : Sto) : itG (.r 0 i 1) S = .ok (.fx (((upI 0 i.toNat).map .int).map .d)) S := by
  rw [it_up (by omega) (by omega) (by omega) (by omega), show (i - 0).toNat = i.toNat by rw [Int.sub_zero], rgL_up]
def stuckP (l : Ln) : List Sp := sends l ++ brings l.wide.toNat ++ [.lose 1 0]
theorem stuckR_ok (n : Nat) {l : Ln} (hl : l.Ok) (S : Sto) : rn (n + 1) 7 [.d l.D] S = .ok (.d (stD (stuckP l))) S := by
  have w0 := hl.w0; have w1 := hl.w1
  have cs := fun (a b c : Option W) => c_send (S := S) (j := 3) (en := [a, b, c, none]) (fun d => [a, b, c, some (.d d)]) (fun d S => rfl) (fun d => rfl) l w1
  have cb := fun (a b c : Option W) => c_bring (S := S) (j := 3) (en := [a, b, c, none]) (fun d => [a, b, c, some (.d d)]) (fun d S => rfl) l.wide.toNat (by omega)
  have a1 := addL (S := S) (xs := sends l) (ys := brings l.wide.toNat) (by rw [ls_s2]; omega) (by rw [lb_s2]; omega)
  have a2 := addL (S := S) (xs := sends l ++ brings l.wide.toNat) (ys := [.lose 1 0]) (by rw [List.length_append, ls_s2, lb_s2]; omega) (by simp)
  have d1 : [Sp.lose 1 0].map Sp.D = [.tuple [.str ("lose" : Str), .int 1, .int 0]] := rfl
  rw [d1] at a2
  have it := it_w (i := l.wide) (by omega) (by omega) S
  show outR (ess (rt n) b7 [some (.d l.D), none, none, none] S) = _
  rw [b7, Ln.D]
  simp only [ess, es, et, ets, eto, ei, eg, egs, pv, sRet, sRetN, sNil, sIf, sAsg, sPar, sExp, sBrk, sCnt, xIte, xCall, xCons, xNil, xVar, xCon, xBin, xUn, xDic, tAnd, tOr, tNot, tBad, xBad, oNone, oSome, gNm, gsNil, gsCons, Bi.go, Tn.nm, Mt.go, Mt.rc, cmG, opG, Gxs.len, q_ok, q_bad, q_exc, q_ite, o_ok, o_bad, o_exc, o_ite, a_nx, a_rt, a_bk, a_ct, a_bad, a_ite, t_nx, t_ct, t_bk, t_rt, t_bad, t_ite, r_rt, r_nx, r_bad, r_ite, k_b, q_b, n_b, t_b, t_i, t_n, t_l, t_t, e_and, e_or, e_not, e_chn, e_bool, e_val, e_seq, w_add, w_sub, w_mul, w_div, w_mod, w_ord, w_neg, w_isn, w_isnn, w_isb, w_isbn, w_eqi, w_nei, w_eqs, w_nes, w_eqb, w_neb, w_lent, w_lenl, e_tup, e_tupc, e_lst, e_lstc, td_0, td_1, td_2, td_3, td_4, td_5, td_6, ld_0, ld_1, ld_2, ld_3, ld_4, ld_5, ld_6, ld_7, w_ixt, w_ixl, at_0, at_1, at_2, at_3, om_some, or_some, e_lc, e_gfd, e_gsb, e_mth, e_met, w_max, w_min, w_rg1, w_rg2, w_rgd, e_ival, it_l, it_t, e_for, v_fx, v_cel, l_t, isiG, tyN, isiB, isiTs, List.mem_cons, List.not_mem_nil, or_false, false_or, or_true, true_or, decide_true, decide_false, Bool.or_false, Bool.false_or, Bool.true_or, Bool.or_true, Bool.and_false, Bool.and_true, Bool.true_and, Bool.false_and, Bool.not_true, Bool.not_false, List.map_cons, List.map_nil, List.replicate_zero, List.replicate_succ, List.cons_append, List.nil_append, List.length_cons, List.length_nil, List.getElem?_cons_zero, List.getElem?_cons_succ, List.getElem?_nil, List.set_cons_zero, List.set_cons_succ, if_true, if_false, Bool.false_eq_true, reduceIte, ite_self, w_rg1, it, wipeE, cs, cb, a1, a2, tup_l]
  rfl
def loopL (n : Nat) : List Sp := [.send 0, .bring 0 0 true, .bring 1 0 false] ++ longs n
theorem loopL_s (n : Nat) : loopL (n + 1) = loopL n ++ [.send ((n + 1 : Nat) : Int), .bring 0 1 false, .bring 1 0 false] := by
  unfold loopL longs
  rw [up_sg, List.flatMap_append, ← List.append_assoc]
  have : (1 : Int) + (n : Int) = ((n + 1 : Nat) : Int) := by omega
  rw [this]
  simp
theorem loopL_len (n : Nat) : (loopL n).length = 3 + 3 * n := by
  unfold loopL
  rw [List.length_append, longs_len]
  rfl
theorem up_c (i : Int) (n : Nat) : upI i (n + 1) = i :: upI (i + 1) n := upI_s i n
theorem long_loop {S : Sto} (n : Nat) (a0 a3 a4 a5 a6 a7 : Option W) : ∀ (m k : Nat) (x2 : Option W), k + m ≤ 500 →
    ∃ y2, forD (gNm 2) (ess (rt n) b8_0) (((upI ((k + 1 : Nat) : Int) m).map .int).map .d) [a0, some (.d (.list ((loopL k).map Sp.D))), x2, a3, a4, a5, a6, a7] S = .nx [a0, some (.d (.list ((loopL (k + m)).map Sp.D))), y2, a3, a4, a5, a6, a7] S
  | 0, k, x2, h => ⟨x2, rfl⟩
  | m + 1, k, x2, h => by
    obtain ⟨y2, ih⟩ := long_loop (S := S) n a0 a3 a4 a5 a6 a7 m (k + 1) (some (.d (.int ((k + 1 : Nat) : Int)))) (by omega)
    refine ⟨y2, ?_⟩
    have ea := addL (S := S) (xs := loopL k) (ys := [.send ((k + 1 : Nat) : Int), .bring 0 1 false, .bring 1 0 false]) (by rw [loopL_len]; omega) (by simp)
    rw [← loopL_s] at ea
    have d1 : [Sp.send ((k + 1 : Nat) : Int), Sp.bring 0 1 false, Sp.bring 1 0 false].map Sp.D = [.tuple [.str ("send" : Str), .int ((k + 1 : Nat) : Int)], .tuple [.str ("bring" : Str), .int 0, .int 1, .bool false], .tuple [.str ("bring" : Str), .int 1, .int 0, .bool false]] := rfl
    rw [d1] at ea
    rw [upI_s, List.map_cons, List.map_cons, e_for1, b8_0]
    simp only [ess, es, et, ets, eto, ei, eg, egs, pv, sRet, sRetN, sNil, sIf, sAsg, sPar, sExp, sBrk, sCnt, xIte, xCall, xCons, xNil, xVar, xCon, xBin, xUn, xDic, tAnd, tOr, tNot, tBad, xBad, oNone, oSome, gNm, gsNil, gsCons, Bi.go, Tn.nm, Mt.go, Mt.rc, cmG, opG, Gxs.len, q_ok, q_bad, q_exc, q_ite, o_ok, o_bad, o_exc, o_ite, a_nx, a_rt, a_bk, a_ct, a_bad, a_ite, t_nx, t_ct, t_bk, t_rt, t_bad, t_ite, r_rt, r_nx, r_bad, r_ite, k_b, q_b, n_b, t_b, t_i, t_n, t_l, t_t, e_and, e_or, e_not, e_chn, e_bool, e_val, e_seq, w_add, w_sub, w_mul, w_div, w_mod, w_ord, w_neg, w_isn, w_isnn, w_isb, w_isbn, w_eqi, w_nei, w_eqs, w_nes, w_eqb, w_neb, w_lent, w_lenl, e_tup, e_tupc, e_lst, e_lstc, td_0, td_1, td_2, td_3, td_4, td_5, td_6, ld_0, ld_1, ld_2, ld_3, ld_4, ld_5, ld_6, ld_7, w_ixt, w_ixl, at_0, at_1, at_2, at_3, om_some, or_some, e_lc, e_gfd, e_gsb, e_mth, e_met, w_max, w_min, w_rg1, w_rg2, w_rgd, e_ival, it_l, it_t, e_for, v_fx, v_cel, l_t, isiG, tyN, isiB, isiTs, List.mem_cons, List.not_mem_nil, or_false, false_or, or_true, true_or, decide_true, decide_false, Bool.or_false, Bool.false_or, Bool.true_or, Bool.or_true, Bool.and_false, Bool.and_true, Bool.true_and, Bool.false_and, Bool.not_true, Bool.not_false, List.map_cons, List.map_nil, List.replicate_zero, List.replicate_succ, List.cons_append, List.nil_append, List.length_cons, List.length_nil, List.getElem?_cons_zero, List.getElem?_cons_succ, List.getElem?_nil, List.set_cons_zero, List.set_cons_succ, if_true, if_false, Bool.false_eq_true, reduceIte, ite_self, ea]
    rw [b8_0] at ih
    rw [show k + (m + 1) = k + 1 + m from by omega]
    exact ih
def dblP (l : Ln) : List Sp :=
  if decide (l.ring ≤ l.wide) = true then [.send 0, .bring 0 0 true, .bring 0 0 false] else
  if (!l.any) = true then sends l ++ [.send 0] ++ brings (l.wide + 1).toNat else longP l
theorem dbl_ok (n : Nat) {l : Ln} (hl : l.Ok) (S : Sto) : rn (n + 1) 8 [.d l.D] S = .ok (.d (stD (dblP l))) S := by
  have w0 := hl.w0; have w1 := hl.w1; have r1 := hl.r1; have r0 := hl.r0
  have cs := fun (a b d e f g h : Option W) => c_send (S := S) (j := 2) (en := [a, b, none, d, e, f, g, h]) (fun x => [a, b, some (.d x), d, e, f, g, h]) (fun d S => rfl) (fun d => rfl) l w1
  have cb := fun (a b c d e f g : Option W) => c_bring (S := S) (j := 7) (en := [a, b, c, d, e, f, g, none]) (fun x => [a, b, c, d, e, f, g, some (.d x)]) (fun d S => rfl) (l.wide + 1).toNat (by omega)
  have a3 := addL (S := S) (xs := sends l) (ys := [.send 0]) (by rw [ls_s2]; omega) (by simp)
  have a4 := addL (S := S) (xs := sends l ++ [.send 0]) (ys := brings (l.wide + 1).toNat) (by rw [List.length_append, ls_s2]; simp; omega) (by rw [lb_s2]; omega)
  have d2 : [Sp.send 0].map Sp.D = [.tuple [.str ("send" : Str), .int 0]] := rfl
  rw [d2] at a3
  have it1 := it_w (i := l.wide) (by omega) (by omega) S
  have it2 := it_w (i := l.wide + 1) (by omega) (by omega) S
  show outR (ess (rt n) b8 [some (.d l.D), none, none, none, none, none, none, none] S) = _
  rw [b8, Ln.D]
  simp only [ess, es, et, ets, eto, ei, eg, egs, pv, sRet, sRetN, sNil, sIf, sAsg, sPar, sExp, sBrk, sCnt, xIte, xCall, xCons, xNil, xVar, xCon, xBin, xUn, xDic, tAnd, tOr, tNot, tBad, xBad, oNone, oSome, gNm, gsNil, gsCons, Bi.go, Tn.nm, Mt.go, Mt.rc, cmG, opG, Gxs.len, q_ok, q_bad, q_exc, q_ite, o_ok, o_bad, o_exc, o_ite, a_nx, a_rt, a_bk, a_ct, a_bad, a_ite, t_nx, t_ct, t_bk, t_rt, t_bad, t_ite, r_rt, r_nx, r_bad, r_ite, k_b, q_b, n_b, t_b, t_i, t_n, t_l, t_t, e_and, e_or, e_not, e_chn, e_bool, e_val, e_seq, w_add, w_sub, w_mul, w_div, w_mod, w_ord, w_neg, w_isn, w_isnn, w_isb, w_isbn, w_eqi, w_nei, w_eqs, w_nes, w_eqb, w_neb, w_lent, w_lenl, e_tup, e_tupc, e_lst, e_lstc, td_0, td_1, td_2, td_3, td_4, td_5, td_6, ld_0, ld_1, ld_2, ld_3, ld_4, ld_5, ld_6, ld_7, w_ixt, w_ixl, at_0, at_1, at_2, at_3, om_some, or_some, e_lc, e_gfd, e_gsb, e_mth, e_met, w_max, w_min, w_rg1, w_rg2, w_rgd, e_ival, it_l, it_t, e_for, v_fx, v_cel, l_t, isiG, tyN, isiB, isiTs, List.mem_cons, List.not_mem_nil, or_false, false_or, or_true, true_or, decide_true, decide_false, Bool.or_false, Bool.false_or, Bool.true_or, Bool.or_true, Bool.and_false, Bool.and_true, Bool.true_and, Bool.false_and, Bool.not_true, Bool.not_false, List.map_cons, List.map_nil, List.replicate_zero, List.replicate_succ, List.cons_append, List.nil_append, List.length_cons, List.length_nil, List.getElem?_cons_zero, List.getElem?_cons_succ, List.getElem?_nil, List.set_cons_zero, List.set_cons_succ, if_true, if_false, Bool.false_eq_true, reduceIte, ite_self, gTp, seqOf]
  unfold dblP
  cases h5 : decide (l.ring ≤ l.wide) with
  | true =>
    simp only [ess, es, et, ets, eto, ei, eg, egs, pv, sRet, sRetN, sNil, sIf, sAsg, sPar, sExp, sBrk, sCnt, xIte, xCall, xCons, xNil, xVar, xCon, xBin, xUn, xDic, tAnd, tOr, tNot, tBad, xBad, oNone, oSome, gNm, gsNil, gsCons, Bi.go, Tn.nm, Mt.go, Mt.rc, cmG, opG, Gxs.len, q_ok, q_bad, q_exc, q_ite, o_ok, o_bad, o_exc, o_ite, a_nx, a_rt, a_bk, a_ct, a_bad, a_ite, t_nx, t_ct, t_bk, t_rt, t_bad, t_ite, r_rt, r_nx, r_bad, r_ite, k_b, q_b, n_b, t_b, t_i, t_n, t_l, t_t, e_and, e_or, e_not, e_chn, e_bool, e_val, e_seq, w_add, w_sub, w_mul, w_div, w_mod, w_ord, w_neg, w_isn, w_isnn, w_isb, w_isbn, w_eqi, w_nei, w_eqs, w_nes, w_eqb, w_neb, w_lent, w_lenl, e_tup, e_tupc, e_lst, e_lstc, td_0, td_1, td_2, td_3, td_4, td_5, td_6, ld_0, ld_1, ld_2, ld_3, ld_4, ld_5, ld_6, ld_7, w_ixt, w_ixl, at_0, at_1, at_2, at_3, om_some, or_some, e_lc, e_gfd, e_gsb, e_mth, e_met, w_max, w_min, w_rg1, w_rg2, w_rgd, e_ival, it_l, it_t, e_for, v_fx, v_cel, l_t, isiG, tyN, isiB, isiTs, List.mem_cons, List.not_mem_nil, or_false, false_or, or_true, true_or, decide_true, decide_false, Bool.or_false, Bool.false_or, Bool.true_or, Bool.or_true, Bool.and_false, Bool.and_true, Bool.true_and, Bool.false_and, Bool.not_true, Bool.not_false, List.map_cons, List.map_nil, List.replicate_zero, List.replicate_succ, List.cons_append, List.nil_append, List.length_cons, List.length_nil, List.getElem?_cons_zero, List.getElem?_cons_succ, List.getElem?_nil, List.set_cons_zero, List.set_cons_succ, if_true, if_false, Bool.false_eq_true, reduceIte, ite_self]
    rfl
  | false =>
    cases h3 : (!l.any) with
    | true =>
      simp only [ess, es, et, ets, eto, ei, eg, egs, pv, sRet, sRetN, sNil, sIf, sAsg, sPar, sExp, sBrk, sCnt, xIte, xCall, xCons, xNil, xVar, xCon, xBin, xUn, xDic, tAnd, tOr, tNot, tBad, xBad, oNone, oSome, gNm, gsNil, gsCons, Bi.go, Tn.nm, Mt.go, Mt.rc, cmG, opG, Gxs.len, q_ok, q_bad, q_exc, q_ite, o_ok, o_bad, o_exc, o_ite, a_nx, a_rt, a_bk, a_ct, a_bad, a_ite, t_nx, t_ct, t_bk, t_rt, t_bad, t_ite, r_rt, r_nx, r_bad, r_ite, k_b, q_b, n_b, t_b, t_i, t_n, t_l, t_t, e_and, e_or, e_not, e_chn, e_bool, e_val, e_seq, w_add, w_sub, w_mul, w_div, w_mod, w_ord, w_neg, w_isn, w_isnn, w_isb, w_isbn, w_eqi, w_nei, w_eqs, w_nes, w_eqb, w_neb, w_lent, w_lenl, e_tup, e_tupc, e_lst, e_lstc, td_0, td_1, td_2, td_3, td_4, td_5, td_6, ld_0, ld_1, ld_2, ld_3, ld_4, ld_5, ld_6, ld_7, w_ixt, w_ixl, at_0, at_1, at_2, at_3, om_some, or_some, e_lc, e_gfd, e_gsb, e_mth, e_met, w_max, w_min, w_rg1, w_rg2, w_rgd, e_ival, it_l, it_t, e_for, v_fx, v_cel, l_t, isiG, tyN, isiB, isiTs, List.mem_cons, List.not_mem_nil, or_false, false_or, or_true, true_or, decide_true, decide_false, Bool.or_false, Bool.false_or, Bool.true_or, Bool.or_true, Bool.and_false, Bool.and_true, Bool.true_and, Bool.false_and, Bool.not_true, Bool.not_false, List.map_cons, List.map_nil, List.replicate_zero, List.replicate_succ, List.cons_append, List.nil_append, List.length_cons, List.length_nil, List.getElem?_cons_zero, List.getElem?_cons_succ, List.getElem?_nil, List.set_cons_zero, List.set_cons_succ, if_true, if_false, Bool.false_eq_true, reduceIte, ite_self, w_rg1, it1, it2, wipeE, cs, cb, a3, a4, tup_l, oS_kept, h3]
      rfl
    | false =>
      have hr : l.wide < l.ring := by have := of_decide_eq_false h5; omega
      have it3 : itG (.r 1 (l.ring - l.wide + 1) 1) S = .ok (.fx (((upI ((0 + 1 : Nat) : Int) (l.ring - l.wide).toNat).map .int).map .d)) S := by
        rw [it_up (by omega) (by omega) (by omega) (by omega), show (l.ring - l.wide + 1 - 1).toNat = (l.ring - l.wide).toNat by congr 1; omega, rgL_up]
        rfl
      obtain ⟨y2, e1⟩ := long_loop (S := S) n (some (.d (.tuple [.str (oS l.any), .int l.ring, .int l.wide, .int l.kept]))) (some (.d (.str (oS l.any)))) (some (.d (.int l.ring))) (some (.d (.int l.wide))) (some (.d (.int l.kept))) none (l.ring - l.wide).toNat 0 none (by omega)
      rw [Nat.zero_add (l.ring - l.wide).toNat] at e1
      have a5 := addL (S := S) (xs := loopL (l.ring - l.wide).toNat) (ys := [.bring 0 0 false]) (by rw [loopL_len]; omega) (by simp)
      have d3 : [Sp.bring 0 0 false].map Sp.D = [.tuple [.str ("bring" : Str), .int 0, .int 0, .bool false]] := rfl
      rw [d3] at a5
      have d0 : (loopL 0).map Sp.D = [.tuple [.str ("send" : Str), .int 0], .tuple [.str ("bring" : Str), .int 0, .int 0, .bool true], .tuple [.str ("bring" : Str), .int 1, .int 0, .bool false]] := rfl
      rw [d0] at e1
      simp only [ess, es, et, ets, eto, ei, eg, egs, pv, sRet, sRetN, sNil, sIf, sAsg, sPar, sExp, sBrk, sCnt, xIte, xCall, xCons, xNil, xVar, xCon, xBin, xUn, xDic, tAnd, tOr, tNot, tBad, xBad, oNone, oSome, gNm, gsNil, gsCons, Bi.go, Tn.nm, Mt.go, Mt.rc, cmG, opG, Gxs.len, q_ok, q_bad, q_exc, q_ite, o_ok, o_bad, o_exc, o_ite, a_nx, a_rt, a_bk, a_ct, a_bad, a_ite, t_nx, t_ct, t_bk, t_rt, t_bad, t_ite, r_rt, r_nx, r_bad, r_ite, k_b, q_b, n_b, t_b, t_i, t_n, t_l, t_t, e_and, e_or, e_not, e_chn, e_bool, e_val, e_seq, w_add, w_sub, w_mul, w_div, w_mod, w_ord, w_neg, w_isn, w_isnn, w_isb, w_isbn, w_eqi, w_nei, w_eqs, w_nes, w_eqb, w_neb, w_lent, w_lenl, e_tup, e_tupc, e_lst, e_lstc, td_0, td_1, td_2, td_3, td_4, td_5, td_6, ld_0, ld_1, ld_2, ld_3, ld_4, ld_5, ld_6, ld_7, w_ixt, w_ixl, at_0, at_1, at_2, at_3, om_some, or_some, e_lc, e_gfd, e_gsb, e_mth, e_met, w_max, w_min, w_rg1, w_rg2, w_rgd, e_ival, it_l, it_t, e_for, v_fx, v_cel, l_t, isiG, tyN, isiB, isiTs, List.mem_cons, List.not_mem_nil, or_false, false_or, or_true, true_or, decide_true, decide_false, Bool.or_false, Bool.false_or, Bool.true_or, Bool.or_true, Bool.and_false, Bool.and_true, Bool.true_and, Bool.false_and, Bool.not_true, Bool.not_false, List.map_cons, List.map_nil, List.replicate_zero, List.replicate_succ, List.cons_append, List.nil_append, List.length_cons, List.length_nil, List.getElem?_cons_zero, List.getElem?_cons_succ, List.getElem?_nil, List.set_cons_zero, List.set_cons_succ, if_true, if_false, Bool.false_eq_true, reduceIte, ite_self, oS_kept, h3, w_rg2, it3, e1, a5, tup_l]
      rfl
def badD (l : Ln) : D := if rightB l then .none else if decide (l.kept < l.wide) then .tuple [.str ("stuck" : Str), stD (stuckP l)] else .tuple [.str ("twice" : Str), stD (dblP l)]
theorem bad_run_ok (n : Nat) {l : Ln} (hl : l.Ok) (S : Sto) : rn (n + 4) 9 [.d l.D] S = .ok (.d (badD l)) S := by
  have e1 := need_ok n hl S
  have e2 := right_in_ok (n + 2) l S
  have e3 := stuckR_ok (n + 2) hl S
  have e4 := dbl_ok (n + 2) hl S
  show outR (ess (rt (n + 3)) b9 [some (.d l.D)] S) = _
  rw [b9]
  unfold badD
  cases hr : rightB l with
  | true =>
    rw [hr] at e2
    simp only [ess, es, et, ets, eto, ei, eg, egs, pv, sRet, sRetN, sNil, sIf, sAsg, sPar, sExp, sBrk, sCnt, xIte, xCall, xCons, xNil, xVar, xCon, xBin, xUn, xDic, tAnd, tOr, tNot, tBad, xBad, oNone, oSome, gNm, gsNil, gsCons, Bi.go, Tn.nm, Mt.go, Mt.rc, cmG, opG, Gxs.len, q_ok, q_bad, q_exc, q_ite, o_ok, o_bad, o_exc, o_ite, a_nx, a_rt, a_bk, a_ct, a_bad, a_ite, t_nx, t_ct, t_bk, t_rt, t_bad, t_ite, r_rt, r_nx, r_bad, r_ite, k_b, q_b, n_b, t_b, t_i, t_n, t_l, t_t, e_and, e_or, e_not, e_chn, e_bool, e_val, e_seq, w_add, w_sub, w_mul, w_div, w_mod, w_ord, w_neg, w_isn, w_isnn, w_isb, w_isbn, w_eqi, w_nei, w_eqs, w_nes, w_eqb, w_neb, w_lent, w_lenl, e_tup, e_tupc, e_lst, e_lstc, td_0, td_1, td_2, td_3, td_4, td_5, td_6, ld_0, ld_1, ld_2, ld_3, ld_4, ld_5, ld_6, ld_7, w_ixt, w_ixl, at_0, at_1, at_2, at_3, om_some, or_some, e_lc, e_gfd, e_gsb, e_mth, e_met, w_max, w_min, w_rg1, w_rg2, w_rgd, e_ival, it_l, it_t, e_for, v_fx, v_cel, l_t, isiG, tyN, isiB, isiTs, List.mem_cons, List.not_mem_nil, or_false, false_or, or_true, true_or, decide_true, decide_false, Bool.or_false, Bool.false_or, Bool.true_or, Bool.or_true, Bool.and_false, Bool.and_true, Bool.true_and, Bool.false_and, Bool.not_true, Bool.not_false, List.map_cons, List.map_nil, List.replicate_zero, List.replicate_succ, List.cons_append, List.nil_append, List.length_cons, List.length_nil, List.getElem?_cons_zero, List.getElem?_cons_succ, List.getElem?_nil, List.set_cons_zero, List.set_cons_succ, if_true, if_false, Bool.false_eq_true, reduceIte, ite_self, e1, e2]
  | false =>
    rw [hr] at e2
    unfold Ln.D at e1 e2 e3 e4 ⊢
    simp only [ess, es, et, ets, eto, ei, eg, egs, pv, sRet, sRetN, sNil, sIf, sAsg, sPar, sExp, sBrk, sCnt, xIte, xCall, xCons, xNil, xVar, xCon, xBin, xUn, xDic, tAnd, tOr, tNot, tBad, xBad, oNone, oSome, gNm, gsNil, gsCons, Bi.go, Tn.nm, Mt.go, Mt.rc, cmG, opG, Gxs.len, q_ok, q_bad, q_exc, q_ite, o_ok, o_bad, o_exc, o_ite, a_nx, a_rt, a_bk, a_ct, a_bad, a_ite, t_nx, t_ct, t_bk, t_rt, t_bad, t_ite, r_rt, r_nx, r_bad, r_ite, k_b, q_b, n_b, t_b, t_i, t_n, t_l, t_t, e_and, e_or, e_not, e_chn, e_bool, e_val, e_seq, w_add, w_sub, w_mul, w_div, w_mod, w_ord, w_neg, w_isn, w_isnn, w_isb, w_isbn, w_eqi, w_nei, w_eqs, w_nes, w_eqb, w_neb, w_lent, w_lenl, e_tup, e_tupc, e_lst, e_lstc, td_0, td_1, td_2, td_3, td_4, td_5, td_6, ld_0, ld_1, ld_2, ld_3, ld_4, ld_5, ld_6, ld_7, w_ixt, w_ixl, at_0, at_1, at_2, at_3, om_some, or_some, e_lc, e_gfd, e_gsb, e_mth, e_met, w_max, w_min, w_rg1, w_rg2, w_rgd, e_ival, it_l, it_t, e_for, v_fx, v_cel, l_t, isiG, tyN, isiB, isiTs, List.mem_cons, List.not_mem_nil, or_false, false_or, or_true, true_or, decide_true, decide_false, Bool.or_false, Bool.false_or, Bool.true_or, Bool.or_true, Bool.and_false, Bool.and_true, Bool.true_and, Bool.false_and, Bool.not_true, Bool.not_false, List.map_cons, List.map_nil, List.replicate_zero, List.replicate_succ, List.cons_append, List.nil_append, List.length_cons, List.length_nil, List.getElem?_cons_zero, List.getElem?_cons_succ, List.getElem?_nil, List.set_cons_zero, List.set_cons_succ, if_true, if_false, Bool.false_eq_true, reduceIte, ite_self, e1, e2, e3, e4]
    cases decide (l.kept < l.wide) <;> rfl
end K75
end
section
set_option Elab.async false
set_option linter.all false
set_option maxRecDepth 100000
set_option maxHeartbeats 8000000
namespace K75
open PySem Mi
theorem odds_lc {g : XG} {t : XT} {el : XE} {en : Ev} (e : D → Ev) (hg : ∀ d S, g (.d d) en S = .ok (e d) S) : ∀ ws : List D, (∀ w ∈ ws, ∀ S, ∃ T, t (e w) S = .ok false (S ++ T)) → ∀ S, ∃ T, lcD g t el en (ws.map .d) S = .ok [] (S ++ T)
  | [], _, S => ⟨[], by rw [List.append_nil]; rfl⟩
  | w :: ws, h, S => by
    obtain ⟨T, e1⟩ := h w List.mem_cons_self S
    obtain ⟨T2, e2⟩ := odds_lc (g := g) (t := t) (el := el) (en := en) e hg ws (fun w hw => h w (List.mem_cons_of_mem _ hw)) (S ++ T)
    refine ⟨T ++ T2, ?_⟩
    show (noX (g (.d w) en S)).andThen _ = _
    rw [hg w S]
    show (noX (t (e w) S)).andThen _ = _
    rw [e1]
    show lcD g t el en (ws.map .d) (S ++ T) = _
    rw [List.append_assoc] at e2
    exact e2
theorem bad_known {l : Ln} (h : drawnL l) (hr : rightB l = false) : ∃ w ps, badD l = .tuple [.str w, stD ps] ∧ w ∈ [("twice" : Str), "wrong", "stuck"] ∧ (∀ p ∈ ps, p.Ok) ∧ ps.length ≤ 300 ∧ badRun l w ps = true := by
  have hl := h.ok
  have w0 := hl.w0; have r0 := hl.r0
  by_cases hk : l.kept < l.wide
  · have e : knownP l = some (("stuck" : Str), stuckP l) := by
      unfold knownP
      rw [if_pos (decide_eq_true hk)]
      rfl
    obtain ⟨k1, k2, k3⟩ := known_is hl e
    refine ⟨_, _, ?_, k1, k2, by omega, known_bad h e⟩
    unfold badD
    rw [hr, if_neg (by decide), if_pos (decide_eq_true hk)]
  · have hr' : ¬ l.ring = 0 ∧ ¬ (l.any = false ∧ 2 * l.wide ≤ l.ring) := by
      unfold rightB at hr
      rw [decide_eq_true (show l.wide ≤ l.kept by omega)] at hr
      simp at hr
      refine ⟨hr.1, fun z => ?_⟩
      have := hr.2 z.1
      omega
    have eb : badD l = .tuple [.str ("twice" : Str), stD (dblP l)] := by
      unfold badD
      rw [hr, if_neg (by decide), if_neg (by simpa using hk)]
    have e0 : (decide (l.ring = 0) || decide ((!l.any && decide (2 * l.wide ≤ l.ring)) = true)) = false := by
      rw [decide_eq_false hr'.1]
      cases ha : l.any with
      | true => rfl
      | false =>
        have : decide (2 * l.wide ≤ l.ring) = false := decide_eq_false fun z => hr'.2 ⟨ha, z⟩
        rw [this]; rfl
    by_cases h1 : l.ring ≤ l.wide
    · have ed : dblP l = [.send 0, .bring 0 0 true, .bring 0 0 false] := by
        unfold dblP
        rw [if_pos (decide_eq_true h1)]
      have e : knownP l = some (("twice" : Str), dblP l) := by
        unfold knownP
        rw [if_neg (by simpa using hk), e0, if_neg (by decide), if_pos (decide_eq_true h1), ed]
      obtain ⟨k1, k2, k3⟩ := known_is hl e
      exact ⟨_, _, eb, k1, k2, by omega, known_bad h e⟩
    · by_cases h2 : (!l.any) = true
      · have ed : dblP l = sends l ++ [.send 0] ++ brings (l.wide + 1).toNat := by
          unfold dblP
          rw [if_neg (by simpa using h1), if_pos h2]
        have e : knownP l = some (("twice" : Str), dblP l) := by
          unfold knownP
          rw [if_neg (by simpa using hk), e0, if_neg (by decide), if_neg (by simpa using h1), if_pos h2, ed]
        obtain ⟨k1, k2, k3⟩ := known_is hl e
        exact ⟨_, _, eb, k1, k2, by omega, known_bad h e⟩
      · have ed : dblP l = longP l := by
          unfold dblP
          rw [if_neg (by simpa using h1), if_neg h2]
        have g : Lg l := ⟨by simpa using h2, hl.w0, by omega, by omega, hl.r1⟩
        obtain ⟨k2, k3⟩ := long_ok g
        exact ⟨_, _, eb, by simp, by rw [ed]; exact k2, by rw [ed]; exact k3, by rw [ed]; exact long_bad g⟩
theorem rt_of {l : Ln} (hl : l.Ok) (hr : rightB l = true) : Rt l := by
  unfold rightB at hr
  simp only [Bool.and_eq_true, Bool.or_eq_true, decide_eq_true_eq, Bool.not_eq_true'] at hr
  exact ⟨hl.w0, hr.1, hr.2⟩
theorem len_2 {a b : D} {S : Sto} : lenG [.d (.tuple [a, b])] S = .ok (.d (.int 2)) S := rfl
theorem isi_st {ps : List Sp} {S : Sto} : isiG [.d (stD ps), .t "tuple"] S = .ok (.d (.bool true)) S := rfl
theorem isi_t {ds : List D} {S : Sto} : isiG [.d (.tuple ds), .t "tuple"] S = .ok (.d (.bool true)) S := rfl
theorem nl_f (S : Sto) : eqW true (.d (.list [])) (.d (.list [])) S = .ok (.d (.bool false)) S := rfl
theorem line_right_ok (n : Nat) {l : Ln} (hd : drawnL l) {S : Sto} {k : Nat} (h : Cup S k) : ∃ S', rn (n + 8) 27 [.c k, .d l.D] S = .ok (.d (.bool true)) S' ∧ Kp2 S S' k := by
  have hl := hd.ok
  have e1 := law_right_ok (n + 6) l S
  have e2 := is_line_ok (n + 5) hl S
  have e3 := is_right_ok (n + 3) hl S
  have e4 := alike 1 (.list [.bool true, .bool (rightB l)]) (by cases rightB l <;> decide) (n + 4) S
  have e5 := bad_run_ok (n + 3) hl S
  show ∃ S', outR (ess (rt (n + 7)) b27 [some (.c k), some (.d l.D), none, none, none, none, none] S) = _ ∧ _
  rw [b27]
  cases hr : rightB l with
  | true =>
    rw [hr] at e1 e3 e4
    have eb : badD l = .none := by unfold badD; rw [hr]; rfl
    rw [eb] at e5
    have R := rt_of hl hr
    obtain ⟨qs, y, S2, e6, r6, k2, ws, hws, hy⟩ := drawn_ok (n + 2) hl h
    have y0 : y = [] := by
      have hall := right_go R qs (Rv.start l R) r6.ok ws hws
      have := List.mem_of_getLast? hy
      rcases List.mem_cons.mp this with z | z
      · exact z
      · exact hall y z
    subst y0
    have ew : wD ([] : List Str) = .list [] := rfl
    rw [ew] at e6
    obtain ⟨T, e7⟩ := odds_lc (g := gNm 6) (t := tBool (xBin (isW true) (xCall (Mi.runN tbl.kt tbl.tb (n + 7) 10) (xCons (xVar 1) (xCons (xTup false (xCons (xVar 6) (xCons (xVar 4) xNil))) xNil))) (xCon (.d (.bool false))))) (el := xVar 6) (en := [some (.c k), some (.d l.D), some (.d (.bool true)), some (.d .none), some (.d (stD qs)), some (.d (.list [])), none])
      (fun d => [some (.c k), some (.d l.D), some (.d (.bool true)), some (.d .none), some (.d (stD qs)), some (.d (.list [])), some (.d d)]) (fun d S => rfl) [.str "twice", .str "wrong", .str "stuck"] (fun w hw S => by
        obtain ⟨z, hz, rfl⟩ : ∃ z : Str, z ∈ [("twice" : Str), "wrong", "stuck"] ∧ w = .str z := by
          simp only [List.mem_cons, List.not_mem_nil, or_false] at hw
          rcases hw with e | e | e
          · exact ⟨_, by simp, e⟩
          · exact ⟨_, by simp, e⟩
          · exact ⟨_, by simp, e⟩
        have hq := r6.len
        obtain ⟨s', e⟩ := is_bad_run (n + 2) hl hz r6.ok (by omega) S
        rw [right_bad R r6.ok] at e
        refine ⟨TR l s' S.length, ?_⟩
        simp only [ess, es, et, ets, eto, ei, eg, egs, pv, sRet, sRetN, sNil, sIf, sAsg, sPar, sExp, sBrk, sCnt, xIte, xCall, xCons, xNil, xVar, xCon, xBin, xUn, xDic, tAnd, tOr, tNot, tBad, xBad, oNone, oSome, gNm, gsNil, gsCons, Bi.go, Tn.nm, Mt.go, Mt.rc, cmG, opG, Gxs.len, q_ok, q_bad, q_exc, q_ite, o_ok, o_bad, o_exc, o_ite, a_nx, a_rt, a_bk, a_ct, a_bad, a_ite, t_nx, t_ct, t_bk, t_rt, t_bad, t_ite, r_rt, r_nx, r_bad, r_ite, k_b, q_b, n_b, t_b, t_i, t_n, t_l, t_t, e_and, e_or, e_not, e_chn, e_bool, e_val, e_seq, w_add, w_sub, w_mul, w_div, w_mod, w_ord, w_neg, w_isn, w_isnn, w_isb, w_isbn, w_eqi, w_nei, w_eqs, w_nes, w_eqb, w_neb, w_lent, w_lenl, e_tup, e_tupc, e_lst, e_lstc, td_0, td_1, td_2, td_3, td_4, td_5, td_6, ld_0, ld_1, ld_2, ld_3, ld_4, ld_5, ld_6, ld_7, w_ixt, w_ixl, at_0, at_1, at_2, at_3, om_some, or_some, e_lc, e_gfd, e_gsb, e_mth, e_met, w_max, w_min, w_rg1, w_rg2, w_rgd, e_ival, it_l, it_t, e_for, v_fx, v_cel, l_t, isiG, tyN, isiB, isiTs, List.mem_cons, List.not_mem_nil, or_false, false_or, or_true, true_or, decide_true, decide_false, Bool.or_false, Bool.false_or, Bool.true_or, Bool.or_true, Bool.and_false, Bool.and_true, Bool.true_and, Bool.false_and, Bool.not_true, Bool.not_false, List.map_cons, List.map_nil, List.replicate_zero, List.replicate_succ, List.cons_append, List.nil_append, List.length_cons, List.length_nil, List.getElem?_cons_zero, List.getElem?_cons_succ, List.getElem?_nil, List.set_cons_zero, List.set_cons_succ, if_true, if_false, Bool.false_eq_true, reduceIte, ite_self, e]
        rfl) S2
    refine ⟨S2 ++ T, ?_, k2.trans (Kp2.app k2.cup T)⟩
    have c3 : ([PyData.str ("twice" : Str), .str "wrong", .str "stuck"].map W.d).length ≤ cap := by decide +kernel
    have e8 : lcV false (gNm 6) (tBool (xBin (isW true) (xCall (Mi.runN tbl.kt tbl.tb (n + 7) 10) (xCons (xVar 1) (xCons (xTup false (xCons (xVar 6) (xCons (xVar 4) xNil))) xNil))) (xCon (.d (.bool false))))) (xVar 6) [some (.c k), some (.d l.D), some (.d (.bool true)), some (.d .none), some (.d (stD qs)), some (.d (.list [])), none] (.fx ([PyData.str ("twice" : Str), .str "wrong", .str "stuck"].map .d)) S2 = .ok (.d (.list [])) (S2 ++ T) := by
      simp only [lcV, if_pos c3, e7]
      rfl
    simp only [List.map_cons, List.map_nil] at e8
    simp only [ess, es, et, ets, eto, ei, eg, egs, pv, sRet, sRetN, sNil, sIf, sAsg, sPar, sExp, sBrk, sCnt, xIte, xCall, xCons, xNil, xVar, xCon, xBin, xUn, xDic, tAnd, tOr, tNot, tBad, xBad, oNone, oSome, gNm, gsNil, gsCons, Bi.go, Tn.nm, Mt.go, Mt.rc, cmG, opG, Gxs.len, q_ok, q_bad, q_exc, q_ite, o_ok, o_bad, o_exc, o_ite, a_nx, a_rt, a_bk, a_ct, a_bad, a_ite, t_nx, t_ct, t_bk, t_rt, t_bad, t_ite, r_rt, r_nx, r_bad, r_ite, k_b, q_b, n_b, t_b, t_i, t_n, t_l, t_t, e_and, e_or, e_not, e_chn, e_bool, e_val, e_seq, w_add, w_sub, w_mul, w_div, w_mod, w_ord, w_neg, w_isn, w_isnn, w_isb, w_isbn, w_eqi, w_nei, w_eqs, w_nes, w_eqb, w_neb, w_lent, w_lenl, e_tup, e_tupc, e_lst, e_lstc, td_0, td_1, td_2, td_3, td_4, td_5, td_6, ld_0, ld_1, ld_2, ld_3, ld_4, ld_5, ld_6, ld_7, w_ixt, w_ixl, at_0, at_1, at_2, at_3, om_some, or_some, e_lc, e_gfd, e_gsb, e_mth, e_met, w_max, w_min, w_rg1, w_rg2, w_rgd, e_ival, it_l, it_t, e_for, v_fx, v_cel, l_t, isiG, tyN, isiB, isiTs, List.mem_cons, List.not_mem_nil, or_false, false_or, or_true, true_or, decide_true, decide_false, Bool.or_false, Bool.false_or, Bool.true_or, Bool.or_true, Bool.and_false, Bool.and_true, Bool.true_and, Bool.false_and, Bool.not_true, Bool.not_false, List.map_cons, List.map_nil, List.replicate_zero, List.replicate_succ, List.cons_append, List.nil_append, List.length_cons, List.length_nil, List.getElem?_cons_zero, List.getElem?_cons_succ, List.getElem?_nil, List.set_cons_zero, List.set_cons_succ, if_true, if_false, Bool.false_eq_true, reduceIte, ite_self, e1, e2, e3, e4, e5, e6, gTp, seqOf, nl_f, wipeE]
    rw [e8]
    simp only [ess, es, et, ets, eto, ei, eg, egs, pv, sRet, sRetN, sNil, sIf, sAsg, sPar, sExp, sBrk, sCnt, xIte, xCall, xCons, xNil, xVar, xCon, xBin, xUn, xDic, tAnd, tOr, tNot, tBad, xBad, oNone, oSome, gNm, gsNil, gsCons, Bi.go, Tn.nm, Mt.go, Mt.rc, cmG, opG, Gxs.len, q_ok, q_bad, q_exc, q_ite, o_ok, o_bad, o_exc, o_ite, a_nx, a_rt, a_bk, a_ct, a_bad, a_ite, t_nx, t_ct, t_bk, t_rt, t_bad, t_ite, r_rt, r_nx, r_bad, r_ite, k_b, q_b, n_b, t_b, t_i, t_n, t_l, t_t, e_and, e_or, e_not, e_chn, e_bool, e_val, e_seq, w_add, w_sub, w_mul, w_div, w_mod, w_ord, w_neg, w_isn, w_isnn, w_isb, w_isbn, w_eqi, w_nei, w_eqs, w_nes, w_eqb, w_neb, w_lent, w_lenl, e_tup, e_tupc, e_lst, e_lstc, td_0, td_1, td_2, td_3, td_4, td_5, td_6, ld_0, ld_1, ld_2, ld_3, ld_4, ld_5, ld_6, ld_7, w_ixt, w_ixl, at_0, at_1, at_2, at_3, om_some, or_some, e_lc, e_gfd, e_gsb, e_mth, e_met, w_max, w_min, w_rg1, w_rg2, w_rgd, e_ival, it_l, it_t, e_for, v_fx, v_cel, l_t, isiG, tyN, isiB, isiTs, List.mem_cons, List.not_mem_nil, or_false, false_or, or_true, true_or, decide_true, decide_false, Bool.or_false, Bool.false_or, Bool.true_or, Bool.or_true, Bool.and_false, Bool.and_true, Bool.true_and, Bool.false_and, Bool.not_true, Bool.not_false, List.map_cons, List.map_nil, List.replicate_zero, List.replicate_succ, List.cons_append, List.nil_append, List.length_cons, List.length_nil, List.getElem?_cons_zero, List.getElem?_cons_succ, List.getElem?_nil, List.set_cons_zero, List.set_cons_succ, if_true, if_false, Bool.false_eq_true, reduceIte, ite_self, nl_f]
    rfl
  | false =>
    rw [hr] at e1 e3 e4
    obtain ⟨w, ps, eb, hw, hp, hlen, hbad⟩ := bad_known hd hr
    rw [eb] at e5
    obtain ⟨T, e6⟩ := is_bad_ok (n + 3) hl (w := w) hp (by omega) S
    rw [hbad] at e6
    obtain ⟨s', e7⟩ := is_bad_run (n + 2) hl hw hp (by omega) (S ++ T)
    rw [hbad] at e7
    have k1 := Kp2.app h T
    refine ⟨PS l s' (S ++ T), ?_, k1.trans (Kp2.app k1.cup _)⟩
    have z2 : decide (((0 + 1 + 1 : Nat) : Int) = 2) = true := rfl
    obtain ⟨ds, hds⟩ : ∃ ds, stD ps = .tuple ds := ⟨_, rfl⟩
    rw [hds] at e5 e6 e7
    simp only [ess, es, et, ets, eto, ei, eg, egs, pv, sRet, sRetN, sNil, sIf, sAsg, sPar, sExp, sBrk, sCnt, xIte, xCall, xCons, xNil, xVar, xCon, xBin, xUn, xDic, tAnd, tOr, tNot, tBad, xBad, oNone, oSome, gNm, gsNil, gsCons, Bi.go, Tn.nm, Mt.go, Mt.rc, cmG, opG, Gxs.len, q_ok, q_bad, q_exc, q_ite, o_ok, o_bad, o_exc, o_ite, a_nx, a_rt, a_bk, a_ct, a_bad, a_ite, t_nx, t_ct, t_bk, t_rt, t_bad, t_ite, r_rt, r_nx, r_bad, r_ite, k_b, q_b, n_b, t_b, t_i, t_n, t_l, t_t, e_and, e_or, e_not, e_chn, e_bool, e_val, e_seq, w_add, w_sub, w_mul, w_div, w_mod, w_ord, w_neg, w_isn, w_isnn, w_isb, w_isbn, w_eqi, w_nei, w_eqs, w_nes, w_eqb, w_neb, w_lent, w_lenl, e_tup, e_tupc, e_lst, e_lstc, td_0, td_1, td_2, td_3, td_4, td_5, td_6, ld_0, ld_1, ld_2, ld_3, ld_4, ld_5, ld_6, ld_7, w_ixt, w_ixl, at_0, at_1, at_2, at_3, om_some, or_some, e_lc, e_gfd, e_gsb, e_mth, e_met, w_max, w_min, w_rg1, w_rg2, w_rgd, e_ival, it_l, it_t, e_for, v_fx, v_cel, l_t, isiG, tyN, isiB, isiTs, List.mem_cons, List.not_mem_nil, or_false, false_or, or_true, true_or, decide_true, decide_false, Bool.or_false, Bool.false_or, Bool.true_or, Bool.or_true, Bool.and_false, Bool.and_true, Bool.true_and, Bool.false_and, Bool.not_true, Bool.not_false, List.map_cons, List.map_nil, List.replicate_zero, List.replicate_succ, List.cons_append, List.nil_append, List.length_cons, List.length_nil, List.getElem?_cons_zero, List.getElem?_cons_succ, List.getElem?_nil, List.set_cons_zero, List.set_cons_succ, if_true, if_false, Bool.false_eq_true, reduceIte, ite_self, e1, e2, e3, e4, e5, z2, e6, e7]
def lrD (a : Bool) (w k : Int) : D := if (!a && decide (w ≤ k)) = true then .int (2 * w) else .none
theorem least_ok (n : Nat) (a : Bool) {w k : Int} (w0 : 1 ≤ w) (w1 : w ≤ 16) (k0 : 0 ≤ k) (k1 : k ≤ 16) (S : Sto) : rn (n + 4) 11 [.d (.str (oS a)), .d (.int w), .d (.int k)] S = .ok (.d (lrD a w k)) S := by
  have e1 := need_ok n (l := ⟨a, 0, w, k⟩) ⟨by show (0 : Int) ≤ 0; decide, by show (0 : Int) ≤ 64; decide, w0, w1, k0, k1⟩ S
  unfold Ln.D at e1
  show outR (ess (rt (n + 3)) b11 [some (.d (.str (oS a))), some (.d (.int w)), some (.d (.int k))] S) = _
  rw [b11]
  simp only [ess, es, et, ets, eto, ei, eg, egs, pv, sRet, sRetN, sNil, sIf, sAsg, sPar, sExp, sBrk, sCnt, xIte, xCall, xCons, xNil, xVar, xCon, xBin, xUn, xDic, tAnd, tOr, tNot, tBad, xBad, oNone, oSome, gNm, gsNil, gsCons, Bi.go, Tn.nm, Mt.go, Mt.rc, cmG, opG, Gxs.len, q_ok, q_bad, q_exc, q_ite, o_ok, o_bad, o_exc, o_ite, a_nx, a_rt, a_bk, a_ct, a_bad, a_ite, t_nx, t_ct, t_bk, t_rt, t_bad, t_ite, r_rt, r_nx, r_bad, r_ite, k_b, q_b, n_b, t_b, t_i, t_n, t_l, t_t, e_and, e_or, e_not, e_chn, e_bool, e_val, e_seq, w_add, w_sub, w_mul, w_div, w_mod, w_ord, w_neg, w_isn, w_isnn, w_isb, w_isbn, w_eqi, w_nei, w_eqs, w_nes, w_eqb, w_neb, w_lent, w_lenl, e_tup, e_tupc, e_lst, e_lstc, td_0, td_1, td_2, td_3, td_4, td_5, td_6, ld_0, ld_1, ld_2, ld_3, ld_4, ld_5, ld_6, ld_7, w_ixt, w_ixl, at_0, at_1, at_2, at_3, om_some, or_some, e_lc, e_gfd, e_gsb, e_mth, e_met, w_max, w_min, w_rg1, w_rg2, w_rgd, e_ival, it_l, it_t, e_for, v_fx, v_cel, l_t, isiG, tyN, isiB, isiTs, List.mem_cons, List.not_mem_nil, or_false, false_or, or_true, true_or, decide_true, decide_false, Bool.or_false, Bool.false_or, Bool.true_or, Bool.or_true, Bool.and_false, Bool.and_true, Bool.true_and, Bool.false_and, Bool.not_true, Bool.not_false, List.map_cons, List.map_nil, List.replicate_zero, List.replicate_succ, List.cons_append, List.nil_append, List.length_cons, List.length_nil, List.getElem?_cons_zero, List.getElem?_cons_succ, List.getElem?_nil, List.set_cons_zero, List.set_cons_succ, if_true, if_false, Bool.false_eq_true, reduceIte, ite_self, e1, oS_kept, m2]
  unfold lrD
  cases (!a) <;> cases decide (w ≤ k) <;> rfl
theorem main_turn (n : Nat) {S : Sto} {k : Nat} (h : Cup S k) (a0 t x3 x4 x5 x6 x7 x8 x9 x10 x11 x12 x13 : Option W) :
    ∃ (S' : Sto) (y7 y8 y9 y10 y11 : Option W), ess (rt (n + 8)) b28_0 [a0, some (.c k), t, x3, x4, x5, x6, x7, x8, x9, x10, x11, x12, x13] S = .nx [a0, some (.c k), t, x3, x4, x5, x6, y7, y8, y9, y10, y11, x12, x13] S' ∧ Cup S' k := by
  obtain ⟨l, S1, e1, hd, k1⟩ := line_ok (n + 5) h
  have hl := hd.ok
  obtain ⟨S2, e2, k2⟩ := line_right_ok n hd k1.cup
  have e3 := least_ok (n + 4) l.any hl.w0 hl.w1 hl.k0 hl.k1 S2
  have e4 := alike 0 (lrD l.any l.wide l.kept) (by unfold lrD; split <;> rfl) (n + 6) S2
  unfold Ln.D at e1 e2
  rw [b28_0]
  cases hc : (!l.any) with
  | false =>
    have el : lrD l.any l.wide l.kept = .none := by
      unfold lrD
      rw [hc]
      rfl
    rw [el] at e3 e4
    refine ⟨S2, some (.d (.tuple [.str (oS l.any), .int l.ring, .int l.wide, .int l.kept])), some (.d (.none)), some (.d (.str (oS l.any))), some (.d (.int l.wide)), some (.d (.int l.kept)), ?_, k2.cup⟩
    simp only [ess, es, et, ets, eto, ei, eg, egs, pv, sRet, sRetN, sNil, sIf, sAsg, sPar, sExp, sBrk, sCnt, xIte, xCall, xCons, xNil, xVar, xCon, xBin, xUn, xDic, tAnd, tOr, tNot, tBad, xBad, oNone, oSome, gNm, gsNil, gsCons, Bi.go, Tn.nm, Mt.go, Mt.rc, cmG, opG, Gxs.len, q_ok, q_bad, q_exc, q_ite, o_ok, o_bad, o_exc, o_ite, a_nx, a_rt, a_bk, a_ct, a_bad, a_ite, t_nx, t_ct, t_bk, t_rt, t_bad, t_ite, r_rt, r_nx, r_bad, r_ite, k_b, q_b, n_b, t_b, t_i, t_n, t_l, t_t, e_and, e_or, e_not, e_chn, e_bool, e_val, e_seq, w_add, w_sub, w_mul, w_div, w_mod, w_ord, w_neg, w_isn, w_isnn, w_isb, w_isbn, w_eqi, w_nei, w_eqs, w_nes, w_eqb, w_neb, w_lent, w_lenl, e_tup, e_tupc, e_lst, e_lstc, td_0, td_1, td_2, td_3, td_4, td_5, td_6, ld_0, ld_1, ld_2, ld_3, ld_4, ld_5, ld_6, ld_7, w_ixt, w_ixl, at_0, at_1, at_2, at_3, om_some, or_some, e_lc, e_gfd, e_gsb, e_mth, e_met, w_max, w_min, w_rg1, w_rg2, w_rgd, e_ival, it_l, it_t, e_for, v_fx, v_cel, l_t, isiG, tyN, isiB, isiTs, List.mem_cons, List.not_mem_nil, or_false, false_or, or_true, true_or, decide_true, decide_false, Bool.or_false, Bool.false_or, Bool.true_or, Bool.or_true, Bool.and_false, Bool.and_true, Bool.true_and, Bool.false_and, Bool.not_true, Bool.not_false, List.map_cons, List.map_nil, List.replicate_zero, List.replicate_succ, List.cons_append, List.nil_append, List.length_cons, List.length_nil, List.getElem?_cons_zero, List.getElem?_cons_succ, List.getElem?_nil, List.set_cons_zero, List.set_cons_succ, if_true, if_false, Bool.false_eq_true, reduceIte, ite_self, e1, e2, oS_kept, hc, e3, e4]
  | true =>
    cases hc2 : decide (l.wide ≤ l.kept) with
    | false =>
      have el : lrD l.any l.wide l.kept = .none := by
        unfold lrD
        rw [hc, hc2]
        rfl
      rw [el] at e3 e4
      refine ⟨S2, some (.d (.tuple [.str (oS l.any), .int l.ring, .int l.wide, .int l.kept])), some (.d (.none)), some (.d (.str (oS l.any))), some (.d (.int l.wide)), some (.d (.int l.kept)), ?_, k2.cup⟩
      simp only [ess, es, et, ets, eto, ei, eg, egs, pv, sRet, sRetN, sNil, sIf, sAsg, sPar, sExp, sBrk, sCnt, xIte, xCall, xCons, xNil, xVar, xCon, xBin, xUn, xDic, tAnd, tOr, tNot, tBad, xBad, oNone, oSome, gNm, gsNil, gsCons, Bi.go, Tn.nm, Mt.go, Mt.rc, cmG, opG, Gxs.len, q_ok, q_bad, q_exc, q_ite, o_ok, o_bad, o_exc, o_ite, a_nx, a_rt, a_bk, a_ct, a_bad, a_ite, t_nx, t_ct, t_bk, t_rt, t_bad, t_ite, r_rt, r_nx, r_bad, r_ite, k_b, q_b, n_b, t_b, t_i, t_n, t_l, t_t, e_and, e_or, e_not, e_chn, e_bool, e_val, e_seq, w_add, w_sub, w_mul, w_div, w_mod, w_ord, w_neg, w_isn, w_isnn, w_isb, w_isbn, w_eqi, w_nei, w_eqs, w_nes, w_eqb, w_neb, w_lent, w_lenl, e_tup, e_tupc, e_lst, e_lstc, td_0, td_1, td_2, td_3, td_4, td_5, td_6, ld_0, ld_1, ld_2, ld_3, ld_4, ld_5, ld_6, ld_7, w_ixt, w_ixl, at_0, at_1, at_2, at_3, om_some, or_some, e_lc, e_gfd, e_gsb, e_mth, e_met, w_max, w_min, w_rg1, w_rg2, w_rgd, e_ival, it_l, it_t, e_for, v_fx, v_cel, l_t, isiG, tyN, isiB, isiTs, List.mem_cons, List.not_mem_nil, or_false, false_or, or_true, true_or, decide_true, decide_false, Bool.or_false, Bool.false_or, Bool.true_or, Bool.or_true, Bool.and_false, Bool.and_true, Bool.true_and, Bool.false_and, Bool.not_true, Bool.not_false, List.map_cons, List.map_nil, List.replicate_zero, List.replicate_succ, List.cons_append, List.nil_append, List.length_cons, List.length_nil, List.getElem?_cons_zero, List.getElem?_cons_succ, List.getElem?_nil, List.set_cons_zero, List.set_cons_succ, if_true, if_false, Bool.false_eq_true, reduceIte, ite_self, e1, e2, oS_kept, hc, hc2, e3, e4]
    | true =>
      have el : lrD l.any l.wide l.kept = .int (2 * l.wide) := by
        unfold lrD
        rw [hc, hc2]
        rfl
      rw [el] at e3 e4
      refine ⟨S2, some (.d (.tuple [.str (oS l.any), .int l.ring, .int l.wide, .int l.kept])), some (.d (.int (2 * l.wide))), some (.d (.str (oS l.any))), some (.d (.int l.wide)), some (.d (.int l.kept)), ?_, k2.cup⟩
      simp only [ess, es, et, ets, eto, ei, eg, egs, pv, sRet, sRetN, sNil, sIf, sAsg, sPar, sExp, sBrk, sCnt, xIte, xCall, xCons, xNil, xVar, xCon, xBin, xUn, xDic, tAnd, tOr, tNot, tBad, xBad, oNone, oSome, gNm, gsNil, gsCons, Bi.go, Tn.nm, Mt.go, Mt.rc, cmG, opG, Gxs.len, q_ok, q_bad, q_exc, q_ite, o_ok, o_bad, o_exc, o_ite, a_nx, a_rt, a_bk, a_ct, a_bad, a_ite, t_nx, t_ct, t_bk, t_rt, t_bad, t_ite, r_rt, r_nx, r_bad, r_ite, k_b, q_b, n_b, t_b, t_i, t_n, t_l, t_t, e_and, e_or, e_not, e_chn, e_bool, e_val, e_seq, w_add, w_sub, w_mul, w_div, w_mod, w_ord, w_neg, w_isn, w_isnn, w_isb, w_isbn, w_eqi, w_nei, w_eqs, w_nes, w_eqb, w_neb, w_lent, w_lenl, e_tup, e_tupc, e_lst, e_lstc, td_0, td_1, td_2, td_3, td_4, td_5, td_6, ld_0, ld_1, ld_2, ld_3, ld_4, ld_5, ld_6, ld_7, w_ixt, w_ixl, at_0, at_1, at_2, at_3, om_some, or_some, e_lc, e_gfd, e_gsb, e_mth, e_met, w_max, w_min, w_rg1, w_rg2, w_rgd, e_ival, it_l, it_t, e_for, v_fx, v_cel, l_t, isiG, tyN, isiB, isiTs, List.mem_cons, List.not_mem_nil, or_false, false_or, or_true, true_or, decide_true, decide_false, Bool.or_false, Bool.false_or, Bool.true_or, Bool.or_true, Bool.and_false, Bool.and_true, Bool.true_and, Bool.false_and, Bool.not_true, Bool.not_false, List.map_cons, List.map_nil, List.replicate_zero, List.replicate_succ, List.cons_append, List.nil_append, List.length_cons, List.length_nil, List.getElem?_cons_zero, List.getElem?_cons_succ, List.getElem?_nil, List.set_cons_zero, List.set_cons_succ, if_true, if_false, Bool.false_eq_true, reduceIte, ite_self, e1, e2, oS_kept, hc, hc2, m2, e3, e4]
theorem main_loop (n : Nat) {k : Nat} (a0 x3 x4 x5 x6 x12 x13 : Option W) : ∀ (ts : List W) {S : Sto} (t x7 x8 x9 x10 x11 : Option W), Cup S k →
    ∃ (S' : Sto) (y2 y7 y8 y9 y10 y11 : Option W), forD (gNm 2) (ess (rt (n + 8)) b28_0) ts [a0, some (.c k), t, x3, x4, x5, x6, x7, x8, x9, x10, x11, x12, x13] S = .nx [a0, some (.c k), y2, x3, x4, x5, x6, y7, y8, y9, y10, y11, x12, x13] S' ∧ Cup S' k
  | [], S, t, x7, x8, x9, x10, x11, h => ⟨S, t, x7, x8, x9, x10, x11, rfl, h⟩
  | w :: ts, S, t, x7, x8, x9, x10, x11, h => by
    obtain ⟨S1, y7, y8, y9, y10, y11, e1, h1⟩ := main_turn n h a0 (some w) x3 x4 x5 x6 x7 x8 x9 x10 x11 x12 x13
    obtain ⟨S2, z2, z7, z8, z9, z10, z11, e2, h2⟩ := main_loop n a0 x3 x4 x5 x6 x12 x13 ts (some w) y7 y8 y9 y10 y11 h1
    refine ⟨S2, z2, z7, z8, z9, z10, z11, ?_, h2⟩
    rw [e_for1]
    simp only [ess, es, et, ets, eto, ei, eg, egs, pv, sRet, sRetN, sNil, sIf, sAsg, sPar, sExp, sBrk, sCnt, xIte, xCall, xCons, xNil, xVar, xCon, xBin, xUn, xDic, tAnd, tOr, tNot, tBad, xBad, oNone, oSome, gNm, gsNil, gsCons, Bi.go, Tn.nm, Mt.go, Mt.rc, cmG, opG, Gxs.len, q_ok, q_bad, q_exc, q_ite, o_ok, o_bad, o_exc, o_ite, a_nx, a_rt, a_bk, a_ct, a_bad, a_ite, t_nx, t_ct, t_bk, t_rt, t_bad, t_ite, r_rt, r_nx, r_bad, r_ite, k_b, q_b, n_b, t_b, t_i, t_n, t_l, t_t, e_and, e_or, e_not, e_chn, e_bool, e_val, e_seq, w_add, w_sub, w_mul, w_div, w_mod, w_ord, w_neg, w_isn, w_isnn, w_isb, w_isbn, w_eqi, w_nei, w_eqs, w_nes, w_eqb, w_neb, w_lent, w_lenl, e_tup, e_tupc, e_lst, e_lstc, td_0, td_1, td_2, td_3, td_4, td_5, td_6, ld_0, ld_1, ld_2, ld_3, ld_4, ld_5, ld_6, ld_7, w_ixt, w_ixl, at_0, at_1, at_2, at_3, om_some, or_some, e_lc, e_gfd, e_gsb, e_mth, e_met, w_max, w_min, w_rg1, w_rg2, w_rgd, e_ival, it_l, it_t, e_for, v_fx, v_cel, l_t, isiG, tyN, isiB, isiTs, List.mem_cons, List.not_mem_nil, or_false, false_or, or_true, true_or, decide_true, decide_false, Bool.or_false, Bool.false_or, Bool.true_or, Bool.or_true, Bool.and_false, Bool.and_true, Bool.true_and, Bool.false_and, Bool.not_true, Bool.not_false, List.map_cons, List.map_nil, List.replicate_zero, List.replicate_succ, List.cons_append, List.nil_append, List.length_cons, List.length_nil, List.getElem?_cons_zero, List.getElem?_cons_succ, List.getElem?_nil, List.set_cons_zero, List.set_cons_succ, if_true, if_false, Bool.false_eq_true, reduceIte, ite_self, e1]
    exact e2
end K75
end
section
set_option Elab.async false
set_option linter.all false
set_option maxRecDepth 100000
set_option maxHeartbeats 8000000
namespace K75
open PySem Mi
theorem go_nx {T : Mo} {s : Sx} {ss : Sxs} {en en' : Ev} {S S' : Sto} (h : es T s en S = .nx en' S') : ess T (.cons s ss) en S = ess T ss en' S' := by
  show sSeq (es T s) (ess T ss) en S = _
  unfold sSeq
  rw [h]
abbrev k : D := .str ("kept" : Str)
abbrev rowsD : D := .list [.tuple [k, .int 31, .int 16, .int 16], .tuple [k, .int 32, .int 16, .int 16], .tuple [k, .int 2, .int 1, .int 1], .tuple [k, .int 1, .int 1, .int 1], .tuple [k, .int 64, .int 16, .int 15], .tuple [.str ("any" : Str), .int 64, .int 1, .int 16], .tuple [.str ("any" : Str), .int 0, .int 16, .int 16]]
abbrev odds1 : List D := [.none, .tuple [], .tuple [k, .int 4, .int 2], .list [k, .int 4, .int 2, .int 2], .tuple [.str ("lost" : Str), .int 4, .int 2, .int 2], .tuple [k, .int 65, .int 2, .int 2], .tuple [k, .int (-1), .int 2, .int 2], .tuple [k, .int 4, .int 0, .int 2], .tuple [k, .int 4, .int 17, .int 16]]
abbrev odds2 : List D := [.tuple [k, .int 4, .int 2, .int 17], .tuple [k, .int 4, .int 2, .int (-1)], .tuple [k, .bool true, .int 2, .int 2], .tuple [k, .int 4, .bool true, .int 2], .tuple [k, .int 4, .int 2, .none], .tuple [.int 0, .int 4, .int 2, .int 2], .tuple [k, .int 4, .int 2, .int 2, .int 0]]
abbrev odds3 : List D := [.tuple [.str ("lost" : Str), .int 1, .int 1], .tuple [k, .int 0, .int 1], .tuple [k, .int 17, .int 1], .tuple [.str ("any" : Str), .int 1, .int 17], .tuple [.str ("any" : Str), .int 1, .int (-1)], .tuple [.str ("any" : Str), .bool true, .int 1], .tuple [.none, .int 1, .int 1]]
def oddsA : List D := odds1 ++ odds2
theorem odd_need (d : D) (h : d ∈ oddsA) (S : Sto) : rn 37 3 [.d d] S = .exc 0 S := by
  simp only [oddsA, odds1, odds2, List.cons_append, List.nil_append, List.mem_cons, List.not_mem_nil, or_false] at h
  rcases h with rfl | rfl | rfl | rfl | rfl | rfl | rfl | rfl | rfl | rfl | rfl | rfl | rfl | rfl | rfl | rfl <;> kernel_rfl
theorem odd_right (d : D) (h : d ∈ oddsA) (S : Sto) : rn 38 6 [.d d] S = .exc 0 S := by
  show outR (ess (rt 37) b6 [some (.d d)] S) = _
  rw [b6]
  simp only [ess, es, et, ets, eto, ei, eg, egs, pv, sRet, sRetN, sNil, sIf, sAsg, sPar, sExp, sBrk, sCnt, xIte, xCall, xCons, xNil, xVar, xCon, xBin, xUn, xDic, tAnd, tOr, tNot, tBad, xBad, oNone, oSome, gNm, gsNil, gsCons, Bi.go, Tn.nm, Mt.go, Mt.rc, cmG, opG, Gxs.len, q_ok, q_bad, q_exc, q_ite, o_ok, o_bad, o_exc, o_ite, a_nx, a_rt, a_bk, a_ct, a_bad, a_ite, t_nx, t_ct, t_bk, t_rt, t_bad, t_ite, r_rt, r_nx, r_bad, r_ite, k_b, q_b, n_b, t_b, t_i, t_n, t_l, t_t, e_and, e_or, e_not, e_chn, e_bool, e_val, e_seq, w_add, w_sub, w_mul, w_div, w_mod, w_ord, w_neg, w_isn, w_isnn, w_isb, w_isbn, w_eqi, w_nei, w_eqs, w_nes, w_eqb, w_neb, w_lent, w_lenl, e_tup, e_tupc, e_lst, e_lstc, td_0, td_1, td_2, td_3, td_4, td_5, td_6, ld_0, ld_1, ld_2, ld_3, ld_4, ld_5, ld_6, ld_7, w_ixt, w_ixl, at_0, at_1, at_2, at_3, om_some, or_some, e_lc, e_gfd, e_gsb, e_mth, e_met, w_max, w_min, w_rg1, w_rg2, w_rgd, e_ival, it_l, it_t, e_for, v_fx, v_cel, l_t, isiG, tyN, isiB, isiTs, List.mem_cons, List.not_mem_nil, or_false, false_or, or_true, true_or, decide_true, decide_false, Bool.or_false, Bool.false_or, Bool.true_or, Bool.or_true, Bool.and_false, Bool.and_true, Bool.true_and, Bool.false_and, Bool.not_true, Bool.not_false, List.map_cons, List.map_nil, List.replicate_zero, List.replicate_succ, List.cons_append, List.nil_append, List.length_cons, List.length_nil, List.getElem?_cons_zero, List.getElem?_cons_succ, List.getElem?_nil, List.set_cons_zero, List.set_cons_succ, if_true, if_false, Bool.false_eq_true, reduceIte, ite_self, odd_need d h]
  rfl
theorem odd_bad (d : D) (h : d ∈ oddsA) (S : Sto) : rn 38 9 [.d d] S = .exc 0 S := by
  show outR (ess (rt 37) b9 [some (.d d)] S) = _
  rw [b9]
  simp only [ess, es, et, ets, eto, ei, eg, egs, pv, sRet, sRetN, sNil, sIf, sAsg, sPar, sExp, sBrk, sCnt, xIte, xCall, xCons, xNil, xVar, xCon, xBin, xUn, xDic, tAnd, tOr, tNot, tBad, xBad, oNone, oSome, gNm, gsNil, gsCons, Bi.go, Tn.nm, Mt.go, Mt.rc, cmG, opG, Gxs.len, q_ok, q_bad, q_exc, q_ite, o_ok, o_bad, o_exc, o_ite, a_nx, a_rt, a_bk, a_ct, a_bad, a_ite, t_nx, t_ct, t_bk, t_rt, t_bad, t_ite, r_rt, r_nx, r_bad, r_ite, k_b, q_b, n_b, t_b, t_i, t_n, t_l, t_t, e_and, e_or, e_not, e_chn, e_bool, e_val, e_seq, w_add, w_sub, w_mul, w_div, w_mod, w_ord, w_neg, w_isn, w_isnn, w_isb, w_isbn, w_eqi, w_nei, w_eqs, w_nes, w_eqb, w_neb, w_lent, w_lenl, e_tup, e_tupc, e_lst, e_lstc, td_0, td_1, td_2, td_3, td_4, td_5, td_6, ld_0, ld_1, ld_2, ld_3, ld_4, ld_5, ld_6, ld_7, w_ixt, w_ixl, at_0, at_1, at_2, at_3, om_some, or_some, e_lc, e_gfd, e_gsb, e_mth, e_met, w_max, w_min, w_rg1, w_rg2, w_rgd, e_ival, it_l, it_t, e_for, v_fx, v_cel, l_t, isiG, tyN, isiB, isiTs, List.mem_cons, List.not_mem_nil, or_false, false_or, or_true, true_or, decide_true, decide_false, Bool.or_false, Bool.false_or, Bool.true_or, Bool.or_true, Bool.and_false, Bool.and_true, Bool.true_and, Bool.false_and, Bool.not_true, Bool.not_false, List.map_cons, List.map_nil, List.replicate_zero, List.replicate_succ, List.cons_append, List.nil_append, List.length_cons, List.length_nil, List.getElem?_cons_zero, List.getElem?_cons_succ, List.getElem?_nil, List.set_cons_zero, List.set_cons_succ, if_true, if_false, Bool.false_eq_true, reduceIte, ite_self, odd_need d h]
  rfl
theorem odd_run (d : D) (h : d ∈ oddsA) (S : Sto) : rn 38 10 [.d d, .d .none] S = .exc 0 S := by
  show outR (ess (rt 37) b10 [some (.d d), some (.d .none), none, none] S) = _
  rw [b10]
  simp only [ess, es, et, ets, eto, ei, eg, egs, pv, sRet, sRetN, sNil, sIf, sAsg, sPar, sExp, sBrk, sCnt, xIte, xCall, xCons, xNil, xVar, xCon, xBin, xUn, xDic, tAnd, tOr, tNot, tBad, xBad, oNone, oSome, gNm, gsNil, gsCons, Bi.go, Tn.nm, Mt.go, Mt.rc, cmG, opG, Gxs.len, q_ok, q_bad, q_exc, q_ite, o_ok, o_bad, o_exc, o_ite, a_nx, a_rt, a_bk, a_ct, a_bad, a_ite, t_nx, t_ct, t_bk, t_rt, t_bad, t_ite, r_rt, r_nx, r_bad, r_ite, k_b, q_b, n_b, t_b, t_i, t_n, t_l, t_t, e_and, e_or, e_not, e_chn, e_bool, e_val, e_seq, w_add, w_sub, w_mul, w_div, w_mod, w_ord, w_neg, w_isn, w_isnn, w_isb, w_isbn, w_eqi, w_nei, w_eqs, w_nes, w_eqb, w_neb, w_lent, w_lenl, e_tup, e_tupc, e_lst, e_lstc, td_0, td_1, td_2, td_3, td_4, td_5, td_6, ld_0, ld_1, ld_2, ld_3, ld_4, ld_5, ld_6, ld_7, w_ixt, w_ixl, at_0, at_1, at_2, at_3, om_some, or_some, e_lc, e_gfd, e_gsb, e_mth, e_met, w_max, w_min, w_rg1, w_rg2, w_rgd, e_ival, it_l, it_t, e_for, v_fx, v_cel, l_t, isiG, tyN, isiB, isiTs, List.mem_cons, List.not_mem_nil, or_false, false_or, or_true, true_or, decide_true, decide_false, Bool.or_false, Bool.false_or, Bool.true_or, Bool.or_true, Bool.and_false, Bool.and_true, Bool.true_and, Bool.false_and, Bool.not_true, Bool.not_false, List.map_cons, List.map_nil, List.replicate_zero, List.replicate_succ, List.cons_append, List.nil_append, List.length_cons, List.length_nil, List.getElem?_cons_zero, List.getElem?_cons_succ, List.getElem?_nil, List.set_cons_zero, List.set_cons_succ, if_true, if_false, Bool.false_eq_true, reduceIte, ite_self, odd_need d h]
  rfl
theorem law_ok (ns : List Int) (hn : ns.length ≤ 63) : ∃ S', rn 40 28 [.s ns] [] = .ok (.d (.bool true)) S' := by
  obtain ⟨a, b, e0⟩ := cup_ok 38 ns hn []
  have c0 : Cup ([] ++ [.lst [.d (.int a), .d (.int b)]]) ([] : Sto).length := ⟨a, b, rfl⟩
  obtain ⟨S1, y2, y7, y8, y9, y10, y11, e1, h1⟩ := main_loop 31 (some (.s ns)) none none none none none none ([.d (.int 0), .d (.int 1), .d (.int 2), .d (.int 3), .d (.int 4), .d (.int 5)]) none none none none none none c0
  have h1 : Cup S1 0 := h1
  obtain ⟨d, S2, e2, hd, k2⟩ := some_ok 37 h1 (ds := oddsA) (by simp [oddsA]) (by simp [oddsA])
  have q1 := odd_right d hd S2
  have q2 := odd_bad d hd S2
  have q3 := odd_run d hd S2
  show ∃ S', outR (ess (rt 39) b28 [some (.s ns), none, none, none, none, none, none, none, none, none, none, none, none, none] []) = _
  rw [b28]
  rw [go_nx (en' := [some (.s ns), some (.c 0), none, none, none, none, none, none, none, none, none, none, none, none]) (S' := [] ++ [.lst [.d (.int a), .d (.int b)]]) (by simp only [ess, es, et, ets, eto, ei, eg, egs, pv, sRet, sRetN, sNil, sIf, sAsg, sPar, sExp, sBrk, sCnt, xIte, xCall, xCons, xNil, xVar, xCon, xBin, xUn, xDic, tAnd, tOr, tNot, tBad, xBad, oNone, oSome, gNm, gsNil, gsCons, Bi.go, Tn.nm, Mt.go, Mt.rc, cmG, opG, Gxs.len, q_ok, q_bad, q_exc, q_ite, o_ok, o_bad, o_exc, o_ite, a_nx, a_rt, a_bk, a_ct, a_bad, a_ite, t_nx, t_ct, t_bk, t_rt, t_bad, t_ite, r_rt, r_nx, r_bad, r_ite, k_b, q_b, n_b, t_b, t_i, t_n, t_l, t_t, e_and, e_or, e_not, e_chn, e_bool, e_val, e_seq, w_add, w_sub, w_mul, w_div, w_mod, w_ord, w_neg, w_isn, w_isnn, w_isb, w_isbn, w_eqi, w_nei, w_eqs, w_nes, w_eqb, w_neb, w_lent, w_lenl, e_tup, e_tupc, e_lst, e_lstc, td_0, td_1, td_2, td_3, td_4, td_5, td_6, ld_0, ld_1, ld_2, ld_3, ld_4, ld_5, ld_6, ld_7, w_ixt, w_ixl, at_0, at_1, at_2, at_3, om_some, or_some, e_lc, e_gfd, e_gsb, e_mth, e_met, w_max, w_min, w_rg1, w_rg2, w_rgd, e_ival, it_l, it_t, e_for, v_fx, v_cel, l_t, isiG, tyN, isiB, isiTs, List.mem_cons, List.not_mem_nil, or_false, false_or, or_true, true_or, decide_true, decide_false, Bool.or_false, Bool.false_or, Bool.true_or, Bool.or_true, Bool.and_false, Bool.and_true, Bool.true_and, Bool.false_and, Bool.not_true, Bool.not_false, List.map_cons, List.map_nil, List.replicate_zero, List.replicate_succ, List.cons_append, List.nil_append, List.length_cons, List.length_nil, List.getElem?_cons_zero, List.getElem?_cons_succ, List.getElem?_nil, List.set_cons_zero, List.set_cons_succ, if_true, if_false, Bool.false_eq_true, reduceIte, ite_self, e0])]
  rw [go_nx (en' := [some (.s ns), some (.c 0), y2, none, none, none, none, y7, y8, y9, y10, y11, none, none]) (S' := S1) (by simp only [ess, es, et, ets, eto, ei, eg, egs, pv, sRet, sRetN, sNil, sIf, sAsg, sPar, sExp, sBrk, sCnt, xIte, xCall, xCons, xNil, xVar, xCon, xBin, xUn, xDic, tAnd, tOr, tNot, tBad, xBad, oNone, oSome, gNm, gsNil, gsCons, Bi.go, Tn.nm, Mt.go, Mt.rc, cmG, opG, Gxs.len, q_ok, q_bad, q_exc, q_ite, o_ok, o_bad, o_exc, o_ite, a_nx, a_rt, a_bk, a_ct, a_bad, a_ite, t_nx, t_ct, t_bk, t_rt, t_bad, t_ite, r_rt, r_nx, r_bad, r_ite, k_b, q_b, n_b, t_b, t_i, t_n, t_l, t_t, e_and, e_or, e_not, e_chn, e_bool, e_val, e_seq, w_add, w_sub, w_mul, w_div, w_mod, w_ord, w_neg, w_isn, w_isnn, w_isb, w_isbn, w_eqi, w_nei, w_eqs, w_nes, w_eqb, w_neb, w_lent, w_lenl, e_tup, e_tupc, e_lst, e_lstc, td_0, td_1, td_2, td_3, td_4, td_5, td_6, ld_0, ld_1, ld_2, ld_3, ld_4, ld_5, ld_6, ld_7, w_ixt, w_ixl, at_0, at_1, at_2, at_3, om_some, or_some, e_lc, e_gfd, e_gsb, e_mth, e_met, w_max, w_min, w_rg1, w_rg2, w_rgd, e_ival, it_l, it_t, e_for, v_fx, v_cel, l_t, isiG, tyN, isiB, isiTs, List.mem_cons, List.not_mem_nil, or_false, false_or, or_true, true_or, decide_true, decide_false, Bool.or_false, Bool.false_or, Bool.true_or, Bool.or_true, Bool.and_false, Bool.and_true, Bool.true_and, Bool.false_and, Bool.not_true, Bool.not_false, List.map_cons, List.map_nil, List.replicate_zero, List.replicate_succ, List.cons_append, List.nil_append, List.length_cons, List.length_nil, List.getElem?_cons_zero, List.getElem?_cons_succ, List.getElem?_nil, List.set_cons_zero, List.set_cons_succ, if_true, if_false, Bool.false_eq_true, reduceIte, ite_self, w_rg1]; exact e1)]
  rw [go_nx (en' := [some (.s ns), some (.c 0), y2, some (.d rowsD), none, none, none, y7, y8, y9, y10, y11, none, none]) (S' := S1) (by kernel_rfl)]
  rw [go_nx (en' := [some (.s ns), some (.c 0), y2, some (.d rowsD), none, none, none, y7, y8, y9, y10, y11, none, none]) (S' := S1) (by kernel_rfl)]
  rw [go_nx (en' := [some (.s ns), some (.c 0), y2, some (.d rowsD), none, none, none, y7, y8, y9, y10, y11, none, none]) (S' := S1) (by kernel_rfl)]
  rw [go_nx (en' := [some (.s ns), some (.c 0), y2, some (.d rowsD), some (.d (.list odds1)), none, none, y7, y8, y9, y10, y11, none, none]) (S' := S1) (by kernel_rfl)]
  rw [go_nx (en' := [some (.s ns), some (.c 0), y2, some (.d rowsD), some (.d (.list oddsA)), none, none, y7, y8, y9, y10, y11, none, none]) (S' := S1) (by kernel_rfl)]
  rw [go_nx (en' := [some (.s ns), some (.c 0), y2, some (.d rowsD), some (.d (.list oddsA)), none, none, y7, y8, y9, y10, y11, none, none]) (S' := S1) (by kernel_rfl)]
  rw [go_nx (en' := [some (.s ns), some (.c 0), y2, some (.d rowsD), some (.d (.list oddsA)), some (.d d), none, y7, y8, y9, y10, y11, none, none]) (S' := S2) (by simp only [ess, es, et, ets, eto, ei, eg, egs, pv, sRet, sRetN, sNil, sIf, sAsg, sPar, sExp, sBrk, sCnt, xIte, xCall, xCons, xNil, xVar, xCon, xBin, xUn, xDic, tAnd, tOr, tNot, tBad, xBad, oNone, oSome, gNm, gsNil, gsCons, Bi.go, Tn.nm, Mt.go, Mt.rc, cmG, opG, Gxs.len, q_ok, q_bad, q_exc, q_ite, o_ok, o_bad, o_exc, o_ite, a_nx, a_rt, a_bk, a_ct, a_bad, a_ite, t_nx, t_ct, t_bk, t_rt, t_bad, t_ite, r_rt, r_nx, r_bad, r_ite, k_b, q_b, n_b, t_b, t_i, t_n, t_l, t_t, e_and, e_or, e_not, e_chn, e_bool, e_val, e_seq, w_add, w_sub, w_mul, w_div, w_mod, w_ord, w_neg, w_isn, w_isnn, w_isb, w_isbn, w_eqi, w_nei, w_eqs, w_nes, w_eqb, w_neb, w_lent, w_lenl, e_tup, e_tupc, e_lst, e_lstc, td_0, td_1, td_2, td_3, td_4, td_5, td_6, ld_0, ld_1, ld_2, ld_3, ld_4, ld_5, ld_6, ld_7, w_ixt, w_ixl, at_0, at_1, at_2, at_3, om_some, or_some, e_lc, e_gfd, e_gsb, e_mth, e_met, w_max, w_min, w_rg1, w_rg2, w_rgd, e_ival, it_l, it_t, e_for, v_fx, v_cel, l_t, isiG, tyN, isiB, isiTs, List.mem_cons, List.not_mem_nil, or_false, false_or, or_true, true_or, decide_true, decide_false, Bool.or_false, Bool.false_or, Bool.true_or, Bool.or_true, Bool.and_false, Bool.and_true, Bool.true_and, Bool.false_and, Bool.not_true, Bool.not_false, List.map_cons, List.map_nil, List.replicate_zero, List.replicate_succ, List.cons_append, List.nil_append, List.length_cons, List.length_nil, List.getElem?_cons_zero, List.getElem?_cons_succ, List.getElem?_nil, List.set_cons_zero, List.set_cons_succ, if_true, if_false, Bool.false_eq_true, reduceIte, ite_self, e2])]
  have tdf : ∀ S, tD [.f 6, .f 9] S = .ok (.fs [6, 9]) S := fun _ => rfl
  have itf : ∀ S, itG (.fs [6, 9]) S = .ok (.fx [.f 6, .f 9]) S := fun _ => rfl
  have c1 : lcV false (gNm 12) tYesX (xLam (tbl.ct 0) (xCal 12 [6, 9] (rt 39).low.run (xCons (xVar 5) xNil))) [some (.s ns), some (.c 0), y2, some (.d rowsD), some (.d (.list oddsA)), some (.d d), none, y7, y8, y9, y10, y11, none, none] (.fx [.f 6, .f 9]) S2 = .ok (.d (.list [.bool true, .bool true])) S2 := by
    rw [lcv_fx (e := fun w => [some (.s ns), some (.c 0), y2, some (.d rowsD), some (.d (.list oddsA)), some (.d d), none, y7, y8, y9, y10, y11, some w, none]) (p := fun _ => true) (h := fun _ => .d (.bool true)) (by decide +kernel) (fun w hw => rfl) (fun w hw => rfl) (fun w hw _ => ?_)]
    · rfl
    · simp only [List.mem_cons, List.not_mem_nil, or_false] at hw
      rcases hw with rfl | rfl
      · show catW (tbl.ct 0) (rn 38 6 [.d d] S2) = _
        rw [q1]; rfl
      · show catW (tbl.ct 0) (rn 38 9 [.d d] S2) = _
        rw [q2]; rfl
  rw [go_nx (en' := [some (.s ns), some (.c 0), y2, some (.d rowsD), some (.d (.list oddsA)), some (.d d), some (.d (.list [.bool true, .bool true])), y7, y8, y9, y10, y11, none, none]) (S' := S2) (by simp only [ess, es, et, ets, eto, ei, eg, egs, pv, sRet, sRetN, sNil, sIf, sAsg, sPar, sExp, sBrk, sCnt, xIte, xCall, xCons, xNil, xVar, xCon, xBin, xUn, xDic, tAnd, tOr, tNot, tBad, xBad, oNone, oSome, gNm, gsNil, gsCons, Bi.go, Tn.nm, Mt.go, Mt.rc, cmG, opG, Gxs.len, q_ok, q_bad, q_exc, q_ite, o_ok, o_bad, o_exc, o_ite, a_nx, a_rt, a_bk, a_ct, a_bad, a_ite, t_nx, t_ct, t_bk, t_rt, t_bad, t_ite, r_rt, r_nx, r_bad, r_ite, k_b, q_b, n_b, t_b, t_i, t_n, t_l, t_t, e_and, e_or, e_not, e_chn, e_bool, e_val, e_seq, w_add, w_sub, w_mul, w_div, w_mod, w_ord, w_neg, w_isn, w_isnn, w_isb, w_isbn, w_eqi, w_nei, w_eqs, w_nes, w_eqb, w_neb, w_lent, w_lenl, e_tup, e_tupc, e_lst, e_lstc, td_0, td_1, td_2, td_3, td_4, td_5, td_6, ld_0, ld_1, ld_2, ld_3, ld_4, ld_5, ld_6, ld_7, w_ixt, w_ixl, at_0, at_1, at_2, at_3, om_some, or_some, e_lc, e_gfd, e_gsb, e_mth, e_met, w_max, w_min, w_rg1, w_rg2, w_rgd, e_ival, it_l, it_t, e_for, v_fx, v_cel, l_t, isiG, tyN, isiB, isiTs, List.mem_cons, List.not_mem_nil, or_false, false_or, or_true, true_or, decide_true, decide_false, Bool.or_false, Bool.false_or, Bool.true_or, Bool.or_true, Bool.and_false, Bool.and_true, Bool.true_and, Bool.false_and, Bool.not_true, Bool.not_false, List.map_cons, List.map_nil, List.replicate_zero, List.replicate_succ, List.cons_append, List.nil_append, List.length_cons, List.length_nil, List.getElem?_cons_zero, List.getElem?_cons_succ, List.getElem?_nil, List.set_cons_zero, List.set_cons_succ, if_true, if_false, Bool.false_eq_true, reduceIte, ite_self, tdf, itf, wipeE, c1])]
  have c2 : xLam (tbl.ct 0) (xCall ((rt 39).low.run 10) (xCons (xVar 5) (xCons (xCon (.d .none)) xNil))) [some (.s ns), some (.c 0), y2, some (.d rowsD), some (.d (.list oddsA)), some (.d d), some (.d (.list [.bool true, .bool true])), y7, y8, y9, y10, y11, none, none] S2 = .ok (.d (.bool true)) S2 := by
    show catW (tbl.ct 0) (rn 38 10 [.d d, .d .none] S2) = _
    rw [q3]; rfl
  have c3 : ∀ S, eqW true (.d (.list [.bool true, .bool true])) (.d (.list [.bool true, .bool true])) S = .ok (.d (.bool false)) S := fun _ => rfl
  rw [go_nx (en' := [some (.s ns), some (.c 0), y2, some (.d rowsD), some (.d (.list oddsA)), some (.d d), some (.d (.list [.bool true, .bool true])), y7, y8, y9, y10, y11, none, none]) (S' := S2) (by simp only [ess, es, et, ets, eto, ei, eg, egs, pv, sRet, sRetN, sNil, sIf, sAsg, sPar, sExp, sBrk, sCnt, xIte, xCall, xCons, xNil, xVar, xCon, xBin, xUn, xDic, tAnd, tOr, tNot, tBad, xBad, oNone, oSome, gNm, gsNil, gsCons, Bi.go, Tn.nm, Mt.go, Mt.rc, cmG, opG, Gxs.len, q_ok, q_bad, q_exc, q_ite, o_ok, o_bad, o_exc, o_ite, a_nx, a_rt, a_bk, a_ct, a_bad, a_ite, t_nx, t_ct, t_bk, t_rt, t_bad, t_ite, r_rt, r_nx, r_bad, r_ite, k_b, q_b, n_b, t_b, t_i, t_n, t_l, t_t, e_and, e_or, e_not, e_chn, e_bool, e_val, e_seq, w_add, w_sub, w_mul, w_div, w_mod, w_ord, w_neg, w_isn, w_isnn, w_isb, w_isbn, w_eqi, w_nei, w_eqs, w_nes, w_eqb, w_neb, w_lent, w_lenl, e_tup, e_tupc, e_lst, e_lstc, td_0, td_1, td_2, td_3, td_4, td_5, td_6, ld_0, ld_1, ld_2, ld_3, ld_4, ld_5, ld_6, ld_7, w_ixt, w_ixl, at_0, at_1, at_2, at_3, om_some, or_some, e_lc, e_gfd, e_gsb, e_mth, e_met, w_max, w_min, w_rg1, w_rg2, w_rgd, e_ival, it_l, it_t, e_for, v_fx, v_cel, l_t, isiG, tyN, isiB, isiTs, List.mem_cons, List.not_mem_nil, or_false, false_or, or_true, true_or, decide_true, decide_false, Bool.or_false, Bool.false_or, Bool.true_or, Bool.or_true, Bool.and_false, Bool.and_true, Bool.true_and, Bool.false_and, Bool.not_true, Bool.not_false, List.map_cons, List.map_nil, List.replicate_zero, List.replicate_succ, List.cons_append, List.nil_append, List.length_cons, List.length_nil, List.getElem?_cons_zero, List.getElem?_cons_succ, List.getElem?_nil, List.set_cons_zero, List.set_cons_succ, if_true, if_false, Bool.false_eq_true, reduceIte, ite_self, c3]; rw [c2]; simp only [ess, es, et, ets, eto, ei, eg, egs, pv, sRet, sRetN, sNil, sIf, sAsg, sPar, sExp, sBrk, sCnt, xIte, xCall, xCons, xNil, xVar, xCon, xBin, xUn, xDic, tAnd, tOr, tNot, tBad, xBad, oNone, oSome, gNm, gsNil, gsCons, Bi.go, Tn.nm, Mt.go, Mt.rc, cmG, opG, Gxs.len, q_ok, q_bad, q_exc, q_ite, o_ok, o_bad, o_exc, o_ite, a_nx, a_rt, a_bk, a_ct, a_bad, a_ite, t_nx, t_ct, t_bk, t_rt, t_bad, t_ite, r_rt, r_nx, r_bad, r_ite, k_b, q_b, n_b, t_b, t_i, t_n, t_l, t_t, e_and, e_or, e_not, e_chn, e_bool, e_val, e_seq, w_add, w_sub, w_mul, w_div, w_mod, w_ord, w_neg, w_isn, w_isnn, w_isb, w_isbn, w_eqi, w_nei, w_eqs, w_nes, w_eqb, w_neb, w_lent, w_lenl, e_tup, e_tupc, e_lst, e_lstc, td_0, td_1, td_2, td_3, td_4, td_5, td_6, ld_0, ld_1, ld_2, ld_3, ld_4, ld_5, ld_6, ld_7, w_ixt, w_ixl, at_0, at_1, at_2, at_3, om_some, or_some, e_lc, e_gfd, e_gsb, e_mth, e_met, w_max, w_min, w_rg1, w_rg2, w_rgd, e_ival, it_l, it_t, e_for, v_fx, v_cel, l_t, isiG, tyN, isiB, isiTs, List.mem_cons, List.not_mem_nil, or_false, false_or, or_true, true_or, decide_true, decide_false, Bool.or_false, Bool.false_or, Bool.true_or, Bool.or_true, Bool.and_false, Bool.and_true, Bool.true_and, Bool.false_and, Bool.not_true, Bool.not_false, List.map_cons, List.map_nil, List.replicate_zero, List.replicate_succ, List.cons_append, List.nil_append, List.length_cons, List.length_nil, List.getElem?_cons_zero, List.getElem?_cons_succ, List.getElem?_nil, List.set_cons_zero, List.set_cons_succ, if_true, if_false, Bool.false_eq_true, reduceIte, ite_self])]
  rw [go_nx (en' := [some (.s ns), some (.c 0), y2, some (.d rowsD), some (.d (.list odds3)), some (.d d), some (.d (.list [.bool true, .bool true])), y7, y8, y9, y10, y11, none, none]) (S' := S2) (by kernel_rfl)]
  exact ⟨S2, by kernel_rfl⟩
end K75
end
set_option Elab.async false
set_option maxRecDepth 100000 in
set_option maxHeartbeats 0 in
theorem PySem.Challenge.cw_soleholder_k75_whole_lines_right_or_not_holds : PySem.Challenge.rw_soleholder_k75_whole_lines_right_or_not.Holds := by
  exact k75_of fun ns hn => K75.law_ok ns hn
