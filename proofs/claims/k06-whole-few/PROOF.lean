import PyProof.Rows.All
import Wide.All
import OpenK.AllK
import Wide.FinOn
import HandS.ForMost
import HandS.Walk
import HandS.Flow
import HandS.StrMore
import HandS.IsInst
import HandS.Style
import HandS.Strs
import HandS.Conv
import HandS.Lambda
import HandS.Nested
import HandS.Small
import HandS.SetKeys
import HandS.More
import HandS.Finally
import HandS.WordsExc
import HandS.Defaults
import KE.SortKeyHeap
import HandS.SortKw
import HandS.Codes
import HandS.HeadHook1
import KE.KStateDown
import Lean
import HandS.Head0
import HandS.Head1
import HandS.Head2
import HandS.HeadEnd
import HandS.HeadHook2
import HandS.HeadHook3
import HandS.HeadHook4
import HandS.HeadWalk
import PySem.Challenge.RW_hushroll_k06_whole_few
set_option Elab.async false
set_option linter.all false
set_option maxRecDepth 100000
section
set_option maxHeartbeats 4000000
/-! Mx: each def of the text as a function that can be run, over a heap of one's own; a rule a construct ties it to the text. -/
namespace Mx
open PySem L2
open NdefX (NTab TabsN TabN)

/-! ### data -/
inductive U where
  | non | bl (b : Bool) | int (i : Int) | str (x : Str) | loc (n : Nat) | glo (x : Str) | ty (n : String)
  deriving DecidableEq
inductive Ob where
  | lst (xs : List U) | tup (xs : List U) | dic (lk : Bool) (kvs : List (Key × U)) | ins (c : Str) (fs : List (Str × U)) | frl (ns : List Int)
/-- the heap: object n at place n -/
structure Hh where
  objs : List Ob
def Hh.get (h : Hh) (n : Nat) : Option Ob := h.objs[n]?
def Hh.size (h : Hh) : Nat := h.objs.length
def Hh.push (h : Hh) (o : Ob) : Hh := ⟨h.objs ++ [o]⟩
def Hh.set (h : Hh) (n : Nat) (o : Ob) : Hh := ⟨h.objs.set n o⟩
theorem Hh.get_lt {h : Hh} {n : Nat} {o : Ob} (e : h.get n = some o) : n < h.size := (List.getElem?_eq_some_iff.mp e).1
theorem Hh.size_push {h : Hh} {o : Ob} : (h.push o).size = h.size + 1 := by simp [Hh.push, Hh.size]
theorem Hh.size_set {h : Hh} {n : Nat} {o : Ob} : (h.set n o).size = h.size := by simp [Hh.set, Hh.size]
theorem Hh.get_push_new {h : Hh} {o : Ob} : (h.push o).get h.size = some o := by simp [Hh.push, Hh.size, Hh.get]
theorem Hh.get_push_lt {h : Hh} {o : Ob} {n : Nat} (l : n < h.size) : (h.push o).get n = h.get n := by
  unfold Hh.push Hh.get
  exact List.getElem?_append_left l
theorem Hh.get_push_old {h : Hh} {o u : Ob} {n : Nat} (e : h.get n = some u) : (h.push o).get n = some u := by
  rw [Hh.get_push_lt (Hh.get_lt e), e]
theorem Hh.get_set_same {h : Hh} {n : Nat} {o : Ob} (l : n < h.size) : (h.set n o).get n = some o := by
  unfold Hh.set Hh.get
  exact List.getElem?_set_self l
theorem Hh.get_set_ne {h : Hh} {n m : Nat} {o : Ob} (l : m ≠ n) : (h.set n o).get m = h.get m := by
  unfold Hh.set Hh.get
  exact List.getElem?_set_ne (Ne.symm l)

/-- an error: its class, the fields that it bears -/
structure Xc where
  cls : Str
  fs : List (Str × U)
inductive Res (α : Type) where
  | ok (a : α) (h : Hh) | exc (e : Xc) (h : Hh) | bad
def Res.bind {α β : Type} (r : Res α) (f : α → Hh → Res β) : Res β :=
  match r with
  | .ok a h => f a h
  | .exc e h => .exc e h
  | .bad => .bad
abbrev M (α : Type) := Hh → Res α
abbrev Sl := List (Option U)
abbrev EM := Sl → Hh → Res U
abbrev TM := Sl → Hh → Res Bool
abbrev AM := Sl → Hh → Res (List U)
abbrev GM := U → Sl → Hh → Res Sl
inductive RS where
  | nx (us : Sl) (h : Hh) | rt (u : U) (h : Hh) | bk (us : Sl) (h : Hh) | ct (us : Sl) (h : Hh) | exc (e : Xc) (us : Sl) (h : Hh) | bad
abbrev SM := Sl → Hh → RS

/-! ### what stands for what -/
def RV (mg : Str → Option Value) (ρ : List Addr) : U → V → Prop
  | .non, v => v = .non
  | .bl b, v => v = .bl b
  | .int i, v => v = .int i
  | .str x, v => v = .str x
  | .ty n, v => v = .ty n
  | .loc n, v => ∃ a, ρ[n]? = some a ∧ v = .ref a
  | .glo x, v => ∃ a, mg x = some (.ref a) ∧ v = .ref a
abbrev RVs (mg : Str → Option Value) (ρ : List Addr) : List U → List V → Prop := Paired (RV mg ρ)
abbrev RKV {κ : Type} (mg : Str → Option Value) (ρ : List Addr) : List (κ × U) → List (κ × V) → Prop := Paired fun x y => y.1 = x.1 ∧ RV mg ρ x.2 y.2
def RO (mg : Str → Option Value) (ρ : List Addr) : Ob → HO → Prop
  | .lst us, O => ∃ vs, O = .lst vs ∧ RVs mg ρ us vs
  | .tup us, O => ∃ vs, O = .tup vs ∧ RVs mg ρ us vs
  | .dic false kvs, O => ∃ ws, O = .dK ws ∧ RKV mg ρ kvs ws
  | .dic true kvs, O => ∃ o ws, O = .frz o (.dK ws) ∧ RKV mg ρ kvs ws
  | .ins c fs, O => ∃ C dx gs, mg c = some (.ref C) ∧ O = .ins C dx gs ∧ RKV mg ρ fs gs
  | .frl ns, O => ∃ o, O = .frz o (.lst (ns.map V.int))
/-- the own heap h stands in H at the places ρ -/
structure RH (T : List NTab) (mg : Str → Option Value) (ρ : List Addr) (h : Hh) (H : Hp) : Prop where
  tb : TabsN T H
  nd : ρ.Nodup
  len : ρ.length = h.size
  at_ : ∀ n o a, h.get n = some o → ρ[n]? = some a → ∃ O, H a = some O ∧ RO mg ρ o O
/-- from ρ, H to ρ', H': what is not ours stays, what is ours anew was free -/
structure Gw (ρ : List Addr) (H : Hp) (ρ' : List Addr) (H' : Hp) : Prop where
  pre : ∃ t, ρ' = ρ ++ t
  fr : ∀ a O, H a = some O → a ∉ ρ → (∀ ps, O ≠ .tbl ps) → H' a = some O
  nw : ∀ a, a ∈ ρ' → a ∉ ρ → H a = none
  fz : ∀ a o u, H a = some (.frz o u) → H' a = some (.frz o u)
  tg : ∀ a ps, H a = some (.tbl ps) → ∃ more, H' a = some (.tbl (ps ++ more))
theorem Gw.refl {ρ : List Addr} {H : Hp} : Gw ρ H ρ H := ⟨⟨[], by simp⟩, fun _ _ e _ _ => e, fun _ h k => absurd h k, fun _ _ _ e => e, fun _ ps e => ⟨#[], by rw [e]; simp⟩⟩
theorem Gw.mem {ρ ρ' : List Addr} {H H' : Hp} (g : Gw ρ H ρ' H') {a : Addr} (h : a ∈ ρ) : a ∈ ρ' := by
  obtain ⟨t, e⟩ := g.pre
  rw [e]
  exact List.mem_append_left _ h
theorem Gw.get {ρ ρ' : List Addr} {H H' : Hp} (g : Gw ρ H ρ' H') {n : Nat} {a : Addr} (h : ρ[n]? = some a) : ρ'[n]? = some a := by
  obtain ⟨t, e⟩ := g.pre
  rw [e, List.getElem?_append_left (List.getElem?_eq_some_iff.mp h).1]
  exact h
theorem Gw.trans {ρ ρ1 ρ2 : List Addr} {H H1 H2 : Hp} (a : Gw ρ H ρ1 H1) (b : Gw ρ1 H1 ρ2 H2) : Gw ρ H ρ2 H2 := by
  refine ⟨?_, fun x O e k nt => ?_, fun x h k => ?_, fun x o u e => b.fz x o u (a.fz x o u e), fun x ps e => by
    obtain ⟨m1, e1⟩ := a.tg x ps e
    obtain ⟨m2, e2⟩ := b.tg x _ e1
    exact ⟨m1 ++ m2, by rw [e2, Array.append_assoc]⟩⟩
  · obtain ⟨t, e⟩ := a.pre
    obtain ⟨t', e'⟩ := b.pre
    exact ⟨t ++ t', by rw [e', e, List.append_assoc]⟩
  · refine b.fr x O (a.fr x O e k nt) (fun z => ?_) nt
    rw [a.nw x z k] at e
    cases e
  · by_cases z : x ∈ ρ1
    · exact a.nw x z k
    · have n1 := b.nw x h z
      cases q : H x with
      | none => rfl
      | some O =>
        by_cases nt : ∀ ps, O ≠ .tbl ps
        · rw [a.fr x O q k nt] at n1
          cases n1
        · obtain ⟨ps, rfl⟩ := Classical.not_forall_not.mp nt
          obtain ⟨m, e⟩ := a.tg x ps q
          rw [e] at n1
          cases n1
section
variable {T : List NTab} {mg : Str → Option Value} {ρ ρ' : List Addr} {H H' : Hp} {h : Hh}
theorem RV.gw (g : Gw ρ H ρ' H') : ∀ {u : U} {v : V}, RV mg ρ u v → RV mg ρ' u v
  | .non, _, r => r
  | .bl _, _, r => r
  | .int _, _, r => r
  | .str _, _, r => r
  | .ty _, _, r => r
  | .loc _, _, ⟨a, e, r⟩ => ⟨a, g.get e, r⟩
  | .glo _, _, r => r
theorem Pimp {α β : Type} {F G : α → β → Prop} : ∀ {l : List α} {m : List β}, Paired F l m → (∀ a b, F a b → G a b) → Paired G l m
  | _, _, .nil, _ => .nil
  | _, _, .cons r t, f => .cons (f _ _ r) (Pimp t f)
theorem RVs.gw (g : Gw ρ H ρ' H') {us : List U} {vs : List V} (r : RVs mg ρ us vs) : RVs mg ρ' us vs := Pimp r fun _ _ => RV.gw g
theorem RKV.gw {κ : Type} (g : Gw ρ H ρ' H') {us : List (κ × U)} {vs : List (κ × V)} (r : RKV mg ρ us vs) : RKV mg ρ' us vs := Pimp r fun _ _ q => ⟨q.1, RV.gw g q.2⟩
theorem RO.gw (g : Gw ρ H ρ' H') : ∀ {o : Ob} {O : HO}, RO mg ρ o O → RO mg ρ' o O
  | .lst _, _, ⟨vs, e, r⟩ => ⟨vs, e, r.gw g⟩
  | .tup _, _, ⟨vs, e, r⟩ => ⟨vs, e, r.gw g⟩
  | .dic false _, _, ⟨vs, e, r⟩ => ⟨vs, e, r.gw g⟩
  | .dic true _, _, ⟨o, vs, e, r⟩ => ⟨o, vs, e, r.gw g⟩
  | .ins _ _, _, ⟨C, dx, gs, e, e2, r⟩ => ⟨C, dx, gs, e, e2, r.gw g⟩
  | .frl _, _, r => r
theorem RH.addr (r : RH T mg ρ h H) {n : Nat} {o : Ob} (e : h.get n = some o) : ∃ a O, ρ[n]? = some a ∧ H a = some O ∧ RO mg ρ o O := by
  have l : n < ρ.length := by rw [r.len]; exact Hh.get_lt e
  obtain ⟨O, h1, h2⟩ := r.at_ n o ρ[n] e (by simp [l])
  exact ⟨ρ[n], O, by simp [l], h1, h2⟩
theorem RH.at' (r : RH T mg ρ h H) {n : Nat} {o : Ob} {a : Addr} (e : h.get n = some o) (ea : ρ[n]? = some a) : ∃ O, H a = some O ∧ RO mg ρ o O := r.at_ n o a e ea
theorem RH.free (r : RH T mg ρ h H) {p : Addr} (hp : H p = none) : p ∉ ρ := fun hm => by
  obtain ⟨n, hn, e⟩ := List.mem_iff_getElem.mp hm
  have hl : n < h.objs.length := by
    have := r.len
    unfold Hh.size at this
    omega
  obtain ⟨O, h1, _⟩ := r.at_ n h.objs[n] p (by unfold Hh.get; simp [hl]) (by rw [List.getElem?_eq_getElem hn, e])
  rw [hp] at h1
  cases h1
/-- a new object -/
theorem Gw.new {p : Addr} {O : HO} (hp : H p = none) (hr : p ∉ ρ) : Gw ρ H (ρ ++ [p]) (upd H p O) :=
  ⟨⟨[p], rfl⟩, fun a O e _ _ => by rw [upd_ne (ne_of_none e hp)]; exact e, fun a h k => by
    rcases List.mem_append.mp h with h | h
    · exact absurd h k
    · rw [List.mem_singleton.mp h]; exact hp, fun a o u e => by rw [upd_ne (ne_of_none e hp)]; exact e, fun a ps e => ⟨#[], by rw [upd_ne (ne_of_none e hp), e]; simp⟩⟩
theorem RH.new (r : RH T mg ρ h H) {p : Addr} {o : Ob} {O : HO} (hp : H p = none) (ro : RO mg (ρ ++ [p]) o O) : RH T mg (ρ ++ [p]) (h.push o) (upd H p O) := by
  have hr := r.free hp
  have g : Gw ρ H (ρ ++ [p]) (upd H p O) := Gw.new hp hr
  refine ⟨r.tb.ext fun b u e => by rw [upd_ne (ne_of_none e hp)]; exact e, ?_, by rw [List.length_append, r.len, Hh.size_push]; rfl, fun n o' a e ea => ?_⟩
  · rw [List.nodup_append]
    exact ⟨r.nd, List.nodup_cons.mpr ⟨by simp, List.nodup_nil⟩, fun a ha b hb => by
      rw [List.mem_singleton.mp hb]
      rintro rfl
      exact hr ha⟩
  · by_cases hn : n < h.size
    · rw [Hh.get_push_lt hn] at e
      rw [List.getElem?_append_left (by rw [r.len]; exact hn)] at ea
      obtain ⟨O', h1, h2⟩ := r.at_ n o' a e ea
      exact ⟨O', by rw [upd_ne (ne_of_none h1 hp)]; exact h1, h2.gw g⟩
    · have l := Hh.get_lt e
      rw [Hh.size_push] at l
      have en : n = h.size := by omega
      subst en
      rw [Hh.get_push_new] at e
      cases e
      have ep : a = p := by
        rw [List.getElem?_append_right (by rw [r.len]; exact Nat.le_refl _), r.len, Nat.sub_self] at ea
        simpa using ea.symm
      subst ep
      exact ⟨O, upd_same, ro⟩
/-- an object changed -/
theorem Gw.mut {a : Addr} {O O0 : HO} (ha : a ∈ ρ) (hH : H a = some O0) (nf : ∀ o u, O0 ≠ .frz o u) (nt : ∀ ps, O0 ≠ .tbl ps) : Gw ρ H ρ (upd H a O) :=
  ⟨⟨[], by simp⟩, fun b u e k _ => by
    have nb : b ≠ a := fun z => k (by rw [z]; exact ha)
    rw [upd_ne nb]; exact e, fun _ h k => absurd h k, fun b o u e => by
    have nb : b ≠ a := fun z => by
      rw [z, hH] at e
      exact nf o u (Option.some.inj e)
    rw [upd_ne nb]; exact e, fun b ps e => by
    have nb : b ≠ a := fun z => by
      rw [z, hH] at e
      exact nt ps (Option.some.inj e)
    exact ⟨#[], by rw [upd_ne nb, e]; simp⟩⟩
/-- what a table leans on is not ours -/
theorem RO.plain : ∀ {o : Ob} {O : HO}, RO mg ρ o O → (∀ ps, O ≠ .tbl ps) ∧ ∀ φ, O ≠ .ext φ
  | .lst _, _, ⟨_, e, _⟩ => by subst e; exact ⟨nofun, nofun⟩
  | .tup _, _, ⟨_, e, _⟩ => by subst e; exact ⟨nofun, nofun⟩
  | .dic false _, _, ⟨_, e, _⟩ => by subst e; exact ⟨nofun, nofun⟩
  | .dic true _, _, ⟨_, _, e, _⟩ => by subst e; exact ⟨nofun, nofun⟩
  | .ins _ _, _, ⟨_, _, _, _, e, _⟩ => by subst e; exact ⟨nofun, nofun⟩
  | .frl _, _, ⟨_, e⟩ => by subst e; exact ⟨nofun, nofun⟩
theorem tabs_upd (t : TabsN T H) {a : Addr} {O : HO} (h : ∀ O0, H a = some O0 → (∀ ps, O0 ≠ .tbl ps) ∧ ∀ φ, O0 ≠ .ext φ) : TabsN T (upd H a O) := fun p hp => by
  obtain ⟨ps, h1, h2, h3⟩ := t p hp
  have n1 : p.1 ≠ a := fun z => by
    rw [z] at h1
    exact (h _ h1).1 ps rfl
  refine ⟨ps, by rw [upd_ne n1]; exact h1, h2, fun pos cv hc => ?_⟩
  obtain ⟨c, e1, e2⟩ := h3 pos cv hc
  have n2 : c ≠ a := fun z => by
    rw [z] at e2
    exact (h _ e2).2 _ rfl
  exact ⟨c, e1, by rw [upd_ne n2]; exact e2⟩
theorem mem_of_ix {n : Nat} {a : Addr} (e : ρ[n]? = some a) : a ∈ ρ := List.mem_of_getElem? e
theorem nodup_ix' (nd : ρ.Nodup) {n m : Nat} {a : Addr} (e : ρ[n]? = some a) (e' : ρ[m]? = some a) : n = m := by
  obtain ⟨h1, e1⟩ := List.getElem?_eq_some_iff.mp e
  obtain ⟨h2, e2⟩ := List.getElem?_eq_some_iff.mp e'
  exact (List.getElem_inj nd).mp (e1.trans e2.symm)
theorem RH.mut (r : RH T mg ρ h H) {n : Nat} {a : Addr} {o : Ob} {O : HO} (hn : n < h.size) (ea : ρ[n]? = some a) (ro : RO mg ρ o O) : RH T mg ρ (h.set n o) (upd H a O) := by
  refine ⟨tabs_upd r.tb fun O0 h0 => ?_, r.nd, by rw [r.len, Hh.size_set], fun m o' b e eb => ?_⟩
  · have hl : n < h.objs.length := hn
    obtain ⟨O1, h1, h2⟩ := r.at_ n h.objs[n] a (by unfold Hh.get; simp [hl]) ea
    rw [h0] at h1
    cases h1
    exact h2.plain
  by_cases q : m = n
  · subst q
    rw [Hh.get_set_same hn] at e
    cases e
    rw [ea] at eb
    cases eb
    exact ⟨O, upd_same, ro⟩
  · rw [Hh.get_set_ne q] at e
    obtain ⟨O', h1, h2⟩ := r.at_ m o' b e eb
    have nb : b ≠ a := by
      rintro rfl
      exact q (nodup_ix' r.nd eb ea)
    exact ⟨O', by rw [upd_ne nb]; exact h1, h2⟩
/-- .. outside -/
theorem RH.out (r : RH T mg ρ h H) (t : TabsN T H') (k : ∀ a O, H a = some O → a ∈ ρ → H' a = some O) : RH T mg ρ h H' :=
  ⟨t, r.nd, r.len, fun n o a e ea => by
    obtain ⟨O, h1, h2⟩ := r.at_ n o a e ea
    exact ⟨O, k a O h1 (mem_of_ix ea), h2⟩⟩
end

/-! ### slots -/
def RS1 (mg : Str → Option Value) (ρ : List Addr) : Option U → Option V → Prop
  | none, _ => True
  | some u, s => ∃ v, s = some v ∧ RV mg ρ u v
structure Wp where
  x : Option WX
  T : List NTab
abbrev nW (T : List NTab) : Wp := ⟨none, T⟩
structure Rl (T : List NTab) (X : Cx) (ρ : List Addr) (us : Sl) (h : Hh) (σ : St) (H : Hp) : Prop where
  sl : Paired (RS1 X.mg ρ) us σ
  rh : RH T X.mg ρ h H
theorem RS1.gw {mg : Str → Option Value} {ρ ρ' : List Addr} {H H' : Hp} (g : Gw ρ H ρ' H') : ∀ {u : Option U} {s : Option V}, RS1 mg ρ u s → RS1 mg ρ' u s
  | none, _, _ => trivial
  | some _, _, ⟨v, e, r⟩ => ⟨v, e, r.gw g⟩
theorem Rl.gw {T : List NTab} {X : Cx} {ρ ρ' : List Addr} {us : Sl} {h h' : Hh} {σ : St} {H H' : Hp} (R : Rl T X ρ us h σ H) (g : Gw ρ H ρ' H') (r : RH T X.mg ρ' h' H') : Rl T X ρ' us h' σ H' :=
  ⟨Pimp R.sl fun _ _ => RS1.gw g, r⟩

/-! ### canonical readings -/
section
variable {X : Cx} {e : Expr} {σ : St} {H : Hp}
def eW (X : Cx) (e : Expr) : TE := fun σ H Q => ∀ pins s, Inv X pins σ H s → wpAny (model X.prog X.w) X.A (eval e X.env) (EP X pins σ Q) X.xe s
def tW (X : Cx) (e : Expr) : TT := fun σ H Q => ∀ pins s, Inv X pins σ H s → wpAny (model X.prog X.w) X.A (isTrue e X.env (eval e X.env)) (TP X pins σ Q) X.xe s
def wW (X : Cx) (e : Expr) : TT := fun σ H Q => ∀ whole pins s, Inv X pins σ H s → wpAny (model X.prog X.w) X.A (isTrue e X.env whole) (TP X pins σ Q) X.xe s
def aW (X : Cx) (es : List Expr) : TA := fun σ H Q => ∀ pos pins s, Inv X pins σ H s → wpAny (model X.prog X.w) X.A (spliced (backTo pos (starEach es X.env))) (AP X pins σ Q) X.xe s
def sW (X : Cx) (st : List Stmt) : TS := fun D σ H => ∀ pins s, Inv X pins σ H s → wpAny (model X.prog X.w) X.A (execs st X.env) (SP X pins D) X.xe s
def gW (X : Cx) (tg : Expr) : TG := fun v σ H Q => ∀ pins s u, Inv X pins σ H s → RelV v u → wpAny (model X.prog X.w) X.A (assign tg X.env u) (fun _ s' => ∃ σ' H', Inv X pins σ' H' s' ∧ Q σ' H') X.xe s
def iW (X : Cx) (tg iter : Expr) : TI := fun σ H R => ∀ pins s, Inv X pins σ H s →
  wpAny (model X.prog X.w) X.A (eval iter X.env) (fun v s1 => wpAny (model X.prog X.w) X.A (pyIter v) (PIE X pins σ tg R) X.xe s1) X.xe s
theorem peW : PE X e (eW X e) := ⟨fun pins s _ _ _ I h => h pins s I⟩
theorem ptW : PT X e (tW X e) := ⟨fun pins s _ _ _ I h => h pins s I⟩
theorem pwW : PW X e (wW X e) := ⟨fun w pins s _ _ _ I h => h w pins s I⟩
theorem paW {es : List Expr} : PA X es (aW X es) := ⟨fun pos pins s _ _ _ I h => h pos pins s I⟩
theorem psW {st : List Stmt} : PSs X st (sW X st) := ⟨fun pins s _ _ _ I h => h pins s I⟩
theorem pgW {tg : Expr} : PG X tg (gW X tg) := ⟨fun pins s _ _ _ u _ I r h => h pins s u I r⟩
theorem piW {tg iter : Expr} : PI X tg iter (iW X tg iter) := ⟨fun pins s _ _ _ I h => h pins s I⟩
theorem eW_of {t : TE} {Q : VK} (h : PE X e t) (q : t σ H Q) : eW X e σ H Q := fun pins s I => h.run pins s σ H Q I q
theorem tW_of {t : TT} {Q : Bool → Hp → Prop} (h : PT X e t) (q : t σ H Q) : tW X e σ H Q := fun pins s I => h.run pins s σ H Q I q
theorem wW_of {t : TT} {Q : Bool → Hp → Prop} (h : PW X e t) (q : t σ H Q) : wW X e σ H Q := fun w pins s I => h.run w pins s σ H Q I q
theorem aW_of {es : List Expr} {t : TA} {Q : List V → Hp → Prop} (h : PA X es t) (q : t σ H Q) : aW X es σ H Q := fun pos pins s I => h.run pos pins s σ H Q I q
theorem sW_of {st : List Stmt} {t : TS} {D : Ends} (h : PSs X st t) (q : t D σ H) : sW X st D σ H := fun pins s I => h.run pins s σ H D I q
theorem gW_of {tg : Expr} {t : TG} {v : V} {Q : St → Hp → Prop} (h : PG X tg t) (q : t v σ H Q) : gW X tg v σ H Q := fun pins s u I r => h.run pins s σ H v u Q I r q
theorem iW_of {tg iter : Expr} {t : TI} {R : It → Hp → Prop} (h : PI X tg iter t) (q : t σ H R) : iW X tg iter σ H R := fun pins s I => h.run pins s σ H R I q
theorem eW_mono {Q Q' : VK} (h : eW X e σ H Q) (k : ∀ v H', Q v H' → Q' v H') : eW X e σ H Q' := fun pins s I =>
  thn (h pins s I) fun _ _ ⟨v, H', I', r, q⟩ => ⟨v, H', I', r, k v H' q⟩
end

/-! ### judgements -/
/-- the error e is of class cls, with its dict at d -/
def RX (mg : Str → Option Value) (ρ : List Addr) (H : Hp) (e : Xc) (cls : Value) (d : Option Addr) : Prop :=
  ∃ C, mg e.cls = some (.ref C) ∧ cls = .ref C ∧ ((e.fs = [] ∧ d = none) ∨ ∃ a gs, d = some a ∧ H a = some (.xd gs) ∧ RKV mg ρ e.fs gs)
/-- what an error asks -/
def AfX (X : Cx) (W : Wp) (ρ : List Addr) (H : Hp) (σ : St) (e : Xc) (h' : Hh) : Prop :=
  match W.x with
  | none => False
  | some Wx => ∀ ρ' H' cls d, Gw ρ H ρ' H' → RX X.mg ρ' H' e cls d → RH W.T X.mg ρ' h' H' → Wx cls d σ H'
def AfXS (X : Cx) (W : Wp) (ρ : List Addr) (H : Hp) (e : Xc) (us : Sl) (h' : Hh) : Prop :=
  match W.x with
  | none => False
  | some Wx => ∀ ρ' σ' H' cls d, Gw ρ H ρ' H' → RX X.mg ρ' H' e cls d → Rl W.T X ρ' us h' σ' H' → Wx cls d σ' H'
theorem AfX.gw {X : Cx} {W : Wp} {ρ ρ1 : List Addr} {H H1 : Hp} {σ : St} {e : Xc} {h' : Hh} (g : Gw ρ H ρ1 H1) (k : AfX X W ρ H σ e h') : AfX X W ρ1 H1 σ e h' := by
  obtain ⟨Wx, T⟩ := W
  cases Wx with
  | none => exact k
  | some W => exact fun ρ' H' cls d g' => k ρ' H' cls d (g.trans g')
theorem AfXS.gw {X : Cx} {W : Wp} {ρ ρ1 : List Addr} {H H1 : Hp} {us : Sl} {e : Xc} {h' : Hh} (g : Gw ρ H ρ1 H1) (k : AfXS X W ρ H e us h') : AfXS X W ρ1 H1 e us h' := by
  obtain ⟨Wx, T⟩ := W
  cases Wx with
  | none => exact k
  | some W => exact fun ρ' σ' H' cls d g' => k ρ' σ' H' cls d (g.trans g')
theorem AfXS.at_ {X : Cx} {W : Wp} {ρ : List Addr} {H : Hp} {us : Sl} {h : Hh} {σ : St} {e : Xc} {h' : Hh} (L : Rl W.T X ρ us h σ H) (k : AfXS X W ρ H e us h') : AfX X W ρ H σ e h' := by
  obtain ⟨Wx, T⟩ := W
  cases Wx with
  | none => exact k
  | some W => exact fun ρ' H' cls d g rx rh => k ρ' σ H' cls d g rx (L.gw g rh)
/-- what r asks of what follows it -/
def Af {α β : Type} (X : Cx) (W : Wp) (R : List Addr → α → β → Prop) (ρ : List Addr) (H : Hp) (σ : St) (r : Res α) (Q : β → Hp → Prop) : Prop :=
  match r with
  | .ok a h' => ∀ ρ' b H', Gw ρ H ρ' H' → R ρ' a b → RH W.T X.mg ρ' h' H' → Q b H'
  | .exc e h' => AfX X W ρ H σ e h'
  | .bad => False
structure Jd {α β : Type} (X : Cx) (W : Wp) (R : List Addr → α → β → Prop) (t : St → Hp → (β → Hp → Prop) → Prop) (c : Sl → Hh → Res α) : Prop where
  jd : ∀ ρ us h σ H Q, Rl W.T X ρ us h σ H → Af X W R ρ H σ (c us h) Q → t σ H Q
instance {α β : Type} (X : Cx) (W : Wp) (R : List Addr → α → β → Prop) (t : St → Hp → (β → Hp → Prop) → Prop) (c : Sl → Hh → Res α) : CoeFun (Jd X W R t c) (fun _ => ∀ ρ us h σ H Q, Rl W.T X ρ us h σ H → Af X W R ρ H σ (c us h) Q → t σ H Q) := ⟨Jd.jd⟩
section
variable {α β γ δ : Type} {X : Cx} {W : Wp} {R : List Addr → α → β → Prop} {R' : List Addr → γ → δ → Prop} {t : St → Hp → (β → Hp → Prop) → Prop} {c : Sl → Hh → Res α} {ρ ρ1 : List Addr} {us : Sl} {h h1 : Hh} {σ : St} {H H1 : Hp}
theorem Af.gw {r : Res α} {Q : β → Hp → Prop} (g : Gw ρ H ρ1 H1) (k : Af X W R ρ H σ r Q) : Af X W R ρ1 H1 σ r Q := by
  cases r with
  | ok a h' => exact fun ρ' b H' g' => k ρ' b H' (g.trans g')
  | exc e h' => exact AfX.gw g k
  | bad => exact k
theorem Jd.run (j : Jd X W R t c) (L : Rl W.T X ρ us h σ H) {f : α → Hh → Res γ} {Q : δ → Hp → Prop} {Q' : β → Hp → Prop} (k : Af X W R' ρ H σ ((c us h).bind f) Q)
    (kk : ∀ a h1 ρ1 b H1, c us h = .ok a h1 → Gw ρ H ρ1 H1 → R ρ1 a b → Rl W.T X ρ1 us h1 σ H1 → Af X W R' ρ1 H1 σ (f a h1) Q → Q' b H1) : t σ H Q' := by
  refine j ρ us h σ H Q' L ?_
  cases e : c us h with
  | ok a h1 =>
    rw [e] at k
    exact fun ρ1 b H1 g r rh => kk a h1 ρ1 b H1 e g r (L.gw g rh) (Af.gw g k)
  | exc x h1 => rw [e] at k; exact k
  | bad => rw [e] at k; exact k
/-- the last step: the answer itself -/
theorem Af.here {a : α} {b : β} {Q : β → Hp → Prop} (k : Af X W R ρ H σ (.ok a h) Q) (r : R ρ a b) (rh : RH W.T X.mg ρ h H) : Q b H := k ρ b H Gw.refl r rh
end
abbrev Ex (X : Cx) (W : Wp) (e : Expr) (c : EM) : Prop := Jd X W (RV X.mg) (eW X e) c
abbrev Tx (X : Cx) (W : Wp) (e : Expr) (c : TM) : Prop := Jd X W (fun _ (a b : Bool) => b = a) (tW X e) c
abbrev Wx (X : Cx) (W : Wp) (e : Expr) (c : TM) : Prop := Jd X W (fun _ (a b : Bool) => b = a) (wW X e) c
abbrev Ax (X : Cx) (W : Wp) (es : List Expr) (c : AM) : Prop := Jd X W (RVs X.mg) (aW X es) c
/-- statements -/
def AfS (X : Cx) (W : Wp) (ρ : List Addr) (H : Hp) (r : RS) (D : Ends) : Prop :=
  match r with
  | .nx us h' => ∀ ρ' σ' H', Gw ρ H ρ' H' → Rl W.T X ρ' us h' σ' H' → D.nx σ' H'
  | .rt u h' => ∀ ρ' v H', Gw ρ H ρ' H' → RV X.mg ρ' u v → RH W.T X.mg ρ' h' H' → D.rt v H'
  | .bk us h' => ∀ ρ' σ' H', Gw ρ H ρ' H' → Rl W.T X ρ' us h' σ' H' → D.bk σ' H'
  | .ct us h' => ∀ ρ' σ' H', Gw ρ H ρ' H' → Rl W.T X ρ' us h' σ' H' → D.ct σ' H'
  | .exc e us h' => AfXS X W ρ H e us h'
  | .bad => False
structure Sx (X : Cx) (W : Wp) (sts : List Stmt) (c : SM) : Prop where
  sx : ∀ ρ us h σ H D, Rl W.T X ρ us h σ H → AfS X W ρ H (c us h) D → sW X sts D σ H
instance (X : Cx) (W : Wp) (sts : List Stmt) (c : SM) : CoeFun (Sx X W sts c) (fun _ => ∀ ρ us h σ H D, Rl W.T X ρ us h σ H → AfS X W ρ H (c us h) D → sW X sts D σ H) := ⟨Sx.sx⟩
/-- a target -/
def Gx (X : Cx) (W : Wp) (tg : Expr) (g : GM) : Prop := ∀ ρ us h σ H u v Q, Rl W.T X ρ us h σ H → RV X.mg ρ u v →
  (match g u us h with
   | .ok us' h' => ∀ ρ' σ' H', Gw ρ H ρ' H' → Rl W.T X ρ' us' h' σ' H' → Q σ' H'
   | .exc e h' => False
   | .bad => False) → gW X tg v σ H Q
section
variable {X : Cx} {W : Wp} {ρ ρ1 : List Addr} {us : Sl} {h : Hh} {σ : St} {H H1 : Hp}
theorem AfS.gw {r : RS} {D : Ends} (g : Gw ρ H ρ1 H1) (k : AfS X W ρ H r D) : AfS X W ρ1 H1 r D := by
  cases r with
  | nx us h' => exact fun ρ' σ' H' g' => k ρ' σ' H' (g.trans g')
  | rt u h' => exact fun ρ' v H' g' => k ρ' v H' (g.trans g')
  | bk us h' => exact fun ρ' σ' H' g' => k ρ' σ' H' (g.trans g')
  | ct us h' => exact fun ρ' σ' H' g' => k ρ' σ' H' (g.trans g')
  | exc e us h' => exact AfXS.gw g k
  | bad => exact k
/-- from an expression's answer to a statement -/
def Res.thn {α : Type} (r : Res α) (us : Sl) (f : α → Hh → RS) : RS :=
  match r with
  | .ok a h => f a h
  | .exc e h => .exc e us h
  | .bad => .bad
theorem Jd.runS {α β : Type} {R : List Addr → α → β → Prop} {t : St → Hp → (β → Hp → Prop) → Prop} {c : Sl → Hh → Res α} (j : Jd X W R t c) (L : Rl W.T X ρ us h σ H) {f : α → Hh → RS} {D : Ends} {Q' : β → Hp → Prop} (k : AfS X W ρ H ((c us h).thn us f) D)
    (kk : ∀ a h1 ρ1 b H1, c us h = .ok a h1 → Gw ρ H ρ1 H1 → R ρ1 a b → Rl W.T X ρ1 us h1 σ H1 → AfS X W ρ1 H1 (f a h1) D → Q' b H1) : t σ H Q' := by
  refine j ρ us h σ H Q' L ?_
  cases e : c us h with
  | ok a h1 =>
    rw [e] at k
    exact fun ρ1 b H1 g r rh => kk a h1 ρ1 b H1 e g r (L.gw g rh) (AfS.gw g k)
  | exc x h1 =>
    rw [e] at k
    exact AfXS.at_ L k
  | bad => rw [e] at k; exact k
end
end Mx
end
section
set_option maxHeartbeats 4000000
namespace Mx
open PySem L2
open NdefX (NTab TabsN TabN)

/-! ### reading objects -/
section
variable {T : List NTab} {mg : Str → Option Value} {ρ ρ' : List Addr} {H H' : Hp} {h h' : Hh} {v : V} {p : Nat}
theorem RH.ref (rh : RH T mg ρ h H) {o : Ob} (r : RV mg ρ (.loc p) v) (e : h.get p = some o) : ∃ a O, v = .ref a ∧ ρ[p]? = some a ∧ H a = some O ∧ RO mg ρ o O := by
  obtain ⟨a, ea, rfl⟩ := r
  obtain ⟨O, h1, h2⟩ := rh.at' e ea
  exact ⟨a, O, rfl, ea, h1, h2⟩
theorem RH.lst (rh : RH T mg ρ h H) {us : List U} (r : RV mg ρ (.loc p) v) (e : h.get p = some (.lst us)) : ∃ a vs, v = .ref a ∧ ρ[p]? = some a ∧ H a = some (.lst vs) ∧ RVs mg ρ us vs := by
  obtain ⟨a, O, rfl, ea, h1, vs, rfl, h2⟩ := rh.ref r e
  exact ⟨a, vs, rfl, ea, h1, h2⟩
theorem RH.tup (rh : RH T mg ρ h H) {us : List U} (r : RV mg ρ (.loc p) v) (e : h.get p = some (.tup us)) : ∃ a vs, v = .ref a ∧ ρ[p]? = some a ∧ H a = some (.tup vs) ∧ RVs mg ρ us vs := by
  obtain ⟨a, O, rfl, ea, h1, vs, rfl, h2⟩ := rh.ref r e
  exact ⟨a, vs, rfl, ea, h1, h2⟩
theorem RH.dic (rh : RH T mg ρ h H) {lk : Bool} {kvs : List (Key × U)} (r : RV mg ρ (.loc p) v) (e : h.get p = some (.dic lk kvs)) : ∃ a ws, v = .ref a ∧ ρ[p]? = some a ∧ Rd H a (.dK ws) ∧ RKV mg ρ kvs ws := by
  obtain ⟨a, O, rfl, ea, h1, h2⟩ := rh.ref r e
  cases lk with
  | false =>
    obtain ⟨ws, rfl, h3⟩ := h2
    exact ⟨a, ws, rfl, ea, .inl h1, h3⟩
  | true =>
    obtain ⟨o, ws, rfl, h3⟩ := h2
    exact ⟨a, ws, rfl, ea, .inr ⟨o, h1⟩, h3⟩
theorem RH.dicU (rh : RH T mg ρ h H) {kvs : List (Key × U)} (r : RV mg ρ (.loc p) v) (e : h.get p = some (.dic false kvs)) : ∃ a ws, v = .ref a ∧ ρ[p]? = some a ∧ H a = some (.dK ws) ∧ RKV mg ρ kvs ws := by
  obtain ⟨a, O, rfl, ea, h1, ws, rfl, h3⟩ := rh.ref r e
  exact ⟨a, ws, rfl, ea, h1, h3⟩
theorem RH.ins (rh : RH T mg ρ h H) {c : Str} {fs : List (Str × U)} (r : RV mg ρ (.loc p) v) (e : h.get p = some (.ins c fs)) : ∃ a C dx gs, v = .ref a ∧ ρ[p]? = some a ∧ mg c = some (.ref C) ∧ H a = some (.ins C dx gs) ∧ RKV mg ρ fs gs := by
  obtain ⟨a, O, rfl, ea, h1, C, dx, gs, h2, rfl, h3⟩ := rh.ref r e
  exact ⟨a, C, dx, gs, rfl, ea, h2, h1, h3⟩
end
/-- what an answer u at h asks -/
abbrev NQ (T : List NTab) (X : Cx) (ρ : List Addr) (H : Hp) (u : U) (h' : Hh) (Q : VK) : Prop := ∀ ρ' b H', Gw ρ H ρ' H' → RV X.mg ρ' u b → RH T X.mg ρ' h' H' → Q b H'
section
variable {T : List NTab} {X : Cx} {ρ : List Addr} {H : Hp} {h : Hh} {Q : VK}
theorem NQ.flat {u : U} {b : V} (k : NQ T X ρ H u h Q) (rh : RH T X.mg ρ h H) (r : RV X.mg ρ u b) : Q b H := k ρ b H Gw.refl r rh
theorem NQ.new {o : Ob} (k : NQ T X ρ H (.loc h.size) (h.push o) Q) (rh : RH T X.mg ρ h H) {p : Addr} {O : HO} (hp : H p = none) (ro : ∀ ρ', Gw ρ H ρ' (upd H p O) → RO X.mg ρ' o O) : Q (.ref p) (upd H p O) := by
  have g := Gw.new (O := O) hp (rh.free hp)
  exact k (ρ ++ [p]) (.ref p) (upd H p O) g ⟨p, by rw [← rh.len]; simp, rfl⟩ (rh.new hp (ro _ g))
theorem NQ.mut {u : U} {b : V} {n : Nat} {o o0 : Ob} {a : Addr} {O O0 : HO} (k : NQ T X ρ H u (h.set n o) Q) (rh : RH T X.mg ρ h H) (hn : h.get n = some o0) (ea : ρ[n]? = some a) (hH : H a = some O0) (ro : RO X.mg ρ o O) (r : RV X.mg ρ u b) (nf : ∀ o u, O0 ≠ .frz o u := by intro _ _ z; cases z) (nt : ∀ ps, O0 ≠ .tbl ps := by intro _ z; cases z) : Q b (upd H a O) :=
  k ρ b (upd H a O) (Gw.mut (mem_of_ix ea) hH nf nt) r (rh.mut (Hh.get_lt hn) ea ro)
end

def lft {α : Type} : Option (α × Hh) → Res α
  | some (a, h) => .ok a h
  | none => .bad
theorem Af.lft {α β : Type} {X : Cx} {W : Wp} {R : List Addr → α → β → Prop} {ρ : List Addr} {H : Hp} {σ : St} {o : Option (α × Hh)} {Q : β → Hp → Prop} (k : Af X W R ρ H σ (lft o) Q) :
    ∃ a h', o = some (a, h') ∧ ∀ ρ' b H', Gw ρ H ρ' H' → R ρ' a b → RH W.T X.mg ρ' h' H' → Q b H' := by
  cases o with
  | none => exact absurd k id
  | some p => exact ⟨p.1, p.2, rfl, k⟩

/-! ### operations by values -/
abbrev O2 := U → U → Hh → Option (U × Hh)
abbrev O1 := U → Hh → Option (U × Hh)
def oW (X : Cx) (f : Value → Value → Sem Value) : R2 := fun x y H Q => ∀ pins s σ v u, Inv X pins σ H s → RelV x v → RelV y u → wpAny (model X.prog X.w) X.A (f v u) (EP X pins σ Q) X.xe s
theorem or_W {X : Cx} {f : Value → Value → Sem Value} : OpR X f (oW X f) := fun pins s σ H x y v u Q I rx ry h => h pins s σ v u I rx ry
theorem oW_of {X : Cx} {f : Value → Value → Sem Value} {r : R2} {x y : V} {H : Hp} {Q : VK} (h : OpR X f r) (q : r x y H Q) : oW X f x y H Q := fun pins s σ v u I rx ry => h pins s σ H x y v u Q I rx ry q
structure OpS (X : Cx) (f : Value → Value → Sem Value) (m : O2) : Prop where
  ops_ : ∀ T ρ h H x y v w Q u h', RH T X.mg ρ h H → RV X.mg ρ x v → RV X.mg ρ y w → m x y h = some (u, h') → NQ T X ρ H u h' Q → oW X f v w H Q
instance (X : Cx) (f : Value → Value → Sem Value) (m : O2) : CoeFun (OpS X f m) (fun _ => ∀ T ρ h H x y v w Q u h', RH T X.mg ρ h H → RV X.mg ρ x v → RV X.mg ρ y w → m x y h = some (u, h') → NQ T X ρ H u h' Q → oW X f v w H Q) := ⟨OpS.ops_⟩
def uW (X : Cx) (f : Value → Sem Value) : V → Hp → VK → Prop := fun x H Q => ∀ pins s σ v, Inv X pins σ H s → RelV x v → wpAny (model X.prog X.w) X.A (f v) (EP X pins σ Q) X.xe s
structure UnS (X : Cx) (f : Value → Sem Value) (m : O1) : Prop where
  uns_ : ∀ T ρ h H x v Q u h', RH T X.mg ρ h H → RV X.mg ρ x v → m x h = some (u, h') → NQ T X ρ H u h' Q → uW X f v H Q
instance (X : Cx) (f : Value → Sem Value) (m : O1) : CoeFun (UnS X f m) (fun _ => ∀ T ρ h H x v Q u h', RH T X.mg ρ h H → RV X.mg ρ x v → m x h = some (u, h') → NQ T X ρ H u h' Q → uW X f v H Q) := ⟨UnS.uns_⟩
theorem uW_of {X : Cx} {f : Value → Sem Value} {r : V → Hp → VK → Prop} {x : V} {H : Hp} {Q : VK} (h : UnR X f r) (q : r x H Q) : uW X f x H Q := fun pins s σ v I rx => h pins s σ H x v Q I rx q

def cMul (i j : Int) : Bool := (decide (-(2 ^ 64) < i) && decide (i < 2 ^ 64)) || (decide (-(2 ^ 64) < j) && decide (j < 2 ^ 64))
theorem cMul_ok {i j : Int} (h : cMul i j = true) : CMul i j := by
  unfold cMul at h
  simp only [Bool.or_eq_true, Bool.and_eq_true, decide_eq_true_eq] at h
  exact h
def mulOk (x : Str) (n : Int) : Bool := decide (-1 ≤ n) && decide (n ≤ 16777216) && decide (x.length * n.toNat ≤ sizeLine)
def opAdd : O2 := fun x y h =>
  match x, y with
  | .int i, .int j => some (.int (i + j), h)
  | .str a, .str b => if a.length + b.length ≤ sizeLine then some (.str (a ++ b), h) else none
  | .loc p, .loc q =>
    match h.get p, h.get q with
    | some (.lst xs), some (.lst ys) => if xs.length + ys.length ≤ sizeLine then some (.loc h.size, h.push (.lst (xs ++ ys))) else none
    | _, _ => none
  | _, _ => none
def opSub : O2 := fun x y h =>
  match x, y with
  | .int i, .int j => some (.int (i - j), h)
  | _, _ => none
def opMul : O2 := fun x y h =>
  match x, y with
  | .int i, .int j => if cMul i j = true then some (.int (i * j), h) else none
  | .str a, .int n => if mulOk a n = true then some (.str (Txt.mul a n), h) else none
  | .loc p, .int k =>
    match h.get p with
    | some (.lst xs) => if decide (-(2 ^ 63) ≤ k) && decide (k < 2 ^ 63) && decide (xs.length * k.toNat ≤ sizeLine) then some (.loc h.size, h.push (.lst (List.replicate k.toNat xs).flatten)) else none
    | _ => none
  | _, _ => none
def opMod : O2 := fun x y h =>
  match x, y with
  | .int i, .int j => if 0 < j then some (.int (i % j), h) else none
  | _, _ => none
def opDiv : O2 := fun x y h =>
  match x, y with
  | .int i, .int j => if decide (0 < j) && decide (j < 1073741824) then some (.int (i / j), h) else none
  | _, _ => none
def opPow : O2 := fun x y h =>
  match x, y with
  | .int i, .int j => if decide (0 ≤ j) && decide (j ≤ 1000) && decide (i.natAbs < 18446744073709551616) then some (.int (i ^ j.toNat), h) else none
  | _, _ => none
def opShr : O2 := fun x y h =>
  match x, y with
  | .int i, .int j => if 0 ≤ j then some (.int (i / 2 ^ j.toNat), h) else none
  | _, _ => none
def opAnd : O2 := fun x y h =>
  match x, y with
  | .int i, .int j => some (.int (Builtin.bitAnd i j), h)
  | _, _ => none
def opNeg : O1 := fun x h =>
  match x with
  | .int i => some (.int (-i), h)
  | _ => none
section
variable {X : Cx}
theorem Papp {α β : Type} {F : α → β → Prop} : ∀ {l l' : List α} {m m' : List β}, Paired F l m → Paired F l' m' → Paired F (l ++ l') (m ++ m')
  | _, _, _, _, .nil, s => s
  | _, _, _, _, .cons r t, s => .cons r (Papp t s)
theorem Prep {α β : Type} {F : α → β → Prop} {l : List α} {m : List β} (h : Paired F l m) : ∀ n : Nat, Paired F (List.replicate n l).flatten (List.replicate n m).flatten
  | 0 => .nil
  | n + 1 => by
    rw [List.replicate_succ, List.replicate_succ, List.flatten_cons, List.flatten_cons]
    exact Papp h (Prep h n)
theorem os_add : OpS X (binaryOp .Add) opAdd := by
  refine .mk ?_
  intro T ρ h H x y v w Q u h' rh rx ry e k
  unfold opAdd at e
  split at e
  · cases e; cases rx; cases ry
    exact oW_of op_add ⟨_, _, rfl, rfl, k.flat rh rfl⟩
  · cases rx; cases ry
    split at e
    · rename_i hl
      cases e
      exact oW_of op_add_str ⟨_, _, rfl, rfl, hl, k.flat rh rfl⟩
    · cases e
  · split at e
    · rename_i xs ys e1 e2
      split at e
      · rename_i hl
        cases e
        obtain ⟨a, vs, rfl, ea, ha, ra⟩ := rh.lst rx e1
        obtain ⟨b, ws, rfl, eb, hb, rb⟩ := rh.lst ry e2
        refine oW_of op_cat ⟨a, b, vs, ws, rfl, rfl, ha, hb, by rw [← ra.length, ← rb.length]; exact hl, fun p hp => ?_⟩
        exact k.new rh hp fun ρ' g => ⟨_, rfl, Papp (ra.gw g) (rb.gw g)⟩
      · cases e
    · cases e
  · cases e
theorem os_sub : OpS X (binaryOp .Sub) opSub := by
  refine .mk ?_
  intro T ρ h H x y v w Q u h' rh rx ry e k
  unfold opSub at e
  split at e
  · cases e; cases rx; cases ry
    exact oW_of op_sub ⟨_, _, rfl, rfl, k.flat rh rfl⟩
  · cases e
theorem mulOk_ok {x : Str} {n : Int} (h : mulOk x n = true) : MulOk x n := by
  unfold mulOk at h
  simp only [Bool.and_eq_true, decide_eq_true_eq] at h
  obtain ⟨⟨h1, h2⟩, h3⟩ := h
  refine ⟨?_, fun hn hb => ?_, fun hn hb => ?_⟩
  · rw [Bool.or_eq_false_iff]
    exact ⟨decide_eq_false (by omega), decide_eq_false (by omega)⟩
  · have hn1 : (1 : Int) ≤ n := by omega
    have h4 : (x.length : Int) * n ≤ 2 ^ 63 - 1 := by
      have h6 : sizeLine ≤ 1000000000 := by decide
      have h5 : ((x.length * n.toNat : Nat) : Int) ≤ ((1000000000 : Nat) : Int) := Int.ofNat_le.mpr (Nat.le_trans h3 h6)
      rw [Int.natCast_mul, Int.toNat_of_nonneg (by omega)] at h5
      omega
    have := (Int.le_ediv_iff_mul_le (by omega : (0 : Int) < n)).mpr h4
    omega
  · unfold Builtin.Str.tooLong
    first
      | exact decide_eq_false (by omega)
      | (simp only [decide_eq_false_iff_not]; omega)
theorem os_mul : OpS X (binaryOp .Mult) opMul := by
  refine .mk ?_
  intro T ρ h H x y v w Q u h' rh rx ry e k
  unfold opMul at e
  split at e
  · cases rx; cases ry
    split at e
    · rename_i hc
      cases e
      exact oW_of op_mul ⟨_, _, rfl, rfl, cMul_ok hc, k.flat rh rfl⟩
    · cases e
  · cases rx; cases ry
    split at e
    · rename_i hc
      cases e
      intro pins s σ v' u' I rx' ry'
      obtain ⟨t, rfl⟩ := rx'
      obtain ⟨t', rfl⟩ := ry'
      exact SB.mul (mulOk_ok hc) fun t'' k' => ⟨.str _, H, I.tok _, ⟨_, rfl⟩, k.flat rh rfl⟩
    · cases e
  · cases ry
    split at e
    · rename_i xs e1
      split at e
      · rename_i hl
        cases e
        simp only [Bool.and_eq_true, decide_eq_true_eq] at hl
        obtain ⟨a, vs, rfl, ea, ha, ra⟩ := rh.lst rx e1
        refine oW_of op_rep ⟨a, _, vs, rfl, rfl, ha, hl.1.1, hl.1.2, by rw [← ra.length]; exact hl.2, fun p hp => ?_⟩
        exact k.new rh hp fun ρ' g => ⟨_, rfl, Prep (ra.gw g) _⟩
      · cases e
    · cases e
  · cases e
theorem os_mod : OpS X (binaryOp .Mod) opMod := by
  refine .mk ?_
  intro T ρ h H x y v w Q u h' rh rx ry e k
  unfold opMod at e
  split at e
  · cases rx; cases ry
    split at e
    · rename_i hc
      cases e
      exact oW_of op_mod ⟨_, _, rfl, rfl, hc, k.flat rh rfl⟩
    · cases e
  · cases e
theorem os_div : OpS X (binaryOp .FloorDiv) opDiv := by
  refine .mk ?_
  intro T ρ h H x y v w Q u h' rh rx ry e k
  unfold opDiv at e
  split at e
  · cases rx; cases ry
    split at e
    · rename_i hc
      cases e
      simp only [Bool.and_eq_true, decide_eq_true_eq] at hc
      exact oW_of op_fdiv ⟨_, _, rfl, rfl, hc, k.flat rh rfl⟩
    · cases e
  · cases e
theorem os_pow : OpS X (binaryOp .Pow) opPow := by
  refine .mk ?_
  intro T ρ h H x y v w Q u h' rh rx ry e k
  unfold opPow at e
  split at e
  · cases rx; cases ry
    split at e
    · rename_i hc
      cases e
      simp only [Bool.and_eq_true, decide_eq_true_eq] at hc
      exact oW_of op_pow ⟨_, _, rfl, rfl, ⟨hc.1.1, by omega, by have := hc.2; omega⟩, k.flat rh rfl⟩
    · cases e
  · cases e
theorem os_shr : OpS X (binaryOp .RShift) opShr := by
  refine .mk ?_
  intro T ρ h H x y v w Q u h' rh rx ry e k
  unfold opShr at e
  split at e
  · cases rx; cases ry
    split at e
    · rename_i hc
      cases e
      exact oW_of op_shr ⟨_, _, rfl, rfl, hc, k.flat rh rfl⟩
    · cases e
  · cases e
theorem os_and : OpS X (binaryOp .BitAnd) opAnd := by
  refine .mk ?_
  intro T ρ h H x y v w Q u h' rh rx ry e k
  unfold opAnd at e
  split at e
  · cases e; cases rx; cases ry
    exact oW_of op_and ⟨_, _, rfl, rfl, k.flat rh rfl⟩
  · cases e
theorem us_neg : UnS X (unaryOp .USub) opNeg := by
  refine .mk ?_
  intro T ρ h H x v Q u h' rh rx e k
  unfold opNeg at e
  split at e
  · cases e; cases rx
    exact uW_of un_neg ⟨_, rfl, k.flat rh rfl⟩
  · cases e
end

/-! ### order, ==, in -/
def opLt : O2 := fun x y h => match x, y with | .int i, .int j => some (.bl (decide (i < j)), h) | _, _ => none
def opLe : O2 := fun x y h => match x, y with | .int i, .int j => some (.bl (decide (i ≤ j)), h) | _, _ => none
def opGt : O2 := fun x y h => match x, y with | .int i, .int j => some (.bl (decide (j < i)), h) | _, _ => none
def opGe : O2 := fun x y h => match x, y with | .int i, .int j => some (.bl (decide (j ≤ i)), h) | _, _ => none
section
variable {X : Cx}
theorem os_lt : OpS X (compareOp .Lt) opLt := by
  refine .mk ?_
  intro T ρ h H x y v w Q u h' rh rx ry e k
  unfold opLt at e
  split at e
  · cases e; cases rx; cases ry
    exact oW_of op_lt ⟨_, _, rfl, rfl, k.flat rh rfl⟩
  · cases e
theorem os_le : OpS X (compareOp .LtE) opLe := by
  refine .mk ?_
  intro T ρ h H x y v w Q u h' rh rx ry e k
  unfold opLe at e
  split at e
  · cases e; cases rx; cases ry
    exact oW_of op_le ⟨_, _, rfl, rfl, k.flat rh rfl⟩
  · cases e
theorem os_gt : OpS X (compareOp .Gt) opGt := by
  refine .mk ?_
  intro T ρ h H x y v w Q u h' rh rx ry e k
  unfold opGt at e
  split at e
  · cases e; cases rx; cases ry
    exact oW_of op_gt ⟨_, _, rfl, rfl, k.flat rh rfl⟩
  · cases e
theorem os_ge : OpS X (compareOp .GtE) opGe := by
  refine .mk ?_
  intro T ρ h H x y v w Q u h' rh rx ry e k
  unfold opGe at e
  split at e
  · cases e; cases rx; cases ry
    exact oW_of op_ge ⟨_, _, rfl, rfl, k.flat rh rfl⟩
  · cases e
end
/-- the data that a value stands for -/
def toD : Nat → Hh → U → Option PyData
  | _, _, .non => some .none
  | _, _, .bl b => some (.bool b)
  | _, _, .int i => some (.int i)
  | _, _, .str x => some (.str x)
  | 0, _, _ => none
  | n + 1, h, .loc p =>
    match h.get p with
    | some (.lst xs) => (xs.mapM (toD n h)).map PyData.list
    | some (.tup xs) => (xs.mapM (toD n h)).map PyData.tuple
    | _ => none
  | _ + 1, _, _ => none
section
variable {T : List NTab} {mg : Str → Option Value} {K : PySem.W.Frag} {ρ : List Addr} {H : Hp} {h : Hh}
theorem mapM_some {α β : Type} {f : α → Option β} : ∀ {xs : List α} {ys : List β}, xs.mapM f = some ys → Paired (fun x y => f x = some y) xs ys
  | [], ys, e => by
    simp at e
    subst e
    exact .nil
  | x :: xs, ys, e => by
    rw [List.mapM_cons] at e
    cases e1 : f x with
    | none => rw [e1] at e; simp at e
    | some y =>
      cases e2 : xs.mapM f with
      | none => rw [e1, e2] at e; simp at e
      | some zs =>
        rw [e1, e2] at e
        have e3 : y :: zs = ys := by simpa using e
        subst e3
        exact .cons e1 (mapM_some e2)
theorem dpAll {α : Type} {R : α → PyData → Prop} {S : α → V → Prop} : ∀ {xs : List α} {ds : List PyData} {vs : List V}, Paired R xs ds → Paired S xs vs → (∀ x d v, R x d → S x v → Dp K H v d) → DpAll K H vs ds
  | _, _, _, .nil, .nil, _ => .nil
  | _, _, _, .cons r t, .cons r' t', f => .cons (f _ _ _ r r') (dpAll t t' f)
theorem toD_ok (rh : RH T mg ρ h H) : ∀ {n : Nat} {u : U} {v : V} {d : PyData}, RV mg ρ u v → toD n h u = some d → Dp K H v d
  | n, .non, v, d, r, e => by
    have e' : some PyData.none = some d := by cases n <;> exact e
    cases r; cases e'; exact .non
  | n, .bl b, v, d, r, e => by
    have e' : some (PyData.bool b) = some d := by cases n <;> exact e
    cases r; cases e'; exact .bl b
  | n, .int b, v, d, r, e => by
    have e' : some (PyData.int b) = some d := by cases n <;> exact e
    cases r; cases e'; exact .int b
  | n, .str b, v, d, r, e => by
    have e' : some (PyData.str b) = some d := by cases n <;> exact e
    cases r; cases e'; exact .str b
  | 0, .loc _, _, _, _, e => by cases e
  | 0, .glo _, _, _, _, e => by cases e
  | 0, .ty _, _, _, _, e => by cases e
  | n + 1, .glo _, _, _, _, e => by cases e
  | n + 1, .ty _, _, _, _, e => by cases e
  | n + 1, .loc p, v, d, r, e => by
    unfold toD at e
    split at e
    · rename_i xs e1
      obtain ⟨a, vs, rfl, ea, ha, ra⟩ := rh.lst r e1
      cases e2 : xs.mapM (toD n h) with
      | none => rw [e2] at e; cases e
      | some ds =>
        rw [e2] at e
        cases e
        exact .lst (SqL.of ha) (dpAll (mapM_some e2) ra fun x d v h1 h2 => toD_ok rh h2 h1)
    · rename_i xs e1
      obtain ⟨a, vs, rfl, ea, ha, ra⟩ := rh.tup r e1
      cases e2 : xs.mapM (toD n h) with
      | none => rw [e2] at e; cases e
      | some ds =>
        rw [e2] at e
        cases e
        exact .tup (SqT.of ha) (dpAll (mapM_some e2) ra fun x d v h1 h2 => toD_ok rh h2 h1)
    · cases e
end
/-- == by data, depth at most 8 -/
def eqD (x y : U) (h : Hh) : Option Bool :=
  match toD 8 h x, toD 8 h y with
  | some d, some e => if SeqAt.shaped d && SeqAt.shaped e then some (PyData.eqv d e) else none
  | _, _ => none
def opEq : O2 := fun x y h => (eqD x y h).map fun b => (.bl b, h)
def opNe : O2 := fun x y h => (eqD x y h).map fun b => (.bl (!b), h)
def flatU : U → Bool
  | .non => true
  | .bl _ => true
  | .int _ => true
  | .str _ => true
  | _ => false
def eqU' : U → U → Bool
  | .non, .non => true
  | .bl a, .bl b => a == b
  | .bl a, .int b => (if a then 1 else 0) == b
  | .int a, .bl b => a == (if b then 1 else 0)
  | .int a, .int b => a == b
  | .str a, .str b => a == b
  | _, _ => false
def keyU : U → Option Key
  | .int i => some (Sum.inl i)
  | .str x => some (Sum.inr x)
  | _ => none
def hasK (kvs : List (Key × U)) (k : Key) : Bool := kvs.any fun kv => decide (kv.1 = k)
def getK (kvs : List (Key × U)) (k : Key) : Option U := (kvs.find? fun kv => decide (kv.1 = k)).map (·.2)
/-- x in y -/
def inB (x y : U) (h : Hh) : Option Bool :=
  match y with
  | .str z =>
    match x with
    | .str c => some (!(Builtin.Str.occurrences z c 0 z.length 1).isEmpty)
    | _ => none
  | .loc p =>
    match h.get p with
    | some (.lst ys) => if flatU x && ys.all flatU then some (ys.any fun y => eqU' y x) else none
    | some (.tup ys) => if flatU x && ys.all flatU then some (ys.any fun y => eqU' y x) else none
    | some (.dic _ kvs) => (keyU x).map fun k => hasK kvs k
    | _ => none
  | _ => none
section
variable {X : Cx}
theorem os_eq (hu : X.A.units + 64 < cLine) : OpS X (compareOp .Eq) opEq := by
  refine .mk ?_
  intro T ρ h H x y v w Q u h' rh rx ry e k
  unfold opEq eqD at e
  split at e
  · rename_i d e' e1 e2
    split at e
    · rename_i hs
      cases e
      simp only [Bool.and_eq_true] at hs
      exact oW_of (op_eqD hu) ⟨d, e', toD_ok rh rx e1, toD_ok rh ry e2, hs.1, hs.2, k.flat rh rfl⟩
    · cases e
  · cases e
theorem os_ne (hu : X.A.units + 64 < cLine) : OpS X (compareOp .NotEq) opNe := by
  refine .mk ?_
  intro T ρ h H x y v w Q u h' rh rx ry e k
  unfold opNe eqD at e
  split at e
  · rename_i d e' e1 e2
    split at e
    · rename_i hs
      cases e
      simp only [Bool.and_eq_true] at hs
      exact oW_of (op_neD hu) ⟨d, e', toD_ok rh rx e1, toD_ok rh ry e2, hs.1, hs.2, k.flat rh rfl⟩
    · cases e
  · cases e
theorem flat_rv {mg : Str → Option Value} {ρ : List Addr} : ∀ {u : U} {v : V}, RV mg ρ u v → flatU u = true → flatV v = true
  | .non, _, r, _ => by cases r; rfl
  | .bl _, _, r, _ => by cases r; rfl
  | .int _, _, r, _ => by cases r; rfl
  | .str _, _, r, _ => by cases r; rfl
  | .loc _, _, _, e => by cases e
  | .glo _, _, _, e => by cases e
  | .ty _, _, _, e => by cases e
theorem eq_rv {mg : Str → Option Value} {ρ : List Addr} : ∀ {x y : U} {v w : V}, RV mg ρ x v → RV mg ρ y w → flatU x = true → flatU y = true → eqV v w = eqU' x y
  | .non, y, _, _, r, s, _, f => by cases r; cases y <;> first | (cases f; done) | (cases s; rfl)
  | .bl _, y, _, _, r, s, _, f => by cases r; cases y <;> first | (cases f; done) | (cases s; rfl)
  | .int _, y, _, _, r, s, _, f => by cases r; cases y <;> first | (cases f; done) | (cases s; rfl)
  | .str _, y, _, _, r, s, _, f => by cases r; cases y <;> first | (cases f; done) | (cases s; rfl)
  | .loc _, _, _, _, _, _, e, _ => by cases e
  | .glo _, _, _, _, _, _, e, _ => by cases e
  | .ty _, _, _, _, _, _, e, _ => by cases e
theorem flats_rv {mg : Str → Option Value} {ρ : List Addr} : ∀ {us : List U} {vs : List V}, RVs mg ρ us vs → us.all flatU = true → vs.all flatV = true
  | _, _, .nil, _ => rfl
  | _, _, .cons r t, e => by
    rw [List.all_cons, Bool.and_eq_true] at e ⊢
    exact ⟨flat_rv r e.1, flats_rv t e.2⟩
theorem in_rv {mg : Str → Option Value} {ρ : List Addr} {x : U} {v : V} (rx : RV mg ρ x v) (fx : flatU x = true) : ∀ {us : List U} {vs : List V}, RVs mg ρ us vs → us.all flatU = true → inV v vs = us.any fun y => eqU' y x
  | _, _, .nil, _ => rfl
  | _, _, .cons r t, e => by
    rw [List.all_cons, Bool.and_eq_true] at e
    have ih := in_rv rx fx t e.2
    unfold inV at ih ⊢
    rw [List.any_cons, List.any_cons, ih, eq_rv r rx e.1 fx]
theorem key_rv {mg : Str → Option Value} {ρ : List Addr} : ∀ {u : U} {v : V} {k : Key}, RV mg ρ u v → keyU u = some k → v = L2.kV k
  | .int i, _, _, r, e => by cases r; cases e; rfl
  | .str i, _, _, r, e => by cases r; cases e; rfl
  | .non, _, _, _, e => by cases e
  | .bl _, _, _, _, e => by cases e
  | .loc _, _, _, _, e => by cases e
  | .glo _, _, _, _, e => by cases e
  | .ty _, _, _, _, e => by cases e
theorem val_rv {mg : Str → Option Value} {ρ : List Addr} {k : Key} : ∀ {us : List (Key × U)} {vs : List (Key × V)}, RKV mg ρ us vs → (getK us k = none → valV vs k = none) ∧ ∀ u, getK us k = some u → ∃ v, valV vs k = some v ∧ RV mg ρ u v
  | _, _, .nil => ⟨fun _ => rfl, fun _ e => by cases e⟩
  | _, _, .cons (a := x) (b := y) r t => by
    have ih := val_rv (k := k) t
    by_cases hk : x.1 = k
    · have e1 : getK (x :: ‹_›) k = some x.2 := by simp [getK, List.find?_cons, hk]
      have e2 : valV (y :: ‹_›) k = some y.2 := valV_pos (by rw [r.1, hk])
      rw [e1, e2]
      exact ⟨fun h => (nomatch h), fun z hz => ⟨_, rfl, by cases hz; exact r.2⟩⟩
    · have e1 : ∀ l, getK (x :: l) k = getK l k := fun l => by simp [getK, List.find?_cons, hk]
      have e2 : ∀ m, valV (y :: m) k = valV m k := fun m => valV_neg (by rw [r.1]; exact hk)
      rw [e1, e2]
      exact ih
theorem has_get (kvs : List (Key × U)) (k : Key) : hasK kvs k = (getK kvs k).isSome := by
  unfold hasK getK
  rw [Option.isSome_map, Bool.eq_iff_iff, List.any_eq_true, List.find?_isSome]
end
end Mx
end
section
set_option maxHeartbeats 4000000
namespace Mx
open PySem L2
open NdefX (NTab TabsN TabN)
/-! ### the combinators of expressions -/
def eVar (i : Nat) : EM := fun us h => match us[i]? with | some (some u) => .ok u h | _ => .bad
def eC (u : U) : EM := fun _ h => .ok u h
def eBin (m : O2) (a b : EM) : EM := fun us h => (a us h).bind fun x h1 => (b us h1).bind fun y h2 => lft (m x y h2)
def eUn (m : O1) (a : EM) : EM := fun us h => (a us h).bind fun x h1 => lft (m x h1)
def isB (x : U) (h : Hh) : Res Bool := match x with | .bl b => .ok b h | _ => .bad
def eAnd (a b : EM) : EM := fun us h => (a us h).bind fun x h1 => (isB x h1).bind fun c h2 => if c then b us h2 else .ok (.bl false) h2
def eOr (a b : EM) : EM := fun us h => (a us h).bind fun x h1 => (isB x h1).bind fun c h2 => if c then .ok (.bl true) h2 else b us h2
def eNot (a : EM) : EM := fun us h => (a us h).bind fun x h1 => (isB x h1).bind fun c h2 => .ok (.bl (!c)) h2
def eIf (t : TM) (a b : EM) : EM := fun us h => (t us h).bind fun c h1 => if c then a us h1 else b us h1
def eChain (m m' : O2) (a b c : EM) : EM := fun us h => (a us h).bind fun x h1 => (b us h1).bind fun y h2 => (lft (m x y h2)).bind fun z h3 => (isB z h3).bind fun k h4 =>
  if k then (c us h4).bind fun w h5 => lft (m' y w h5) else .ok (.bl false) h4
def truU (x : U) (h : Hh) : Option (Bool × Hh) :=
  match x with
  | .non => some (false, h)
  | .bl b => some (b, h)
  | .int i => some (i != 0, h)
  | .str z => if z.length ≤ sizeLine then some ((z.length : Int) != 0, h) else none
  | .loc p =>
    match h.get p with
    | some (.lst xs) => some (!xs.isEmpty, h)
    | _ => none
  | _ => none
def tTru (a : EM) : TM := fun us h => (a us h).bind fun x h1 => lft (truU x h1)
def tB' (a : EM) : TM := fun us h => (a us h).bind fun x h1 => isB x h1
def tNot (a : TM) : TM := fun us h => (a us h).bind fun c h1 => .ok (!c) h1
def tAnd (a b : TM) : TM := fun us h => (a us h).bind fun c h1 => if c then b us h1 else .ok false h1
def tOr (a b : TM) : TM := fun us h => (a us h).bind fun c h1 => if c then .ok true h1 else b us h1
def aNil : AM := fun _ h => .ok [] h
def aCons (a : EM) (r : AM) : AM := fun us h => (a us h).bind fun x h1 => (r us h1).bind fun xs h2 => .ok (x :: xs) h2
def mTup (xs : List U) (h : Hh) : Option (U × Hh) := if xs.length ≤ sizeLine then some (.loc h.size, h.push (.tup xs)) else none
def mLst (xs : List U) (h : Hh) : Option (U × Hh) := if xs.length ≤ sizeLine then some (.loc h.size, h.push (.lst xs)) else none
def eTup (a : AM) : EM := fun us h => (a us h).bind fun xs h1 => lft (mTup xs h1)
def eLst (a : AM) : EM := fun us h => (a us h).bind fun xs h1 => lft (mLst xs h1)
def eD0 : EM := fun _ h => .ok (.loc h.size) (h.push (.dic false []))
abbrev ON := List U → Hh → Option (U × Hh)
def eCb (m : ON) (a : AM) : EM := fun us h => (a us h).bind fun xs h1 => lft (m xs h1)

section
variable {X : Cx} {W : Wp} {e a b c : Expr} {es : List Expr} {ca cb cc : EM} {ct tb : TM} {cs : AM} {pos p : Pos} {ρ : List Addr} {us : Sl} {h : Hh} {σ : St} {H : Hp}
theorem Rl.get (L : Rl T X ρ us h σ H) {i : Nat} {u : U} (e : us[i]? = some (some u)) : ∃ v, σ[i]? = some (some v) ∧ RV X.mg ρ u v := by
  have : ∀ {us : Sl} {σ : St} {i : Nat}, Paired (RS1 X.mg ρ) us σ → us[i]? = some (some u) → ∃ v, σ[i]? = some (some v) ∧ RV X.mg ρ u v := by
    intro us σ i r
    induction r generalizing i with
    | nil => intro e; simp at e
    | cons r t ih =>
      intro e
      cases i with
      | zero =>
        simp only [List.getElem?_cons_zero, Option.some.injEq] at e
        subst e
        obtain ⟨v, rfl, rv⟩ := r
        exact ⟨v, rfl, rv⟩
      | succ i =>
        obtain ⟨v, h1, h2⟩ := ih (i := i) (by simpa using e)
        exact ⟨v, by simpa using h1, h2⟩
  exact this L.sl e
theorem x_var {x : Str} (i : Nat) (hN : X.N[i]? = some x := by rfl) (hv : Vis X.env.scope x := by first | exact Or.inl rfl | exact Or.inr (Or.inl rfl) | exact Or.inr (Or.inr rfl)) (hd : (x == ("__debug__" : Str)) = false := by decide)
    (hcd : (x == ("__classdict__" : Str)) = false := by decide) : Ex X W (.Name x pos) (eVar i) := .mk fun ρ us h σ H Q L k => by
  unfold eVar at k
  split at k
  · rename_i u e
    obtain ⟨v, h1, h2⟩ := L.get e
    exact eW_of (pe_var hN hv hd hcd) ⟨v, h1, k.here h2 L.rh⟩
  · exact absurd k id
theorem x_pure {v : V} {u : U} {t : TE} (h : PE X e t) (ht : ∀ σ H (Q : VK), Q v H → t σ H Q) (hR : ∀ ρ, RV X.mg ρ u v) : Ex X W e (eC u) := .mk fun ρ us h' σ H Q L k => eW_of h (ht σ H _ (k.here (hR ρ) L.rh))
theorem x_int {n : Int} {j : Nat} : Ex X W (.Constant (.int n) j pos) (eC (.int n)) := x_pure pe_int (fun _ _ _ q => q) fun _ => rfl
theorem x_bl {k : Bool} {j : Nat} : Ex X W (.Constant (.bool k) j pos) (eC (.bl k)) := x_pure pe_bl (fun _ _ _ q => q) fun _ => rfl
theorem x_non {j : Nat} : Ex X W (.Constant .none j pos) (eC .non) := x_pure pe_non (fun _ _ _ q => q) fun _ => rfl
theorem x_str {x : Str} {j : Nat} : Ex X W (.Constant (.str x) j pos) (eC (.str x)) := x_pure pe_str (fun _ _ _ q => q) fun _ => rfl
theorem x_globS {x z : Str} (hm : ∃ t, X.mg x = some (.str z t)) (hg : Gl X x := by rfl) (hd : (x == ("__debug__" : Str)) = false := by decide) : Ex X W (.Name x pos) (eC (.str z)) := by
  obtain ⟨t, ht⟩ := hm
  exact x_pure (v := .str z) (pe_glob (v := .str z) hg ht ⟨t, rfl⟩ hd) (fun _ _ _ q => q) fun _ => rfl
theorem x_globI {x : Str} {n : Int} (hm : ∃ t, X.mg x = some (.int n t)) (hg : Gl X x := by rfl) (hd : (x == ("__debug__" : Str)) = false := by decide) : Ex X W (.Name x pos) (eC (.int n)) := by
  obtain ⟨t, ht⟩ := hm
  exact x_pure (v := .int n) (pe_glob (v := .int n) hg ht ⟨t, rfl⟩ hd) (fun _ _ _ q => q) fun _ => rfl
theorem x_globR {x : Str} {f : Addr} (hm : X.mg x = some (.ref f)) (hg : Gl X x := by rfl) (hd : (x == ("__debug__" : Str)) = false := by decide) : Ex X W (.Name x pos) (eC (.glo x)) :=
  x_pure (v := .ref f) (pe_glob (v := .ref f) hg hm rfl hd) (fun _ _ _ q => q) fun _ => ⟨f, hm, rfl⟩
theorem x_ty {x : Str} {n : String} (hm : X.mg x = none) (hv : bootBuiltins x = some (.type n)) (hg : Gl X x := by rfl) (hn : x ≠ "__name__" := by decide) (hd : (x == ("__debug__" : Str)) = false := by decide) : Ex X W (.Name x pos) (eC (.ty n)) :=
  x_pure (v := .ty n) (pe_bltn (v := .ty n) hg hm hv rfl hn hd) (fun _ _ _ q => q) fun _ => rfl
theorem x_bin {op : Operator} {m : O2} (ho : OpS X (binaryOp op) m) (ha : Ex X W a ca) (hb : Ex X W b cb) : Ex X W (.BinOp a op b pos) (eBin m ca cb) := .mk fun ρ us h σ H Q L k =>
  eW_of (pe_op or_W peW peW) (ha.run L k fun x h1 ρ1 v H1 _ g1 r1 L1 k1 => hb.run L1 k1 fun y h2 ρ2 w H2 _ g2 r2 L2 k2 => by
    obtain ⟨u, h', e, q⟩ := k2.lft
    exact ho _ ρ2 h2 H2 x y v w Q u h' L2.rh (r1.gw g2) r2 e q)
theorem x_un {op : UnaryOp} {m : O1} (ho : UnS X (unaryOp op) m) (ha : Ex X W a ca) : Ex X W (.UnaryOp op a pos) (eUn m ca) := .mk fun ρ us h σ H Q L k =>
  eW_of (pe_un (r := uW X (unaryOp op)) (fun pins s σ H x v Q I rx q => q pins s σ v I rx) peW) (ha.run L k fun x h1 ρ1 v H1 _ g1 r1 L1 k1 => by
    obtain ⟨u, h', e, q⟩ := k1.lft
    exact ho _ ρ1 h1 H1 x v Q u h' L1.rh r1 e q)
theorem x_cmp {op : CmpOp} {m : O2} (ho : OpS X (compareOp op) m) (ha : Ex X W a ca) (hb : Ex X W b cb) (hm : behindInMarks op b = false := by rfl) : Ex X W (.Compare a [op] [b] pos) (eBin m ca cb) := .mk fun ρ us h σ H Q L k =>
  eW_of (pe_cmpR or_W peW peW hm) (ha.run L k fun x h1 ρ1 v H1 _ g1 r1 L1 k1 => hb.run L1 k1 fun y h2 ρ2 w H2 _ g2 r2 L2 k2 => by
    obtain ⟨u, h', e, q⟩ := k2.lft
    exact ho _ ρ2 h2 H2 x y v w Q u h' L2.rh (r1.gw g2) r2 e q)
theorem isB_ok {x : U} {h : Hh} {α β : Type} {R : List Addr → α → β → Prop} {Q : β → Hp → Prop} {f : Bool → Hh → Res α} (k : Af X W R ρ H σ ((isB x h).bind f) Q) : ∃ c, x = .bl c ∧ Af X W R ρ H σ (f c h) Q := by
  cases x with
  | bl c => exact ⟨c, rfl, k⟩
  | _ => exact absurd k id
theorem t_cmp {op : CmpOp} {m : O2} (ho : OpS X (compareOp op) m) (ha : Ex X W a ca) (hb : Ex X W b cb) (hm : behindInMarks op b = false := by rfl) : Tx X W (.Compare a [op] [b] pos) (tB' (eBin m ca cb)) := .mk fun ρ us h σ H Q L k => by
  refine tW_of (pt_cmpR or_W peW peW hm) ?_
  unfold tB' eBin at k
  have k' : Af X W (fun _ (a b : Bool) => b = a) ρ H σ ((ca us h).bind fun x h1 => (cb us h1).bind fun y h2 => (lft (m x y h2)).bind isB) Q := by
    cases e1 : ca us h with
    | ok x h1 =>
      rw [e1] at k
      cases e2 : cb us h1 with
      | ok y h2 => simpa [Res.bind, e2] using k
      | exc x h1 => simpa [Res.bind, e2] using k
      | bad => simpa [Res.bind, e2] using k
    | exc x h1 => rw [e1] at k; exact k
    | bad => rw [e1] at k; exact k
  refine ha.run L k' fun x h1 ρ1 v H1 _ g1 r1 L1 k1 => hb.run L1 k1 fun y h2 ρ2 w H2 _ g2 r2 L2 k2 => ?_
  cases e : m x y h2 with
  | none => rw [e] at k2; exact absurd k2 id
  | some uh =>
    obtain ⟨u, h'⟩ := uh
    rw [e] at k2
    refine ho _ ρ2 h2 H2 x y v w _ u h' L2.rh (r1.gw g2) r2 e fun ρ' b H' g r rh => ?_
    have k3 : Af X W (fun _ (a b : Bool) => b = a) ρ2 H2 σ (isB u h') Q := k2
    cases u with
    | bl c =>
      cases r
      exact ⟨c, rfl, k3 ρ' c H' g rfl rh⟩
    | _ => exact absurd k3 id
theorem t_chain {op op' : CmpOp} {m m' : O2} (ho : OpS X (compareOp op) m) (ho' : OpS X (compareOp op') m') (ha : Ex X W a ca) (hb : Ex X W b cb) (hc : Ex X W c cc) (hm : lastMarks [op, op'] [b, c] = false := by rfl) :
    Ex X W (.Compare a [op, op'] [b, c] pos) (eChain m m' ca cb cc) := .mk fun ρ us h σ H Q L k => by
  refine eW_of (pe_chain or_W or_W peW peW peW hm) ?_
  refine ha.run L k fun x h1 ρ1 v H1 _ g1 r1 L1 k1 => hb.run L1 k1 fun y h2 ρ2 w H2 _ g2 r2 L2 k2 => ?_
  cases e : m x y h2 with
  | none => rw [e] at k2; exact absurd k2 id
  | some uh =>
    obtain ⟨u, h3⟩ := uh
    rw [e] at k2
    refine ho _ ρ2 h2 H2 x y v w _ u h3 L2.rh (r1.gw g2) r2 e fun ρ3 z H3 g3 r3 rh3 => ?_
    obtain ⟨b, rfl, k3⟩ := isB_ok (show Af X W (RV X.mg) ρ2 H2 σ ((isB u h3).bind _) Q from k2)
    cases r3
    refine ⟨b, rfl, ?_⟩
    cases b with
    | false => exact iteF (k3.gw g3 |>.here rfl rh3)
    | true =>
      refine iteT ?_
      have k4 := k3.gw g3
      exact hc.run (L2.gw g3 rh3) (show Af X W (RV X.mg) ρ3 H3 σ ((cc us h3).bind fun w h5 => lft (m' y w h5)) Q from k4) fun z h5 ρ5 v5 H5 _ g5 r5 L5 k5 => by
        obtain ⟨u, h', e, q⟩ := k5.lft
        exact ho' _ ρ5 h5 H5 y z w v5 Q u h' L5.rh ((r2.gw g3).gw g5) r5 e q
theorem x_and {rest : List Expr} (ha : Ex X W a ca) (hb : Ex X W (.BoolOp .And (b :: rest) pos) cb) : Ex X W (.BoolOp .And (a :: b :: rest) pos) (eAnd ca cb) := .mk fun ρ us h σ H Q L k =>
  eW_of (pe_and peW peW) (ha.run L k fun x h1 ρ1 v H1 _ g1 r1 L1 k1 => by
    obtain ⟨c, rfl, k2⟩ := isB_ok k1
    cases r1
    refine ⟨c, rfl, ?_⟩
    cases c with
    | true => exact iteT (hb ρ1 us h1 σ H1 Q L1 k2)
    | false => exact iteF (k2.here rfl L1.rh))
theorem x_or {rest : List Expr} (ha : Ex X W a ca) (hb : Ex X W (.BoolOp .Or (b :: rest) pos) cb) : Ex X W (.BoolOp .Or (a :: b :: rest) pos) (eOr ca cb) := .mk fun ρ us h σ H Q L k =>
  eW_of (pe_or peW peW) (ha.run L k fun x h1 ρ1 v H1 _ g1 r1 L1 k1 => by
    obtain ⟨c, rfl, k2⟩ := isB_ok k1
    cases r1
    refine ⟨c, rfl, ?_⟩
    cases c with
    | true => exact iteT (k2.here rfl L1.rh)
    | false => exact iteF (hb ρ1 us h1 σ H1 Q L1 k2))
theorem x_one {op : BoolOp} (ha : Ex X W a ca) : Ex X W (.BoolOp op [a] pos) ca := .mk fun ρ us h σ H Q L k => eW_of (pe_one peW) (ha ρ us h σ H Q L k)
theorem x_not (ha : Ex X W a ca) : Ex X W (.UnaryOp .Not a pos) (eNot ca) := .mk fun ρ us h σ H Q L k =>
  eW_of (pe_not peW) (ha.run L k fun x h1 ρ1 v H1 _ g1 r1 L1 k1 => by
    obtain ⟨c, rfl, k2⟩ := isB_ok k1
    cases r1
    exact ⟨c, rfl, k2.here rfl L1.rh⟩)
theorem x_if (hc : Tx X W c ct) (ha : Ex X W a ca) (hb : Ex X W b cb) : Ex X W (.IfExp c a b pos) (eIf ct ca cb) := .mk fun ρ us h σ H Q L k =>
  eW_of (pe_ifExp ptW peW peW) (hc.run L k fun d h1 ρ1 v H1 _ g1 r1 L1 k1 => by
    subst r1
    cases v with
    | true => exact iteT (ha ρ1 us h1 σ H1 Q L1 k1)
    | false => exact iteF (hb ρ1 us h1 σ H1 Q L1 k1))

/-! ### tests -/
theorem t_tru (ha : Ex X W a ca) (he : ∀ whole, isTrue a X.env whole = (do let v ← whole; standAt a.pos; holding [v] (truthy v)) := by intro _; rfl) : Tx X W a (tTru ca) := .mk fun ρ us h σ H Q L k =>
  tW_of (pt_truth peW he) (ha.run L k fun x h1 ρ1 v H1 _ g1 r1 L1 k1 => by
    obtain ⟨u, h', e, q⟩ := k1.lft
    unfold truU at e
    split at e
    · cases e; cases r1
      exact ⟨false, rfl, q _ _ _ Gw.refl rfl L1.rh⟩
    · cases e; cases r1
      exact ⟨_, rfl, q _ _ _ Gw.refl rfl L1.rh⟩
    · cases e; cases r1
      exact ⟨_, rfl, q _ _ _ Gw.refl rfl L1.rh⟩
    · cases r1
      split at e
      · rename_i hl
        cases e
        exact ⟨_, ⟨hl, rfl⟩, q _ _ _ Gw.refl rfl L1.rh⟩
      · cases e
    · split at e
      · rename_i xs e1
        cases e
        obtain ⟨a, vs, rfl, ea, ha, ra⟩ := L1.rh.lst r1 e1
        refine ⟨!vs.isEmpty, .inl ⟨vs, SqL.of ha, rfl⟩, q _ _ _ Gw.refl ?_ L1.rh⟩
        cases ra <;> rfl
      · cases e
    · cases e)
/-- a test that is a comparison's chain -/
theorem t_val (ha : Ex X W a ca) (he : ∀ whole, isTrue a X.env whole = (do let v ← whole; standAt a.pos; holding [v] (truthy v)) := by intro _; rfl) : Tx X W a (tB' ca) := .mk fun ρ us h σ H Q L k =>
  tW_of (pt_val peW he) (ha.run L k fun x h1 ρ1 v H1 _ g1 r1 L1 k1 => by
    cases x with
    | bl c =>
      cases r1
      exact ⟨c, rfl, k1 ρ1 c H1 Gw.refl rfl L1.rh⟩
    | _ => exact absurd k1 id)
theorem t_chainT {op op' : CmpOp} {m m' : O2} (ho : OpS X (compareOp op) m) (ho' : OpS X (compareOp op') m') (ha : Ex X W a ca) (hb : Ex X W b cb) (hc : Ex X W c cc) (hm : lastMarks [op, op'] [b, c] = false := by rfl) :
    Tx X W (.Compare a [op, op'] [b, c] pos) (tB' (eChain m m' ca cb cc)) := .mk fun ρ us h σ H Q L k => by
  refine tW_of (pt_chain or_W or_W peW peW peW hm) ?_
  have k' : Af X W (RV X.mg) ρ H σ (eChain m m' ca cb cc us h) (fun x H' => ∃ k, x = .bl k ∧ Q k H') := by
    unfold tB' at k
    cases e : eChain m m' ca cb cc us h with
    | ok x h1 =>
      rw [e] at k
      have k2 : Af X W (fun _ (a b : Bool) => b = a) ρ H σ (isB x h1) Q := k
      cases x with
      | bl c => exact fun ρ' b H' g r rh => by cases r; exact ⟨c, rfl, k2 ρ' c H' g rfl rh⟩
      | _ => exact absurd k2 id
    | exc x h1 => rw [e] at k; exact k
    | bad => rw [e] at k; exact k
  refine ha.run L k' fun x h1 ρ1 v H1 _ g1 r1 L1 k1 => hb.run L1 k1 fun y h2 ρ2 w H2 _ g2 r2 L2 k2 => ?_
  cases e : m x y h2 with
  | none => rw [e] at k2; exact absurd k2 id
  | some uh =>
    obtain ⟨u, h3⟩ := uh
    rw [e] at k2
    refine ho _ ρ2 h2 H2 x y v w _ u h3 L2.rh (r1.gw g2) r2 e fun ρ3 z H3 g3 r3 rh3 => ?_
    obtain ⟨b, rfl, k3⟩ := isB_ok (show Af X W (RV X.mg) ρ2 H2 σ ((isB u h3).bind _) _ from k2)
    cases r3
    refine ⟨b, rfl, ?_⟩
    cases b with
    | false => exact iteF (k3.gw g3 |>.here rfl rh3)
    | true =>
      refine iteT ?_
      have k4 := k3.gw g3
      exact hc.run (L2.gw g3 rh3) (show Af X W (RV X.mg) ρ3 H3 σ ((cc us h3).bind fun w h5 => lft (m' y w h5)) _ from k4) fun z h5 ρ5 v5 H5 _ g5 r5 L5 k5 => by
        obtain ⟨u, h', e, q⟩ := k5.lft
        exact ho' _ ρ5 h5 H5 y z w v5 _ u h' L5.rh ((r2.gw g3).gw g5) r5 e q
theorem t_not (ha : Tx X W a ct) : Tx X W (.UnaryOp .Not a pos) (tNot ct) := .mk fun ρ us h σ H Q L k =>
  tW_of (pt_not ptW) (ha.run L k fun x h1 ρ1 v H1 _ g1 r1 L1 k1 => by
    subst r1
    exact k1.here rfl L1.rh)
theorem t_w (ha : Wx X W a ct) : Tx X W a ct := .mk fun ρ us h σ H Q L k => tW_of (PW.pt pwW) (ha ρ us h σ H Q L k)
theorem w_and1 (ha : Tx X W a ct) : Wx X W (.BoolOp .And [a] pos) ct := .mk fun ρ us h σ H Q L k => wW_of (pw_and1 ptW) (ha ρ us h σ H Q L k)
theorem w_or1 (ha : Tx X W a ct) : Wx X W (.BoolOp .Or [a] pos) ct := .mk fun ρ us h σ H Q L k => wW_of (pw_or1 ptW) (ha ρ us h σ H Q L k)
theorem w_and {rest : List Expr} (ha : Tx X W a ct) (hb : Wx X W (.BoolOp .And (b :: rest) pos) tb) : Wx X W (.BoolOp .And (a :: b :: rest) pos) (tAnd ct tb) := .mk fun ρ us h σ H Q L k =>
  wW_of (pw_and ptW pwW) (ha.run L k fun x h1 ρ1 v H1 _ g1 r1 L1 k1 => by
    subst r1
    cases v with
    | true => exact iteT (hb ρ1 us h1 σ H1 Q L1 k1)
    | false => exact iteF (k1.here rfl L1.rh))
theorem w_or {rest : List Expr} (ha : Tx X W a ct) (hb : Wx X W (.BoolOp .Or (b :: rest) pos) tb) : Wx X W (.BoolOp .Or (a :: b :: rest) pos) (tOr ct tb) := .mk fun ρ us h σ H Q L k =>
  wW_of (pw_or ptW pwW) (ha.run L k fun x h1 ρ1 v H1 _ g1 r1 L1 k1 => by
    subst r1
    cases v with
    | true => exact iteT (k1.here rfl L1.rh)
    | false => exact iteF (hb ρ1 us h1 σ H1 Q L1 k1))

/-! ### arguments, displays, built-ins by values -/
theorem a_nil : Ax X W [] aNil := .mk fun ρ us h σ H Q L k => aW_of pa_nil (k.here .nil L.rh)
theorem a_cons (ha : Ex X W e ca) (hr : Ax X W es cs) (hs : starEach (e :: es) X.env = (false, eval e X.env) :: starEach es X.env := by rfl) : Ax X W (e :: es) (aCons ca cs) := .mk fun ρ us h σ H Q L k =>
  aW_of (pa_cons peW paW hs) (ha.run L k fun x h1 ρ1 v H1 _ g1 r1 L1 k1 => hr.run L1 k1 fun xs h2 ρ2 vs H2 _ g2 r2 L2 k2 => k2.here (.cons (r1.gw g2) r2) L2.rh)
theorem x_tup {n : Nat} (h : Ax X W es cs) : Ex X W (.Tuple es n pos) (eTup cs) := .mk fun ρ us h' σ H Q L k =>
  eW_of (pe_tup paW) (h.run L k fun xs h1 ρ1 vs H1 _ g1 r1 L1 k1 => by
    obtain ⟨u, h', e, q⟩ := k1.lft
    unfold mTup at e
    split at e
    · rename_i hl
      cases e
      exact ⟨by rw [← r1.length]; exact hl, fun p hp => NQ.new q L1.rh hp fun ρ' g => ⟨vs, rfl, r1.gw g⟩⟩
    · cases e)
theorem x_lst (h : Ax X W es cs) : Ex X W (.List es pos) (eLst cs) := .mk fun ρ us h' σ H Q L k =>
  eW_of (pe_lst paW) (h.run L k fun xs h1 ρ1 vs H1 _ g1 r1 L1 k1 => by
    obtain ⟨u, h', e, q⟩ := k1.lft
    unfold mLst at e
    split at e
    · rename_i hl
      cases e
      exact ⟨by rw [← r1.length]; exact hl, fun p hp => NQ.new q L1.rh hp fun ρ' g => ⟨vs, rfl, r1.gw g⟩⟩
    · cases e)
theorem x_d0 : Ex X W (.Dict [] [] pos) eD0 := .mk fun ρ us h σ H Q L k =>
  eW_of pe_dnewK fun p hp => NQ.new (show NQ W.T X ρ H _ _ Q from k) L.rh hp fun ρ' g => ⟨[], rfl, .nil⟩
def kW (X : Cx) (f : Value) : List V → Hp → VK → Prop := fun xs H Q => ∀ pins s σ us, Inv X pins σ H s → Vals xs us → wpAny (model X.prog X.w) X.A (call f us) (EP X pins σ Q) X.xe s
theorem cr_W {f : Value} : CallR X f (kW X f) := fun pins s σ H xs us Q I r q => q pins s σ us I r
theorem kW_of {f : Value} {r : List V → Hp → VK → Prop} {xs : List V} {Q : VK} (h : CallR X f r) (q : r xs H Q) : kW X f xs H Q := fun pins s σ us I rx => h pins s σ H xs us Q I rx q
structure CbS (X : Cx) (f : Value) (m : ON) : Prop where
  cbs_ : ∀ T ρ h H xs vs Q u h', RH T X.mg ρ h H → RVs X.mg ρ xs vs → m xs h = some (u, h') → NQ T X ρ H u h' Q → kW X f vs H Q
instance (X : Cx) (f : Value) (m : ON) : CoeFun (CbS X f m) (fun _ => ∀ T ρ h H xs vs Q u h', RH T X.mg ρ h H → RVs X.mg ρ xs vs → m xs h = some (u, h') → NQ T X ρ H u h' Q → kW X f vs H Q) := ⟨CbS.cbs_⟩
theorem x_callB {x : Str} {id : String} {m : ON} (hc : CbS X (.builtin id) m) (hm : X.mg x = none) (hv : bootBuiltins x = some (.builtin id)) (ha : Ax X W (e :: es) cs) (hg : Gl X x := by rfl) (hn : x ≠ "__name__" := by decide) (hdb : (x == ("__debug__" : Str)) = false := by decide)
    (he : starEach (e :: es) X.env = (false, eval e X.env) :: starEach es X.env := by rfl) (hpl : (backTo pos (starEach es X.env)).any (·.1) = false := by rfl) : Ex X W (.Call (.Name x p) (e :: es) [] pos) (eCb m cs) := .mk fun ρ us h σ H Q L k =>
  eW_of (pe_callB cr_W hg hm hv paW hn hdb he hpl) (ha.run L k fun xs h1 ρ1 vs H1 _ g1 r1 L1 k1 => by
    obtain ⟨u, h', e, q⟩ := k1.lft
    exact hc _ ρ1 h1 H1 xs vs Q u h' L1.rh r1 e q)
theorem x_callTy {x : Str} {id : String} {m : ON} (hc : CbS X (.type id) m) (hm : X.mg x = none) (hv : bootBuiltins x = some (.type id)) (ha : Ax X W (e :: es) cs) (hg : Gl X x := by rfl) (hn : x ≠ "__name__" := by decide) (hdb : (x == ("__debug__" : Str)) = false := by decide)
    (he : starEach (e :: es) X.env = (false, eval e X.env) :: starEach es X.env := by rfl) (hpl : (backTo pos (starEach es X.env)).any (·.1) = false := by rfl) : Ex X W (.Call (.Name x p) (e :: es) [] pos) (eCb m cs) := .mk fun ρ us h σ H Q L k =>
  eW_of (pe_callTy cr_W hg hm hv paW hn hdb he hpl) (ha.run L k fun xs h1 ρ1 vs H1 _ g1 r1 L1 k1 => by
    obtain ⟨u, h', e, q⟩ := k1.lft
    exact hc _ ρ1 h1 H1 xs vs Q u h' L1.rh r1 e q)
end

/-! ### in, not in, is, is not -/
def opIn : O2 := fun x y h => (inB x y h).map fun b => (.bl b, h)
def opNin : O2 := fun x y h => (inB x y h).map fun b => (.bl (!b), h)
def opIsN : O2 := fun x y h => match y with | .non => some (.bl (decide (x = .non)), h) | .bl b => (match x with | .bl a => some (.bl (decide (a = b)), h) | _ => none) | _ => none
def opNotN : O2 := fun x y h => match y with | .non => some (.bl (!decide (x = .non)), h) | .bl b => (match x with | .bl a => some (.bl (!decide (a = b)), h) | _ => none) | _ => none
section
variable {X : Cx}
theorem dget_of {mg : Str → Option Value} {ρ : List Addr} {H : Hp} {a : Addr} {ws : List (Key × V)} {kvs : List (Key × U)} {k : Key} (hd : Rd H a (.dK ws)) (r : RKV mg ρ kvs ws) : ∃ o, DGet H a (L2.kV k) o ∧ o.isSome = (getK kvs k).isSome ∧ ∀ u, getK kvs k = some u → ∃ v, o = some v ∧ RV mg ρ u v := by
  obtain ⟨h1, h2⟩ := val_rv (k := k) r
  refine ⟨valV ws k, .inl ⟨ws, k, hd, rfl, rfl⟩, ?_, fun u e => ?_⟩
  · cases e : getK kvs k with
    | none => rw [h1 e]; rfl
    | some u => obtain ⟨v, hv, _⟩ := h2 u e; rw [hv]; rfl
  · obtain ⟨v, hv, r⟩ := h2 u e
    exact ⟨v, hv, r⟩
theorem inB_ok {ρ : List Addr} {h : Hh} {H : Hp} {x y : U} {v w : V} {b : Bool} (hu : X.A.units + 1 < cLine) (rh : RH T X.mg ρ h H) (rx : RV X.mg ρ x v) (ry : RV X.mg ρ y w) (e : inB x y h = some b) {Q : VK} :
    (Q (.bl b) H → oW X (compareOp .In) v w H Q) ∧ (Q (.bl (!b)) H → oW X (compareOp .NotIn) v w H Q) := by
  unfold inB at e
  split at e
  · cases ry
    split at e
    · cases e; cases rx
      exact ⟨fun q => oW_of op_in_str ⟨_, _, rfl, rfl, q⟩, fun q => oW_of op_notin_str ⟨_, _, rfl, rfl, q⟩⟩
    · cases e
  · split at e
    · rename_i ys e1
      split at e
      · rename_i hf
        cases e
        simp only [Bool.and_eq_true] at hf
        obtain ⟨a, vs, rfl, ea, ha, ra⟩ := rh.lst ry e1
        have ei := in_rv rx hf.1 ra hf.2
        exact ⟨fun q => oW_of op_in_seq ⟨a, vs, rfl, .inl (SqL.of ha), flat_rv rx hf.1, flats_rv ra hf.2, by rw [ei]; exact q⟩, fun q => oW_of op_notIn_seq ⟨a, vs, rfl, .inl (SqL.of ha), flat_rv rx hf.1, flats_rv ra hf.2, by rw [ei]; exact q⟩⟩
      · cases e
    · rename_i ys e1
      split at e
      · rename_i hf
        cases e
        simp only [Bool.and_eq_true] at hf
        obtain ⟨a, vs, rfl, ea, ha, ra⟩ := rh.tup ry e1
        have ei := in_rv rx hf.1 ra hf.2
        exact ⟨fun q => oW_of op_in_seq ⟨a, vs, rfl, .inr (SqT.of ha), flat_rv rx hf.1, flats_rv ra hf.2, by rw [ei]; exact q⟩, fun q => oW_of op_notIn_seq ⟨a, vs, rfl, .inr (SqT.of ha), flat_rv rx hf.1, flats_rv ra hf.2, by rw [ei]; exact q⟩⟩
      · cases e
    · rename_i lk kvs e1
      cases ek : keyU x with
      | none => rw [ek] at e; cases e
      | some k =>
        rw [ek] at e
        cases e
        obtain ⟨a, ws, rfl, ea, ha, ra⟩ := rh.dic ry e1
        cases key_rv rx ek
        obtain ⟨o, g, eo, _⟩ := dget_of (k := k) ha ra
        rw [← has_get] at eo
        refine ⟨fun q pins s σ v' u' I rv rw' => ?_, fun q pins s σ v' u' I rv rw' => ?_⟩
        · cases rw'
          exact d_in hu I g rv fun s' I' => ⟨.bl o.isSome, H, I', rfl, by rw [eo]; exact q⟩
        · cases rw'
          exact d_notIn hu I g rv fun s' I' => ⟨.bl (!o.isSome), H, I', rfl, by rw [eo]; exact q⟩
    · cases e
  · cases e
theorem os_in (hu : X.A.units + 1 < cLine) : OpS X (compareOp .In) opIn := by
  refine .mk ?_
  intro T ρ h H x y v w Q u h' rh rx ry e k
  unfold opIn at e
  cases eb : inB x y h with
  | none => rw [eb] at e; cases e
  | some b =>
    rw [eb] at e
    cases e
    exact (inB_ok hu rh rx ry eb).1 (k.flat rh rfl)
theorem os_nin (hu : X.A.units + 1 < cLine) : OpS X (compareOp .NotIn) opNin := by
  refine .mk ?_
  intro T ρ h H x y v w Q u h' rh rx ry e k
  unfold opNin at e
  cases eb : inB x y h with
  | none => rw [eb] at e; cases e
  | some b =>
    rw [eb] at e
    cases e
    exact (inB_ok hu rh rx ry eb).2 (k.flat rh rfl)
theorem non_rv {mg : Str → Option Value} {ρ : List Addr} : ∀ {u : U} {v : V}, RV mg ρ u v → decide (v = .non) = decide (u = .non)
  | .non, _, r => by cases r; rfl
  | .bl _, _, r => by cases r; rfl
  | .int _, _, r => by cases r; rfl
  | .str _, _, r => by cases r; rfl
  | .ty _, _, r => by cases r; rfl
  | .loc _, _, r => by obtain ⟨a, _, rfl⟩ := r; rfl
  | .glo _, _, r => by obtain ⟨a, _, rfl⟩ := r; rfl
theorem os_is : OpS X (compareOp .Is) opIsN := by
  refine .mk ?_
  intro T ρ h H x y v w Q u h' rh rx ry e k
  unfold opIsN at e
  split at e
  · cases e; cases ry
    exact oW_of op_isN ⟨rfl, by rw [non_rv rx]; exact k.flat rh rfl⟩
  · cases ry
    split at e
    · cases e; cases rx
      exact oW_of op_isBl ⟨_, _, rfl, rfl, k.flat rh rfl⟩
    · cases e
  · cases e
theorem os_isnot : OpS X (compareOp .IsNot) opNotN := by
  refine .mk ?_
  intro T ρ h H x y v w Q u h' rh rx ry e k
  unfold opNotN at e
  split at e
  · cases e; cases ry
    exact oW_of op_notN ⟨rfl, by rw [non_rv rx]; exact k.flat rh rfl⟩
  · cases ry
    split at e
    · cases e; cases rx
      exact oW_of op_notBl ⟨_, _, rfl, rfl, k.flat rh rfl⟩
    · cases e
  · cases e
end
end Mx
end
section
set_option maxHeartbeats 4000000
namespace Mx
open PySem L2
open NdefX (NTab TabsN TabN)
/-! ### subscripts -/
def opIx : O2 := fun x y h =>
  match x with
  | .str z =>
    match y with
    | .int i => if z.length ≤ sizeLine then (atI z.cps.toList i).map fun c => (.str ⟨#[c]⟩, h) else none
    | _ => none
  | .loc p =>
    match h.get p with
    | some (.lst xs) => (match y with | .int i => (atI xs i).map fun u => (u, h) | _ => none)
    | some (.tup xs) => (match y with | .int i => (atI xs i).map fun u => (u, h) | _ => none)
    | some (.dic _ kvs) => (keyU y).bind fun k => (getK kvs k).map fun u => (u, h)
    | _ => none
  | _ => none
theorem Pget {α β : Type} {F : α → β → Prop} : ∀ {l : List α} {m : List β} {i : Nat} {a : α}, Paired F l m → l[i]? = some a → ∃ b, m[i]? = some b ∧ F a b
  | _, _, _, _, .nil, e => by simp at e
  | _, _, 0, _, .cons r _, e => by
    simp only [List.getElem?_cons_zero, Option.some.injEq] at e
    subst e
    exact ⟨_, rfl, r⟩
  | _, _, i + 1, a, .cons _ t, e => by
    obtain ⟨b, h1, h2⟩ := Pget (i := i) (a := a) t (by simpa using e)
    exact ⟨b, by simpa using h1, h2⟩
theorem atI_rv {mg : Str → Option Value} {ρ : List Addr} {us : List U} {vs : List V} {i : Int} {u : U} (r : RVs mg ρ us vs) (e : atI us i = some u) : ∃ v, atI vs i = some v ∧ RV mg ρ u v := by
  unfold atI at e ⊢
  rw [← r.length]
  cases q : ixN us.length i with
  | none => rw [q] at e; cases e
  | some j =>
    rw [q] at e
    exact Pget r e
section
variable {X : Cx} {W : Wp} {e a b c : Expr} {es : List Expr} {ca cb cc : EM} {ct tb : TM} {cs : AM} {pos p apos cpos : Pos}
theorem x_ix (hu : X.A.units + 1 < cLine) (ha : Ex X W a ca) (hb : Ex X W b cb) (hs : PlainIx b := by exact fun _ _ => rfl) (hs2 : NoSl b := by exact fun _ _ => rfl) : Ex X W (.Subscript a b pos) (eBin opIx ca cb) := .mk fun ρ us h σ H Q L k => by
  by_cases hd : ∃ p h1 y h2 lk kvs, ca us h = .ok (.loc p) h1 ∧ cb us h1 = .ok y h2 ∧ h2.get p = some (.dic lk kvs)
  · obtain ⟨p, h1, y, h2, lk, kvs, e1, e2, e3⟩ := hd
    refine eW_of (pe_dget hu peW peW hs2) (ha.run L k fun x h1' ρ1 v H1 f1 g1 r1 L1 k1 => hb.run L1 k1 fun y' h2' ρ2 w H2 f2 g2 r2 L2 k2 => ?_)
    rw [e1] at f1
    cases f1
    rw [e2] at f2
    cases f2
    obtain ⟨u, h', e, q⟩ := k2.lft
    unfold opIx at e
    simp only [e3] at e
    cases ek : keyU y with
    | none => rw [ek] at e; cases e
    | some kk =>
      rw [ek] at e
      have e : (getK kvs kk).map (fun u => (u, h2)) = some (u, h') := e
      cases eg : getK kvs kk with
      | none => rw [eg] at e; cases e
      | some z =>
        rw [eg] at e
        cases e
        obtain ⟨d, ws, rfl, ea, hda, ra⟩ := L2.rh.dic (r1.gw g2) e3
        cases key_rv r2 ek
        obtain ⟨o, g, _, ho⟩ := dget_of (k := kk) hda ra
        obtain ⟨v', rfl, rv⟩ := ho _ eg
        exact ⟨d, v', rfl, g, NQ.flat q L2.rh rv⟩
  · refine eW_of (pe_ix ix_seq peW peW hs) (ha.run L k fun x h1 ρ1 v H1 f1 g1 r1 L1 k1 => hb.run L1 k1 fun y h2 ρ2 w H2 f2 g2 r2 L2 k2 => ?_)
    obtain ⟨u, h', e, q⟩ := k2.lft
    unfold opIx at e
    split at e
    · cases r1
      split at e
      · cases r2
        split at e
        · rename_i hl
          cases ea : atI _ _ with
          | none => rw [ea] at e; cases e
          | some c =>
            rw [ea] at e
            cases e
            exact .inr (.inr ⟨_, _, c, rfl, rfl, hl, ea, NQ.flat q L2.rh rfl⟩)
        · cases e
      · cases e
    · split at e
      · rename_i xs e1
        split at e
        · cases r2
          obtain ⟨d, vs, rfl, ed, hda, ra⟩ := L2.rh.lst (r1.gw g2) e1
          cases ea : atI xs _ with
          | none => rw [ea] at e; cases e
          | some c =>
            rw [ea] at e
            cases e
            obtain ⟨v, hv, rv⟩ := atI_rv ra ea
            exact .inl ⟨d, vs, _, v, rfl, rfl, SqL.of hda, hv, NQ.flat q L2.rh rv⟩
        · cases e
      · rename_i xs e1
        split at e
        · cases r2
          obtain ⟨d, vs, rfl, ed, hda, ra⟩ := L2.rh.tup (r1.gw g2) e1
          cases ea : atI xs _ with
          | none => rw [ea] at e; cases e
          | some c =>
            rw [ea] at e
            cases e
            obtain ⟨v, hv, rv⟩ := atI_rv ra ea
            exact .inr (.inl ⟨d, vs, _, v, rfl, rfl, SqT.of hda, hv, NQ.flat q L2.rh rv⟩)
        · cases e
      · rename_i lk kvs e1
        exact absurd ⟨_, _, _, _, lk, kvs, f1, f2, e1⟩ hd
      · cases e
    · cases e
end

/-! ### slices -/
def asI (x : U) (h : Hh) : Res Int := match x with | .int i => .ok i h | _ => .bad
def pN : Sl → Hh → Res (Option Int) := fun _ h => .ok none h
def pS (a : EM) : Sl → Hh → Res (Option Int) := fun us h => (a us h).bind fun x h1 => (asI x h1).bind fun i h2 => .ok (some i) h2
def cutU (xs : List U) (lo hi : Option Int) : List U := (xs.drop (HT.sIx xs.length 0 lo)).take (HT.sIx xs.length xs.length hi - HT.sIx xs.length 0 lo)
def mSl (x : U) (lo hi : Option Int) (h : Hh) : Option (U × Hh) :=
  match x with
  | .str z => if z.length ≤ sizeLine then some (.str (cutS z lo hi), h) else none
  | .loc p =>
    match h.get p with
    | some (.lst xs) => some (.loc h.size, h.push (.lst (cutU xs lo hi)))
    | some (.frl ns) => some (.loc h.size, h.push (.lst (cutU (ns.map U.int) lo hi)))
    | _ => none
  | _ => none
def eSl (a : EM) (lo hi : Sl → Hh → Res (Option Int)) : EM := fun us h => (a us h).bind fun x h1 => (lo us h1).bind fun l h2 => (hi us h2).bind fun u h3 => lft (mSl x l u h3)
def mRev (x : U) (h : Hh) : Option (U × Hh) :=
  match x with
  | .loc p => (match h.get p with | some (.lst xs) => some (.loc h.size, h.push (.lst xs.reverse)) | _ => none)
  | _ => none
def poW (X : Cx) (e : Option Expr) : TO := fun σ H Q => ∀ pins s, Inv X pins σ H s → wpAny (model X.prog X.w) X.A (evalPart e X.env) (fun u s' => ∃ o H', Inv X pins σ H' s' ∧ IsPart u o ∧ Q o H') X.xe s
theorem poWp {X : Cx} {e : Option Expr} : PO X e (poW X e) := ⟨fun pins s _ _ _ I h => h pins s I⟩
theorem poW_of {X : Cx} {e : Option Expr} {t : TO} {σ : St} {H : Hp} {Q : Option Int → Hp → Prop} (h : PO X e t) (q : t σ H Q) : poW X e σ H Q := fun pins s I => h.run pins s σ H Q I q
abbrev Px (X : Cx) (W : Wp) (e : Option Expr) (c : Sl → Hh → Res (Option Int)) : Prop := Jd X W (fun _ (a b : Option Int) => b = a) (poW X e) c
theorem Ptake {α β : Type} {F : α → β → Prop} : ∀ {l : List α} {m : List β} (n : Nat), Paired F l m → Paired F (l.take n) (m.take n)
  | _, _, 0, _ => .nil
  | _, _, _ + 1, .nil => .nil
  | _, _, n + 1, .cons r t => .cons r (Ptake n t)
theorem Pdrop {α β : Type} {F : α → β → Prop} : ∀ {l : List α} {m : List β} (n : Nat), Paired F l m → Paired F (l.drop n) (m.drop n)
  | _, _, 0, r => r
  | _, _, _ + 1, .nil => .nil
  | _, _, n + 1, .cons _ t => Pdrop n t
theorem Prev {α β : Type} {F : α → β → Prop} : ∀ {l : List α} {m : List β}, Paired F l m → Paired F l.reverse m.reverse
  | _, _, .nil => .nil
  | _, _, .cons r t => by
    rw [List.reverse_cons, List.reverse_cons]
    exact Papp (Prev t) (.cons r .nil)
theorem ints_rv {mg : Str → Option Value} {ρ : List Addr} : ∀ ns : List Int, RVs mg ρ (ns.map U.int) (ns.map V.int)
  | [] => .nil
  | _ :: ns => .cons rfl (ints_rv ns)
section
variable {X : Cx} {W : Wp} {e a b c : Expr} {es : List Expr} {ca cb cc : EM} {ct tb : TM} {cs : AM} {pos p p2 p3 apos cpos : Pos}
theorem p_none : Px X W none pN := .mk fun ρ us h σ H Q L k => poW_of po_none (k.here rfl L.rh)
theorem p_some (ha : Ex X W a ca) : Px X W (some a) (pS ca) := .mk fun ρ us h σ H Q L k => poW_of (po_some peW) (ha.run L k fun x h1 ρ1 v H1 _ g1 r1 L1 k1 => by
  cases x with
  | int i =>
    cases r1
    exact ⟨i, rfl, k1.here rfl L1.rh⟩
  | _ => exact absurd k1 id)
theorem cut_rv {mg : Str → Option Value} {ρ : List Addr} {us : List U} {vs : List V} {lo hi : Option Int} (r : RVs mg ρ us vs) : RVs mg ρ (cutU us lo hi) (cutV vs lo hi) := by
  unfold cutU cutV
  rw [r.length]
  exact Ptake _ (Pdrop _ r)
theorem x_slice {lo hi : Option Expr} {cl ch : Sl → Hh → Res (Option Int)} (ha : Ex X W a ca) (hl : Px X W lo cl) (hh : Px X W hi ch) : Ex X W (.Subscript a (.Slice lo hi none p2) pos) (eSl ca cl ch) := .mk fun ρ us h σ H Q L k =>
  eW_of (pe_slice (SlR.or sl_list sl_str) peW poWp poWp) (ha.run L k fun x h1 ρ1 v H1 _ g1 r1 L1 k1 => hl.run L1 k1 fun l h2 ρ2 l' H2 _ g2 r2 L2 k2 => hh.run L2 k2 fun u h3 ρ3 u' H3 _ g3 r3 L3 k3 => by
    subst r2 r3
    obtain ⟨w, h', e, q⟩ := k3.lft
    have r1 := (r1.gw g2).gw g3
    unfold mSl at e
    split at e
    · cases r1
      split at e
      · rename_i hz
        cases e
        exact .inr ⟨_, rfl, hz, NQ.flat q L3.rh rfl⟩
      · cases e
    · split at e
      · rename_i xs e1
        cases e
        obtain ⟨d, vs, rfl, ed, hd, ra⟩ := L3.rh.lst r1 e1
        exact .inl ⟨d, vs, rfl, SqL.of hd, fun p hp => NQ.new q L3.rh hp fun ρ' g => ⟨_, rfl, cut_rv (ra.gw g)⟩⟩
      · rename_i ns e1
        cases e
        obtain ⟨d, O, rfl, ed, hd, o, rfl⟩ := L3.rh.ref r1 e1
        exact .inl ⟨d, ns.map V.int, rfl, .inl (.inr ⟨o, hd⟩), fun p hp => NQ.new q L3.rh hp fun ρ' g => ⟨_, rfl, cut_rv (ints_rv ns)⟩⟩
      · cases e
    · cases e)
theorem x_rev {kk : Nat} {p4 : Pos} (ha : Ex X W a ca) : Ex X W (.Subscript a (.Slice none none (some (.UnaryOp .USub (.Constant (.int 1) kk p2) p3)) p4) pos) (eUn mRev ca) := .mk fun ρ us h σ H Q L k =>
  eW_of (pe_revL peW) (ha.run L k fun x h1 ρ1 v H1 _ g1 r1 L1 k1 => by
    obtain ⟨w, h', e, q⟩ := k1.lft
    unfold mRev at e
    split at e
    · split at e
      · rename_i xs e1
        cases e
        obtain ⟨d, vs, rfl, ed, hd, ra⟩ := L1.rh.lst r1 e1
        exact ⟨d, vs, rfl, SqL.of hd, fun p hp => NQ.new q L1.rh hp fun ρ' g => ⟨_, rfl, Prev (ra.gw g)⟩⟩
      · cases e
    · cases e)
end

/-! ### built-in functions -/
def allI : List U → Option (List Int)
  | [] => some []
  | .int i :: r => (allI r).map (i :: ·)
  | _ :: _ => none
def allB : List U → Option (List Bool)
  | [] => some []
  | .bl i :: r => (allB r).map (i :: ·)
  | _ :: _ => none
def allS : List U → Option (List Str)
  | [] => some []
  | .str i :: r => (allS r).map (i :: ·)
  | _ :: _ => none
def keyV : Key → U
  | .inl i => .int i
  | .inr x => .str x
def lstAt (x : U) (h : Hh) : Option (List U) :=
  match x with
  | .loc p => (match h.get p with | some (.lst xs) => some xs | _ => none)
  | _ => none
def mLen : ON := fun xs h =>
  match xs with
  | [.str z] => if z.length ≤ sizeLine then some (.int z.length, h) else none
  | [.loc p] =>
    match h.get p with
    | some (.lst xs) => some (.int xs.length, h)
    | some (.tup xs) => some (.int xs.length, h)
    | some (.dic false kvs) => some (.int kvs.length, h)
    | _ => none
  | _ => none
def mAbs : ON := fun xs h => match xs with | [.int i] => some (.int (if i < 0 then -i else i), h) | _ => none
def mMin : ON := fun xs h => match xs with | [.int i, .int j] => some (.int (if j < i then j else i), h) | _ => none
def mMax : ON := fun xs h => match xs with | [.int i, .int j] => some (.int (if j > i then j else i), h) | _ => none
def mInt : ON := fun xs h => match xs with | [.int i] => some (.int i, h) | [.bl b] => some (.int (if b then 1 else 0), h) | [.str z] => if z.length ≤ 640 then (PySem.intText? z).map fun n => (.int n, h) else none | _ => none
def mStr : ON := fun xs h => match xs with | [.int i] => if i.natAbs.log2 < 1920 then some (.str (toString i), h) else none | _ => none
def mSum : ON := fun xs h => match xs with | [x] => (lstAt x h).bind fun ys => (allI ys).map fun ns => (.int ns.sum, h) | _ => none
def mAll : ON := fun xs h => match xs with | [x] => (lstAt x h).bind fun ys => (allB ys).map fun ns => (.bl (ns.all id), h) | _ => none
def mAny : ON := fun xs h => match xs with | [x] => (lstAt x h).bind fun ys => (allB ys).map fun ns => (.bl (ns.any id), h) | _ => none
def mList : ON := fun xs h =>
  match xs with
  | [.loc p] =>
    match h.get p with
    | some (.lst xs) => some (.loc h.size, h.push (.lst xs))
    | some (.tup xs) => some (.loc h.size, h.push (.lst xs))
    | some (.dic _ kvs) => some (.loc h.size, h.push (.lst (kvs.map fun kv => keyV kv.1)))
    | _ => none
  | _ => none
def mDict : ON := fun xs h =>
  match xs with
  | [.loc p] => (match h.get p with | some (.dic _ kvs) => some (.loc h.size, h.push (.dic false kvs)) | _ => none)
  | _ => none
section
variable {X : Cx}
theorem allI_rv {mg : Str → Option Value} {ρ : List Addr} : ∀ {us : List U} {vs : List V} {ns : List Int}, RVs mg ρ us vs → allI us = some ns → vs = ns.map V.int
  | _, _, _, .nil, e => by cases e; rfl
  | _, _, _, .cons (a := u) r t, e => by
    cases u with
    | int i =>
      unfold allI at e
      cases q : allI _ with
      | none => rw [q] at e; cases e
      | some ms => rw [q] at e; cases e; cases r; rw [allI_rv t q]; rfl
    | _ => cases e
theorem allB_rv {mg : Str → Option Value} {ρ : List Addr} : ∀ {us : List U} {vs : List V} {ns : List Bool}, RVs mg ρ us vs → allB us = some ns → vs = ns.map V.bl
  | _, _, _, .nil, e => by cases e; rfl
  | _, _, _, .cons (a := u) r t, e => by
    cases u with
    | bl i =>
      unfold allB at e
      cases q : allB _ with
      | none => rw [q] at e; cases e
      | some ms => rw [q] at e; cases e; cases r; rw [allB_rv t q]; rfl
    | _ => cases e
theorem allS_rv {mg : Str → Option Value} {ρ : List Addr} : ∀ {us : List U} {vs : List V} {ns : List Str}, RVs mg ρ us vs → allS us = some ns → vs = ns.map V.str
  | _, _, _, .nil, e => by cases e; rfl
  | _, _, _, .cons (a := u) r t, e => by
    cases u with
    | str i =>
      unfold allS at e
      cases q : allS _ with
      | none => rw [q] at e; cases e
      | some ms => rw [q] at e; cases e; cases r; rw [allS_rv t q]; rfl
    | _ => cases e
theorem lstAt_rv {mg : Str → Option Value} {ρ : List Addr} {h : Hh} {H : Hp} {x : U} {v : V} {ys : List U} (rh : RH T mg ρ h H) (r : RV mg ρ x v) (e : lstAt x h = some ys) : ∃ a vs, v = .ref a ∧ H a = some (.lst vs) ∧ RVs mg ρ ys vs := by
  unfold lstAt at e
  split at e
  · split at e
    · rename_i e1
      cases e
      obtain ⟨a, vs, rfl, _, ha, ra⟩ := rh.lst r e1
      exact ⟨a, vs, rfl, ha, ra⟩
    · cases e
  · cases e
theorem bind_some' {α β : Type} {o : Option α} {f : α → Option β} {b : β} (e : o.bind f = some b) : ∃ a, o = some a ∧ f a = some b := Option.bind_eq_some_iff.mp e
theorem map_some' {α β : Type} {o : Option α} {f : α → β} {b : β} (e : o.map f = some b) : ∃ a, o = some a ∧ f a = b := Option.map_eq_some_iff.mp e
theorem cs_len : CbS X (.builtin "len") mLen := by
  refine .mk ?_
  intro T ρ h H xs vs Q u h' rh rx e k
  unfold mLen at e
  split at e
  · cases rx with
    | cons r t =>
      cases t; cases r
      split at e
      · rename_i hl
        cases e
        exact kW_of call_len ⟨_, _, rfl, ⟨hl, rfl⟩, k.flat rh rfl⟩
      · cases e
  · cases rx with
    | cons r t =>
      cases t
      split at e
      · rename_i e1
        cases e
        obtain ⟨a, ws, rfl, _, ha, ra⟩ := rh.lst r e1
        exact kW_of call_len ⟨_, _, rfl, .inl ⟨ws, SqL.of ha, ra.length⟩, k.flat rh rfl⟩
      · rename_i e1
        cases e
        obtain ⟨a, ws, rfl, _, ha, ra⟩ := rh.tup r e1
        exact kW_of call_len ⟨_, _, rfl, .inr ⟨ws, SqT.of ha, ra.length⟩, k.flat rh rfl⟩
      · rename_i e1
        cases e
        obtain ⟨a, ws, rfl, _, ha, ra⟩ := rh.dicU r e1
        refine kW_of call_lenD ⟨a, ws, rfl, ha, ?_⟩
        rw [← ra.length]
        exact k.flat rh rfl
      · cases e
  · cases e
theorem cs_abs : CbS X (.builtin "abs") mAbs := by
  refine .mk ?_
  intro T ρ h H xs vs Q u h' rh rx e k
  unfold mAbs at e
  split at e
  · cases e
    cases rx with
    | cons r t => cases t; cases r; exact kW_of call_abs ⟨_, rfl, k.flat rh rfl⟩
  · cases e
theorem cs_min (hc : X.calm = true) : CbS X (.builtin "min") mMin := by
  refine .mk ?_
  intro T ρ h H xs vs Q u h' rh rx e k
  unfold mMin at e
  split at e
  · cases e
    cases rx with
    | cons r t => cases t with | cons r2 t => cases t; cases r; cases r2; exact kW_of (call_min2 hc) ⟨_, _, rfl, k.flat rh rfl⟩
  · cases e
theorem cs_max (hc : X.calm = true) : CbS X (.builtin "max") mMax := by
  refine .mk ?_
  intro T ρ h H xs vs Q u h' rh rx e k
  unfold mMax at e
  split at e
  · cases e
    cases rx with
    | cons r t => cases t with | cons r2 t => cases t; cases r; cases r2; exact kW_of (call_max2 hc) ⟨_, _, rfl, k.flat rh rfl⟩
  · cases e
theorem cs_int : CbS X (.type "int") mInt := by
  refine .mk ?_
  intro T ρ h H xs vs Q u h' rh rx e k
  unfold mInt at e
  split at e
  · cases e
    cases rx with
    | cons r t => cases t; cases r; exact kW_of call_int1 (.inl ⟨_, rfl, k.flat rh rfl⟩)
  · cases e
    cases rx with
    | cons r t => cases t; cases r; exact kW_of call_int1 (.inr ⟨_, rfl, k.flat rh rfl⟩)
  · cases rx with
    | cons r t =>
      cases t; cases r
      split at e
      · rename_i hl
        obtain ⟨n, hn, e⟩ := map_some' e
        cases e
        exact kW_of call_int_str ⟨_, n, rfl, hn, hl, k.flat rh rfl⟩
      · cases e
  · cases e
theorem cs_str : CbS X (.type "str") mStr := by
  refine .mk ?_
  intro T ρ h H xs vs Q u h' rh rx e k
  unfold mStr at e
  split at e
  · cases rx with
    | cons r t =>
      cases t; cases r
      split at e
      · rename_i hl
        cases e
        exact kW_of call_str_int ⟨_, rfl, hl, k.flat rh rfl⟩
      · cases e
  · cases e
theorem cs_sum (hc : X.calm = true) : CbS X (.builtin "sum") mSum := by
  refine .mk ?_
  intro T ρ h H xs vs Q u h' rh rx e k
  unfold mSum at e
  split at e
  · cases rx with
    | cons r t =>
      cases t
      obtain ⟨ys, e1, e⟩ := bind_some' e
      obtain ⟨ns, e2, e⟩ := map_some' e
      cases e
      obtain ⟨a, ws, rfl, ha, ra⟩ := lstAt_rv rh r e1
      cases allI_rv ra e2
      exact kW_of (cr_sum hc) ⟨a, ns, rfl, SqL.of ha, k.flat rh rfl⟩
  · cases e
theorem cs_all (hc : X.calm = true) : CbS X (.builtin "all") mAll := by
  refine .mk ?_
  intro T ρ h H xs vs Q u h' rh rx e k
  unfold mAll at e
  split at e
  · cases rx with
    | cons r t =>
      cases t
      obtain ⟨ys, e1, e⟩ := bind_some' e
      obtain ⟨ns, e2, e⟩ := map_some' e
      cases e
      obtain ⟨a, ws, rfl, ha, ra⟩ := lstAt_rv rh r e1
      cases allB_rv ra e2
      exact kW_of (cr_all hc) ⟨a, ns, rfl, SqL.of ha, k.flat rh rfl⟩
  · cases e
theorem cs_any (hc : X.calm = true) : CbS X (.builtin "any") mAny := by
  refine .mk ?_
  intro T ρ h H xs vs Q u h' rh rx e k
  unfold mAny at e
  split at e
  · cases rx with
    | cons r t =>
      cases t
      obtain ⟨ys, e1, e⟩ := bind_some' e
      obtain ⟨ns, e2, e⟩ := map_some' e
      cases e
      obtain ⟨a, ws, rfl, ha, ra⟩ := lstAt_rv rh r e1
      cases allB_rv ra e2
      exact kW_of (cr_any hc) ⟨a, ns, rfl, SqL.of ha, k.flat rh rfl⟩
  · cases e
theorem keys_rv {mg : Str → Option Value} {ρ : List Addr} : ∀ {us : List (Key × U)} {vs : List (Key × V)}, RKV mg ρ us vs → RVs mg ρ (us.map fun kv => keyV kv.1) (vs.map fun kv => L2.kV kv.1)
  | _, _, .nil => .nil
  | _, _, .cons (a := x) r t => by
    refine .cons ?_ (keys_rv t)
    show RV mg ρ (keyV x.1) (L2.kV _)
    rw [r.1]
    cases x.1 <;> rfl
theorem cs_list (hc : X.calm = true) : CbS X (.type "list") mList := by
  refine .mk ?_
  intro T ρ h H xs vs Q u h' rh rx e k
  unfold mList at e
  split at e
  · cases rx with
    | cons r t =>
      cases t
      split at e
      · rename_i e1
        cases e
        obtain ⟨a, ws, rfl, _, ha, ra⟩ := rh.lst r e1
        exact kW_of call_list_of ⟨a, ws, rfl, .inl (SqL.of ha), fun p hp => k.new rh hp fun ρ' g => ⟨ws, rfl, ra.gw g⟩⟩
      · rename_i e1
        cases e
        obtain ⟨a, ws, rfl, _, ha, ra⟩ := rh.tup r e1
        exact kW_of call_list_of ⟨a, ws, rfl, .inr (SqT.of ha), fun p hp => k.new rh hp fun ρ' g => ⟨ws, rfl, ra.gw g⟩⟩
      · rename_i e1
        cases e
        obtain ⟨a, ws, rfl, _, ha, ra⟩ := rh.dic r e1
        exact kW_of (call_listD hc) ⟨a, ws, rfl, ha, fun p hp => k.new rh hp fun ρ' g => ⟨_, rfl, keys_rv (ra.gw g)⟩⟩
      · cases e
  · cases e
theorem cs_dict : CbS X (.type "dict") mDict := by
  refine .mk ?_
  intro T ρ h H xs vs Q u h' rh rx e k
  unfold mDict at e
  split at e
  · cases rx with
    | cons r t =>
      cases t
      split at e
      · rename_i e1
        cases e
        obtain ⟨a, ws, rfl, _, ha, ra⟩ := rh.dic r e1
        exact kW_of call_dictD ⟨a, ws, rfl, ha, fun p hp => k.new rh hp fun ρ' g => ⟨ws, rfl, ra.gw g⟩⟩
      · cases e
  · cases e
end
/-- isinstance with a built-in class -/
def tyU (x : U) (h : Hh) : Option String :=
  match x with
  | .non => some "NoneType"
  | .bl _ => some "bool"
  | .int _ => some "int"
  | .str _ => some "str"
  | .loc p =>
    match h.get p with
    | some (.lst _) => some "list"
    | some (.tup _) => some "tuple"
    | some (.dic _ _) => some "dict"
    | _ => none
  | _ => none
/-- the answer for the class n, one of these -/
def isaT (t n : String) : Option Bool :=
  if n = "str" then some (t = "str") else if n = "int" then some (t = "int" || t = "bool") else if n = "bool" then some (t = "bool") else if n = "list" then some (t = "list") else if n = "tuple" then some (t = "tuple") else if n = "dict" then some (t = "dict") else none
def mIsi (n : String) : O1 := fun x h => (tyU x h).bind fun t => (isaT t n).map fun b => (.bl b, h)
section
variable {X : Cx} {W : Wp} {a : Expr} {ca : EM} {pos p p2 : Pos}
theorem tyU_ok {ρ : List Addr} {h : Hh} {H : Hp} {x : U} {v : V} {t : String} (rh : RH T X.mg ρ h H) (r : RV X.mg ρ x v) (e : tyU x h = some t) : TyX X.K H v (.type t) ∧ (t = "NoneType" ∨ t = "bool" ∨ t = "int" ∨ t = "str" ∨ t = "list" ∨ t = "tuple" ∨ t = "dict") := by
  unfold tyU at e
  split at e
  · cases e; cases r; exact ⟨.base .non, by simp⟩
  · cases e; cases r; exact ⟨.base (.bl _), by simp⟩
  · cases e; cases r; exact ⟨.base (.int _), by simp⟩
  · cases e; cases r; exact ⟨.base (.str _), by simp⟩
  · split at e
    · rename_i e1
      cases e
      obtain ⟨a, ws, rfl, _, ha, ra⟩ := rh.lst r e1
      exact ⟨.base (.lst ha), by simp⟩
    · rename_i e1
      cases e
      obtain ⟨a, ws, rfl, _, ha, ra⟩ := rh.tup r e1
      exact ⟨.base (.tup ha), by simp⟩
    · rename_i e1
      cases e
      obtain ⟨a, ws, rfl, _, ha, ra⟩ := rh.dic r e1
      rcases ha with ha | ⟨o, ha⟩
      · exact ⟨.base (.dK ha), by simp⟩
      · exact ⟨.fDict ha, by simp⟩
    · cases e
  · cases e
def kitAll : Bool := (["NoneType", "bool", "int", "str", "list", "tuple", "dict"].all fun t => ["str", "int", "bool", "list", "tuple", "dict"].all fun n => decide (kitB t n = isaT t n))
theorem kit_all : kitAll = true := by decide +kernel
theorem kitB_isa {t n : String} {k : Bool} (ht : t = "NoneType" ∨ t = "bool" ∨ t = "int" ∨ t = "str" ∨ t = "list" ∨ t = "tuple" ∨ t = "dict") (e : isaT t n = some k) : kitB t n = some k := by
  have hn : n = "str" ∨ n = "int" ∨ n = "bool" ∨ n = "list" ∨ n = "tuple" ∨ n = "dict" := by
    unfold isaT at e
    by_cases h1 : n = "str"
    · exact .inl h1
    by_cases h2 : n = "int"
    · exact .inr (.inl h2)
    by_cases h3 : n = "bool"
    · exact .inr (.inr (.inl h3))
    by_cases h4 : n = "list"
    · exact .inr (.inr (.inr (.inl h4)))
    by_cases h5 : n = "tuple"
    · exact .inr (.inr (.inr (.inr (.inl h5))))
    by_cases h6 : n = "dict"
    · exact .inr (.inr (.inr (.inr (.inr h6))))
    simp [h1, h2, h3, h4, h5, h6] at e
  have h := kit_all
  unfold kitAll at h
  rw [List.all_eq_true] at h
  have h1 := h t (by rcases ht with rfl | rfl | rfl | rfl | rfl | rfl | rfl <;> simp)
  rw [List.all_eq_true] at h1
  have h2 := h1 n (by rcases hn with rfl | rfl | rfl | rfl | rfl | rfl <;> simp)
  rw [of_decide_eq_true h2]
  exact e
theorem x_isi {x : Str} {n : String} (hm : X.mg "isinstance" = none) (hm2 : X.mg x = none) (hv : bootBuiltins x = some (.type n)) (ha : Ex X W a ca) (hg : Gl X "isinstance" := by rfl) (hg2 : Gl X x := by rfl) (hn : x ≠ "__name__" := by decide) (hd : (x == ("__debug__" : Str)) = false := by decide)
    (hs : starEach [a, .Name x p2] X.env = (false, eval a X.env) :: starEach [.Name x p2] X.env := by rfl) (hs2 : starEach [.Name x p2] X.env = [(false, eval (.Name x p2) X.env)] := by rfl) (hpl : (backTo pos (starEach [.Name x p2] X.env)).any (·.1) = false := by rfl) :
    Ex X W (.Call (.Name "isinstance" p) [a, .Name x p2] [] pos) (eUn (mIsi n) ca) := .mk fun ρ us h σ H Q L k =>
  eW_of (pe_callB call_isi hg hm (by decide +kernel) (pa_cons peW (pa_cons (pe_bltn (v := .ty n) hg2 hm2 hv rfl hn hd) pa_nil hs2) hs) (by decide) (by decide) hs hpl) (ha.run L k fun u h1 ρ1 v H1 _ g1 r1 L1 k1 => by
    obtain ⟨w, h', e, q⟩ := k1.lft
    obtain ⟨t, e1, e⟩ := bind_some' e
    obtain ⟨b, e2, e⟩ := map_some' e
    cases e
    obtain ⟨ty, ht⟩ := tyU_ok L1.rh r1 e1
    exact ⟨v, .ty n, _, _, b, rfl, .ty n, ty, kit_ty (kitB_isa ht e2), NQ.flat q L1.rh rfl⟩)
/-- e in T, T a tuple of texts that the module's top has written -/
def mInK (zs : List Str) (neg : Bool) : O1 := fun x h => match x with | .str z => some (.bl (if neg then !decide (z ∈ zs) else decide (z ∈ zs)), h) | _ => none
theorem inV_S (x : Str) : ∀ ys : List Str, inV (.str x) (ys.map V.str) = decide (x ∈ ys)
  | [] => by simp [inV]
  | y :: ys => by
    have ih := inV_S x ys
    unfold inV at ih ⊢
    simp only [List.map_cons, List.any_cons, ih]
    by_cases h : y = x
    · subst h
      simp [eqV]
    · have h' : ¬ x = y := fun e => h e.symm
      simp [eqV, h, h']
theorem flat_S (ys : List Str) : (ys.map V.str).all flatV = true := by
  rw [List.all_eq_true]
  intro v hv
  obtain ⟨y, _, rfl⟩ := List.mem_map.mp hv
  rfl
theorem x_inK {x : Str} {zs : List Str} {f : Addr} (hm : X.mg x = some (.ref f)) (hK : ∀ G, SqT X.K G f (zs.map V.str)) (ha : Ex X W a ca) (hg : Gl X x := by rfl) (hd : (x == ("__debug__" : Str)) = false := by decide) (hb : behindInMarks .In (.Name x p2) = false := by rfl) :
    Ex X W (.Compare a [.In] [.Name x p2] pos) (eUn (mInK zs false) ca) := .mk fun ρ us h σ H Q L k =>
  eW_of (pe_cmpR op_in_seq peW (pe_glob (v := .ref f) hg hm rfl hd) hb) (ha.run L k fun u h1 ρ1 v H1 _ g1 r1 L1 k1 => by
    obtain ⟨w, h', e, q⟩ := k1.lft
    cases u with
    | str z =>
      cases e; cases r1
      exact ⟨f, _, rfl, .inr (hK _), rfl, flat_S zs, by rw [inV_S]; exact NQ.flat q L1.rh rfl⟩
    | _ => cases e)
theorem t_inK {x : Str} {zs : List Str} {f : Addr} (hm : X.mg x = some (.ref f)) (hK : ∀ G, SqT X.K G f (zs.map V.str)) (ha : Ex X W a ca) (hg : Gl X x := by rfl) (hd : (x == ("__debug__" : Str)) = false := by decide) (hb : behindInMarks .In (.Name x p2) = false := by rfl) :
    Tx X W (.Compare a [.In] [.Name x p2] pos) (tB' (eUn (mInK zs false) ca)) := .mk fun ρ us h σ H Q L k => by
  refine tW_of (pt_cmpR op_in_seq peW (pe_glob (v := .ref f) hg hm rfl hd) hb) ?_
  have k' : Af X W (fun _ (a b : Bool) => b = a) ρ H σ ((ca us h).bind fun x h1 => (lft (mInK zs false x h1)).bind isB) Q := by
    unfold tB' eUn at k
    cases e1 : ca us h with
    | ok x h1 => rw [e1] at k; exact k
    | exc x h1 => rw [e1] at k; exact k
    | bad => rw [e1] at k; exact k
  refine ha.run L k' fun u h1 ρ1 v H1 _ g1 r1 L1 k1 => ?_
  cases u with
  | str z =>
    cases r1
    refine ⟨f, _, rfl, .inr (hK _), rfl, flat_S zs, ?_⟩
    rw [inV_S]
    exact ⟨_, rfl, k1 ρ1 _ H1 Gw.refl rfl L1.rh⟩
  | _ => exact absurd k1 id
end
end Mx
end
section
set_option maxHeartbeats 4000000
namespace Mx
open PySem L2
open NdefX (NTab TabsN TabN)
/-! ### methods of built-in types -/
abbrev OM := U → List U → Hh → Option (U × Hh)
def okIf (b : Bool) (h : Hh) : Res Unit := if b then .ok () h else .bad
def isS (x : U) : Bool := match x with | .str _ => true | _ => false
def isL (x : U) (h : Hh) : Bool := match x with | .loc p => (match h.get p with | some (.lst _) => true | _ => false) | _ => false
def isDc (x : U) (h : Hh) : Bool := match x with | .loc p => (match h.get p with | some (.dic _ _) => true | _ => false) | _ => false
def isDu (x : U) (h : Hh) : Bool := match x with | .loc p => (match h.get p with | some (.dic false _) => true | _ => false) | _ => false
def eMt (chk : U → Hh → Bool) (m : OM) (o : EM) (a : AM) : EM := fun us h => (o us h).bind fun x h1 => (okIf (chk x h1) h1).bind fun _ h2 => (a us h2).bind fun xs h3 => lft (m x xs h3)
def mW (X : Cx) (id : String) : V → List V → Hp → VK → Prop := fun x xs H Q => ∀ pins s σ v us, Inv X pins σ H s → RelV x v → Vals xs us → wpAny (model X.prog X.w) X.A (call (.builtin id) (v :: us)) (EP X pins σ Q) X.xe s
theorem mr_W {X : Cx} {id : String} : MtR X id (mW X id) := fun pins s σ H x xs v us Q I rx r q => q pins s σ v us I rx r
theorem mW_of {X : Cx} {id : String} {r : V → List V → Hp → VK → Prop} {x : V} {xs : List V} {H : Hp} {Q : VK} (h : MtR X id r) (q : r x xs H Q) : mW X id x xs H Q := fun pins s σ v us I rv rx => h pins s σ H x xs v us Q I rv rx q
structure MtS (X : Cx) (id : String) (m : OM) : Prop where
  mts_ : ∀ T ρ h H x xs v vs Q u h', RH T X.mg ρ h H → RV X.mg ρ x v → RVs X.mg ρ xs vs → m x xs h = some (u, h') → NQ T X ρ H u h' Q → mW X id v vs H Q
instance (X : Cx) (id : String) (m : OM) : CoeFun (MtS X id m) (fun _ => ∀ T ρ h H x xs v vs Q u h', RH T X.mg ρ h H → RV X.mg ρ x v → RVs X.mg ρ xs vs → m x xs h = some (u, h') → NQ T X ρ H u h' Q → mW X id v vs H Q) := ⟨MtS.mts_⟩
structure TyS (X : Cx) (tn : String) (chk : U → Hh → Bool) : Prop where
  tys_ : ∀ T ρ h H x v, RH T X.mg ρ h H → RV X.mg ρ x v → chk x h = true → tyV X.K tn v H
instance (X : Cx) (tn : String) (chk : U → Hh → Bool) : CoeFun (TyS X tn chk) (fun _ => ∀ T ρ h H x v, RH T X.mg ρ h H → RV X.mg ρ x v → chk x h = true → tyV X.K tn v H) := ⟨TyS.tys_⟩
section
variable {X : Cx} {W : Wp} {e a b c o : Expr} {es : List Expr} {ca cb cc co : EM} {cs : AM} {pos p apos cpos : Pos} {ρ : List Addr} {H : Hp} {σ : St}
theorem okIf_ok {b : Bool} {h : Hh} {α β : Type} {R : List Addr → α → β → Prop} {Q : β → Hp → Prop} {f : Unit → Hh → Res α} (k : Af X W R ρ H σ ((okIf b h).bind f) Q) : b = true ∧ Af X W R ρ H σ (f () h) Q := by
  cases b with
  | true => exact ⟨rfl, k⟩
  | false => exact absurd k id
theorem ty_str : TyS X "str" (fun x _ => isS x) := .mk fun T ρ h H x v rh r e => by
  cases x with
  | str z => cases r; rfl
  | _ => cases e
theorem ty_list : TyS X "list" isL := .mk fun T ρ h H x v rh r e => by
  unfold isL at e
  split at e
  · split at e
    · rename_i e1
      obtain ⟨a, ws, rfl, _, ha, ra⟩ := rh.lst r e1
      exact .inl ⟨rfl, ws, SqL.of ha⟩
    · cases e
  · cases e
theorem ty_dict : TyS X "dict" isDu := .mk fun T ρ h H x v rh r e => by
  unfold isDu at e
  split at e
  · split at e
    · rename_i e1
      obtain ⟨a, ws, rfl, _, ha, ra⟩ := rh.dicU r e1
      exact .inr (.inr (.inl ⟨rfl, .inl ⟨ws, ha⟩⟩))
    · cases e
  · cases e
theorem x_mt {T id : String} {name : Str} {chk : U → Hh → Bool} {m : OM} (pa : PlainAttrs T) (slot : Slot T name id) (hty : typeOf (.builtin id) = pure (.type "method_descriptor")) (ty : TyS X T chk) (hm : MtS X id m) (ho : Ex X W o co) (ha : Ax X W (e :: es) cs)
    (hbase : attributeBase o name X.env (eval o X.env) = eval o X.env := by rfl)
    (hfew : ((backTo cpos (starEach (e :: es) X.env)).all (fun x => !x.1) && (backToKw cpos (keywordEach [] X.env)).all (fun x => x.1.isSome)
      && decide ((e :: es).length + ([] : List Keyword).length + (if ([] : List Keyword).isEmpty then 0 else 1) < 30)) = true := by rfl)
    (hline : (apos.endLine == cpos.line) = true := by rfl) (hs : starEach (e :: es) X.env = (false, eval e X.env) :: starEach es X.env := by rfl) (hplain : (backTo cpos (starEach es X.env)).any (·.1) = false := by rfl) :
    Ex X W (.Call (.Attribute o name apos) (e :: es) [] cpos) (eMt chk m co cs) := .mk fun ρ us h σ H Q L k =>
  eW_of (pe_bm pa slot hty mr_W peW paW hbase hfew hline hs hplain) (ho.run L k fun x h1 ρ1 v H1 _ g1 r1 L1 k1 => by
    obtain ⟨hc, k2⟩ := okIf_ok k1
    refine ⟨ty _ ρ1 h1 H1 x v L1.rh r1 hc, ha.run L1 k2 fun xs h3 ρ3 vs H3 _ g3 r3 L3 k3 => ?_⟩
    obtain ⟨u, h', e, q⟩ := k3.lft
    exact hm _ ρ3 h3 H3 x xs v vs Q u h' L3.rh (r1.gw g3) r3 e q)
theorem x_mt0 {T id : String} {name : Str} {chk : U → Hh → Bool} {m : OM} (pa : PlainAttrs T) (slot : Slot T name id) (hty : typeOf (.builtin id) = pure (.type "method_descriptor")) (ty : TyS X T chk) (hm : MtS X id m) (ho : Ex X W o co)
    (hbase : attributeBase o name X.env (eval o X.env) = eval o X.env := by rfl) (hline : (apos.endLine == cpos.line) = true := by rfl) : Ex X W (.Call (.Attribute o name apos) [] [] cpos) (eMt chk m co aNil) := .mk fun ρ us h σ H Q L k =>
  eW_of (pe_bm0 pa slot hty mr_W peW hbase hline) (ho.run L k fun x h1 ρ1 v H1 _ g1 r1 L1 k1 => by
    obtain ⟨hc, k2⟩ := okIf_ok k1
    obtain ⟨u, h', e, q⟩ := (show Af X W (RV X.mg) ρ1 H1 σ (lft (m x [] h1)) Q from k2).lft
    exact ⟨ty _ ρ1 h1 H1 x v L1.rh r1 hc, hm _ ρ1 h1 H1 x [] v [] Q u h' L1.rh r1 .nil e q⟩)
end
/-! ### texts -/
def mS1 (g : Str → Str → Option U) : OM := fun x xs h => match x, xs with | .str a, [.str b] => (g a b).map fun u => (u, h) | _, _ => none
def mSplit : OM := fun x xs h => match x, xs with | .str a, [.str b] => if !(b.length == 0) && decide (a.length + 2 ≤ sizeLine) then some (.loc h.size, h.push (.lst ((Txt.split a b).map U.str))) else none | _, _ => none
def mPart : OM := fun x xs h => match x, xs with | .str a, [.str b] => if !(b.length == 0) && decide (a.length ≤ sizeLine) then some (.loc h.size, h.push (.tup [.str (Txt.partition a b).1, .str (Txt.partition a b).2.1, .str (Txt.partition a b).2.2])) else none | _, _ => none
def seqAt (x : U) (h : Hh) : Option (List U) :=
  match x with
  | .loc p => (match h.get p with | some (.lst xs) => some xs | some (.tup xs) => some xs | _ => none)
  | _ => none
def mJoin : OM := fun x xs h => match x, xs with | .str a, [y] => (seqAt y h).bind fun us => (allS us).bind fun ys => if (ys.map (·.length)).sum + ys.length * a.length ≤ 16777216 then some (.str (Txt.join a ys), h) else none | _, _ => none
def gEnds (a b : Str) : Option U := some (.bl (Txt.endswith a b))
def gStarts (a b : Str) : Option U := some (.bl (Txt.startswith a b))
def gRfind (a b : Str) : Option U := some (.int (Txt.rfind a b))
def gStrip (a b : Str) : Option U := if a.length ≤ sizeLine then some (.str (Txt.stripChars a b)) else none
def gRstrip (a b : Str) : Option U := if a.length ≤ sizeLine then some (.str (Txt.rstripChars a b)) else none
section
variable {X : Cx}
theorem strs_rv {mg : Str → Option Value} {ρ : List Addr} : ∀ ns : List Str, RVs mg ρ (ns.map U.str) (ns.map V.str)
  | [] => .nil
  | _ :: ns => .cons rfl (strs_rv ns)
theorem ms1 {id : String} {g : Str → Str → Option U} (hr : ∀ T ρ h H a b Q u, RH T X.mg ρ h H → g a b = some u → NQ T X ρ H u h Q → mW X id (.str a) [.str b] H Q) : MtS X id (mS1 g) := by
  refine .mk ?_
  intro T ρ h H x xs v vs Q u h' rh rx rs e k
  unfold mS1 at e
  split at e
  · cases rx
    cases rs with
    | cons r t =>
      cases t; cases r
      obtain ⟨w, e1, e⟩ := map_some' e
      cases e
      exact hr T ρ h H _ _ Q u rh e1 k
  · cases e
theorem ms_ends : MtS X "str.endswith" (mS1 gEnds) := ms1 fun T ρ h H a b Q u rh e k => by cases e; exact mW_of mt_endswith ⟨a, b, rfl, rfl, k.flat rh rfl⟩
theorem ms_starts : MtS X "str.startswith" (mS1 gStarts) := ms1 fun T ρ h H a b Q u rh e k => by cases e; exact mW_of mt_startswith ⟨a, b, rfl, rfl, k.flat rh rfl⟩
theorem ms_rfind : MtS X "str.rfind" (mS1 gRfind) := ms1 fun T ρ h H a b Q u rh e k => by cases e; exact mW_of mt_rfind ⟨a, b, rfl, rfl, k.flat rh rfl⟩
theorem ms_strip : MtS X "str.strip" (mS1 gStrip) := ms1 fun T ρ h H a b Q u rh e k => by
  unfold gStrip at e
  split at e
  · rename_i hl
    cases e; exact mW_of mt_stripChars ⟨a, b, rfl, rfl, hl, k.flat rh rfl⟩
  · cases e
theorem ms_rstrip : MtS X "str.rstrip" (mS1 gRstrip) := ms1 fun T ρ h H a b Q u rh e k => by
  unfold gRstrip at e
  split at e
  · rename_i hl
    cases e; exact mW_of mt_rstripChars ⟨a, b, rfl, rfl, hl, k.flat rh rfl⟩
  · cases e
theorem ms_split : MtS X "str.split" mSplit := by
  refine .mk ?_
  intro T ρ h H x xs v vs Q u h' rh rx rs e k
  unfold mSplit at e
  split at e
  · cases rx
    cases rs with
    | cons r t =>
      cases t; cases r
      split at e
      · rename_i hl
        cases e
        simp only [Bool.and_eq_true, decide_eq_true_eq] at hl
        exact mW_of mt_split ⟨_, _, rfl, rfl, by simpa using hl.1, hl.2, fun p hp => k.new rh hp fun ρ' g => ⟨_, rfl, strs_rv _⟩⟩
      · cases e
  · cases e
theorem ms_part : MtS X "str.partition" mPart := by
  refine .mk ?_
  intro T ρ h H x xs v vs Q u h' rh rx rs e k
  unfold mPart at e
  split at e
  · cases rx
    cases rs with
    | cons r t =>
      cases t; cases r
      split at e
      · rename_i hl
        cases e
        simp only [Bool.and_eq_true, decide_eq_true_eq] at hl
        exact mW_of mt_partition ⟨_, _, rfl, rfl, by simpa using hl.1, hl.2, fun p hp => k.new rh hp fun ρ' g => ⟨_, rfl, .cons rfl (.cons rfl (.cons rfl .nil))⟩⟩
      · cases e
  · cases e
theorem ms_join : MtS X "str.join" mJoin := by
  refine .mk ?_
  intro T ρ h H x xs v vs Q u h' rh rx rs e k
  unfold mJoin at e
  split at e
  · cases rx
    cases rs with
    | cons r t =>
      cases t
      obtain ⟨us, e1, e⟩ := bind_some' e
      obtain ⟨ys, e2, e⟩ := bind_some' e
      split at e
      · rename_i hl
        cases e
        unfold seqAt at e1
        split at e1
        · split at e1
          · rename_i e3
            cases e1
            obtain ⟨b, ws, rfl, _, ha, ra⟩ := rh.lst r e3
            cases allS_rv ra e2
            exact mW_of mt_join ⟨_, b, ys, rfl, rfl, .inl (SqL.of ha), hl, k.flat rh rfl⟩
          · rename_i e3
            cases e1
            obtain ⟨b, ws, rfl, _, ha, ra⟩ := rh.tup r e3
            cases allS_rv ra e2
            exact mW_of mt_join ⟨_, b, ys, rfl, rfl, .inr (SqT.of ha), hl, k.flat rh rfl⟩
          · cases e1
        · cases e1
      · cases e
  · cases e
end
/-! ### lists -/
def mAppend : OM := fun x xs h => match x, xs with | .loc p, [y] => (match h.get p with | some (.lst us) => if us.length < sizeLine then some (.non, h.set p (.lst (us ++ [y]))) else none | _ => none) | _, _ => none
def mExtend : OM := fun x xs h => match x, xs with
  | .loc p, [.loc q] => (match h.get p, h.get q with | some (.lst us), some (.lst ws) => if us.length + ws.length ≤ sizeLine then some (.non, h.set p (.lst (us ++ ws))) else none | _, _ => none)
  | _, _ => none
def mPopL : OM := fun x xs h => match x, xs with | .loc p, [] => (match h.get p with | some (.lst us) => (us[us.length - 1]?).map fun y => (y, h.set p (.lst us.dropLast)) | _ => none) | _, _ => none
def mClear : OM := fun x xs h => match x, xs with | .loc p, [] => (match h.get p with | some (.lst us) => some (.non, h.set p (.lst [])) | _ => none) | _, _ => none
def mInsert : OM := fun x xs h => match x, xs with | .loc p, [.int i, y] => (match h.get p with | some (.lst us) => if decide (us.length < sizeLine) && decide (0 ≤ i) && decide (i < 2 ^ 63) then some (.non, h.set p (.lst (us.take i.toNat ++ [y] ++ us.drop i.toNat))) else none | _ => none) | _, _ => none
section
variable {X : Cx}
theorem Pdl {α β : Type} {F : α → β → Prop} {l : List α} {m : List β} (r : Paired F l m) : Paired F l.dropLast m.dropLast := by
  rw [List.dropLast_eq_take, List.dropLast_eq_take, r.length]
  exact Ptake _ r
theorem ml_append : MtS X "list.append" mAppend := by
  refine .mk ?_
  intro T ρ h H x xs v vs Q u h' rh rx rs e k
  unfold mAppend at e
  split at e
  · cases rs with
    | cons r t =>
      cases t
      split at e
      · rename_i e1
        split at e
        · rename_i hl
          cases e
          obtain ⟨a, ws, rfl, ea, ha, ra⟩ := rh.lst rx e1
          exact mW_of mt_append ⟨a, ws, _, rfl, rfl, ha, by rw [← ra.length]; exact hl, k.mut rh e1 ea ha ⟨_, rfl, Papp ra (.cons r .nil)⟩ rfl⟩
        · cases e
      · cases e
  · cases e
theorem ml_extend : MtS X "list.extend" mExtend := by
  refine .mk ?_
  intro T ρ h H x xs v vs Q u h' rh rx rs e k
  unfold mExtend at e
  split at e
  · cases rs with
    | cons r t =>
      cases t
      split at e
      · rename_i e1 e2
        split at e
        · rename_i hl
          cases e
          obtain ⟨a, ws, rfl, ea, ha, ra⟩ := rh.lst rx e1
          obtain ⟨b, zs, rfl, eb, hb, rb⟩ := rh.lst r e2
          exact mW_of mt_extend ⟨a, b, ws, zs, rfl, rfl, ha, hb, by rw [← ra.length, ← rb.length]; exact hl, k.mut rh e1 ea ha ⟨_, rfl, Papp ra rb⟩ rfl⟩
        · cases e
      · cases e
  · cases e
theorem ml_pop : MtS X "list.pop" mPopL := by
  refine .mk ?_
  intro T ρ h H x xs v vs Q u h' rh rx rs e k
  unfold mPopL at e
  split at e
  · cases rs
    split at e
    · rename_i e1
      obtain ⟨y, e2, e⟩ := map_some' e
      cases e
      obtain ⟨a, ws, rfl, ea, ha, ra⟩ := rh.lst rx e1
      obtain ⟨w, hw, rw'⟩ := Pget ra e2
      exact mW_of mt_pop ⟨a, ws, w, rfl, rfl, ha, by rw [← ra.length]; exact hw, k.mut rh e1 ea ha ⟨_, rfl, Pdl ra⟩ rw'⟩
    · cases e
  · cases e
theorem ml_clear : MtS X "list.clear" mClear := by
  refine .mk ?_
  intro T ρ h H x xs v vs Q u h' rh rx rs e k
  unfold mClear at e
  split at e
  · cases rs
    split at e
    · rename_i e1
      cases e
      obtain ⟨a, ws, rfl, ea, ha, ra⟩ := rh.lst rx e1
      exact mW_of mt_clear ⟨a, ws, rfl, rfl, ha, k.mut rh e1 ea ha ⟨_, rfl, .nil⟩ rfl⟩
    · cases e
  · cases e
theorem ml_insert : MtS X "list.insert" mInsert := by
  refine .mk ?_
  intro T ρ h H x xs v vs Q u h' rh rx rs e k
  unfold mInsert at e
  split at e
  · cases rs with
    | cons r t =>
      cases t with
      | cons r2 t =>
        cases t; cases r
        split at e
        · rename_i e1
          split at e
          · rename_i hl
            cases e
            simp only [Bool.and_eq_true, decide_eq_true_eq] at hl
            obtain ⟨a, ws, rfl, ea, ha, ra⟩ := rh.lst rx e1
            exact mW_of mt_insert ⟨a, ws, _, _, rfl, rfl, ha, by rw [← ra.length]; exact hl.1.1, hl.1.2, hl.2, k.mut rh e1 ea ha ⟨_, rfl, Papp (Papp (Ptake _ ra) (.cons r2 .nil)) (Pdrop _ ra)⟩ rfl⟩
          · cases e
        · cases e
  · cases e
end
/-! ### dicts -/
def putU (kvs : List (Key × U)) (k : Key) (v : U) : List (Key × U) := if hasK kvs k = true then kvs.map (fun kv => if kv.1 = k then (kv.1, v) else kv) else kvs ++ [(k, v)]
def dropU (kvs : List (Key × U)) (k : Key) : List (Key × U) := kvs.filter fun kv => decide (kv.1 ≠ k)
def mergeU (kvs more : List (Key × U)) : List (Key × U) := more.foldl (fun acc kv => putU acc kv.1 kv.2) kvs
section
variable {X : Cx} {mg : Str → Option Value} {ρ : List Addr}
theorem any_rv {k : Key} : ∀ {us : List (Key × U)} {vs : List (Key × V)}, RKV mg ρ us vs → (vs.any fun kv => decide (kv.1 = k)) = hasK us k
  | _, _, .nil => rfl
  | _, _, .cons (a := x) (b := y) r t => by
    have ih := any_rv (k := k) t
    unfold hasK at ih ⊢
    rw [List.any_cons, List.any_cons, ih, r.1]
theorem put_rv {us : List (Key × U)} {vs : List (Key × V)} {k : Key} {u : U} {v : V} (r : RKV mg ρ us vs) (rv : RV mg ρ u v) : RKV mg ρ (putU us k u) (putK vs k v) := by
  unfold putU putK
  rw [any_rv r]
  split
  · rename_i hany
    clear hany
    induction r with
    | nil => exact .nil
    | @cons y w l m r t ih =>
      refine .cons ?_ ih
      dsimp only
      by_cases hk : y.1 = k
      · rw [if_pos hk, if_pos (by rw [r.1, hk])]
        exact ⟨r.1, rv⟩
      · rw [if_neg hk, if_neg (by rw [r.1]; exact hk)]
        exact r
  · exact Papp r (.cons ⟨rfl, rv⟩ .nil)
theorem drop_rv {k : Key} : ∀ {us : List (Key × U)} {vs : List (Key × V)}, RKV mg ρ us vs → RKV mg ρ (dropU us k) (dropK vs k)
  | _, _, .nil => .nil
  | _, _, .cons (a := x) (b := y) r t => by
    have ih := drop_rv (k := k) t
    unfold dropU dropK at ih ⊢
    rw [List.filter_cons, List.filter_cons, r.1]
    split
    · exact .cons r ih
    · exact ih
theorem merge_rv : ∀ {more : List (Key × U)} {ms : List (Key × V)} {us : List (Key × U)} {vs : List (Key × V)}, RKV mg ρ more ms → RKV mg ρ us vs → RKV mg ρ (mergeU us more) (mergeK vs ms)
  | _, _, _, _, .nil, r => r
  | _, _, _, _, .cons (a := x) (b := y) r t, q => by
    unfold mergeU mergeK
    rw [List.foldl_cons, List.foldl_cons]
    refine merge_rv t ?_
    rw [r.1]
    exact put_rv q r.2
end
/-- d.get(k, x) -/
def mGet (x y z : U) (h : Hh) : Option (U × Hh) := match x with | .loc p => (match h.get p with | some (.dic _ kvs) => (keyU y).map fun k => ((getK kvs k).getD z, h) | _ => none) | _ => none
/-- d.setdefault(k, x) -/
def mSetd (x y z : U) (h : Hh) : Option (U × Hh) := match x with
  | .loc p => (match h.get p with
    | some (.dic false kvs) => (keyU y).bind fun k => if kvs.length < sizeLine then (match getK kvs k with | some v => some (v, h) | none => some (z, h.set p (.dic false (putU kvs k z)))) else none
    | _ => none)
  | _ => none
def e3 (chk : U → Hh → Bool) (m : U → U → U → Hh → Option (U × Hh)) (o a b : EM) : EM := fun us h => (o us h).bind fun x h1 => (okIf (chk x h1) h1).bind fun _ h2 => (a us h2).bind fun y h3 => (b us h3).bind fun z h4 => lft (m x y z h4)
def mPopD : OM := fun x xs h => match x, xs with | .loc p, [y] => (match h.get p with | some (.dic false kvs) => (keyU y).bind fun k => (getK kvs k).map fun v => (v, h.set p (.dic false (dropU kvs k))) | _ => none) | _, _ => none
def mUpdate : OM := fun x xs h => match x, xs with
  | .loc p, [.loc q] => (match h.get p, h.get q with | some (.dic false kvs), some (.dic lk more) => if decide (p ≠ q) && decide (kvs.length + more.length ≤ sizeLine) then some (.non, h.set p (.dic false (mergeU kvs more))) else none | _, _ => none)
  | _, _ => none
def mClearD : OM := fun x xs h => match x, xs with | .loc p, [] => (match h.get p with | some (.dic false us) => some (.non, h.set p (.dic false [])) | _ => none) | _, _ => none
section
variable {X : Cx} {W : Wp} {e a b c o f : Expr} {es : List Expr} {ca cb cc co : EM} {cs : AM} {pos p apos cpos : Pos}
theorem isDc_ok {ρ : List Addr} {h : Hh} {H : Hp} {x : U} {v : V} (rh : RH T X.mg ρ h H) (r : RV X.mg ρ x v) (e : isDc x h = true) : ∃ d, v = .ref d ∧ IsD H d := by
  unfold isDc at e
  split at e
  · split at e
    · rename_i e1
      obtain ⟨d, ws, rfl, _, ha, ra⟩ := rh.dic r e1
      exact ⟨d, rfl, .inl ⟨ws, ha⟩⟩
    · cases e
  · cases e
theorem x_get (hu : X.A.units + 1 < cLine) (ho : Ex X W o co) (ha : Ex X W a ca) (hb : Ex X W b cb) (m : M2 X o "get" apos a b cpos := by exact ⟨rfl, rfl, rfl, rfl⟩) : Ex X W (.Call (.Attribute o "get" apos) [a, b] [] cpos) (e3 isDc mGet co ca cb) := .mk fun ρ us h σ H Q L k =>
  eW_of (pe_dget2 hu peW peW peW m) (ho.run L k fun x h1 ρ1 v H1 _ g1 r1 L1 k1 => by
    obtain ⟨hc, k2⟩ := okIf_ok k1
    obtain ⟨d, rfl, hd⟩ := isDc_ok L1.rh r1 hc
    refine ⟨d, rfl, hd, ha.run L1 k2 fun y h3 ρ3 w H3 _ g3 r3 L3 k3 => hb.run L3 k3 fun z h4 ρ4 w4 H4 _ g4 r4 L4 k4 => ?_⟩
    obtain ⟨u, h', e, q⟩ := k4.lft
    have r1 := (r1.gw g3).gw g4
    have r3 := r3.gw g4
    unfold mGet at e
    split at e
    · split at e
      · rename_i e1
        obtain ⟨kk, ek, e⟩ := map_some' e
        cases e
        obtain ⟨d', ws, ed, _, hda, ra⟩ := L4.rh.dic r1 e1
        cases ed
        cases key_rv r3 ek
        obtain ⟨oo, g, hs, hv⟩ := dget_of (k := kk) hda ra
        refine ⟨oo, g, NQ.flat q L4.rh ?_⟩
        cases eg : getK _ kk with
        | none =>
          rw [eg] at hs
          cases oo with
          | none => exact r4
          | some _ => cases hs
        | some u' =>
          obtain ⟨v', rfl, rv⟩ := hv u' eg
          exact rv
      · cases e
    · cases e)
theorem x_setd (ho : Ex X W o co) (ha : Ex X W a ca) (hb : Ex X W b cb) (m : M2 X o "setdefault" apos a b cpos := by exact ⟨rfl, rfl, rfl, rfl⟩) : Ex X W (.Call (.Attribute o "setdefault" apos) [a, b] [] cpos) (e3 isDc mSetd co ca cb) := .mk fun ρ us h σ H Q L k =>
  eW_of (pe_dsetd peW peW peW m) (ho.run L k fun x h1 ρ1 v H1 _ g1 r1 L1 k1 => by
    obtain ⟨hc, k2⟩ := okIf_ok k1
    obtain ⟨d, rfl, hd⟩ := isDc_ok L1.rh r1 hc
    refine ⟨d, rfl, hd, ha.run L1 k2 fun y h3 ρ3 w H3 _ g3 r3 L3 k3 => hb.run L3 k3 fun z h4 ρ4 w4 H4 _ g4 r4 L4 k4 => ?_⟩
    obtain ⟨u, h', e, q⟩ := k4.lft
    have r1 := (r1.gw g3).gw g4
    have r3 := r3.gw g4
    unfold mSetd at e
    split at e
    · split at e
      · rename_i e1
        obtain ⟨kk, ek, e⟩ := bind_some' e
        split at e
        · rename_i hl
          obtain ⟨d', ws, ed, ei, hda, ra⟩ := L4.rh.dicU r1 e1
          cases ed
          cases key_rv r3 ek
          obtain ⟨v1, v2⟩ := val_rv (k := kk) ra
          refine ⟨ws, kk, hda, rfl, by rw [← ra.length]; exact hl, fun vv ev => ?_, fun en => ?_⟩
          · split at e
            · rename_i eg
              cases e
              obtain ⟨v', hv', rv⟩ := v2 _ eg
              rw [ev] at hv'
              cases hv'
              exact NQ.flat q L4.rh rv
            · rename_i eg
              rw [v1 eg] at ev
              cases ev
          · split at e
            · rename_i eg
              obtain ⟨v', hv', rv⟩ := v2 _ eg
              rw [en] at hv'
              cases hv'
            · rename_i eg
              cases e
              exact NQ.mut q L4.rh e1 ei hda ⟨_, rfl, put_rv ra r4⟩ r4
        · cases e
      · cases e
    · cases e)
theorem md_pop : MtS X "dict.pop" mPopD := by
  refine .mk ?_
  intro T ρ h H x xs v vs Q u h' rh rx rs e k
  unfold mPopD at e
  split at e
  · cases rs with
    | cons r t =>
      cases t
      split at e
      · rename_i e1
        obtain ⟨kk, ek, e⟩ := bind_some' e
        obtain ⟨w, ew, e⟩ := map_some' e
        cases e
        obtain ⟨d, ws, rfl, ei, hda, ra⟩ := rh.dicU rx e1
        cases key_rv r ek
        obtain ⟨v', hv', rv⟩ := (val_rv (k := kk) ra).2 _ ew
        intro pins s σ v us I rv' rus
        cases rv'
        cases rus with
        | cons r0 t0 =>
          cases t0
          exact d_pop I hda r0 hv' (.inl rfl) fun w' s' I' rw' => ⟨v', _, I', rw', k.mut rh e1 ei hda ⟨_, rfl, drop_rv ra⟩ rv⟩
      · cases e
  · cases e
theorem md_clear : MtS X "dict.clear" mClearD := by
  refine .mk ?_
  intro T ρ h H x xs v vs Q u h' rh rx rs e k
  unfold mClearD at e
  split at e
  · cases rs
    split at e
    · rename_i e1
      cases e
      obtain ⟨a, ws, rfl, ea, ha, ra⟩ := rh.dicU rx e1
      exact mW_of mtd_clear ⟨a, ws, rfl, rfl, ha, k.mut rh e1 ea ha ⟨_, rfl, .nil⟩ rfl⟩
    · cases e
  · cases e
theorem md_update : MtS X "dict.update" mUpdate := by
  refine .mk ?_
  intro T ρ h H x xs v vs Q u h' rh rx rs e k
  unfold mUpdate at e
  split at e
  · cases rs with
    | cons r t =>
      cases t
      split at e
      · rename_i kvs lk more e1 e2
        split at e
        · rename_i hl
          cases e
          simp only [Bool.and_eq_true, decide_eq_true_eq] at hl
          obtain ⟨d, ws, rfl, ei, hda, ra⟩ := rh.dicU rx e1
          obtain ⟨o, zs, rfl, eo, hoa, rb⟩ := rh.dic r e2
          have hne : d ≠ o := fun z => hl.1 (nodup_ix' rh.nd ei (by rw [z]; exact eo))
          intro pins s σ v us I rv' rus
          cases rv'
          cases rus with
          | cons r0 t0 =>
            cases t0
            cases r0
            obtain ⟨z1, hd1, vs1, rel1, dd1⟩ := dk_of I.hok hda
            obtain ⟨z2, hd2, vs2, rel2, dd2⟩ := dk_rd I.hok hoa
            refine call_meetsIn PySem.F.slot_dict_update dd1.typeIs PySem.F.entry_dict_update (PySem.F.args_dict_update_2 _ _) (meets_dict_update (mixKind X.prog X.w) d o hne hd2) ⟨vs1, vs2, dd1, dd2, ?_, fun h2 dd' _ hs => ?_⟩
            · have l1 := ra.length
              have l2 := rb.length
              have l3 := Paired.length rel1
              have l4 := Paired.length rel2
              have := hl.2
              omega
            · have he : ∃ q, h2.get? d = some q := let ⟨q, _, _, hq, _⟩ := dd'; ⟨q, hq⟩
              have hz : (mergeK ws zs).length ≤ sizeLine := by
                have l0 := length_mergeK zs ws
                have l1 := ra.length
                have l2 := rb.length
                have := hl.2
                omega
              have I2 : Inv X pins σ (upd H d (.dK (mergeK ws zs))) { s with heap := h2, toks := s.toks } := d_write I (by rw [hda]; exact True.intro) hs he (dk_new hz hd1 (KV.merge rel2 rel1) dd')
              exact ⟨.non, _, I2, rfl, k.mut rh e1 ei hda ⟨_, rfl, merge_rv rb ra⟩ rfl⟩
        · cases e
      · cases e
  · cases e
end
end Mx
end
section
set_option maxHeartbeats 4000000
namespace Mx
open PySem L2
open NdefX (NTab TabsN TabN)
/-! ### what is walked -/
inductive ItM where
  | lst (p : Nat) | tup (p : Nat) | str (z : Str) | rng (lo : Int) (n : Nat) | rngC (lo c : Int) (n : Nat) | enum (p : Nat) | zip (p q : Nat) | keys (p : Nat) (kvs : List (Key × U)) | vals (p : Nat) (kvs : List (Key × U)) | items (p : Nat) (kvs : List (Key × U))
/-- the i-th thing: none: no rule; some none: the end -/
def nxt (it : ItM) (i : Nat) (h : Hh) : Option (Option (U × Hh)) :=
  match it with
  | .lst p => (match h.get p with | some (.lst xs) => some ((xs[i]?).map fun u => (u, h)) | _ => none)
  | .tup p => (match h.get p with | some (.tup xs) => some ((xs[i]?).map fun u => (u, h)) | _ => none)
  | .str z => some ((z.cps[i]?).map fun c => (.str ⟨#[c]⟩, h))
  | .rng lo n => some (if i < n then some (.int (lo + i), h) else none)
  | .rngC lo c n => some (if i < n then some (.int (lo + (i : Nat) * c), h) else none)
  | .enum p => (match h.get p with | some (.lst xs) => some ((xs[i]?).map fun u => (.loc h.size, h.push (.tup [.int (i : Nat), u]))) | _ => none)
  | .zip p q => (match h.get p, h.get q with
    | some (.lst xs), some (.lst ys) => some (match xs[i]?, ys[i]? with | some u, some w => some (.loc h.size, h.push (.tup [u, w])) | _, _ => none)
    | _, _ => none)
  | .keys p kvs => (match h.get p with | some (.dic true _) => some ((kvs[i]?).map fun kv => (keyV kv.1, h)) | _ => none)
  | .vals p kvs => (match h.get p with | some (.dic true _) => some ((kvs[i]?).map fun kv => (kv.2, h)) | _ => none)
  | .items p kvs => (match h.get p with | some (.dic true _) => some ((kvs[i]?).map fun kv => (.loc h.size, h.push (.tup [keyV kv.1, kv.2]))) | _ => none)
/-- J goes as it does, from ρ, H0 on -/
def IR (X : Cx) (ρ : List Addr) (it : ItM) (J : It) (H0 : Hp) : Prop := ∀ T ρ' i h H, Gw ρ H0 ρ' H → RH T X.mg ρ' h H →
  (nxt it i h = some none → J.stop i H) ∧ ∀ u h', nxt it i h = some (some (u, h')) → J.go i H ∧ ∀ x H', J.yld i H x H' → ∃ ρ'', Gw ρ' H ρ'' H' ∧ RV X.mg ρ'' u x ∧ RH T X.mg ρ'' h' H'
/-- an iterable: J comes with its heap -/
structure Ix (X : Cx) (W : Wp) (tg it : Expr) (c : Sl → Hh → Res ItM) : Prop where
  ix_ : ∀ ρ us h σ H (Q : It → Hp → Prop), Rl W.T X ρ us h σ H →
  (match c us h with
   | .ok m h' => ∀ ρ' J H', Gw ρ H ρ' H' → IR X ρ' m J H' → RH W.T X.mg ρ' h' H' → Q J H'
   | .exc e h' => AfX X W ρ H σ e h'
   | .bad => False) → iW X tg it σ H Q
instance (X : Cx) (W : Wp) (tg it : Expr) (c : Sl → Hh → Res ItM) : CoeFun (Ix X W tg it c) (fun _ => ∀ ρ us h σ H (Q : It → Hp → Prop), Rl W.T X ρ us h σ H →
  (match c us h with
   | .ok m h' => ∀ ρ' J H', Gw ρ H ρ' H' → IR X ρ' m J H' → RH W.T X.mg ρ' h' H' → Q J H'
   | .exc e h' => AfX X W ρ H σ e h'
   | .bad => False) → iW X tg it σ H Q) := ⟨Ix.ix_⟩
def mkIt (x : U) (h : Hh) : Res ItM :=
  match x with
  | .str z => .ok (.str z) h
  | .loc p => (match h.get p with | some (.lst _) => .ok (.lst p) h | some (.tup _) => .ok (.tup p) h | _ => .bad)
  | _ => .bad
def iSeq (c : EM) : Sl → Hh → Res ItM := fun us h => (c us h).bind mkIt
section
variable {X : Cx} {W : Wp} {e a b c tg : Expr} {es : List Expr} {ca cb cc : EM} {cs : AM} {pos p apos cpos tpos : Pos} {ρ : List Addr} {us : Sl} {h : Hh} {σ : St} {H : Hp} {elts : List Expr} {kk : Nat}
theorem ir_lst {p : Nat} {d : Addr} (ed : ρ[p]? = some d) : IR X ρ (.lst p) (Itl X.K d) H := fun T ρ' i h H g rh => by
  have key : ∀ xs, h.get p = some (.lst xs) → ∃ vs, H d = some (.lst vs) ∧ RVs X.mg ρ' xs vs := fun xs e => by
    obtain ⟨a, vs, e1, e2, h1, r1⟩ := rh.lst (v := .ref d) ⟨d, g.get ed, rfl⟩ e
    cases e1
    exact ⟨vs, h1, r1⟩
  refine ⟨fun e => ?_, fun u h' e => ?_⟩
  · unfold nxt at e
    dsimp only at e
    split at e
    · rename_i xs e1
      obtain ⟨vs, h1, r1⟩ := key xs e1
      refine ⟨vs, SqL.of h1, ?_⟩
      cases q : xs[i]? with
      | none => rw [← r1.length]; exact List.getElem?_eq_none_iff.mp q
      | some w => rw [q] at e; cases e
    · cases e
  · unfold nxt at e
    dsimp only at e
    split at e
    · rename_i xs e1
      obtain ⟨vs, h1, r1⟩ := key xs e1
      obtain ⟨w, q, e⟩ := map_some' (Option.some.inj e)
      cases e
      obtain ⟨v, hv, rv⟩ := Pget r1 q
      refine ⟨⟨vs, v, SqL.of h1, hv⟩, fun x H' y => ?_⟩
      obtain ⟨rfl, y⟩ := y
      have := y vs (SqL.of h1)
      rw [hv] at this
      cases this
      exact ⟨ρ', Gw.refl, rv, rh⟩
    · cases e
theorem ir_tup {p : Nat} {d : Addr} (ed : ρ[p]? = some d) : IR X ρ (.tup p) (Itt X.K d) H := fun T ρ' i h H g rh => by
  have key : ∀ xs, h.get p = some (.tup xs) → ∃ vs, H d = some (.tup vs) ∧ RVs X.mg ρ' xs vs := fun xs e => by
    obtain ⟨a, vs, e1, e2, h1, r1⟩ := rh.tup (v := .ref d) ⟨d, g.get ed, rfl⟩ e
    cases e1
    exact ⟨vs, h1, r1⟩
  refine ⟨fun e => ?_, fun u h' e => ?_⟩
  · unfold nxt at e
    dsimp only at e
    split at e
    · rename_i xs e1
      obtain ⟨vs, h1, r1⟩ := key xs e1
      refine ⟨vs, SqT.of h1, ?_⟩
      cases q : xs[i]? with
      | none => rw [← r1.length]; exact List.getElem?_eq_none_iff.mp q
      | some w => rw [q] at e; cases e
    · cases e
  · unfold nxt at e
    dsimp only at e
    split at e
    · rename_i xs e1
      obtain ⟨vs, h1, r1⟩ := key xs e1
      obtain ⟨w, q, e⟩ := map_some' (Option.some.inj e)
      cases e
      obtain ⟨v, hv, rv⟩ := Pget r1 q
      refine ⟨⟨vs, v, SqT.of h1, hv⟩, fun x H' y => ?_⟩
      obtain ⟨rfl, y⟩ := y
      have := y vs (SqT.of h1)
      rw [hv] at this
      cases this
      exact ⟨ρ', Gw.refl, rv, rh⟩
    · cases e
theorem ir_str {z : Str} : IR X ρ (.str z) (Its z) H := fun T ρ' i h H g rh => by
  refine ⟨fun e => ?_, fun u h' e => ?_⟩
  · have e := Option.some.inj e
    cases q : z.cps[i]? with
    | none => exact Array.getElem?_eq_none_iff.mp q
    | some w => rw [q] at e; cases e
  · obtain ⟨w, q, e⟩ := map_some' (Option.some.inj e)
    cases e
    refine ⟨(Array.getElem?_eq_some_iff.mp q).1, fun x H' y => ?_⟩
    obtain ⟨rfl, c, hc, rfl⟩ := y
    rw [q] at hc
    cases hc
    exact ⟨ρ', Gw.refl, rfl, rh⟩
theorem ir_rng {lo : Int} {n : Nat} : IR X ρ (.rng lo n) (Itr lo n) H := fun T ρ' i h H g rh => by
  refine ⟨fun e => ?_, fun u h' e => ?_⟩
  · have e := Option.some.inj e
    split at e
    · cases e
    · rename_i hi; exact Nat.le_of_not_lt hi
  · have e := Option.some.inj e
    split at e
    · rename_i hi
      cases e
      refine ⟨hi, fun x H' y => ?_⟩
      obtain ⟨rfl, rfl⟩ := y
      exact ⟨ρ', Gw.refl, rfl, rh⟩
    · cases e
theorem ir_rngC {lo c : Int} {n : Nat} : IR X ρ (.rngC lo c n) (Itc lo c n) H := fun T ρ' i h H g rh => by
  refine ⟨fun e => ?_, fun u h' e => ?_⟩
  · have e := Option.some.inj e
    split at e
    · cases e
    · rename_i hi; exact Nat.le_of_not_lt hi
  · have e := Option.some.inj e
    split at e
    · rename_i hi
      cases e
      refine ⟨hi, fun x H' y => ?_⟩
      obtain ⟨rfl, rfl⟩ := y
      exact ⟨ρ', Gw.refl, rfl, rh⟩
    · cases e
/-- a new pair -/
theorem pair_new {T : List NTab} {ρ' : List Addr} {h : Hh} {H H' : Hp} {v : V} {Tn : Addr} {x y : V} {a b : U} (rh : RH T X.mg ρ' h H) (hn : H Tn = none) (hv : v = .ref Tn) (h3 : H' = upd H Tn (.tup [x, y])) (ra : RV X.mg ρ' a x) (rb : RV X.mg ρ' b y) :
    ∃ ρ'', Gw ρ' H ρ'' H' ∧ RV X.mg ρ'' (.loc h.size) v ∧ RH T X.mg ρ'' (h.push (.tup [a, b])) H' := by
  subst hv h3
  have g := Gw.new (O := .tup [x, y]) hn (rh.free hn)
  exact ⟨ρ' ++ [Tn], g, ⟨Tn, by rw [← rh.len]; simp, rfl⟩, rh.new hn ⟨_, rfl, .cons (ra.gw g) (.cons (rb.gw g) .nil)⟩⟩
theorem ir_enum {p : Nat} {d : Addr} (ed : ρ[p]? = some d) : IR X ρ (.enum p) (Ite X.K d) H := fun T ρ' i h H g rh => by
  have key : ∀ xs, h.get p = some (.lst xs) → ∃ vs, H d = some (.lst vs) ∧ RVs X.mg ρ' xs vs := fun xs e => by
    obtain ⟨a, vs, e1, e2, h1, r1⟩ := rh.lst (v := .ref d) ⟨d, g.get ed, rfl⟩ e
    cases e1
    exact ⟨vs, h1, r1⟩
  refine ⟨fun e => ?_, fun u h' e => ?_⟩
  · unfold nxt at e
    dsimp only at e
    split at e
    · rename_i xs e1
      obtain ⟨vs, h1, r1⟩ := key xs e1
      refine ⟨vs, SqL.of h1, ?_⟩
      cases q : xs[i]? with
      | none => rw [← r1.length]; exact List.getElem?_eq_none_iff.mp q
      | some w => rw [q] at e; cases e
    · cases e
  · unfold nxt at e
    dsimp only at e
    split at e
    · rename_i xs e1
      obtain ⟨vs, h1, r1⟩ := key xs e1
      obtain ⟨w, q, e⟩ := map_some' (Option.some.inj e)
      cases e
      obtain ⟨v, hv, rv⟩ := Pget r1 q
      refine ⟨⟨vs, v, SqL.of h1, hv⟩, fun x H' y => ?_⟩
      obtain ⟨T, x1, e1, e2, e3, y⟩ := y
      have := y vs (SqL.of h1)
      rw [hv] at this
      cases this
      exact pair_new rh e2 e1 e3 rfl rv
    · cases e
theorem ir_zip {p q : Nat} {d d' : Addr} (ed : ρ[p]? = some d) (ed' : ρ[q]? = some d') : IR X ρ (.zip p q) (Itz X.K d d') H := fun T ρ' i h H g rh => by
  have key : ∀ {p d}, ρ[p]? = some d → ∀ xs, h.get p = some (.lst xs) → ∃ vs, H d = some (.lst vs) ∧ RVs X.mg ρ' xs vs := fun {p d} ed xs e => by
    obtain ⟨a, vs, e1, e2, h1, r1⟩ := rh.lst (v := .ref d) ⟨d, g.get ed, rfl⟩ e
    cases e1
    exact ⟨vs, h1, r1⟩
  refine ⟨fun e => ?_, fun u h' e => ?_⟩
  · unfold nxt at e
    dsimp only at e
    split at e
    · rename_i xs ys e1 e2
      obtain ⟨vs, h1, r1⟩ := key ed xs e1
      obtain ⟨ws, h2, r2⟩ := key ed' ys e2
      refine ⟨vs, ws, SqL.of h1, SqL.of h2, ?_⟩
      have e := Option.some.inj e
      split at e
      · cases e
      · rename_i hno
        cases q1 : xs[i]? with
        | none => exact .inl (by rw [← r1.length]; exact List.getElem?_eq_none_iff.mp q1)
        | some w =>
          cases q2 : ys[i]? with
          | none => exact .inr (by rw [← r2.length]; exact List.getElem?_eq_none_iff.mp q2)
          | some w' => exact absurd q2 (hno w w' q1)
    · cases e
  · unfold nxt at e
    dsimp only at e
    split at e
    · rename_i xs ys e1 e2
      obtain ⟨vs, h1, r1⟩ := key ed xs e1
      obtain ⟨ws, h2, r2⟩ := key ed' ys e2
      have e := Option.some.inj e
      split at e
      · rename_i u1 u2 q1 q2
        cases e
        obtain ⟨v, hv, rv⟩ := Pget r1 q1
        obtain ⟨w, hw, rw'⟩ := Pget r2 q2
        refine ⟨⟨vs, ws, v, w, SqL.of h1, SqL.of h2, hv, hw⟩, fun x H' y => ?_⟩
        obtain ⟨T, x1, y1, e1, e2, e3, y, y'⟩ := y
        have := y vs (SqL.of h1)
        rw [hv] at this
        cases this
        have := y' ws (SqL.of h2)
        rw [hw] at this
        cases this
        exact pair_new rh e2 e1 e3 rv rw'
      · cases e
    · cases e
/-- x in a list, a tuple, a text -/
theorem i_seq (ha : Ex X W a ca) : Ix X W tg a (iSeq ca) := .mk fun ρ us h σ H Q L k => by
  unfold iSeq at k
  cases e1 : ca us h with
  | bad => rw [e1] at k; exact absurd k id
  | exc x h1 =>
    rw [e1] at k
    refine iW_of (pi_list peW) (ha ρ us h σ H _ L ?_)
    rw [e1]
    exact k
  | ok x h1 =>
    rw [e1] at k
    dsimp only [Res.bind] at k
    cases x with
    | str z =>
      refine iW_of (pi_str peW) (ha ρ us h σ H _ L ?_)
      rw [e1]
      intro ρ' b H' g r rh
      cases r
      exact ⟨z, rfl, k ρ' _ H' g ir_str rh⟩
    | loc p =>
      unfold mkIt at k
      dsimp only at k
      cases e2 : h1.get p with
      | none => rw [e2] at k; exact absurd k id
      | some o =>
        rw [e2] at k
        cases o with
        | lst xs =>
          refine iW_of (pi_list peW) (ha ρ us h σ H _ L ?_)
          rw [e1]
          intro ρ' b H' g r rh
          obtain ⟨d, vs, rfl, ed, hd, rd⟩ := rh.lst r e2
          exact ⟨d, rfl, ⟨vs, SqL.of hd⟩, k ρ' _ H' g (ir_lst ed) rh⟩
        | tup xs =>
          refine iW_of (pi_tup peW) (ha ρ us h σ H _ L ?_)
          rw [e1]
          intro ρ' b H' g r rh
          obtain ⟨d, vs, rfl, ed, hd, rd⟩ := rh.tup r e2
          exact ⟨d, rfl, ⟨vs, SqT.of hd⟩, k ρ' _ H' g (ir_tup ed) rh⟩
        | _ => exact absurd k id
    | _ => exact absurd k id
end
def fits (i : Int) : Bool := decide (-(2 ^ 62) ≤ i) && decide (i < 2 ^ 62)
def mkR1 (xs : List U) (h : Hh) : Res ItM := match xs with | [.int n] => if fits n then .ok (.rng 0 n.toNat) h else .bad | _ => .bad
def mkR2 (xs : List U) (h : Hh) : Res ItM := match xs with | [.int m, .int n] => if fits m && fits n then .ok (.rng m (n - m).toNat) h else .bad | _ => .bad
/-- range(m, n, -1) -/
def mkR3 (xs : List U) (h : Hh) : Res ItM := match xs with | [.int m, .int n, .int c] => if fits m && fits n && decide (c = -1) then .ok (.rngC m (-1) (m - n).toNat) h else .bad | _ => .bad
def mkEn (xs : List U) (h : Hh) : Res ItM := match xs with | [.loc p] => (match h.get p with | some (.lst _) => .ok (.enum p) h | _ => .bad) | _ => .bad
def mkZp (xs : List U) (h : Hh) : Res ItM := match xs with | [.loc p, .loc q] => (match h.get p, h.get q with | some (.lst _), some (.lst _) => .ok (.zip p q) h | _, _ => .bad) | _ => .bad
def iCall (m : List U → Hh → Res ItM) (a : AM) : Sl → Hh → Res ItM := fun us h => (a us h).bind m
section
variable {X : Cx} {W : Wp} {e a b c tg : Expr} {es : List Expr} {ca cb cc : EM} {cs : AM} {pos p apos cpos tpos : Pos} {elts : List Expr} {kk : Nat}
theorem i_call {t : TA → TI} {m : List U → Hh → Res ItM} {it : Expr} (hp : PI X tg it (t (aW X es))) (ha : Ax X W es cs)
    (hr : ∀ σ H (Q : It → Hp → Prop) (P : List V → Hp → Prop), aW X es σ H P → (∀ vs H1, P vs H1 → ∃ (ρ' : List Addr) (xs : List U) (h1 : Hh) (J : ItM) (h2 : Hh), RVs X.mg ρ' xs vs ∧ RH W.T X.mg ρ' h1 H1 ∧ m xs h1 = .ok J h2 ∧ ∀ J' , IR X ρ' J J' H1 → Q J' H1) → t (aW X es) σ H Q)
    (hm : ∀ xs h1 J h2, m xs h1 = .ok J h2 → h2 = h1) (hx : ∀ xs h1 e h2, m xs h1 ≠ .exc e h2) : Ix X W tg it (iCall m cs) := .mk fun ρ us h σ H Q L k => by
  refine iW_of hp (hr σ H Q (fun vs H1 => ∃ (ρ' : List Addr) (xs : List U) (h1 : Hh) (J : ItM) (h2 : Hh), RVs X.mg ρ' xs vs ∧ RH W.T X.mg ρ' h1 H1 ∧ m xs h1 = .ok J h2 ∧ ∀ J' , IR X ρ' J J' H1 → Q J' H1) ?_ fun vs H1 q => q)
  refine ha ρ us h σ H _ L ?_
  unfold iCall at k
  cases e1 : cs us h with
  | bad => rw [e1] at k; exact absurd k id
  | exc x h1 => rw [e1] at k; exact k
  | ok xs h1 =>
    rw [e1] at k
    dsimp only [Res.bind] at k
    cases e2 : m xs h1 with
    | bad => rw [e2] at k; exact absurd k id
    | exc x h2 => exact absurd e2 (hx _ _ _ _)
    | ok J h2 =>
      rw [e2] at k
      have eh := hm _ _ _ _ e2
      subst eh
      exact fun ρ' vs H1 g r rh => ⟨ρ', xs, _, J, _, r, rh, e2, fun J' ir => k ρ' J' H1 g ir rh⟩
theorem aW_mono {σ : St} {H : Hp} {P P' : List V → Hp → Prop} (h : aW X es σ H P) (k : ∀ vs H', P vs H' → P' vs H') : aW X es σ H P' := fun pos pins s I =>
  thn (h pos pins s I) fun _ _ ⟨vs, H', I', r, q⟩ => ⟨vs, H', I', r, k vs H' q⟩
theorem fits_ok {i : Int} (h : fits i = true) : -(2 ^ 62) ≤ i ∧ i < 2 ^ 62 := by
  unfold fits at h
  simpa using h
theorem i_range1 (hm : X.mg "range" = none) (ha : Ax X W [a] cs) (hg : Gl X "range" := by rfl) (hs : starEach [a] X.env = [(false, eval a X.env)] := by rfl) : Ix X W tg (.Call (.Name "range" p) [a] [] pos) (iCall mkR1 cs) :=
  i_call (t := iRng1) (pi_range1 hg hm paW hs) ha (fun σ H Q P hp q => aW_mono hp fun vs H1 pv => by
    obtain ⟨ρ', xs, h1, J, h2, r, rh, e, k⟩ := q vs H1 pv
    unfold mkR1 at e
    split at e
    · cases r with
      | cons r t =>
        cases t; cases r
        split at e
        · rename_i hf
          cases e
          exact ⟨_, rfl, (fits_ok hf).1, (fits_ok hf).2, k _ ir_rng⟩
        · cases e
    · cases e) (fun xs h1 J h2 e => by
    unfold mkR1 at e
    split at e
    · split at e <;> cases e
      rfl
    · cases e) (fun xs h1 e h2 z => by
    unfold mkR1 at z
    split at z
    · split at z <;> cases z
    · cases z)
theorem i_range2 (hm : X.mg "range" = none) (ha : Ax X W [a, b] cs) (hg : Gl X "range" := by rfl) (hs : starEach [a, b] X.env = [(false, eval a X.env), (false, eval b X.env)] := by rfl) (hs2 : starEach [b] X.env = [(false, eval b X.env)] := by rfl) : Ix X W tg (.Call (.Name "range" p) [a, b] [] pos) (iCall mkR2 cs) :=
  i_call (t := iRng2) (pi_range2 hg hm paW hs hs2) ha (fun σ H Q P hp q => aW_mono hp fun vs H1 pv => by
    obtain ⟨ρ', xs, h1, J, h2, r, rh, e, k⟩ := q vs H1 pv
    unfold mkR2 at e
    split at e
    · cases r with
      | cons r t =>
        cases t with
        | cons r2 t =>
          cases t; cases r; cases r2
          split at e
          · rename_i hf
            cases e
            rw [Bool.and_eq_true] at hf
            exact ⟨_, _, rfl, ⟨(fits_ok hf.1).1, (fits_ok hf.1).2, (fits_ok hf.2).1, (fits_ok hf.2).2⟩, k _ ir_rng⟩
          · cases e
    · cases e) (fun xs h1 J h2 e => by
    unfold mkR2 at e
    split at e
    · split at e <;> cases e
      rfl
    · cases e) (fun xs h1 e h2 z => by
    unfold mkR2 at z
    split at z
    · split at z <;> cases z
    · cases z)
theorem i_range3 (hm : X.mg "range" = none) (ha : Ax X W [a, b, c] cs) (hg : Gl X "range" := by rfl) (hs : starEach [a, b, c] X.env = (false, eval a X.env) :: starEach [b, c] X.env := by rfl) (hpl : (backTo pos (starEach [b, c] X.env)).any (·.1) = false := by rfl) : Ix X W tg (.Call (.Name "range" p) [a, b, c] [] pos) (iCall mkR3 cs) :=
  i_call (t := iRng3) (pi_range3 hg hm paW hs hpl) ha (fun σ H Q P hp q => aW_mono hp fun vs H1 pv => by
    obtain ⟨ρ', xs, h1, J, h2, r, rh, e, k⟩ := q vs H1 pv
    unfold mkR3 at e
    split at e
    · cases r with
      | cons r t =>
        cases t with
        | cons r2 t =>
          cases t with
          | cons r3 t =>
            cases t; cases r; cases r2; cases r3
            split at e
            · rename_i hf
              cases e
              simp only [Bool.and_eq_true, decide_eq_true_eq] at hf
              obtain ⟨⟨f1, f2⟩, rfl⟩ := hf
              exact ⟨_, _, _, _, rfl, RgC.neg (fits_ok f1).1 (fits_ok f1).2 (fits_ok f2).1 (fits_ok f2).2, k _ ir_rngC⟩
            · cases e
    · cases e) (fun xs h1 J h2 e => by
    unfold mkR3 at e
    split at e
    · split at e <;> cases e
      rfl
    · cases e) (fun xs h1 e h2 z => by
    unfold mkR3 at z
    split at z
    · split at z <;> cases z
    · cases z)
theorem i_enum (hm : X.mg "enumerate" = none) (ha : Ax X W [a] cs) (hg : Gl X "enumerate" := by rfl) (hs : starEach [a] X.env = [(false, eval a X.env)] := by rfl) : Ix X W (.Tuple elts kk tpos) (.Call (.Name "enumerate" p) [a] [] pos) (iCall mkEn cs) :=
  i_call (t := iEnum X.K) (pi_enum hg hm paW hs) ha (fun σ H Q P hp q => aW_mono hp fun vs H1 pv => by
    obtain ⟨ρ', xs, h1, J, h2, r, rh, e, k⟩ := q vs H1 pv
    unfold mkEn at e
    split at e
    · cases r with
      | cons r t =>
        cases t
        split at e
        · rename_i e1
          cases e
          obtain ⟨d, ws, rfl, ed, hd, rd⟩ := rh.lst r e1
          exact ⟨d, ws, rfl, SqL.of hd, k _ (ir_enum ed)⟩
        · cases e
    · cases e) (fun xs h1 J h2 e => by
    unfold mkEn at e
    split at e
    · split at e <;> cases e
      rfl
    · cases e) (fun xs h1 e h2 z => by
    unfold mkEn at z
    split at z
    · split at z <;> cases z
    · cases z)
theorem i_zip (hm : X.mg "zip" = none) (ha : Ax X W [a, b] cs) (hg : Gl X "zip" := by rfl) (hs : starEach [a, b] X.env = (false, eval a X.env) :: starEach [b] X.env := by rfl) (hpl : (backTo pos (starEach [b] X.env)).any (·.1) = false := by rfl) : Ix X W (.Tuple elts kk tpos) (.Call (.Name "zip" p) [a, b] [] pos) (iCall mkZp cs) :=
  i_call (t := iZip X.K) (pi_zip hg hm paW hs hpl) ha (fun σ H Q P hp q => aW_mono hp fun vs H1 pv => by
    obtain ⟨ρ', xs, h1, J, h2, r, rh, e, k⟩ := q vs H1 pv
    unfold mkZp at e
    split at e
    · cases r with
      | cons r t =>
        cases t with
        | cons r2 t =>
          cases t
          split at e
          · rename_i e1 e2
            cases e
            obtain ⟨d, ws, rfl, ed, hd, rd⟩ := rh.lst r e1
            obtain ⟨d', ws', rfl, ed', hd', rd'⟩ := rh.lst r2 e2
            exact ⟨d, d', ws, ws', rfl, SqL.of hd, SqL.of hd', k _ (ir_zip ed ed')⟩
          · cases e
    · cases e) (fun xs h1 J h2 e => by
    unfold mkZp at e
    split at e
    · split at e <;> cases e
      rfl
    · cases e) (fun xs h1 e h2 z => by
    unfold mkZp at z
    split at z
    · split at z <;> cases z
    · cases z)
end
end Mx
end
section
set_option maxHeartbeats 4000000
namespace Mx
open PySem L2
open NdefX (NTab TabsN TabN)
/-! ### targets -/
def gName (i : Nat) : GM := fun u us h => .ok (us.set i (some u)) h
def gEach : List GM → List U → Sl → Hh → Res Sl
  | [], [], us, h => .ok us h
  | g :: gs, x :: xs, us, h => (g x us h).bind fun us1 h1 => gEach gs xs us1 h1
  | _, _, _, _ => .bad
def gTup (gs : List GM) : GM := fun u us h => match u with | .loc p => (match h.get p with | some (.tup xs) => if xs.length = gs.length then gEach gs xs us h else .bad | _ => .bad) | _ => .bad
/-- what a target asks; is: the slots that it may change -/
def AfG (T : List NTab) (X : Cx) (ρ : List Addr) (H : Hp) (σ : St) (is : List Nat) (r : Res Sl) (Q : St → Hp → Prop) : Prop :=
  match r with
  | .ok us' h' => ∀ ρ' σ' H', Gw ρ H ρ' H' → Rl T X ρ' us' h' σ' H' → σ'.length = σ.length → (∀ j, j ∉ is → σ'[j]? = σ[j]?) → Q σ' H'
  | _ => False
structure Gt (T : List NTab) (X : Cx) (tg : Expr) (g : GM) (is : List Nat) : Prop where
  gt_ : ∀ ρ us h σ H u v Q, Rl T X ρ us h σ H → RV X.mg ρ u v → AfG T X ρ H σ is (g u us h) Q → gW X tg v σ H Q
instance (T : List NTab) (X : Cx) (tg : Expr) (g : GM) (is : List Nat) : CoeFun (Gt T X tg g is) (fun _ => ∀ ρ us h σ H u v Q, Rl T X ρ us h σ H → RV X.mg ρ u v → AfG T X ρ H σ is (g u us h) Q → gW X tg v σ H Q) := ⟨Gt.gt_⟩
def Gts (T : List NTab) (X : Cx) (ts : List Expr) (gs : List GM) (is : List Nat) : Prop := ∃ t, PGs X ts t ∧ ∀ ρ us h σ H xs vs Q, Rl T X ρ us h σ H → RVs X.mg ρ xs vs → AfG T X ρ H σ is (gEach gs xs us h) Q → t vs σ H Q
theorem Pset {α β : Type} {F : α → β → Prop} {x : α} {u : β} (r : F x u) : ∀ {xs : List α} {us : List β} (i : Nat), Paired F xs us → Paired F (xs.set i x) (us.set i u)
  | _, _, _, .nil => .nil
  | _, _, 0, .cons _ t => .cons r t
  | _, _, i + 1, .cons q t => .cons q (Pset r i t)
section
variable {T : List NTab} {X : Cx} {e tg : Expr} {es : List Expr} {g : GM} {gs : List GM} {is js : List Nat} {pos : Pos}
theorem Rl.set {ρ : List Addr} {us : Sl} {h : Hh} {σ : St} {H : Hp} (L : Rl T X ρ us h σ H) (i : Nat) {u : U} {v : V} (r : RV X.mg ρ u v) : Rl T X ρ (us.set i (some u)) h (σ.set i (some v)) H :=
  ⟨Pset (F := RS1 X.mg ρ) (x := some u) (u := some v) ⟨v, rfl, r⟩ i L.sl, L.rh⟩
theorem g_name {x : Str} (i : Nat) (hN : X.N.Nodup) (hi : X.N[i]? = some x := by rfl) (hx : Loc X.env.scope x := by first | exact Or.inl rfl | exact Or.inr rfl) (hf : X.fn x = true ∨ X.env.scope.names.lookup x = some .local := by first | exact .inl rfl | exact .inr rfl) :
    Gt T X (.Name x pos) (gName i) [i] := .mk fun ρ us h σ H u v Q L r k =>
  gW_of (pg_name hN hi hx hf) (k ρ _ H Gw.refl (L.set i r) (by simp) fun j hj => by
    rw [List.getElem?_set_ne]
    intro e
    exact hj (by simp [e]))
theorem gs_nil : Gts T X [] [] [] := ⟨_, pgs_nil, fun ρ us h σ H xs vs Q L r k => by
  cases r with
  | nil => exact ⟨rfl, k ρ σ H Gw.refl L rfl fun _ _ => rfl⟩
  | cons r t => exact absurd k id⟩
theorem gs_cons (h1 : Gt T X e g is) (h2 : Gts T X es gs js) (hs : (assignEach (e :: es) X.env).map (·.2) = assign e X.env :: (assignEach es X.env).map (·.2) := by rfl) : Gts T X (e :: es) (g :: gs) (is ++ js) := by
  obtain ⟨t, ht, h2⟩ := h2
  refine ⟨_, pgs_cons pgW ht hs, fun ρ us h σ H xs vs Q L r k => ?_⟩
  cases r with
  | nil => exact absurd k id
  | cons r t' =>
    rename_i x v xs vs
    have k : AfG T X ρ H σ (is ++ js) ((g x us h).bind fun us1 h1 => gEach gs xs us1 h1) Q := k
    refine ⟨v, vs, rfl, h1 ρ us h σ H x v _ L r ?_⟩
    cases e1 : g x us h with
    | bad => rw [e1] at k; exact k
    | exc x h1 => rw [e1] at k; exact k
    | ok us1 hh1 =>
      rw [e1] at k
      have k : AfG T X ρ H σ (is ++ js) (gEach gs xs us1 hh1) Q := k
      refine fun ρ' σ' H' g' L' hl hj => h2 ρ' us1 hh1 σ' H' xs vs Q L' (RVs.gw g' t') ?_
      cases e2 : gEach gs xs us1 hh1 with
      | bad => rw [e2] at k; exact k
      | exc x h1 => rw [e2] at k; exact k
      | ok us2 hh2 =>
        rw [e2] at k
        exact fun ρ2 σ2 H2 g2 L2 hl2 hj2 => k ρ2 σ2 H2 (g'.trans g2) L2 (hl2.trans hl) fun j hjn => by
          rw [List.mem_append, not_or] at hjn
          rw [hj2 j hjn.2, hj j hjn.1]
theorem g_tup {k : Nat} (h : Gts T X es gs is) (hc : X.calm = true := by rfl) (hn : (assignEach es X.env).length = gs.length := by rfl) (hst : (assignEach es X.env).findIdx? (·.1) = none := by rfl) : Gt T X (.Tuple es k pos) (gTup gs) is := by
  obtain ⟨t, ht, h⟩ := h
  refine .mk ?_
  intro ρ us hh σ H u v Q L r k
  cases u with
  | loc p =>
    unfold gTup at k
    dsimp only at k
    cases e1 : hh.get p with
    | none => rw [e1] at k; exact absurd k id
    | some o =>
      rw [e1] at k
      cases o with
      | tup xs =>
        dsimp only at k
        obtain ⟨d, vs, rfl, ed, hd, rd⟩ := L.rh.tup r e1
        by_cases hl : xs.length = gs.length
        · rw [if_pos hl] at k
          exact gW_of (pg_tup hc ht hn hst) ⟨d, vs, rfl, SqT.of hd, by rw [← rd.length]; exact hl, h ρ us hh σ H xs vs _ L rd k⟩
        · rw [if_neg hl] at k
          exact absurd k id
      | _ => exact absurd k id
  | _ => exact absurd k id
end

/-! ### statements -/
def sNil : SM := fun us h => .nx us h
def sSeq (a b : SM) : SM := fun us h => match a us h with | .nx us' h' => b us' h' | r => r
def sRet (e : EM) : SM := fun us h => (e us h).thn us fun u h1 => .rt u h1
def sRetN : SM := fun us h => .rt .non h
def sExpr (e : EM) : SM := fun us h => (e us h).thn us fun _ h1 => .nx us h1
def sIf (t : TM) (a b : SM) : SM := fun us h => (t us h).thn us fun c h1 => if c then a us h1 else b us h1
def sBrk : SM := fun us h => .bk us h
def sCnt : SM := fun us h => .ct us h
def sBad : SM := fun _ _ => .bad
def sAsg (e : EM) (g : GM) : SM := fun us h => (e us h).thn us fun u h1 => match g u us h1 with | .ok us' h2 => .nx us' h2 | _ => .bad
def setAll : List Nat → List U → Sl → Sl
  | i :: is, x :: xs, us => setAll is xs (us.set i (some x))
  | _, _, us => us
def sPar (is : List Nat) (a : AM) : SM := fun us h => (a us h).thn us fun xs h1 => if xs.length = is.length then .nx (setAll is xs us) h1 else .bad
def opAddI : O2 := fun x y h => match x, y with | .int i, .int j => some (.int (i + j), h) | _, _ => none
def sAug (i : Nat) (m : O2) (e : EM) : SM := fun us h => match us[i]? with | some (some x) => (e us h).thn us fun y h1 => (lft (m x y h1)).thn us fun z h2 => .nx (us.set i (some z)) h2 | _ => .bad
def mPut (x y v : U) (h : Hh) : Option Hh :=
  match x with
  | .loc p => (match h.get p with
    | some (.lst xs) => (match y with | .int k => (ixN xs.length k).map fun j => h.set p (.lst (xs.set j v)) | _ => none)
    | some (.dic false kvs) => (keyU y).bind fun k => if kvs.length < sizeLine then some (h.set p (.dic false (putU kvs k v))) else none
    | _ => none)
  | _ => none
def sPut (e o i : EM) : SM := fun us h => (e us h).thn us fun v h1 => (o us h1).thn us fun x h2 => (i us h2).thn us fun y h3 => match mPut x y v h3 with | some h4 => .nx us h4 | none => .bad
def putA (f : Str) (v : U) : List (Str × U) → List (Str × U)
  | [] => [(f, v)]
  | (g, x) :: r => if g = f then (g, v) :: r else (g, x) :: putA f v r
def mPutF (c f : Str) (x v : U) (h : Hh) : Option Hh :=
  match x with
  | .loc p => (match h.get p with | some (.ins c' fs) => if decide (c' = c) && decide (fs.length < 1000) then some (h.set p (.ins c' (putA f v fs))) else none | _ => none)
  | _ => none
def sPutF (c f : Str) (e o : EM) : SM := fun us h => (e us h).thn us fun v h1 => (o us h1).thn us fun x h2 => match mPutF c f x v h2 with | some h3 => .nx us h3 | none => .bad
def mFld (c f : Str) : O1 := fun x h => match x with | .loc p => (match h.get p with | some (.ins c' fs) => if c' = c then (fs.lookup f).map fun u => (u, h) else none | _ => none) | _ => none
/-- the most turns -/
def fuel : Nat := 1000000
def whl (t : TM) (b : SM) : Nat → SM
  | 0, _, _ => .bad
  | n + 1, us, h => (t us h).thn us fun c h1 => if c then (match b us h1 with | .nx us' h' => whl t b n us' h' | .ct us' h' => whl t b n us' h' | .bk us' h' => .nx us' h' | r => r) else .nx us h1
def sWhile (t : TM) (b : SM) : SM := fun us h => whl t b fuel us h
def forL (it : ItM) (g : GM) (b : SM) : Nat → Nat → SM
  | 0, _, _, _ => .bad
  | n + 1, i, us, h => match nxt it i h with
    | none => .bad
    | some none => .nx us h
    | some (some (u, h1)) => (match g u us h1 with
      | .ok us1 h2 => (match b us1 h2 with | .nx us' h' => forL it g b n (i + 1) us' h' | .ct us' h' => forL it g b n (i + 1) us' h' | .bk us' h' => .nx us' h' | r => r)
      | _ => .bad)
def sFor (it : Sl → Hh → Res ItM) (g : GM) (b : SM) : SM := fun us h => (it us h).thn us fun m h1 => forL m g b fuel 0 us h1

def stW (X : Cx) (st : Stmt) : TS := fun D σ H => ∀ pins s, Inv X pins σ H s → wpAny (model X.prog X.w) X.A (exec st X.env) (SP X pins D) X.xe s
theorem stWp {X : Cx} {st : Stmt} : PS X st (stW X st) := ⟨fun pins s _ _ _ I h => h pins s I⟩
theorem stW_of {X : Cx} {st : Stmt} {t : TS} {D : Ends} {σ : St} {H : Hp} (h : PS X st t) (q : t D σ H) : stW X st D σ H := fun pins s I => h.run pins s σ H D I q
structure St1 (X : Cx) (W : Wp) (st : Stmt) (c : SM) : Prop where
  st1_ : ∀ ρ us h σ H D, Rl W.T X ρ us h σ H → AfS X W ρ H (c us h) D → stW X st D σ H
instance (X : Cx) (W : Wp) (st : Stmt) (c : SM) : CoeFun (St1 X W st c) (fun _ => ∀ ρ us h σ H D, Rl W.T X ρ us h σ H → AfS X W ρ H (c us h) D → stW X st D σ H) := ⟨St1.st1_⟩
section
variable {X : Cx} {W : Wp} {e a b c o i tg it : Expr} {es : List Expr} {st : Stmt} {rest body body' : List Stmt} {ca cb cc co ci : EM} {ct : TM} {cs : AM} {cst cr cbd cbd' : SM} {g : GM} {is : List Nat} {pos p pos' : Pos}
theorem s_nil : Sx X W [] sNil := .mk fun ρ us h σ H D L k => sW_of pss_nil (k ρ σ H Gw.refl L)
theorem s_cons (h1 : St1 X W st cst) (h2 : Sx X W rest cr) : Sx X W (st :: rest) (sSeq cst cr) := .mk fun ρ us h σ H D L k => by
  refine sW_of (pss_cons stWp psW) (h1 ρ us h σ H _ L ?_)
  unfold sSeq at k
  cases e : cst us h with
  | nx us' h' =>
    rw [e] at k
    exact fun ρ' σ' H' g' L' => h2 ρ' us' h' σ' H' D L' (AfS.gw g' k)
  | rt u h' => rw [e] at k; exact k
  | bk us' h' => rw [e] at k; exact k
  | ct us' h' => rw [e] at k; exact k
  | exc e us' h' => rw [e] at k; exact k
  | bad => rw [e] at k; exact k
theorem s_pass : St1 X W (.Pass pos) sNil := .mk fun ρ us h σ H D L k => stW_of ps_pass (k ρ σ H Gw.refl L)
theorem s_ret (ha : Ex X W a ca) : St1 X W (.Return (some a) pos) (sRet ca) := .mk fun ρ us h σ H D L k => stW_of (ps_ret peW) (ha.runS L k fun u h1 ρ1 v H1 _ g1 r1 L1 k1 => k1 ρ1 v H1 Gw.refl r1 L1.rh)
theorem s_retN : St1 X W (.Return none pos) sRetN := .mk fun ρ us h σ H D L k => stW_of ps_retN (k ρ .non H Gw.refl rfl L.rh)
theorem s_expr (ha : Ex X W a ca) (hs : swapsWith a none pos.line X.env = pure false := by rfl) : St1 X W (.Expr a pos) (sExpr ca) := .mk fun ρ us h σ H D L k => stW_of (ps_expr peW hs) (ha.runS L k fun u h1 ρ1 v H1 _ g1 r1 L1 k1 => k1 ρ1 σ H1 Gw.refl L1)
theorem s_if (hc : Tx X W c ct) (h1 : Sx X W body cbd) (h2 : Sx X W body' cbd') : St1 X W (.If c body body' pos) (sIf ct cbd cbd') := .mk fun ρ us h σ H D L k =>
  stW_of (ps_if ptW psW psW) (hc.runS L k fun d h1' ρ1 v H1 _ g1 r1 L1 k1 => by
    subst r1
    cases v with
    | true => exact iteT (h1 ρ1 us h1' σ H1 D L1 k1)
    | false => exact iteF (h2 ρ1 us h1' σ H1 D L1 k1))
theorem s_brk : St1 X W (.Break pos) sBrk := .mk fun ρ us h σ H D L k => stW_of ps_break (k ρ σ H Gw.refl L)
theorem s_cnt : St1 X W (.Continue pos) sCnt := .mk fun ρ us h σ H D L k => stW_of ps_continue (k ρ σ H Gw.refl L)
/-- never reached -/
theorem s_never : St1 X W st sBad := .mk fun ρ us h σ H D L k => absurd k id
theorem s_set {x : Str} (i : Nat) (ha : Ex X W a ca) (hN : X.N.Nodup) (hi : X.N[i]? = some x := by rfl) (hx : Loc X.env.scope x := by first | exact Or.inl rfl | exact Or.inr rfl) (hs : swapsWith a (some (.Name x pos')) pos.line X.env = pure false := by rfl)
    (hf : X.fn x = true ∨ X.env.scope.names.lookup x = some .local := by first | exact .inl rfl | exact .inr rfl) : St1 X W (.Assign [.Name x pos'] a pos) (sAsg ca (gName i)) := .mk fun ρ us h σ H D L k =>
  stW_of (ps_set hN hi hx peW hs hf) (ha.runS L k fun u h1 ρ1 v H1 _ g1 r1 L1 k1 => k1 ρ1 _ H1 Gw.refl (L1.set i r1))
theorem s_asg (ha : Ex X W a ca) (hg : Gt W.T X tg g is) (hs : swapsWithSole [tg] a pos.line X.env = pure false := by rfl) (hw : swappedStores [tg] a X.env = pure none := by rfl) (h1 : (assignEach [tg] X.env).map (·.2) = [assign tg X.env] := by rfl) :
    St1 X W (.Assign [tg] a pos) (sAsg ca g) := .mk fun ρ us h σ H D L k =>
  stW_of (ps_asg peW pgW hs hw h1) (ha.runS L k fun u h1 ρ1 v H1 _ g1 r1 L1 k1 => by
    refine hg ρ1 us h1 σ H1 u v _ L1 r1 ?_
    cases e1 : g u us h1 with
    | bad => rw [e1] at k1; exact k1
    | exc x h1 => rw [e1] at k1; exact absurd k1 id
    | ok us1 hh1 =>
      rw [e1] at k1
      exact fun ρ' σ' H' g' L' _ _ => k1 ρ' σ' H' g' L')
theorem s_par2 {x y : Str} {px py pt pt2 : Pos} {kt k2 : Nat} (i j : Nat) (hN : X.N.Nodup) (ha : Ax X W [a, b] cs) (hij : i ≠ j := by decide) (hi : X.N[i]? = some x := by rfl) (hj : X.N[j]? = some y := by rfl)
    (hw : swappedStores [.Tuple [.Name x px, .Name y py] kt pt] (.Tuple [a, b] k2 pt2) X.env = pure (some [x, y]) := by rfl) (hx : X.env.scope.names.lookup x = some .local := by rfl) (hy : X.env.scope.names.lookup y = some .local := by rfl) (hc : X.calm = true := by rfl)
    (hs : swapsWithSole [.Tuple [.Name x px, .Name y py] kt pt] (.Tuple [a, b] k2 pt2) pos.line X.env = pure false := by rfl) : St1 X W (.Assign [.Tuple [.Name x px, .Name y py] kt pt] (.Tuple [a, b] k2 pt2) pos) (sPar [i, j] cs) := .mk fun ρ us h σ H D L k =>
  stW_of (ps_par hc hN hi hj hij hx hy paW hw hs) (ha.runS L k fun xs h1 ρ1 vs H1 _ g1 r1 L1 k1 => by
    match xs, vs, r1, k1 with
    | [x1, x2], [v1, v2], .cons q1 (.cons q2 .nil), k1 => exact ⟨v1, v2, rfl, k1 ρ1 _ H1 Gw.refl ((L1.set i q1).set j q2)⟩
    | [], _, _, k1 => exact absurd k1 id
    | [_], _, _, k1 => exact absurd k1 id
    | _ :: _ :: _ :: _, _, _, k1 => exact absurd (show AfS X W ρ1 H1 RS.bad D by simpa [setAll] using k1) id)
theorem s_par3 {x y z : Str} {px py pz pt pt2 : Pos} {kt k2 : Nat} (i j l : Nat) (hN : X.N.Nodup) (ha : Ax X W [a, b, c] cs) (hij : i ≠ j := by decide) (hil : i ≠ l := by decide) (hjl : j ≠ l := by decide) (hi : X.N[i]? = some x := by rfl) (hj : X.N[j]? = some y := by rfl) (hl : X.N[l]? = some z := by rfl)
    (hw : swappedStores [.Tuple [.Name x px, .Name y py, .Name z pz] kt pt] (.Tuple [a, b, c] k2 pt2) X.env = pure (some [x, y, z]) := by rfl) (hx : X.env.scope.names.lookup x = some .local := by rfl) (hy : X.env.scope.names.lookup y = some .local := by rfl) (hz : X.env.scope.names.lookup z = some .local := by rfl) (hc : X.calm = true := by rfl)
    (hs : swapsWithSole [.Tuple [.Name x px, .Name y py, .Name z pz] kt pt] (.Tuple [a, b, c] k2 pt2) pos.line X.env = pure false := by rfl) : St1 X W (.Assign [.Tuple [.Name x px, .Name y py, .Name z pz] kt pt] (.Tuple [a, b, c] k2 pt2) pos) (sPar [i, j, l] cs) := .mk fun ρ us h σ H D L k =>
  stW_of (ps_par3 hc hN hi hj hl hij hil hjl hx hy hz paW hw hs) (ha.runS L k fun xs h1 ρ1 vs H1 _ g1 r1 L1 k1 => by
    match xs, vs, r1, k1 with
    | [x1, x2, x3], [v1, v2, v3], .cons q1 (.cons q2 (.cons q3 .nil)), k1 => exact ⟨v1, v2, v3, rfl, k1 ρ1 _ H1 Gw.refl (((L1.set i q1).set j q2).set l q3)⟩
    | [], _, _, k1 => exact absurd k1 id
    | [_], _, _, k1 => exact absurd k1 id
    | [_, _], _, _, k1 => exact absurd k1 id
    | _ :: _ :: _ :: _ :: _, _, _, k1 => exact absurd (show AfS X W ρ1 H1 RS.bad D by simpa [setAll] using k1) id)
theorem s_augA {x : Str} (i : Nat) (ha : Ex X W a ca) (hN : X.N.Nodup) (hi : X.N[i]? = some x := by rfl) (hx : Loc X.env.scope x := by first | exact Or.inl rfl | exact Or.inr rfl) (hf : X.fn x = true ∨ X.env.scope.names.lookup x = some .local := by first | exact .inl rfl | exact .inr rfl) :
    St1 X W (.AugAssign (.Name x pos') .Add a pos) (sAug i opAddI ca) := .mk fun ρ us h σ H D L k => by
  unfold sAug at k
  split at k
  · rename_i u e
    obtain ⟨v, h1, h2⟩ := L.get e
    refine stW_of (ps_aug hN hi hx peW ip_add hf) ⟨v, h1, ha.runS L k fun y h3 ρ1 w H1 _ g1 r1 L1 k1 => ?_⟩
    cases u with
    | int m =>
      cases y with
      | int n =>
        cases h2; cases r1
        exact ⟨m, n, rfl, rfl, k1 ρ1 _ H1 Gw.refl (L1.set i rfl)⟩
      | _ => exact absurd k1 id
    | _ => exact absurd k1 id
  · exact absurd k id
theorem s_augS {x : Str} (i : Nat) (ha : Ex X W a ca) (hN : X.N.Nodup) (hi : X.N[i]? = some x := by rfl) (hx : Loc X.env.scope x := by first | exact Or.inl rfl | exact Or.inr rfl) (hf : X.fn x = true ∨ X.env.scope.names.lookup x = some .local := by first | exact .inl rfl | exact .inr rfl) :
    St1 X W (.AugAssign (.Name x pos') .Sub a pos) (sAug i opSub ca) := .mk fun ρ us h σ H D L k => by
  unfold sAug at k
  split at k
  · rename_i u e
    obtain ⟨v, h1, h2⟩ := L.get e
    refine stW_of (ps_aug hN hi hx peW ip_sub hf) ⟨v, h1, ha.runS L k fun y h3 ρ1 w H1 _ g1 r1 L1 k1 => ?_⟩
    cases u with
    | int m =>
      cases y with
      | int n =>
        cases h2; cases r1
        exact ⟨m, n, rfl, rfl, k1 ρ1 _ H1 Gw.refl (L1.set i rfl)⟩
      | _ => exact absurd k1 id
    | _ => exact absurd k1 id
  · exact absurd k id
def pW (X : Cx) : TSet := fun o i v H Q => ∀ pins s σ ov iv u, Inv X pins σ H s → RelV o ov → RelV i iv → RelV v u → wpAny (model X.prog X.w) X.A (setItem ov iv u) (fun _ s' => ∃ H', Inv X pins σ H' s' ∧ Q H') X.xe s
theorem pWp : PSet X (pW X) := fun pins s σ H o i v ov iv u Q I ro ri rv q => q pins s σ ov iv u I ro ri rv
theorem pW_of {t : TSet} {o i v : V} {H : Hp} {Q : Hp → Prop} (h : PSet X t) (q : t o i v H Q) : pW X o i v H Q := fun pins s σ ov iv u I ro ri rv => h pins s σ H o i v ov iv u Q I ro ri rv q
theorem s_put (hu : X.A.units + 1 < cLine) (ha : Ex X W a ca) (ho : Ex X W o co) (hi : Ex X W i ci) (hs : swapsWithSole [.Subscript o i pos'] a pos.line X.env = pure false := by rfl) (hw : swappedStores [.Subscript o i pos'] a X.env = pure none := by rfl)
    (h1 : (assignEach [.Subscript o i pos'] X.env).map (·.2) = [assign (.Subscript o i pos') X.env] := by rfl)
    (ha' : ∀ v, assign (.Subscript o i pos') X.env v = (do
      let ov ← holding [v] (eval o X.env)
      let iv ← holding [v, ov] (eval i X.env)
      standAt pos'
      holding [v, ov, iv] (setItem ov iv v)
      release [v, ov, iv] []) := by intro _; rfl) : St1 X W (.Assign [.Subscript o i pos'] a pos) (sPut ca co ci) := .mk fun ρ us h σ H D L k =>
  stW_of (ps_asg peW (pg_sub peW peW pWp ha') hs hw h1) (ha.runS L k fun u h1 ρ1 v H1 _ g1 r1 L1 k1 => ho.runS L1 k1 fun x h2 ρ2 w H2 _ g2 r2 L2 k2 => hi.runS L2 k2 fun y h3 ρ3 z H3 _ g3 r3 L3 k3 => by
    have r1 := (r1.gw g2).gw g3
    have r2 := r2.gw g3
    cases e : mPut x y u h3 with
    | none => rw [e] at k3; exact absurd k3 id
    | some h4 =>
      rw [e] at k3
      unfold mPut at e
      split at e
      · split at e
        · rename_i e1
          split at e
          · obtain ⟨j, ej, e⟩ := map_some' e
            cases e; cases r3
            obtain ⟨d, vs, rfl, ed, hd, rd⟩ := L3.rh.lst r2 e1
            refine pW_of set_list ⟨d, vs, _, j, rfl, rfl, hd, by rw [← rd.length]; exact ej, ?_⟩
            exact k3 ρ3 σ _ (Gw.mut (mem_of_ix ed) hd (by intro _ _ z; cases z) (by intro _ z; cases z)) (L3.gw (Gw.mut (mem_of_ix ed) hd (by intro _ _ z; cases z) (by intro _ z; cases z)) (L3.rh.mut (Hh.get_lt e1) ed ⟨_, rfl, Pset r1 j rd⟩))
          · cases e
        · rename_i e1
          obtain ⟨kk, ek, e⟩ := bind_some' e
          split at e
          · rename_i hl
            cases e
            obtain ⟨d, ws, rfl, ed, hd, rd⟩ := L3.rh.dicU r2 e1
            cases key_rv r3 ek
            refine pW_of (set_dict hu) ⟨d, _, rfl, DPut.k hd (by rw [← rd.length]; exact hl), ?_⟩
            exact k3 ρ3 σ _ (Gw.mut (mem_of_ix ed) hd (by intro _ _ z; cases z) (by intro _ z; cases z)) (L3.gw (Gw.mut (mem_of_ix ed) hd (by intro _ _ z; cases z) (by intro _ z; cases z)) (L3.rh.mut (Hh.get_lt e1) ed ⟨_, rfl, put_rv rd r1⟩))
          · cases e
        · cases e
      · cases e)
theorem putA_rv {mg : Str → Option Value} {ρ : List Addr} {f : Str} {u : U} {v : V} (r : RV mg ρ u v) : ∀ {fs : List (Str × U)} {gs : List (Str × V)}, RKV mg ρ fs gs → RKV mg ρ (putA f u fs) (putF f v gs)
  | _, _, .nil => .cons ⟨rfl, r⟩ .nil
  | _, _, .cons (a := x) (b := y) q t => by
    unfold putA putF
    rw [q.1]
    split
    · exact .cons ⟨rfl, r⟩ t
    · exact .cons ⟨rfl, q.2⟩ (putA_rv r t)
theorem lookup_rv {mg : Str → Option Value} {ρ : List Addr} {f : Str} : ∀ {fs : List (Str × U)} {gs : List (Str × V)}, RKV mg ρ fs gs → (fs.lookup f = none → gs.lookup f = none) ∧ ∀ u, fs.lookup f = some u → ∃ v, gs.lookup f = some v ∧ RV mg ρ u v
  | _, _, .nil => ⟨fun _ => rfl, fun _ e => by cases e⟩
  | _, _, .cons (a := x) (b := y) (l₁ := l) (l₂ := m) q t => by
    have ih := lookup_rv (f := f) t
    obtain ⟨x1, x2⟩ := x
    obtain ⟨y1, y2⟩ := y
    obtain ⟨q1, q2⟩ := q
    dsimp only at q1 q2
    subst q1
    rw [List.lookup_cons, List.lookup_cons]
    cases hf : f == y1 with
    | true => exact ⟨fun e => by simp at e, fun u e => ⟨y2, rfl, by cases e; exact q2⟩⟩
    | false => exact ih
theorem s_putF {c f : Str} {C : Addr} (hm : X.mg c = some (.ref C)) (hC : Cls X.K C) (hn : NoAttr X.K C f) (ha : Ex X W a ca) (ho : Ex X W o co) (hs : swapsWith a (some (.Attribute o f pos')) pos.line X.env = pure false := by rfl) : St1 X W (.Assign [.Attribute o f pos'] a pos) (sPutF c f ca co) := .mk fun ρ us h σ H D L k =>
  stW_of (ps_fld peW peW hs) (ha.runS L k fun u h1 ρ1 v H1 _ g1 r1 L1 k1 => ho.runS L1 k1 fun x h2 ρ2 w H2 _ g2 r2 L2 k2 => by
    have r1 := r1.gw g2
    cases e : mPutF c f x u h2 with
    | none => rw [e] at k2; exact absurd k2 id
    | some h4 =>
      rw [e] at k2
      unfold mPutF at e
      split at e
      · split at e
        · rename_i e1
          split at e
          · rename_i hl
            cases e
            simp only [Bool.and_eq_true, decide_eq_true_eq] at hl
            obtain ⟨rfl, hl⟩ := hl
            obtain ⟨d, C', dx, gs, rfl, ed, hm', hd, rd⟩ := L2.rh.ins r2 e1
            rw [hm] at hm'
            cases hm'
            refine ⟨d, C, dx, gs, rfl, hd, hC, hn, by rw [← rd.length]; exact hl, ?_⟩
            exact k2 ρ2 σ _ (Gw.mut (mem_of_ix ed) hd (by intro _ _ z; cases z) (by intro _ z; cases z)) (L2.gw (Gw.mut (mem_of_ix ed) hd (by intro _ _ z; cases z) (by intro _ z; cases z)) (L2.rh.mut (Hh.get_lt e1) ed ⟨C, dx, _, hm, rfl, putA_rv r1 rd⟩))
          · cases e
        · cases e
      · cases e)
theorem x_fld {c f : Str} {C : Addr} (hm : X.mg c = some (.ref C)) (hC : Cls X.K C) (hn : NoAttr X.K C f) (ho : Ex X W o co) (hb : attributeBase o f X.env (eval o X.env) = eval o X.env := by rfl) : Ex X W (.Attribute o f pos) (eUn (mFld c f) co) := .mk fun ρ us h σ H Q L k =>
  eW_of (pe_fld peW hb) (ho.run L k fun x h1 ρ1 v H1 _ g1 r1 L1 k1 => by
    obtain ⟨u, h', e, q⟩ := k1.lft
    unfold mFld at e
    split at e
    · split at e
      · rename_i e1
        split at e
        · rename_i hc
          subst hc
          obtain ⟨w, ew, e⟩ := map_some' e
          cases e
          obtain ⟨d, C', dx, gs, rfl, ed, hm', hd, rd⟩ := L1.rh.ins r1 e1
          rw [hm] at hm'
          cases hm'
          obtain ⟨v, hv, rv⟩ := (lookup_rv (f := f) rd).2 _ ew
          exact ⟨d, C, dx, gs, v, rfl, hd, hC, hn, hv, NQ.flat q L1.rh rv⟩
        · cases e
      · cases e
    · cases e)

/-! ### loops -/
theorem s_while (hc : Tx X W c ct) (hb : Sx X W body cbd) (hp : PassesOwn (model X.prog X.w) X.A X.env X.xe := by exact PassesOwn.never) : St1 X W (.While c body [] pos) (sWhile ct cbd) := .mk fun ρ us h σ H D L k => by
  refine stW_of (ps_while hp ptW psW) ⟨fun m σ' H' => ∃ ρ' us' h', Gw ρ H ρ' H' ∧ Rl W.T X ρ' us' h' σ' H' ∧ AfS X W ρ' H' (whl ct cbd m us' h') D, ⟨fuel, ρ, us, h, Gw.refl, L, k⟩, ?_⟩
  rintro m σ1 H1 ⟨ρ1, us1, h1, g1, L1, k1⟩
  cases m with
  | zero => exact absurd k1 id
  | succ m =>
    refine hc.runS L1 (show AfS X W ρ1 H1 ((ct us1 h1).thn us1 _) D from k1) fun d h2 ρ2 v H2 _ g2 r2 L2 k2 => ?_
    subst r2
    cases v with
    | false => exact iteF (k2 ρ2 σ1 H2 Gw.refl L2)
    | true =>
      refine iteT ⟨fun σ' H' => ∃ ρ' us' h', Gw ρ H ρ' H' ∧ Rl W.T X ρ' us' h' σ' H' ∧ AfS X W ρ' H' (whl ct cbd m us' h') D, fun σ' H' q => ⟨m, Nat.lt_succ_self m, q⟩, hb ρ2 us1 h2 σ1 H2 _ L2 ?_⟩
      have k3 : AfS X W ρ2 H2 (match cbd us1 h2 with | .nx us' h' => whl ct cbd m us' h' | .ct us' h' => whl ct cbd m us' h' | .bk us' h' => .nx us' h' | r => r) D := k2
      cases e : cbd us1 h2 with
      | nx us' h' => rw [e] at k3; exact fun ρ' σ' H' g' L' => ⟨ρ', us', h', (g1.trans g2).trans g', L', AfS.gw g' k3⟩
      | ct us' h' => rw [e] at k3; exact fun ρ' σ' H' g' L' => ⟨ρ', us', h', (g1.trans g2).trans g', L', AfS.gw g' k3⟩
      | bk us' h' => rw [e] at k3; exact k3
      | rt u h' => rw [e] at k3; exact k3
      | exc x us' h' => rw [e] at k3; exact k3
      | bad => rw [e] at k3; exact k3
theorem Ix.runS {ρ : List Addr} {us : Sl} {h : Hh} {σ : St} {H : Hp} {ci : Sl → Hh → Res ItM} {f : ItM → Hh → RS} {D : Ends} {Q : It → Hp → Prop} (j : Ix X W tg it ci) (L : Rl W.T X ρ us h σ H) (k : AfS X W ρ H ((ci us h).thn us f) D)
    (kk : ∀ m h1 ρ1 J H1, ci us h = .ok m h1 → Gw ρ H ρ1 H1 → IR X ρ1 m J H1 → Rl W.T X ρ1 us h1 σ H1 → AfS X W ρ1 H1 (f m h1) D → Q J H1) : iW X tg it σ H Q := by
  refine j ρ us h σ H Q L ?_
  cases e : ci us h with
  | ok a h1 =>
    rw [e] at k
    exact fun ρ1 b H1 g r rh => kk a h1 ρ1 b H1 e g r (L.gw g rh) (AfS.gw g k)
  | exc x h1 => rw [e] at k; exact AfXS.at_ L k
  | bad => rw [e] at k; exact k
theorem s_for {ci : Sl → Hh → Res ItM} (hi : Ix X W tg it ci) (hg : Gt W.T X tg g is) (hb : Sx X W body cbd) (hp : PassesOwn (model X.prog X.w) X.A X.env X.xe := by exact PassesOwn.never) (hc : X.calm = true := by rfl) (hs : ∀ x, foldedSetIterable it X.env x = pure x := by intro _; rfl) :
    St1 X W (.For tg it body [] pos) (sFor ci g cbd) := .mk fun ρ us h σ H D L k => by
  refine stW_of (ps_for hp hc piW pgW psW hs) (hi.runS L k fun m h1 ρ1 J H1 _ g1 ir L1 k1 => ?_)
  refine ⟨fun i n σ' H' => ∃ ρ' us' h', Gw ρ1 H1 ρ' H' ∧ Rl W.T X ρ' us' h' σ' H' ∧ AfS X W ρ' H' (forL m g cbd n i us' h') D, ⟨fuel, ρ1, us, h1, Gw.refl, L1, k1⟩, ?_⟩
  rintro i n σ2 H2 ⟨ρ2, us2, h2, g2, L2, k2⟩
  cases n with
  | zero => exact absurd k2 id
  | succ n =>
    obtain ⟨stop, go⟩ := ir _ ρ2 i h2 H2 g2 L2.rh
    unfold forL at k2
    cases e : nxt m i h2 with
    | none => rw [e] at k2; exact absurd k2 id
    | some o =>
      rw [e] at k2
      cases o with
      | none => exact .inl ⟨stop e, k2 ρ2 σ2 H2 Gw.refl L2⟩
      | some uh =>
        obtain ⟨u, h3⟩ := uh
        obtain ⟨gg, yl⟩ := go u h3 e
        dsimp only at k2
        refine .inr ⟨gg, fun σ' H' => ∃ ρ' us' h', Gw ρ1 H1 ρ' H' ∧ Rl W.T X ρ' us' h' σ' H' ∧ AfS X W ρ' H' (forL m g cbd n (i + 1) us' h') D, fun σ' H' q => ⟨n, Nat.lt_succ_self n, q⟩, fun x H3 y => ?_⟩
        obtain ⟨ρ3, g3, rv, rh3⟩ := yl x H3 y
        refine hg ρ3 us2 h3 σ2 H3 u x _ (L2.gw g3 rh3) rv ?_
        cases e1 : g u us2 h3 with
        | bad => rw [e1] at k2; exact k2
        | exc x h1 => rw [e1] at k2; exact absurd k2 id
        | ok us4 h4 =>
          rw [e1] at k2
          refine fun ρ4 σ4 H4 g4 L4 _ _ => hb ρ4 us4 h4 σ4 H4 _ L4 ?_
          have k3 : AfS X W ρ4 H4 (match cbd us4 h4 with | .nx us' h' => forL m g cbd n (i + 1) us' h' | .ct us' h' => forL m g cbd n (i + 1) us' h' | .bk us' h' => .nx us' h' | r => r) D := AfS.gw (g3.trans g4) k2
          have g5 := (g2.trans g3).trans g4
          cases e : cbd us4 h4 with
          | nx us' h' => rw [e] at k3; exact fun ρ' σ' H' g' L' => ⟨ρ', us', h', g5.trans g', L', AfS.gw g' k3⟩
          | ct us' h' => rw [e] at k3; exact fun ρ' σ' H' g' L' => ⟨ρ', us', h', g5.trans g', L', AfS.gw g' k3⟩
          | bk us' h' => rw [e] at k3; exact k3
          | rt u h' => rw [e] at k3; exact k3
          | exc x us' h' => rw [e] at k3; exact k3
          | bad => rw [e] at k3; exact k3
end
end Mx
end
section
set_option maxHeartbeats 4000000
namespace Mx
open PySem L2
open NdefX (NTab TabsN TabN)
/-! ### comprehensions -/
theorem wipe_get {vs : List Nat} {σ : St} {j : Nat} (h : j ∉ vs) : (wipe σ vs)[j]? = σ[j]? := by
  induction vs with
  | nil => rfl
  | cons v vs ih =>
    rw [List.mem_cons, not_or] at h
    unfold wipe
    rw [List.getElem?_set_ne (fun e => h.1 e.symm)]
    exact ih h.2
theorem wipe_at {vs : List Nat} {σ : St} {j : Nat} (h : j ∈ vs) (hl : j < σ.length) : (wipe σ vs)[j]? = some none := by
  induction vs with
  | nil => cases h
  | cons v vs ih =>
    unfold wipe
    by_cases e : v = j
    · subst e
      rw [List.getElem?_set_self (by rw [wipe_length]; exact hl)]
    · rw [List.getElem?_set_ne e]
      rcases List.mem_cons.mp h with h | h
      · exact absurd h.symm e
      · exact ih h
theorem wipe_eq {vs : List Nat} {σ σ' : St} (hl : σ'.length = σ.length) (h : ∀ j, j ∉ vs → σ'[j]? = σ[j]?) : wipe σ' vs = wipe σ vs := by
  apply List.ext_getElem?
  intro j
  by_cases hj : j ∈ vs
  · by_cases hlt : j < σ.length
    · rw [wipe_at hj hlt, wipe_at hj (by rw [hl]; exact hlt)]
    · rw [List.getElem?_eq_none (by rw [wipe_length]; omega), List.getElem?_eq_none (by rw [wipe_length]; omega)]
  · rw [wipe_get hj, wipe_get hj]
    exact h j hj
theorem wipe_idem {vs : List Nat} {σ : St} : wipe (wipe σ vs) vs = wipe σ vs := wipe_eq (wipe_length _ _) fun j hj => wipe_get hj
def wipeU (us : Sl) : List Nat → Sl
  | [] => us
  | v :: vs => (wipeU us vs).set v none
theorem wipe_rv {mg : Str → Option Value} {ρ : List Addr} {us : Sl} {σ : St} (r : Paired (RS1 mg ρ) us σ) : ∀ vs : List Nat, Paired (RS1 mg ρ) (wipeU us vs) (wipe σ vs)
  | [] => r
  | v :: vs => Pset (F := RS1 mg ρ) (x := none) (u := none) True.intro v (wipe_rv r vs)
def tYes : TM := fun _ h => .ok true h
def lcL (it : ItM) (g : GM) (t : TM) (e : EM) (usw : Sl) : Nat → Nat → List U → Hh → Res (List U)
  | 0, _, _, _ => .bad
  | n + 1, i, acc, h => match nxt it i h with
    | none => .bad
    | some none => .ok acc.reverse h
    | some (some (u, h1)) => (match g u usw h1 with
      | .ok us1 h2 => (match t us1 h2 with
        | .ok b h3 => if b then (match e us1 h3 with | .ok y h4 => if acc.length < sizeLine then lcL it g t e usw n (i + 1) (y :: acc) h4 else .bad | _ => .bad) else lcL it g t e usw n (i + 1) acc h3
        | _ => .bad)
      | _ => .bad)
def eLc (it : Sl → Hh → Res ItM) (g : GM) (t : TM) (e : EM) (vs : List Nat) : EM := fun us h => (it us h).bind fun m h1 => (lcL m g t e (wipeU us vs) fuel 0 [] h1).bind fun ys h2 => .ok (.loc h2.size) (h2.push (.lst ys))
abbrev blk (X : Cx) (scope : Scope) (s : Shared) (H : Hp) (C : Addr) (cl : List (Str × Addr)) (fp : List Addr) : Cx := X.blk s H scope (compEnvC scope cl C X.env) fp
def tsW (X : Cx) (ifs : List Expr) : TT := fun σ H Q => ∀ pins s, Inv X pins σ H s →
  wpAny (model X.prog X.w) X.A (forIn ifs true fun c r => if r = true then do let ok ← isTrue c X.env (eval c X.env); pure (ForInStep.yield ok) else pure (ForInStep.yield r)) (TP X pins σ Q) X.xe s
theorem tsW_of {X : Cx} {ifs : List Expr} {t : TT} {σ : St} {H : Hp} {Q : Bool → Hp → Prop} (h : PTs X ifs t) (q : t σ H Q) : tsW X ifs σ H Q := fun pins s I => h.run pins s σ H Q I q
abbrev Tss (T : List NTab) (X : Cx) (ifs : List Expr) (c : TM) : Prop := Jd X (nW T) (fun _ (a b : Bool) => b = a) (tsW X ifs) c
section
variable {X : Cx} {W : Wp} {e a b c o i tg it elt : Expr} {ifs es : List Expr} {ca cb cc co ci ce : EM} {ct : TM} {g : GM} {is : List Nat} {pos p pos' : Pos} {scope : Scope} {own : List (Str × Nat)} {itc : Sl → Hh → Res ItM}
theorem ts_nil : Tss T X [] tYes := .mk fun ρ us h σ H Q L k => tsW_of pts_nil (k.here rfl L.rh)
theorem ts_one (h : Tx X (nW T) c ct) : Tss T X [c] ct := .mk fun ρ us h' σ H Q L k => tsW_of (pts_one ptW) (h ρ us h' σ H Q L k)
theorem Gw.out {ρ ρ' : List Addr} {H H' : Hp} (g : Gw ρ H ρ' H') {D : Addr} {O : HO} (h : H D = some O) (n : D ∉ ρ) (nt : ∀ ps, O ≠ .tbl ps := by intro _ z; cases z) : H' D = some O ∧ D ∉ ρ' := by
  refine ⟨g.fr D O h n nt, fun hm => ?_⟩
  rw [g.nw D hm n] at h
  cases h
/-- an object that stands already becomes ours -/
theorem RH.adopt {mg : Str → Option Value} {ρ : List Addr} {h : Hh} {H : Hp} (r : RH T mg ρ h H) {D : Addr} {o : Ob} {O : HO} (hD : H D = some O) (nD : D ∉ ρ) (ro : RO mg ρ o O) : RH T mg (ρ ++ [D]) (h.push o) H := by
  have g : Gw ρ (fun a => if a = D then none else H a) (ρ ++ [D]) H := ⟨⟨[D], rfl⟩, fun a O e _ _ => by
      by_cases z : a = D
      · simp [z] at e
      · simpa [z] using e, fun a hm hn => by
      rcases List.mem_append.mp hm with h | h
      · exact absurd h hn
      · simp [List.mem_singleton.mp h], fun a o u e => by
      by_cases z : a = D
      · simp [z] at e
      · simpa [z] using e, fun a ps e => by
      by_cases z : a = D
      · simp [z] at e
      · exact ⟨#[], by simpa [z] using e⟩⟩
  refine ⟨r.tb, ?_, by rw [List.length_append, r.len, Hh.size_push]; rfl, fun n o' a e ea => ?_⟩
  · rw [List.nodup_append]
    exact ⟨r.nd, List.nodup_cons.mpr ⟨by simp, List.nodup_nil⟩, fun a ha b hb => by
      rw [List.mem_singleton.mp hb]
      rintro rfl
      exact nD ha⟩
  · by_cases hn : n < h.size
    · rw [Hh.get_push_lt hn] at e
      rw [List.getElem?_append_left (by rw [r.len]; exact hn)] at ea
      obtain ⟨O', h1, h2⟩ := r.at_ n o' a e ea
      exact ⟨O', h1, h2.gw g⟩
    · have l := Hh.get_lt e
      rw [Hh.size_push] at l
      have en : n = h.size := by omega
      subst en
      rw [Hh.get_push_new] at e
      cases e
      have ep : a = D := by
        rw [List.getElem?_append_right (by rw [r.len]; exact Nat.le_refl _), r.len, Nat.sub_self] at ea
        simpa using ea.symm
      subst ep
      exact ⟨O, hD, ro.gw g⟩
theorem pg_all : ∀ (s : Shared) (H : Hp) (C : Addr) (cl : List (Str × Addr)) (fp : List Addr), PG (X.blk s H scope (compEnvC scope cl C X.env) fp) tg (fun v σ H Q => ∀ s H0 C cl fp, gW (blk X scope s H0 C cl fp) tg v σ H Q) := fun s H C cl fp =>
  ⟨fun pins st _ _ _ u _ I r h => h s H C cl fp pins st u I r⟩
theorem pts_all : ∀ (s : Shared) (H : Hp) (C : Addr) (cl : List (Str × Addr)) (fp : List Addr), PTs (X.blk s H scope (compEnvC scope cl C X.env) fp) ifs (fun σ H Q => ∀ s H0 C cl fp, tsW (blk X scope s H0 C cl fp) ifs σ H Q) := fun s H C cl fp =>
  ⟨fun pins st _ _ _ I h => h s H C cl fp pins st I⟩
theorem pe_all : ∀ (s : Shared) (H : Hp) (C : Addr) (cl : List (Str × Addr)) (fp : List Addr), PE (X.blk s H scope (compEnvC scope cl C X.env) fp) elt (fun σ H Q => ∀ s H0 C cl fp, eW (blk X scope s H0 C cl fp) elt σ H Q) := fun s H C cl fp =>
  ⟨fun pins st _ _ _ I h => h s H C cl fp pins st I⟩
/-- what stands in the block -/
structure LcOk (T : List NTab) (X : Cx) (scope : Scope) (tg : Expr) (ifs : List Expr) (elt : Expr) (g : GM) (t : TM) (e : EM) (vs : List Nat) : Prop where
  tg_ : ∃ is, (∀ s H C cl fp, Gt T (blk X scope s H C cl fp) tg g is) ∧ ∀ j ∈ is, j ∈ vs
  ts : ∀ s H C cl fp, Tss T (blk X scope s H C cl fp) ifs t
  el : ∀ s H C cl fp, Ex (blk X scope s H C cl fp) (nW T) elt e
theorem lc_run {T : List NTab} {ρ1 : List Addr} {us : Sl} {h1 : Hh} {σ : St} {H1 : Hp} {m : ItM} {J : It} {Q : VK} {vs : List Nat} (B : LcOk T X scope tg ifs elt g ct ce vs) (L1 : Rl T X ρ1 us h1 σ H1) (ir : IR X ρ1 m J H1)
    (k : Af X (nW T) (RV X.mg) ρ1 H1 σ ((lcL m g ct ce (wipeU us vs) fuel 0 [] h1).bind fun ys h2 => .ok (.loc h2.size) (h2.push (.lst ys))) Q) (D : Addr) (hD : H1 D = none) :
    ∃ W : Nat → Nat → Hp → Prop, (∃ m, W 0 m (upd H1 D (.lst []))) ∧ ∀ i m H, W i m H →
      (J.stop i H ∧ Q (.ref D) H) ∨ (J.go i H ∧ ∃ Nx : Hp → Prop, (∀ H', Nx H' → ∃ m', m' < m ∧ W (i + 1) m' H') ∧ ∀ x H', J.yld i H x H' → (∀ s H0 C cl fp, gW (blk X scope s H0 C cl fp) tg x (wipe σ vs) H' fun σ2 H2 => wipe σ2 vs = wipe σ vs ∧ ∀ s H0 C cl fp, tsW (blk X scope s H0 C cl fp) ifs σ2 H2 fun b H3 =>
        if b = true then ∀ s H0 C cl fp, eW (blk X scope s H0 C cl fp) elt σ2 H3 fun y H4 => ∃ acc, H4 D = some (.lst acc) ∧ acc.length < sizeLine ∧ Nx (upd H4 D (.lst (acc ++ [y]))) else Nx H3)) := by
  have upd_out : ∀ {ρ : List Addr} {H : Hp} {O : HO}, Gw ρ1 H1 ρ H → D ∉ ρ → Gw ρ1 H1 ρ (upd H D O) := fun {ρ H O} g nD => ⟨g.pre, fun a O' e k nt => by
      have na : a ≠ D := ne_of_none e hD
      rw [upd_ne na]; exact g.fr a O' e k nt, g.nw, fun a o u e => by
      have na : a ≠ D := ne_of_none e hD
      rw [upd_ne na]; exact g.fz a o u e, fun a ps e => by
      have na : a ≠ D := ne_of_none e hD
      rw [upd_ne na]; exact g.tg a ps e⟩
  have rh_out : ∀ {ρ : List Addr} {h : Hh} {H : Hp} {O : HO}, RH T X.mg ρ h H → D ∉ ρ → (∀ O0, H D = some O0 → (∀ ps, O0 ≠ .tbl ps) ∧ ∀ φ, O0 ≠ .ext φ) → RH T X.mg ρ h (upd H D O) := fun {ρ h H O} r nD ht => r.out (tabs_upd r.tb ht) fun a O' e ha => by
    have na : a ≠ D := fun z => nD (z ▸ ha)
    rw [upd_ne na]; exact e
  have nD1 : D ∉ ρ1 := L1.rh.free hD
  obtain ⟨is, htg, his⟩ := B.tg_
  refine ⟨fun i n H' => ∃ ρ' h' acc vs', Gw ρ1 H1 ρ' H' ∧ RH T X.mg ρ' h' H' ∧ H' D = some (.lst vs') ∧ D ∉ ρ' ∧ RVs X.mg ρ' acc.reverse vs' ∧
    Af X (nW T) (RV X.mg) ρ1 H1 σ ((lcL m g ct ce (wipeU us vs) n i acc h').bind fun ys h2 => .ok (.loc h2.size) (h2.push (.lst ys))) Q,
    ⟨fuel, ρ1, h1, [], [], upd_out Gw.refl nD1, rh_out L1.rh nD1 (fun O0 e => by rw [hD] at e; cases e), upd_same, nD1, .nil, k⟩, ?_⟩
  rintro i n H2 ⟨ρ2, h2, acc, vs2, g2, rh2, hD2, nD2, ra, k2⟩
  cases n with
  | zero => exact absurd k2 id
  | succ n =>
    obtain ⟨stop, go⟩ := ir _ ρ2 i h2 H2 g2 rh2
    unfold lcL at k2
    cases e : nxt m i h2 with
    | none => rw [e] at k2; exact absurd k2 id
    | some o =>
      rw [e] at k2
      cases o with
      | none =>
        refine .inl ⟨stop e, ?_⟩
        have k3 : Af X (nW T) (RV X.mg) ρ1 H1 σ (.ok (.loc h2.size) (h2.push (.lst acc.reverse))) Q := k2
        have g3 : Gw ρ1 H1 (ρ2 ++ [D]) H2 := ⟨by
            obtain ⟨t, et⟩ := g2.pre
            exact ⟨t ++ [D], by rw [et, List.append_assoc]⟩, g2.fr, fun a hm hn => by
            rcases List.mem_append.mp hm with h | h
            · exact g2.nw a h hn
            · rw [List.mem_singleton.mp h]; exact hD, g2.fz, g2.tg⟩
        exact k3 (ρ2 ++ [D]) (.ref D) H2 g3 ⟨D, by rw [← rh2.len]; simp, rfl⟩ (rh2.adopt hD2 nD2 ⟨vs2, rfl, ra⟩)
      | some uh =>
        obtain ⟨u, h3⟩ := uh
        obtain ⟨gg, yl⟩ := go u h3 e
        dsimp only at k2
        refine .inr ⟨gg, fun H' => ∃ ρ' h' acc vs', Gw ρ1 H1 ρ' H' ∧ RH T X.mg ρ' h' H' ∧ H' D = some (.lst vs') ∧ D ∉ ρ' ∧ RVs X.mg ρ' acc.reverse vs' ∧
          Af X (nW T) (RV X.mg) ρ1 H1 σ ((lcL m g ct ce (wipeU us vs) n (i + 1) acc h').bind fun ys h2 => .ok (.loc h2.size) (h2.push (.lst ys))) Q, fun H' q => ⟨n, Nat.lt_succ_self n, q⟩, fun x H3 y s H0 C cl fp => ?_⟩
        obtain ⟨ρ3, g3, rv, rh3⟩ := yl x H3 y
        obtain ⟨hD3, nD3⟩ := g3.out hD2 nD2
        have Lw : Rl T (blk X scope s H0 C cl fp) ρ3 (wipeU us vs) h3 (wipe σ vs) H3 := ⟨wipe_rv (Pimp L1.sl fun _ _ => RS1.gw (g2.trans g3)) vs, rh3⟩
        refine htg s H0 C cl fp ρ3 (wipeU us vs) h3 (wipe σ vs) H3 u x _ Lw rv ?_
        cases e1 : g u (wipeU us vs) h3 with
        | bad => rw [e1] at k2; exact k2
        | exc x h1 => rw [e1] at k2; exact absurd k2 id
        | ok us4 h4 =>
          rw [e1] at k2
          refine fun ρ4 σ4 H4 g4 L4 hl4 hj4 => ⟨?_, fun s H0 C cl fp => ?_⟩
          · rw [← wipe_idem (σ := σ)]
            exact wipe_eq hl4 fun j hj => hj4 j fun hm => hj (his j hm)
          · obtain ⟨hD4, nD4⟩ := g4.out hD3 nD3
            dsimp only at k2
            refine B.ts s H0 C cl fp ρ4 us4 h4 σ4 H4 _ ⟨L4.sl, L4.rh⟩ ?_
            cases e2 : ct us4 h4 with
            | bad => rw [e2] at k2; exact k2
            | exc x h1 => rw [e2] at k2; exact absurd k2 id
            | ok bb h5 =>
              rw [e2] at k2
              intro ρ5 b5 H5 g5 r5 rh5
              subst r5
              obtain ⟨hD5, nD5⟩ := g5.out hD4 nD4
              have g15 := ((g2.trans g3).trans g4).trans g5
              dsimp only at k2
              cases b5 with
              | false =>
                refine iteF ⟨ρ5, h5, acc, vs2, g15, rh5, hD5, nD5, ((ra.gw g3).gw g4).gw g5, k2⟩
              | true =>
                refine iteT fun s H0 C cl fp => ?_
                refine B.el s H0 C cl fp ρ5 us4 h5 σ4 H5 _ ⟨Pimp L4.sl fun _ _ => RS1.gw g5, rh5⟩ ?_
                simp only [if_true] at k2
                cases e3 : ce us4 h5 with
                | bad => rw [e3] at k2; exact k2
                | exc x h1 => rw [e3] at k2; exact absurd k2 id
                | ok yy h6 =>
                  rw [e3] at k2
                  intro ρ6 y6 H6 g6 r6 rh6
                  obtain ⟨hD6, nD6⟩ := g6.out hD5 nD5
                  dsimp only at k2
                  have ra6 : RVs X.mg ρ6 acc.reverse vs2 := (((ra.gw g3).gw g4).gw g5).gw g6
                  have hl : vs2.length = acc.length := by rw [← ra6.length, List.length_reverse]
                  by_cases hz : acc.length < sizeLine
                  · rw [if_pos hz] at k2
                    refine ⟨vs2, hD6, by rw [hl]; exact hz, ρ6, h6, yy :: acc, vs2 ++ [y6], upd_out (g15.trans g6) nD6, rh_out rh6 nD6 (fun O0 e => by rw [hD6] at e; cases e; exact ⟨nofun, nofun⟩), upd_same, nD6, ?_, k2⟩
                    rw [List.reverse_cons]
                    exact Papp ra6 (.cons r6 .nil)
                  · rw [if_neg hz] at k2
                    exact absurd k2 id
theorem Ix.run {ρ : List Addr} {us : Sl} {h : Hh} {σ : St} {H : Hp} {f : ItM → Hh → Res U} {Q : VK} {Q' : It → Hp → Prop} (j : Ix X W tg it itc) (L : Rl W.T X ρ us h σ H) (k : Af X W (RV X.mg) ρ H σ ((itc us h).bind f) Q)
    (kk : ∀ m h1 ρ1 J H1, itc us h = .ok m h1 → Gw ρ H ρ1 H1 → IR X ρ1 m J H1 → Rl W.T X ρ1 us h1 σ H1 → Af X W (RV X.mg) ρ1 H1 σ (f m h1) Q → Q' J H1) : iW X tg it σ H Q' := by
  refine j ρ us h σ H Q' L ?_
  cases e : itc us h with
  | ok a h1 =>
    rw [e] at k
    exact fun ρ1 b H1 g r rh => kk a h1 ρ1 b H1 e g r (L.gw g rh) (Af.gw g k)
  | exc x h1 => rw [e] at k; exact k
  | bad => rw [e] at k; exact k
/-- an answer that is no error, whatever is wished of errors -/
theorem Af.calm {α β : Type} {R : List Addr → α → β → Prop} {ρ : List Addr} {H : Hp} {σ : St} {r : Res α} {Q : β → Hp → Prop} (k : Af X W R ρ H σ r Q) (h : ∀ e h', r ≠ .exc e h') : Af X (nW W.T) R ρ H σ r Q := by
  cases r with
  | ok a h' => exact k
  | exc e h' => exact absurd rfl (h e h')
  | bad => exact k
theorem lcL_calm {m : ItM} {g : GM} {t : TM} {e : EM} {usw : Sl} : ∀ {n i : Nat} {acc : List U} {h : Hh} {x : Xc} {h' : Hh}, lcL m g t e usw n i acc h ≠ .exc x h'
  | 0, _, _, _, _, _, z => by cases z
  | n + 1, i, acc, h, x, h', z => by
    unfold lcL at z
    split at z
    · cases z
    · cases z
    · split at z
      · split at z
        · split at z
          · split at z
            · split at z
              · exact lcL_calm z
              · cases z
            · cases z
          · exact lcL_calm z
        · cases z
      · cases z
theorem bind_calm {α β : Type} {r : Res α} {f : α → Hh → Res β} (h : ∀ e h', r ≠ .exc e h') (hf : ∀ a h1 e h', f a h1 ≠ .exc e h') : ∀ e h', r.bind f ≠ .exc e h' := fun e h' z => by
  cases r with
  | ok a h1 => exact hf a h1 e h' z
  | exc x h1 => exact h x h1 rfl
  | bad => cases z
theorem x_lc (hi : Ix X W tg it itc) (hN : X.N.Nodup) (ok : BlkOk X.N X.env.scope scope own) (B : LcOk W.T X scope tg ifs elt g ct ce (own.map (·.2))) (hc : X.calm = true := by rfl) (hs : ∀ x, foldedSetIterable it X.env x = pure x := by intro _; rfl) :
    Ex X W (.ListComp elt [⟨tg, it, ifs, 0⟩] scope pos) (eLc itc g ct ce (own.map (·.2))) := .mk fun ρ us h σ H Q L k =>
  eW_of (pe_lc hc hN piW ok pg_all pts_all pe_all hs) (hi.run L k fun m h1 ρ1 J H1 _ g1 ir L1 k1 D hD => lc_run B L1 ir (k1.calm (bind_calm (fun _ _ => lcL_calm) fun _ _ _ _ z => by cases z)) D hD)
/-- x = [elt for ..] on one line, x a plain local -/
theorem s_lc {y : Str} {py spos : Pos} (i : Nat) (hi : Ix X W tg it itc) (hN : X.N.Nodup) (ok : BlkOk X.N X.env.scope scope own) (B : LcOk W.T X scope tg ifs elt g ct ce (own.map (·.2)))
    (hsw : swapsWith (.ListComp elt [⟨tg, it, ifs, 0⟩] scope pos) (some (.Name y py)) spos.line X.env = pure true) (hy : X.N[i]? = some y := by rfl) (hyl : X.env.scope.names.lookup y = some .local := by rfl) (hc : X.calm = true := by rfl) (hs : ∀ x, foldedSetIterable it X.env x = pure x := by intro _; rfl) :
    St1 X W (.Assign [.Name y py] (.ListComp elt [⟨tg, it, ifs, 0⟩] scope pos) spos) (sAsg (eLc itc g ct ce (own.map (·.2))) (gName i)) := .mk fun ρ us h σ H D L k => by
  have k' : Af X W (RV X.mg) ρ H σ (eLc itc g ct ce (own.map (·.2)) us h) (fun x H1 => D.nx (σ.set i (some x)) H1) := by
    unfold sAsg at k
    cases e : eLc itc g ct ce (own.map (·.2)) us h with
    | ok u h1 =>
      rw [e] at k
      exact fun ρ1 v H1 g1 r1 rh1 => (show AfS X W ρ H (.nx (us.set i (some u)) h1) D from k) ρ1 _ H1 g1 ((L.gw g1 rh1).set i r1)
    | exc x h1 => rw [e] at k; exact AfXS.at_ L k
    | bad => rw [e] at k; exact k
  exact stW_of (ps_setLc hc hN hy hyl hsw piW ok pg_all pts_all pe_all hs) (hi.run L k' fun m h1 ρ1 J H1 _ g1 ir L1 k1 DD hD => lc_run B L1 ir (k1.calm (bind_calm (fun _ _ => lcL_calm) fun _ _ _ _ z => by cases z)) DD hD)
end
end Mx
end
section
set_option maxHeartbeats 4000000
namespace Mx
open PySem L2
open NdefX (NTab TabsN TabN)
/-! ### defs -/
structure Wd where
  P : Program
  w : World
  K : PySem.W.Frag
  mg : Str → Option Value
  base : Heap
def wd (X : Cx) : Wd := ⟨X.prog, X.w, X.K, X.mg, X.base⟩
abbrev FM := List U → Hh → Res U
/-- a def's promise: it does what F does (and raises nothing) -/
def AfN (T : List NTab) (mg : Str → Option Value) (ρ : List Addr) (H : Hp) (r : Res U) (Q : VK) : Prop :=
  match r with
  | .ok u h' => ∀ ρ' v H', Gw ρ H ρ' H' → RV mg ρ' u v → RH T mg ρ' h' H' → Q v H'
  | _ => False
def sp0 (T : List NTab) (mg : Str → Option Value) (n : Nat) (F : FM) : Sp := fun vs H Q _ => vs.length = n ∧ ∃ ρ us h, RVs mg ρ us vs ∧ RH T mg ρ h H ∧ AfN T mg ρ H (F us h) Q
def mkF (N n : Nat) (c : SM) : FM := fun us h => match c (us.map some ++ List.replicate (N - n) none) h with
  | .rt u h' => .ok u h'
  | .nx _ h' => .ok .non h'
  | .exc e _ h' => .exc e h'
  | _ => .bad
/-- the context of a body from which nothing is raised -/
abbrev bX (Z : Wd) (N : List Str) (qual : Str) (sc : Scope) (f : Addr) (cdv : Value) (Ar : Around) (outer : List Env) (s : Shared) (H : Hp) (E : XK) : Cx := (cxOf CX0 Z.P Z.w Z.K Z.mg Z.base N qual sc f cdv Ar outer s H E).nox
/-- where a def stands -/
structure Df (Z : Wd) (x qual : Str) (st : Stmt) (ps : List Str) (f : Addr) (fd : FuncData) : Prop where
  fn : FunD Z.K x qual (defArgs st) (defBody st) (defScope st) [] [] f fd
  bd : Binds Z.K fd ps []
/-- what it does -/
structure Does (T : List NTab) (Z : Wd) (k : Nat) (f : Addr) (fd : FuncData) (ps : List Str) (F : FM) : Prop where
  ok : FnOk Z.P Z.w Z.K Z.mg Z.base CX0 k f fd ps (sp0 T Z.mg ps.length F)
  kp : PySem.W.keepIn Z.K (.ref f) = true
  bd : Binds Z.K fd ps []
theorem Does.mono {T : List NTab} {Z : Wd} {j k : Nat} {f : Addr} {fd : FuncData} {ps : List Str} {F : FM} (d : Does T Z j f fd ps F) (h : j ≤ k) : Does T Z k f fd ps F := ⟨d.ok.mono h, d.kp, d.bd⟩
theorem start_rv {mg : Str → Option Value} {ρ : List Addr} {N : List Str} {us : List U} {vs : List V} (r : RVs mg ρ us vs) : Paired (RS1 mg ρ) (us.map some ++ List.replicate (N.length - us.length) none) (L2.start N vs) := by
  unfold L2.start
  rw [← r.length]
  have h1 : ∀ {us : List U} {vs : List V}, RVs mg ρ us vs → Paired (RS1 mg ρ) (us.map some) (vs.map some) := by
    intro us vs r
    induction r with
    | nil => exact .nil
    | cons r _ ih => exact .cons ⟨_, rfl, r⟩ ih
  have h2 : ∀ n, Paired (RS1 mg ρ) (List.replicate n none) (List.replicate n none) := by
    intro n
    induction n with
    | zero => exact .nil
    | succ n ih => exact .cons trivial ih
  exact Papp (h1 r) (h2 _)
theorem does_intro {T : List NTab} {Z : Wd} {x qual : Str} {st : Stmt} {N ps : List Str} {f : Addr} {fd : FuncData} {k : Nat} {c : SM} (D : Df Z x qual st ps f fd) (Sc : FnScope N ps (defScope st))
    (body : ∀ (cdv : Value) (Ar : Around) (outer : List Env) (s : Shared) (H : Hp) (E : XK), Room k (bX Z N qual (defScope st) f cdv Ar outer s H E).A → (bX Z N qual (defScope st) f cdv Ar outer s H E).N.Nodup →
      Sx (bX Z N qual (defScope st) f cdv Ar outer s H E) (nW T) (defBody st) c) : Does T Z (k + 1) f fd ps (mkF N.length ps.length c) := by
  refine ⟨D.fn.ok Sc (fun vs H Q E h => h.1) (fun cdv Ar outer s H vs Q E hr h => ?_), D.fn.kp, D.bd⟩
  obtain ⟨hl, ρ, us, h, rv, rh, k2⟩ := h
  refine ⟨_, PSs.nox psW, ?_⟩
  have hl2 : us.length = ps.length := rv.length.trans hl
  refine body cdv Ar outer s H E hr Sc.nd ρ (us.map some ++ List.replicate (N.length - ps.length) none) h (L2.start N vs) H _ ⟨by rw [← hl2]; exact start_rv rv, rh⟩ ?_
  unfold mkF at k2
  cases e : c (us.map some ++ List.replicate (N.length - ps.length) none) h with
  | nx us' h' => rw [e] at k2; exact fun ρ' σ' H' g' L' => k2 ρ' .non H' g' rfl L'.rh
  | rt u h' => rw [e] at k2; exact k2
  | bk us' h' => rw [e] at k2; exact absurd k2 id
  | ct us' h' => rw [e] at k2; exact absurd k2 id
  | exc x us' h' => rw [e] at k2; exact absurd k2 id
  | bad => rw [e] at k2; exact k2
def eCall (F : FM) (a : AM) : EM := fun us h => (a us h).bind F
def eMake (c : Str) (F : FM) (a : AM) : EM := fun us h => (a us h).bind fun xs h1 => (F (.loc h1.size :: xs) (h1.push (.ins c []))).bind fun r h2 => match r with | .non => .ok (.loc h1.size) h2 | _ => .bad
def isI (c m : Str) (x : U) (h : Hh) : Bool := match x with | .loc p => (match h.get p with | some (.ins c' fs) => decide (c' = c) && (fs.lookup m).isNone | _ => false) | _ => false
def eMeth (c m : Str) (F : FM) (o : EM) (a : AM) : EM := fun us h => (o us h).bind fun x h1 => (okIf (isI c m x h1) h1).bind fun _ h2 => (a us h2).bind fun xs h3 => F (x :: xs) h3
section
variable {T : List NTab} {X : Cx} {e a b c o i tg it elt : Expr} {ifs es : List Expr} {ca cb cc co ci ce : EM} {cs : AM} {pos p pos' apos : Pos} {k : Nat} {f : Addr} {fd : FuncData} {ps : List Str} {F : FM} {Z : Wd}
theorem sp0_of {mg : Str → Option Value} {n : Nat} {ρ : List Addr} {us : List U} {vs : List V} {h : Hh} {H : Hp} {Q : VK} {E : XK} (hn : us.length = n) (r : RVs mg ρ us vs) (rh : RH T mg ρ h H) (k : AfN T mg ρ H (F us h) Q) : sp0 T mg n F vs H Q E := ⟨r.length.symm.trans hn, ρ, us, h, r, rh, k⟩
theorem af_n {ρ : List Addr} {H : Hp} {σ : St} {r : Res U} {Q : VK} (k : Af X (nW T) (RV X.mg) ρ H σ r Q) : AfN T X.mg ρ H r Q := by
  cases r with
  | ok u h => exact k
  | exc e h => exact k
  | bad => exact k
/-- f(e, ..); n: the arguments' number, seen of cs -/
theorem x_call {x : Str} (D : Does T Z k f fd ps F) (hm : Z.mg x = some (.ref f)) (hr : Room k X.A) (ha : Ax X (nW T) (e :: es) cs) (hn : ∀ us h xs h', cs us h = .ok xs h' → xs.length = ps.length) (hZ : wd X = Z := by rfl) (hg : Gl X x := by rfl) (hdb : (x == ("__debug__" : Str)) = false := by decide)
    (he : starEach (e :: es) X.env = (false, eval e X.env) :: starEach es X.env := by rfl) (hpl : (backTo pos (starEach es X.env)).any (·.1) = false := by rfl) : Ex X (nW T) (.Call (.Name x p) (e :: es) [] pos) (eCall F cs) := .mk fun ρ us h σ H Q L kk => by
  subst hZ
  refine eW_of (pe_call D.ok hr hg hm D.kp D.bd .nil pass0 paW hdb he hpl) (ha.run L kk fun xs h1 ρ1 vs H1 e1 g1 r1 L1 k1 => ?_)
  rw [List.append_nil]
  exact sp0_of (hn _ _ _ _ e1) r1 L1.rh (af_n k1)
theorem x_call0 {x : Str} (D : Does T Z k f fd ps F) (hm : Z.mg x = some (.ref f)) (hr : Room k X.A) (hn : ps.length = 0 := by rfl) (hZ : wd X = Z := by rfl) (hg : Gl X x := by rfl) (hdb : (x == ("__debug__" : Str)) = false := by decide) : Ex X (nW T) (.Call (.Name x p) [] [] pos) (eCall F aNil) := .mk fun ρ us h σ H Q L kk => by
  subst hZ
  exact eW_of (pe_call0 D.ok hr hg hm D.kp D.bd .nil pass0 hdb) (sp0_of (us := []) (vs := []) (E := E0) hn.symm .nil L.rh (af_n (show Af X (nW T) (RV X.mg) ρ H σ (F [] h) Q from kk)))
theorem x_make {x : Str} {C : Addr} (M : Mk X.K C f) (D : Does T Z k f fd ps F) (hm : Z.mg x = some (.ref C)) (hr : Room (k + 1) X.A) (ha : Ax X (nW T) (e :: es) cs) (hn : ∀ us h xs h', cs us h = .ok xs h' → xs.length + 1 = ps.length) (hZ : wd X = Z := by rfl) (hg : Gl X x := by rfl) (hdb : (x == ("__debug__" : Str)) = false := by decide)
    (he : starEach (e :: es) X.env = (false, eval e X.env) :: starEach es X.env := by rfl) (hpl : (backTo pos (starEach es X.env)).any (·.1) = false := by rfl) : Ex X (nW T) (.Call (.Name x p) (e :: es) [] pos) (eMake x F cs) := .mk fun ρ us h σ H Q L kk => by
  subst hZ
  refine eW_of (pe_make M D.ok hr hg hm D.bd .nil pass0 paW hdb he hpl) (ha.run L kk fun xs h1 ρ1 vs H1 e1 g1 r1 L1 k1 y dx hy hdx hne => ?_)
  rw [List.append_nil]
  have hy1 : (upd H1 dx (.own y)) y = none := by rw [upd_ne (Ne.symm hne)]; exact hy
  have ny : y ∉ ρ1 := L1.rh.free hy
  have ndx : dx ∉ ρ1 := L1.rh.free hdx
  have rh1 : RH T X.mg ρ1 h1 (upd H1 dx (.own y)) := L1.rh.out (L1.rh.tb.ext fun b u e => by rw [upd_ne (ne_of_none e hdx)]; exact e) fun a O e ha => by
    rw [upd_ne (ne_of_none e hdx)]; exact e
  have g2 : Gw ρ1 H1 ρ1 (upd H1 dx (.own y)) := ⟨⟨[], by simp⟩, fun a O e _ _ => by rw [upd_ne (ne_of_none e hdx)]; exact e, fun _ h k => absurd h k, fun a o u e => by rw [upd_ne (ne_of_none e hdx)]; exact e, fun a ps e => ⟨#[], by rw [upd_ne (ne_of_none e hdx), e]; simp⟩⟩
  have g3 : Gw ρ1 (upd H1 dx (.own y)) (ρ1 ++ [y]) (upd (upd H1 dx (.own y)) y (.ins C dx [])) := Gw.new hy1 ny
  have rh3 : RH T X.mg (ρ1 ++ [y]) (h1.push (.ins x [])) (upd (upd H1 dx (.own y)) y (.ins C dx [])) := rh1.new hy1 ⟨C, dx, [], hm, rfl, .nil⟩
  have hix : (ρ1 ++ [y])[h1.size]? = some y := by rw [← L1.rh.len]; simp
  refine sp0_of (us := .loc h1.size :: xs) (by show xs.length + 1 = _; exact hn _ _ _ _ e1) (.cons ⟨y, hix, rfl⟩ (RVs.gw (g2.trans g3) r1)) rh3 ?_
  have k2 : Af X (nW T) (RV X.mg) ρ1 H1 σ ((F (.loc h1.size :: xs) (h1.push (.ins x []))).bind fun r h2 => match r with | .non => .ok (.loc h1.size) h2 | _ => .bad) Q := k1
  cases e2 : F (.loc h1.size :: xs) (h1.push (.ins x [])) with
  | bad => rw [e2] at k2; exact k2
  | exc z h2 => rw [e2] at k2; exact k2
  | ok r h2 =>
    rw [e2] at k2
    intro ρ' v H' g' rv rh'
    cases r with
    | non =>
      cases rv
      exact ⟨rfl, (show Af X (nW T) (RV X.mg) ρ1 H1 σ (.ok (.loc h1.size) h2) Q from k2) ρ' (.ref y) H' ((g2.trans g3).trans g') ⟨y, g'.get hix, rfl⟩ rh'⟩
    | _ => exact absurd k2 id
theorem isI_ok {ρ : List Addr} {h : Hh} {H : Hp} {c m : Str} {x : U} {v : V} {C : Addr} (hm : X.mg c = some (.ref C)) (rh : RH T X.mg ρ h H) (r : RV X.mg ρ x v) (e : isI c m x h = true) : ∃ a dx fs, v = .ref a ∧ H a = some (.ins C dx fs) ∧ fs.lookup m = none := by
  unfold isI at e
  split at e
  · split at e
    · rename_i e1
      rw [Bool.and_eq_true, decide_eq_true_eq] at e
      obtain ⟨rfl, e⟩ := e
      obtain ⟨d, C', dx, gs, rfl, ed, hm', hd, rd⟩ := rh.ins r e1
      rw [hm] at hm'
      cases hm'
      exact ⟨d, dx, gs, rfl, hd, (lookup_rv (f := m) rd).1 (Option.isNone_iff_eq_none.mp e)⟩
    · cases e
  · cases e
theorem x_meth {cn m : Str} {C : Addr} {pl : Sem Bool} (hm : Z.mg cn = some (.ref C)) (hC : Cls Z.K C) (M : Meth Z.K C m f) (D : Does T Z k f fd ps F) (hr : Room k X.A) (ho : Ex X (nW T) o co) (ha : Ax X (nW T) (e :: es) cs) (hn : ∀ us h xs h', cs us h = .ok xs h' → xs.length + 1 = ps.length) (hZ : wd X = Z := by rfl)
    (hst : starEach (e :: es) X.env = (false, eval e X.env) :: starEach es X.env := by rfl) (hpl : (backTo pos (starEach es X.env)).any (·.1) = false := by rfl)
    (ht : eval (.Call (.Attribute o m apos) (e :: es) [] pos) X.env = (do
      let ov ← eval o X.env
      standAt apos.atName
      let (f, first) ← holding [ov] (getMethod ov m pl)
      callWith pos f first (backTo pos (starEach (e :: es) X.env)) (backToKw pos (keywordEach [] X.env))) := by rfl) : Ex X (nW T) (.Call (.Attribute o m apos) (e :: es) [] pos) (eMeth cn m F co cs) := .mk fun ρ us h σ H Q L kk => by
  subst hZ
  refine eW_of (pe_meth peW hC M D.ok hr D.bd .nil pass0 paW hst hpl ht) (ho.run L kk fun x h1 ρ1 v H1 e1 g1 r1 L1 k1 => ?_)
  obtain ⟨hc, k2⟩ := okIf_ok k1
  obtain ⟨d, dx, fs, rfl, hd, hl⟩ := isI_ok (X := X) hm L1.rh r1 hc
  refine ⟨d, dx, fs, rfl, hd, hl, ha.run L1 k2 fun xs h3 ρ3 vs H3 e3 g3 r3 L3 k3 => ?_⟩
  rw [List.append_nil]
  exact sp0_of (us := x :: xs) (by show xs.length + 1 = _; exact hn _ _ _ _ e3) (.cons (r1.gw g3) r3) L3.rh (af_n k3)
theorem x_meth0 {cn m : Str} {C : Addr} {pl : Sem Bool} (hm : Z.mg cn = some (.ref C)) (hC : Cls Z.K C) (M : Meth Z.K C m f) (D : Does T Z k f fd ps F) (hr : Room k X.A) (ho : Ex X (nW T) o co) (hn : ps.length = 1 := by rfl) (hZ : wd X = Z := by rfl)
    (ht : eval (.Call (.Attribute o m apos) [] [] pos) X.env = (do
      let ov ← eval o X.env
      standAt apos.atName
      let (f, first) ← holding [ov] (getMethod ov m pl)
      callWith pos f first (backTo pos (starEach [] X.env)) (backToKw pos (keywordEach [] X.env))) := by rfl) : Ex X (nW T) (.Call (.Attribute o m apos) [] [] pos) (eMeth cn m F co aNil) := .mk fun ρ us h σ H Q L kk => by
  subst hZ
  refine eW_of (pe_meth0 peW hC M D.ok hr D.bd .nil pass0 ht) (ho.run L kk fun x h1 ρ1 v H1 e1 g1 r1 L1 k1 => ?_)
  obtain ⟨hc, k2⟩ := okIf_ok k1
  obtain ⟨d, dx, fs, rfl, hd, hl⟩ := isI_ok (X := X) hm L1.rh r1 hc
  exact ⟨d, dx, fs, rfl, hd, hl, sp0_of (us := [x]) (vs := [.ref d]) (E := E0) hn.symm (.cons r1 .nil) L1.rh (af_n (show Af X (nW T) (RV X.mg) ρ1 H1 σ (F [x] h1) Q from k2))⟩
/-- the number of arguments -/
theorem n_nil : ∀ us h xs h', aNil us h = .ok xs h' → xs.length = 0 := fun us h xs h' e => by cases e; rfl
theorem n_cons {n : Nat} (h : ∀ us h xs h', cs us h = .ok xs h' → xs.length = n) : ∀ us h xs h', aCons ca cs us h = .ok xs h' → xs.length = n + 1 := fun us h1 xs h' e => by
  unfold aCons at e
  cases e1 : ca us h1 with
  | bad => rw [e1] at e; cases e
  | exc x h2 => rw [e1] at e; cases e
  | ok x h2 =>
    rw [e1] at e
    dsimp only [Res.bind] at e
    cases e2 : cs us h2 with
    | bad => rw [e2] at e; cases e
    | exc x h2 => rw [e2] at e; cases e
    | ok ys h3 =>
      rw [e2] at e
      cases e
      rw [List.length_cons, h _ _ _ _ e2]
theorem n_suc {n m : Nat} (h : ∀ us h xs h', cs us h = .ok xs h' → xs.length = n) (e : n + 1 = m) : ∀ us h xs h', cs us h = .ok xs h' → xs.length + 1 = m := fun us h1 xs h' q => by rw [h us h1 xs h' q, e]
end
end Mx
end
section
set_option maxHeartbeats 4000000
namespace Mx
open PySem L2
open NdefX (NTab TabsN TabN)
open PySem.W (KeepsBut EachIs AllAlike alike dataLe SortsAt)
/-! ### sorted by a key -/
def runKey (F : FM) (x : U) (h : Hh) : Option PyData := match F [x] h with | .ok u h' => toD 8 h' u | _ => none
/-- the key of an item, reckoned of it alone -/
def keyOf (F : FM) (h : Hh) (x : U) : Option PyData :=
  match x with
  | .loc p => (match h.get p with | some (.tup us) => if us.all flatU then runKey F (.loc 0) ⟨[.tup us]⟩ else none | _ => none)
  | x => if flatU x then runKey F x ⟨[]⟩ else none
abbrev G0 (H H' : Hp) : Prop := Gw [] H [] H'
mutual
theorem dp_stay {K : PySem.W.Frag} {H H' : Hp} (g : G0 H H') : ∀ (d : PyData) (v : V), Dp K H v d → Dp K H' v d
  | .none, _, q => by cases q; exact .non
  | .bool _, _, q => by cases q; exact .bl _
  | .int _, _, q => by cases q; exact .int _
  | .str _, _, q => by cases q; exact .str _
  | .list xs, _, q => by
    cases q with
    | lst h1 h2 => exact .lst (sql_stay g h1) (dps_stay g xs _ h2)
  | .tuple xs, _, q => by
    cases q with
    | tup h1 h2 => exact .tup (sqt_stay g h1) (dps_stay g xs _ h2)
  | .dict _, _, q => by cases q
theorem dps_stay {K : PySem.W.Frag} {H H' : Hp} (g : G0 H H') : ∀ (ds : List PyData) (vs : List V), DpAll K H vs ds → DpAll K H' vs ds
  | [], _, q => by cases q; exact .nil
  | d :: ds, _, q => by
    cases q with
    | cons h1 h2 => exact .cons (dp_stay g d _ h1) (dps_stay g ds _ h2)
theorem sql_stay {K : PySem.W.Frag} {H H' : Hp} (g : G0 H H') {a : Addr} {xs : List V} (q : SqL K H a xs) : SqL K H' a xs := by
  rcases q with (q | ⟨o, q⟩) | q
  · exact .inl (.inl (g.fr a _ q (by simp) (by intro _ z; cases z)))
  · exact .inl (.inr ⟨o, g.fz a _ _ q⟩)
  · exact .inr q
theorem sqt_stay {K : PySem.W.Frag} {H H' : Hp} (g : G0 H H') {a : Addr} {xs : List V} (q : SqT K H a xs) : SqT K H' a xs := by
  rcases q with (q | ⟨o, q⟩) | q
  · exact .inl (.inl (g.fr a _ q (by simp) (by intro _ z; cases z)))
  · exact .inl (.inr ⟨o, g.fz a _ _ q⟩)
  · exact .inr q
end
section
variable {T : List NTab} {X : Cx} {Z : Wd} {pins : List (Addr × Obj)} {σ : St} {H : Hp} {s : Shared} {k : Nat} {f : Addr} {fd : FuncData} {ps : List Str} {F : FM}
theorem flat_any {mg : Str → Option Value} {ρ ρ' : List Addr} : ∀ {u : U} {v : V}, RV mg ρ u v → flatU u = true → RV mg ρ' u v
  | .non, _, r, _ => r
  | .bl _, _, r, _ => r
  | .int _, _, r, _ => r
  | .str _, _, r, _ => r
  | .loc _, _, _, e => by cases e
  | .glo _, _, _, e => by cases e
  | .ty _, _, _, e => by cases e
theorem flats_any {mg : Str → Option Value} {ρ ρ' : List Addr} : ∀ {us : List U} {vs : List V}, RVs mg ρ us vs → us.all flatU = true → RVs mg ρ' us vs
  | _, _, .nil, _ => .nil
  | _, _, .cons r t, e => by
    rw [List.all_cons, Bool.and_eq_true] at e
    exact .cons (flat_any r e.1) (flats_any t e.2)
/-- behind a key's call -/
def KeyEnd1 (T : List NTab) (X : Cx) (pins : List (Addr × Obj)) (σ : St) (H : Hp) (s : Shared) (d : PyData) (kv : Value) (s' : Shared) : Prop :=
  ∃ H' w, Inv X pins σ H' s' ∧ RelV w kv ∧ G0 H H' ∧ TabsN T H' ∧ Dp X.K H' w d ∧ ∀ b o, s.heap.get? b = some o → H b = none → b ∉ frs X.stack → s'.heap.get? b = some o ∧ H' b = none
/-- a function of one argument called at s -/
def CallsF (T : List NTab) (X : Cx) (H : Hp) (s : Shared) (F : FM) (f : Addr) (v : Value) : Prop :=
  ∀ ρ h x w Q, RV X.mg ρ x w → RelV w v → RH T X.mg ρ h H → AfN T X.mg ρ H (F [x] h) Q → codeAny (model X.prog X.w) X.A.in1.in1 (.call (.ref f) ⟨[v], []⟩) (CR CX0 X.stack X.prog X.w H s Q E0) s
theorem calls_def {v : Value} (D : Does T Z k f fd ps F) (hZ : wd X = Z) (hp : ps.length = 1) (hr : Room (k + 2) X.A) (I : Inv X pins σ H s) : CallsF T X H s F f v := fun ρ h x w Q rx rv rh hq => by
  subst hZ
  exact D.ok.run X.A.in1.in1 X.stack s H ⟨[v], []⟩ [v] [w] _ _ hr.in1.in1 I.env0.in1.in1 (by simpa using D.bd s [v] I.kIn (by simpa using hp.symm)) (.cons rv .nil) (sp0_of (us := [x]) (by rw [hp]; rfl) (.cons rx .nil) rh hq)
theorem key_run (I : Inv X pins σ H s) {x : U} {w : V} {v : Value} {ρ : List Addr} {h : Hh} {d : PyData} (cr : CallsF T X H s F f v) (rx : RV X.mg ρ x w) (rv : RelV w v) (rh : RH T X.mg ρ h H)
    (hρ : ∀ a, a ∈ ρ → ∃ vs, H a = some (.tup vs)) (e : runKey F x h = some d) : wpAny (model X.prog X.w) X.A.in1.in1 (call (.ref f) [v]) (KeyEnd1 T X pins σ H s d) (fun _ _ => False) s := by
  unfold runKey at e
  cases e1 : F [x] h with
  | bad => rw [e1] at e; cases e
  | exc y h1 => rw [e1] at e; cases e
  | ok u h1 =>
    rw [e1] at e
    have hsp : AfN T X.mg ρ H (F [x] h) (fun v' H' => ∃ ρ', Gw ρ H ρ' H' ∧ RV X.mg ρ' u v' ∧ RH T X.mg ρ' h1 H') := by
      rw [e1]
      exact fun ρ' v' H' g r rh' => ⟨ρ', g, r, rh'⟩
    refine wpAny_call (codeAny_mono (cr ρ h x w _ rx rv rh hsp) fun r s' hq => ?_)
    cases r with
    | error er => exact absurd hq id
    | ok fl =>
      cases fl with
      | ret u' =>
        obtain ⟨v', H', os, bare, un, hok, rv', ρ', g, rvv, rh'⟩ := hq
        have I' : Inv X pins σ H' s' := I.call' os un hok bare (fun b z => absurd z (by simp))
        refine ⟨H', v', I', rv', ⟨⟨[], rfl⟩, fun a O ha _ nt => ?_, fun a ha => absurd ha (by simp), g.fz, g.tg⟩, rh'.tb, toD_ok rh' rvv e, fun b o hb hn hf => ⟨un.keep b o hb hn hf (by simp), un.free b o hb hn (by simp)⟩⟩
        by_cases hm : a ∈ ρ
        · obtain ⟨vs, hv⟩ := hρ a hm
          have := un.tups a vs hv
          rw [ha] at hv
          cases hv
          exact this
        · exact g.fr a O ha hm nt
      | next => exact absurd hq id
      | brk => exact absurd hq id
      | cont => exact absurd hq id
theorem rh_nil (t : TabsN T H) : RH T X.mg [] ⟨[]⟩ H := ⟨t, List.nodup_nil, rfl, fun n o a e _ => by cases e⟩
theorem key_call (I : Inv X pins σ H s) {x : U} {w : V} {v : Value} {ρ : List Addr} {h : Hh} {d : PyData} {H0 : Hp} (cr : CallsF T X H s F f v) (rx : RV X.mg ρ x w) (rv : RelV w v) (rh : RH T X.mg ρ h H0) (g : G0 H0 H) (t : TabsN T H)
    (e : keyOf F h x = some d) : wpAny (model X.prog X.w) X.A.in1.in1 (call (.ref f) [v]) (KeyEnd1 T X pins σ H s d) (fun _ _ => False) s := by
  unfold keyOf at e
  split at e
  · split at e
    · rename_i p us e1
      split at e
      · rename_i hf
        obtain ⟨a, vs, rfl, ea, ha, ra⟩ := rh.tup rx e1
        have ha' : H a = some (.tup vs) := g.fr a _ ha (by simp) (by intro _ z; cases z)
        refine key_run (ρ := [a]) (x := .loc 0) (w := .ref a) I cr ⟨a, rfl, rfl⟩ rv ⟨t, by simp, rfl, fun n o b en eb => ?_⟩ (fun b hb => ⟨vs, by rw [List.mem_singleton.mp hb]; exact ha'⟩) e
        cases n with
        | zero =>
          cases en; cases eb
          exact ⟨_, ha', vs, rfl, flats_any ra hf⟩
        | succ n => cases eb
      · cases e
    · cases e
  · rename_i x' _
    split at e
    · rename_i hf
      exact key_run (ρ := []) I cr (flat_any rx hf) rv (rh_nil t) (fun b hb => absurd hb (by simp)) e
    · cases e
end

/-! ### the heap and what is ours -/
section
variable {X : Cx} {pins : List (Addr × Obj)} {σ : St} {H : Hp} {s : Shared}
/-- an untracked object of ours becomes tracked -/
theorem Inv.own (I : L2.Inv X pins σ H s) {a : Addr} {o : HO} (fp : FpOk X pins H a) (hs : X.s_0.heap.objs.size ≤ a) (new : ObjOk X.prog X.w (upd H a o) s.heap a o) : L2.Inv X pins σ (upd H a o) s := by
  obtain ⟨f0, f1, f2, f3, f4, f5⟩ := fp
  have nb : ∀ b u, X.s_0.heap.get? b = some u → b ≠ a := fun b u e => Nat.ne_of_lt (Nat.lt_of_lt_of_le (Heap.lt_size e) hs)
  refine ⟨I.ok, I.os, I.bare, ⟨I.base.keep, I.base.slot, fun b u e n hx => ?_, I.base.there, fun b xs e => ?_, fun b o' u e => ?_, fun b ps e => ?_⟩, I.loc, I.cell, ?_, fun x c e => ?_, fun p hp => ?_, fun b u e => ?_, I.len⟩
  · rw [upd_ne (nb b u e)]; exact I.base.free b u e n hx
  · have q := I.base.tups b xs e
    rw [upd_ne (ne_of_none q f0)]; exact q
  · have q := I.base.frzs b o' u e
    rw [upd_ne (ne_of_none q f0)]; exact q
  · obtain ⟨m, q⟩ := I.base.tbls b ps e
    exact ⟨m, by rw [upd_ne (ne_of_none q f0)]; exact q⟩
  · rw [upd_ne (Ne.symm f1)]; exact I.free
  · rw [upd_ne (f4 x c e)]; exact I.freeC x c e
  · obtain ⟨e1, e2, e3, e4, e5⟩ := I.pin p hp
    exact ⟨e1, by rw [upd_ne (f5 p hp)]; exact e2, e3, e4, e5⟩
  · by_cases hb : b = a
    · subst hb
      rw [upd_same] at e
      cases e
      exact new
    · rw [upd_ne hb] at e
      exact (I.hok b u e).stay (fun c v _ q => q) (fun c q => by rw [upd_ne (ne_of_none q f0)]; exact q) fun c xs q => by rw [upd_ne (ne_of_none q f0)]; exact q
/-- untracked objects of ours have turned -/
theorem Inv.turn2 (I : L2.Inv X pins σ H s) {a b : Addr} {h' : Heap} {t' : Nat} (fa : FpOk X pins H a) (fb : FpOk X pins H b) (k : ∀ c u, c ≠ a → c ≠ b → s.heap.get? c = some u → h'.get? c = some u) : L2.Inv X pins σ H { s with heap := h', toks := t' } := by
  obtain ⟨a0, a1, a2, a3, a4, a5⟩ := fa
  obtain ⟨b0, b1, b2, b3, b4, b5⟩ := fb
  have tr : ∀ c u, H c = some u → c ≠ a ∧ c ≠ b := fun c u e => ⟨ne_of_none e a0, ne_of_none e b0⟩
  have nm : ∀ c, c ∉ [a, b] → c ≠ a ∧ c ≠ b := fun c hc => ⟨fun z => hc (by simp [z]), fun z => hc (by simp [z])⟩
  refine I.step (g' := s.gens) (d' := s.drawn) (ch := [a, b]) (fun c hc => ?_) (fun c u _ _ hc e _ => k c u (nm c hc).1 (nm c hc).2 e) (fun c u _ _ hc e _ => ⟨u.slots, k c u (nm c hc).1 (nm c hc).2 e⟩) (fun _ _ _ _ n => n)
    (fun c u hc e => ⟨u, k c u (nm c hc).1 (nm c hc).2 e⟩) (fun _ _ e => e) (fun _ _ _ e => e) (fun c ps e => ⟨#[], by rw [e]; simp⟩) (fun m hm => ?_) (fun c u e => ?_) I.bare
  · rcases List.mem_cons.mp hc with rfl | hc
    · exact ⟨a3, a1, a4, a5⟩
    · rw [List.mem_singleton.mp hc]
      exact ⟨b3, b1, b4, b5⟩
  · obtain ⟨o, es, ep, ho, r⟩ := hm
    exact ⟨o, es, ep, k _ o (Ne.symm a1) (Ne.symm b1) ho, r⟩
  · refine (I.hok c u e).stay (fun d v hd q => ?_) (fun _ q => q) fun _ _ q => q
    rcases hd with z | z
    · rw [z] at q ⊢
      exact k c v (tr c u e).1 (tr c u e).2 q
    · exact k d v (tr d _ z).1 (tr d _ z).2 q
theorem fp_stack (I : L2.Inv X pins σ H s) {b : Addr} (fp : FpOk X pins H b) : b ∉ frs X.stack := fun hb => by
  rcases List.mem_cons.mp (I.stkSub b hb) with e | e
  · exact fp.2.1 e
  · exact fp.2.2.1 e
end

/-! ### the sort itself -/
open PyProof.Rows (ksk_rest ksk_tree ksk_end ksk_fold listItems_at listUpdate_at seqEpoch_at)
def insB {α : Type} (le : α → α → Bool) (x : α) : List α → List α
  | [] => [x]
  | y :: ys => if le x y then x :: y :: ys else y :: insB le x ys
/-- stable, by insertion from the right -/
def insS {α : Type} (le : α → α → Bool) : List α → List α
  | [] => []
  | x :: xs => insB le x (insS le xs)
def le2 (p q : U × PyData) : Bool := !PySem.W.dataLt q.2 p.2
def isTn : PyData → Bool
  | .tuple (_ :: _) => true
  | _ => false
def isNt : PyData → Bool
  | .none => false
  | .tuple _ => false
  | _ => true
def sortOk (ks : List PyData) : Bool := (ks.all fun d => ks.all fun d' => alike d d') && (ks.all isTn || ks.all isNt) && ks.all fun d => decide (d.depth ≤ 60)
/-- the items xs in the order of their keys -/
def sortU (F : FM) (h : Hh) (xs : List U) : Option (List U) :=
  match xs.mapM (keyOf F h) with
  | some ks => if sortOk ks && decide (xs.length ≤ sizeLine) then some ((insS le2 (xs.zip ks)).map (·.1)) else none
  | none => none
theorem insB_perm {α : Type} (le : α → α → Bool) (x : α) : ∀ l : List α, (insB le x l).Perm (x :: l)
  | [] => .refl _
  | y :: ys => by
    unfold insB
    split
    · exact .refl _
    · exact ((insB_perm le x ys).cons y).trans (List.Perm.swap x y ys)
theorem insS_perm {α : Type} (le : α → α → Bool) : ∀ l : List α, (insS le l).Perm l
  | [] => .refl _
  | x :: xs => (insB_perm le x _).trans ((insS_perm le xs).cons x)
theorem insB_sorted {α : Type} {le : α → α → Bool} (h : PySem.W.TotalLe le) {x : α} : ∀ {l : List α}, l.Pairwise (fun a b => le a b = true) → (insB le x l).Pairwise (fun a b => le a b = true)
  | [], _ => by simp [insB]
  | y :: ys, p => by
    unfold insB
    rw [List.pairwise_cons] at p
    split
    · rename_i hx
      refine List.pairwise_cons.mpr ⟨fun z hz => ?_, List.pairwise_cons.mpr p⟩
      rcases List.mem_cons.mp hz with rfl | hz
      · exact hx
      · exact h.trans _ _ _ hx (p.1 z hz)
    · rename_i hx
      refine List.pairwise_cons.mpr ⟨fun z hz => ?_, insB_sorted h p.2⟩
      have hm := (insB_perm le x ys).mem_iff.mp hz
      rcases List.mem_cons.mp hm with rfl | hm
      · exact (h.total y z).resolve_right hx
      · exact p.1 z hm
theorem insS_sorted {α : Type} {le : α → α → Bool} (h : PySem.W.TotalLe le) : ∀ l : List α, (insS le l).Pairwise (fun a b => le a b = true)
  | [] => .nil
  | x :: xs => insB_sorted h (insS_sorted h xs)
theorem insB_filter {α : Type} {le : α → α → Bool} (h : PySem.W.TotalLe le) {x c : α} : ∀ l : List α, (insB le x l).filter (PySem.W.sameRank le c) = (x :: l).filter (PySem.W.sameRank le c)
  | [] => rfl
  | y :: ys => by
    unfold insB
    split
    · rfl
    · rename_i hx
      have ih := insB_filter h (x := x) (c := c) ys
      rw [List.filter_cons, ih, List.filter_cons, List.filter_cons, List.filter_cons]
      by_cases h1 : PySem.W.sameRank le c x = true
      · by_cases h2 : PySem.W.sameRank le c y = true
        · exfalso
          unfold PySem.W.sameRank at h1 h2
          rw [Bool.and_eq_true] at h1 h2
          exact hx (h.trans _ _ _ h1.2 h2.1)
        · simp [h1, h2]
      · simp [h1]
theorem insS_merge {α : Type} {le : α → α → Bool} (h : PySem.W.TotalLe le) (l : List α) : insS le l = l.mergeSort le := by
  refine PySem.W.sort_unique h (insS_sorted h l) fun c => ?_
  induction l with
  | nil => rfl
  | cons x xs ih =>
    show (insB le x (insS le xs)).filter _ = _
    rw [insB_filter h, List.filter_cons, List.filter_cons, ih]
theorem le2_eq : le2 = dataLe false (fun p : U × PyData => p.2) := by
  funext p q
  rw [PySem.W.dataLe_eq]
  rfl
theorem le2_total : PySem.W.TotalLe le2 := by
  rw [le2_eq]
  exact PySem.W.sortLe_total _ _ _
theorem sortOk_ok {ks : List PyData} (h : sortOk ks = true) : AllAlike ks ∧ PySem.W.Sortable ks ∧ ∀ d ∈ ks, d.depth ≤ 60 := by
  unfold sortOk at h
  simp only [Bool.and_eq_true, Bool.or_eq_true, List.all_eq_true, decide_eq_true_eq] at h
  obtain ⟨⟨h1, h2⟩, h3⟩ := h
  refine ⟨fun d hd d' hd' => h1 d hd d' hd', ?_, h3⟩
  rcases h2 with h2 | h2
  · refine .inl fun d hd => ?_
    have := h2 d hd
    cases d with
    | tuple xs =>
      cases xs with
      | nil => cases this
      | cons x r => exact ⟨x, r, rfl⟩
    | _ => cases this
  · refine .inr fun d hd => ?_
    have := h2 d hd
    cases d with
    | none => cases this
    | tuple xs => cases this
    | bool b => exact ⟨nofun, nofun⟩
    | int b => exact ⟨nofun, nofun⟩
    | str b => exact ⟨nofun, nofun⟩
    | list b => exact ⟨nofun, nofun⟩
    | dict b => exact ⟨nofun, nofun⟩
end Mx
end
section
set_option maxHeartbeats 4000000
namespace Mx
open PySem L2
open NdefX (NTab TabsN TabN)
open PySem.W (KeepsBut EachIs AllAlike alike dataLe SortsAt)
open PyProof.Rows (seqObj get?_update_seq size_push' ksk_rest ksk_tree ksk_end ksk_fold listItems_at listUpdate_at seqEpoch_at)
theorem mapM_len {α β : Type} {f : α → Option β} {xs : List α} {ys : List β} (e : xs.mapM f = some ys) : ys.length = xs.length := (mapM_some e).length.symm
section
variable {T : List NTab} {X : Cx} {Z : Wd} {pins : List (Addr × Obj)} {σ : St} {H : Hp} {s : Shared} {k : Nat} {f : Addr} {fd : FuncData} {ps : List Str} {F : FM} {ρ : List Addr} {h : Hh} {xs : List U} {ws : List V} {vs : List Value} {ks : List PyData}
theorem each_of {R : Value → U × PyData → Prop} : ∀ {xs : List U} {ws : List V} {vs : List Value} {ks : List PyData}, RVs X.mg ρ xs ws → Vals ws vs → ks.length = xs.length → (∀ x w v d, RV X.mg ρ x w → RelV w v → R v (x, d)) → EachIs R vs (xs.zip ks)
  | _, _, _, [], .nil, .nil, _, _ => .nil
  | _, _, _, d :: ks, .cons r t, .cons r' t', hl, hf => .cons (hf _ _ _ d r r') (each_of t t' (by simpa using hl) hf)
  | _, _, _, [], .cons _ _, _, hl, _ => by simp at hl
  | _, _, _, _ :: _, .nil, _, hl, _ => by simp at hl
theorem vals_of : ∀ {out : List Value} {bs : List (U × PyData)}, EachIs (fun v b => ∃ w, RelV w v ∧ RV X.mg ρ b.1 w) out bs → ∃ ws', Vals ws' out ∧ RVs X.mg ρ (bs.map (·.1)) ws'
  | _, _, .nil => ⟨[], .nil, .nil⟩
  | _, _, .cons ⟨w, r1, r2⟩ t => by
    obtain ⟨ws', h1, h2⟩ := vals_of t
    exact ⟨w :: ws', .cons r1 h1, .cons r2 h2⟩
theorem each_app {α β : Type} {R : α → β → Prop} : ∀ {as : List α} {bs : List β} {a : α} {b : β}, EachIs R as bs → R a b → EachIs R (as ++ [a]) (bs ++ [b])
  | _, _, _, _, .nil, r => .cons r .nil
  | _, _, _, _, .cons q t, r => .cons q (each_app t r)
/-- list.sort(key=f) of a list that is not tracked yet -/
theorem sort_at (hr : Room (k + 2) X.A) (I : Inv X pins σ H s) (rx : RVs X.mg ρ xs ws) (rv : Vals ws vs) (rh : RH T X.mg ρ h H)
    (kc : ∀ s' H' x w v d, Inv X pins σ H' s' → G0 H H' → TabsN T H' → RV X.mg ρ x w → RelV w v → keyOf F h x = some d → wpAny (model X.prog X.w) X.A.in1.in1 (call (.ref f) [v]) (KeyEnd1 T X pins σ H' s' d) (fun _ _ => False) s') (hk : xs.mapM (keyOf F h) = some ks) (hok : sortOk ks = true) (hz : xs.length ≤ sizeLine)
    {a : Addr} {n : Nat} (ha : s.heap.get? a = some (seqObj "list" vs.toArray n)) (fa : FpOk X pins H a) (hsa : X.s_0.heap.objs.size ≤ a) {E' : Value → Shared → Prop} {P : PySem.Fin → Shared → Prop}
    (q : ∀ s' H' ws', Inv X pins σ (upd H' a (.lst ws')) s' → G0 H H' → TabsN T H' → H' a = none → RVs X.mg ρ ((insS le2 (xs.zip ks)).map (·.1)) ws' → P (.done (.ret .none)) s') : wpAny (model X.prog X.w) X.A.in1.in1 (ksk_tree a (.ref f) false) P E' s := by
  have lv : vs.length = xs.length := rv.length.symm.trans rx.length.symm
  have lk : ks.length = xs.length := mapM_len hk
  obtain ⟨hal, hso, hdp⟩ := sortOk_ok hok
  have haz : a < s.heap.objs.size := Heap.lt_size ha
  -- the heap while the keys are reckoned
  obtain ⟨e1, ho1⟩ : ∃ e1, (s.heap.update a (Obj.mapSeq fun _ => (#[] : Array Value))).get? a = some (seqObj "list" #[] e1) := ⟨_, get?_update_seq ha fun _ => #[]⟩
  let g1 := (s.heap.update a (Obj.mapSeq fun _ => (#[] : Array Value))).push (seqObj "tuple" vs.toArray 0)
  let g2 := g1.push (seqObj "list" #[] 0)
  have z1 : g1.objs.size = s.heap.objs.size + 1 := by
    show ((s.heap.update a _).push _).objs.size = _
    rw [size_push', Heap.size_update]
  have k2 : ∀ b o, b ≠ a → s.heap.get? b = some o → g2.get? b = some o := fun b o hb e => Heap.get?_push_of_some _ (Heap.get?_push_of_some _ (((Heap.SameBut.update s.heap a _).2 b hb).trans e))
  have a2 : g2.get? a = some (seqObj "list" #[] e1) := Heap.get?_push_of_some _ (Heap.get?_push_of_some _ ho1)
  have c2 : g2.get? g1.objs.size = some (seqObj "list" #[] 0) := Heap.get?_push_size _ rfl
  have nK : H g1.objs.size = none := I.hok.fresh (by rw [z1]; omega)
  have fK : FpOk X pins H g1.objs.size := I.fpOk (by rw [z1]; omega) nK
  have neK : g1.objs.size ≠ a := Nat.ne_of_gt (by rw [z1]; exact Nat.lt_succ_of_lt haz)
  have I2 : Inv X pins σ H { s with heap := g2, toks := s.toks } := Inv.turn2 I fa fK fun c u hc _ e => k2 c u hc e
  unfold ksk_tree
  refine wpAny_bind (listItems_at ha rfl ?_)
  refine wpAny_bind (listUpdate_at ha rfl ?_ (by rw [List.size_toArray, lv]; exact hz) (Nat.zero_le _))
  refine wpAny_bind (seqEpoch_at ho1 rfl ?_)
  refine wpAny_bind (wpAny_newTuple ?_ (by show vs.length ≤ _; rw [lv]; exact hz))
  refine wpAny_bind (wpAny_newList ?_ (Nat.zero_le _))
  refine wpAny_holding ?_
  show wpAny _ _ (ksk_rest a (.ref f) false vs.toArray e1 (.ref g1.objs.size)) P E' { s with heap := g2, toks := s.toks }
  unfold ksk_rest
  refine wpAny_bind (wpAny_rule ?_)
  first
    | rw [List.forIn_toArray]
    | (rw [← Array.forIn_toList]; simp only [List.toList_toArray])
  refine wpAny_bind (ksk_fold (fun i s' => ∃ H' kA e, Inv X pins σ H' s' ∧ G0 H H' ∧ TabsN T H' ∧ H' g1.objs.size = none ∧ H' a = none ∧ s'.heap.get? g1.objs.size = some (seqObj "list" kA e) ∧ s'.heap.get? a = some (seqObj "list" #[] e1) ∧
      EachIs (fun v d => ∃ w, RelV w v ∧ Dp X.K H' w d) kA.toList (ks.take i)) vs 0 _ ⟨H, #[], 0, I2, Gw.refl, rh.tb, nK, fa.1, c2, a2, by rw [List.take_zero]; exact .nil⟩ ?step ?done)
  case step =>
    rintro j v s' hv ⟨H', kA, e, I', g', t', n1, n2, h1, h2, hE⟩
    simp only [Nat.zero_add] at hE ⊢
    have hj : j < vs.length := (List.getElem?_eq_some_iff.mp hv).1
    obtain ⟨w, hw, rw'⟩ : ∃ w, ws[j]? = some w ∧ RelV w v := by
      have hjw : j < ws.length := by rw [rv.length]; exact hj
      obtain ⟨b, hb, r⟩ := Pget rv (i := j) (a := ws[j]) (by simp [hjw])
      rw [hv] at hb
      cases hb
      exact ⟨ws[j], by simp [hjw], r⟩
    have hjx : j < xs.length := by omega
    obtain ⟨w2, hw2, rx2⟩ := Pget rx (i := j) (a := xs[j]) (by simp [hjx])
    rw [hw] at hw2
    cases hw2
    obtain ⟨d, hd, kd⟩ := Pget (mapM_some hk) (i := j) (a := xs[j]) (by simp [hjx])
    have fK' : FpOk X pins H' g1.objs.size := ⟨n1, fK.2⟩
    have fa' : FpOk X pins H' a := ⟨n2, fa.2⟩
    refine wpAny_bind (wpAny_attempt (wpAny_mono (kc s' H' _ w v d I' g' t' rx2 rw' kd) (fun kv s'' he => ?_) fun _ _ hF => hF.elim))
    obtain ⟨H'', w3, I'', rw3, g'', t'', dp, keep⟩ := he
    obtain ⟨h1', n1'⟩ := keep _ _ h1 n1 (fp_stack I' fK')
    obtain ⟨h2', n2'⟩ := keep _ _ h2 n2 (fp_stack I' fa')
    have hsz : kA.size ≤ vs.length := by
      have l1 := hE.length
      rw [Array.length_toList, List.length_take] at l1
      omega
    have s1 := Heap.SameBut.update s''.heap g1.objs.size (Obj.mapSeq (·.push kv))
    obtain ⟨c3, hc3⟩ : ∃ c3, (s''.heap.update g1.objs.size (Obj.mapSeq (·.push kv))).get? g1.objs.size = some (seqObj "list" (kA.push kv) c3) := ⟨_, get?_update_seq h1' (·.push kv)⟩
    have zl : kA.size ≤ sizeLine := by omega
    refine wpAny_bind (listUpdate_at h1' rfl ?_ zl (by rw [Array.size_push]; omega))
    have fK'' : FpOk X pins H'' g1.objs.size := ⟨n1', fK.2⟩
    refine wpAny_pure ⟨rfl, H'', kA.push kv, c3, Inv.turn2 (t' := s''.toks) I'' fK'' fK'' fun c u hc _ e => (s1.2 c hc).trans e, g'.trans g'', t'', n1', n2', hc3, (s1.2 a neK.symm).trans h2', ?_⟩
    have ek : ks.take (j + 1) = ks.take j ++ [d] := by rw [List.take_add_one, hd]; rfl
    rw [ek, show (kA.push kv).toList = kA.toList ++ [kv] by simp]
    refine each_app (EachIs.mono (fun v d q => ?_) hE) ⟨w3, rw3, dp⟩
    obtain ⟨w, q1, q2⟩ := q
    exact ⟨w, q1, dp_stay g'' d w q2⟩
  case done =>
    rintro s' ⟨H', kA, e, I', g', t', n1, n2, h1, h2, hE⟩
    have e3 : ks.take (0 + vs.length) = ks := List.take_of_length_le (by omega)
    rw [e3] at hE
    have hsz : kA.size = vs.length := by
      have l1 := hE.length
      rw [Array.length_toList] at l1
      omega
    have hR : EachIs (fun v d => ∃ as, Reads s'.heap v d as) kA.toList ks := EachIs.mono (fun v d ⟨w, q1, q2⟩ => Dp.reads I' d w v q2 q1) hE
    refine wpAny_bind (listItems_at h1 rfl ?_)
    obtain ⟨G, hG1, hG2⟩ := restrict s'.heap fun b => decide (b ≠ g1.objs.size)
    have kp : KeepsBut a G s'.heap := fun b o _ eb => by
      by_cases hb : b = g1.objs.size
      · rw [hG2 b (by simp [hb])] at eb
        cases eb
      · rw [← hG1 b (by simp [hb])]
        exact eb
    refine PySem.W.keyH_end (κ := PySem.W.dataKind s'.heap ks) (h₁ := G) kp (hG2 _ (by simp)) h1 h2 neK (SortsAt.data (s := s') hR hal hso fun d hd => ?_) hsz (by rw [lv]; exact hz) fun h3 tk3 c kk na => ?_
    · have := hdp d hd
      have hu := hr.in1.in1.un
      omega
    · have ko : PySem.W.KeyedOut false ((xs.zip ks).map (·.2)) vs (PySem.W.sortVals (PySem.W.dataKind s'.heap ks) false kA.toList vs) := by
        have e4 : (xs.zip ks).map (·.2) = ks := List.map_snd_zip (by omega)
        rw [e4]
        exact ⟨s'.heap, kA.toList, hal, rfl, hR⟩
      have ev : EachIs (fun v (b : U × PyData) => ∃ w, RelV w v ∧ RV X.mg ρ b.1 w) vs (xs.zip ks) := each_of rx rv lk fun x w v d r1 r2 => ⟨w, r2, r1⟩
      have out := PySem.W.keyedOut_each (fun b : U × PyData => b.2) ko ev
      rw [← le2_eq, ← insS_merge le2_total] at out
      obtain ⟨ws', hv', hr'⟩ := vals_of out
      have fK' : FpOk X pins H' g1.objs.size := ⟨n1, fK.2⟩
      have fa' : FpOk X pins H' a := ⟨n2, fa.2⟩
      have I3 : Inv X pins σ H' { s' with heap := h3, toks := tk3 } := Inv.turn2 I' fa' fK' fun c u hc hc2 e => kk c u hc (by rw [hG1 c (by simp [hc2])]; exact e)
      refine q _ H' ws' (Inv.own I3 fa' hsa ⟨?_, _, c, hv', na⟩) g' t' n2 hr'
      have l1 := out.length
      have l2 := (insS_perm le2 (xs.zip ks)).length_eq
      rw [List.length_zip] at l2
      have l3 := hv'.length
      omega
end
end Mx
end
section
set_option maxHeartbeats 4000000
namespace Mx
open PySem L2
open NdefX (NTab TabsN TabN)
open PySem.W (KeepsBut EachIs AllAlike alike dataLe SortsAt)
open PyProof.Rows (seqObj get?_update_seq size_push' ksk_tree)
section
variable {T : List NTab} {X : Cx} {Z : Wd} {pins : List (Addr × Obj)} {σ : St} {H H' : Hp} {s : Shared} {k : Nat} {f : Addr} {fd : FuncData} {ps : List Str} {F : FM} {ρ : List Addr} {h : Hh} {xs : List U} {ws : List V} {vs : List Value} {ks : List PyData}
theorem G0.gw {mg : Str → Option Value} (g : G0 H H') (r : RH T mg ρ h H) : Gw ρ H ρ H' := ⟨⟨[], by simp⟩, fun a O e _ n => g.fr a O e (by simp) n, fun _ h k => absurd h k, g.fz, g.tg⟩
theorem RH.g0 {mg : Str → Option Value} (r : RH T mg ρ h H) (g : G0 H H') (t : TabsN T H') : RH T mg ρ h H' := by
  refine ⟨t, r.nd, r.len, fun n o a e ea => ?_⟩
  obtain ⟨O, h1, h2⟩ := r.at_ n o a e ea
  exact ⟨O, g.fr a O h1 (by simp) h2.plain.1, h2⟩
/-- what calling the key does -/
def KC (T : List NTab) (X : Cx) (pins : List (Addr × Obj)) (σ : St) (H : Hp) (ρ : List Addr) (h : Hh) (F : FM) (f : Addr) : Prop :=
  ∀ s' H' x w v d, Inv X pins σ H' s' → G0 H H' → TabsN T H' → RV X.mg ρ x w → RelV w v → keyOf F h x = some d → wpAny (model X.prog X.w) X.A.in1.in1 (call (.ref f) [v]) (KeyEnd1 T X pins σ H' s' d) (fun _ _ => False) s'
theorem sorted_at {E : Value → Shared → Prop} {l : Addr} {Q : VK} (hr : Room (k + 2) X.A) (I : Inv X pins σ H s) (rx : RVs X.mg ρ xs ws) (rh : RH T X.mg ρ h H) (kc : KC T X pins σ H ρ h F f) (hk : xs.mapM (keyOf F h) = some ks) (hok : sortOk ks = true) (hz : xs.length ≤ sizeLine)
    (col : ∀ R : List Value → Shared → Prop, (∀ h' tk acc, (∀ b o, s.heap.get? b = some o → h'.get? b = some o) → Vals ws acc → R acc { s with heap := h', toks := tk }) → wpAny (model X.prog X.w) X.A.in1 (collect (.ref l)) R E s)
    (q : NQ T X ρ H (.loc h.size) (h.push (.lst ((insS le2 (xs.zip ks)).map (·.1)))) Q) : wpAny (model X.prog X.w) X.A (call (.builtin "sorted") [.ref l] [(Str.ofString "key", .ref f)]) (EP X pins σ Q) E s := by
  refine PyProof.Rows.call_function_entry_kw PyProof.Rows.kind_sorted PyProof.Rows.plain_sorted PyProof.Rows.entry_sorted (PyProof.Rows.ksk_s1 _ _) ?_
  unfold Builtin.«sorted»
  refine wpAny_bind (m := checkCount "sorted" 1 1 _) (wpAny_pure ?_)
  refine wpAny_bind (col _ fun h' tk acc kp rv => ?_)
  have la : acc.length = xs.length := rv.length.symm.trans rx.length.symm
  have I1 : Inv X pins σ H { s with heap := h', toks := tk } := I.kept kp
  refine wpAny_bind (wpAny_newList ?_ (by rw [la]; exact hz))
  have hoL : (h'.push (seqObj "list" acc.toArray 0)).get? h'.objs.size = some (seqObj "list" acc.toArray 0) := Heap.get?_push_size _ rfl
  have n1 : H h'.objs.size = none := I1.hok.fresh (Nat.le_refl _)
  have I2 : Inv X pins σ H { s with heap := h'.push (seqObj "list" acc.toArray 0), toks := tk } := I1.kept (t' := tk) fun b o e => Heap.get?_push_of_some _ e
  show wpAny _ _ _ _ _ { s with heap := h'.push (seqObj "list" acc.toArray 0), toks := tk }
  refine wpAny_bind (wpAny_holding (PyProof.Rows.wpAny_call_entry_kw PyProof.Rows.slot_list_sort ⟨_, hoL, rfl⟩ PyProof.Rows.entry_list_sort ?body (PyProof.Rows.ksk_l1 _ _)))
  case body =>
    rw [PyProof.Rows.ksk_t1]
    refine sort_at (s := { s with heap := h'.push (seqObj "list" acc.toArray 0), toks := tk }) hr I2 rx rv rh kc hk hok hz hoL (I1.fpOk (Nat.le_refl _) n1) I1.sz fun s' H' ws' I' g' t' n' r' => ⟨_, rfl, ?_⟩
    refine wpAny_pure ⟨_, rfl, .ref h'.objs.size, _, I', rfl, ?_⟩
    have rh' := rh.g0 g' t'
    have gg := g'.gw rh
    refine NQ.new (h := h) (fun ρ' b H'' g r rh'' => q ρ' b H'' (gg.trans g) r rh'') rh' n' fun ρ' g => ⟨ws', rfl, r'.gw g⟩

/-! ### sorted(e, key=f) -/
def itemsU (x : U) (h : Hh) : Option (List U) := match x with
  | .loc p => (match h.get p with | some (.lst xs) => some xs | some (.dic _ kvs) => some (kvs.map fun kv => keyV kv.1) | _ => none)
  | _ => none
def eSort (F : FM) (e : EM) : EM := fun us h => (e us h).bind fun x h1 => lft ((itemsU x h1).bind fun xs => (sortU F h1 xs).map fun ys => (.loc h1.size, h1.push (.lst ys)))
def kwW (X : Cx) (f : Value) (ks : List Str) : List V → List V → Hp → VK → Prop := fun xs zs H Q => ∀ pins s σ us ws, Inv X pins σ H s → Vals xs us → Vals zs ws → wpAny (model X.prog X.w) X.A (call f us (ks.zip ws)) (EP X pins σ Q) X.xe s
theorem crk_W {f : Value} {ks : List Str} : CallRK X f ks (kwW X f ks) := fun pins s σ H xs zs us ws Q I r1 r2 h => h pins s σ us ws I r1 r2
theorem sortU_ok {ys : List U} (e : sortU F h xs = some ys) : ∃ ks, xs.mapM (keyOf F h) = some ks ∧ sortOk ks = true ∧ xs.length ≤ sizeLine ∧ ys = (insS le2 (xs.zip ks)).map (·.1) := by
  unfold sortU at e
  split at e
  · rename_i ks hk
    split at e
    · rename_i hc
      rw [Bool.and_eq_true, decide_eq_true_eq] at hc
      cases e
      exact ⟨ks, hk, hc.1, hc.2, rfl⟩
    · cases e
  · cases e
/-- what the items of x are, taken by sorted -/
theorem col_items {x : U} {v : V} {u : Value} (hc : X.calm = true) (I : Inv X pins σ H s) (rh : RH T X.mg ρ h H) (r : RV X.mg ρ x v) (ru : RelV v u) (e : itemsU x h = some xs) : ∃ ws l, u = .ref l ∧ RVs X.mg ρ xs ws ∧ ∀ (E : Value → Shared → Prop) (R : List Value → Shared → Prop),
    (∀ h' tk acc, (∀ b o, s.heap.get? b = some o → h'.get? b = some o) → Vals ws acc → R acc { s with heap := h', toks := tk }) → wpAny (model X.prog X.w) X.A.in1 (collect (.ref l)) R E s := by
  unfold itemsU at e
  split at e
  · split at e
    · rename_i e1
      cases e
      obtain ⟨a, ws, rfl, _, ha, ra⟩ := rh.lst r e1
      cases ru
      obtain ⟨its, rv, hl, hz⟩ := I.list (SqL.of ha)
      refine ⟨ws, a, rfl, ra, fun E R kk => PyProof.Rows.collect_list hl.isList (kk _ s.toks its (fun b o q => ?_) rv) (by rw [← rv.length]; exact hz)⟩
      rw [(Heap.SameBut.update _ s.heap.objs.size _).2 b (Nat.ne_of_lt (Heap.lt_size q))]
      exact Heap.get?_push_of_some _ q
    · rename_i e1
      cases e
      obtain ⟨a, ws, rfl, _, ha, ra⟩ := rh.dic r e1
      cases ru
      obtain ⟨z, lo, vs, rel, dd⟩ := dk_rd I.hok ha
      obtain ⟨ep, hat⟩ := dd.dictAt
      have ek : (ws.map fun kv => L2.kV kv.1) = vs.map fun p => L2.kV p.1 := by
        have e := congrArg (List.map L2.kV) rel.keys
        rw [List.map_map, List.map_map] at e
        exact e
      refine ⟨ws.map fun kv => L2.kV kv.1, a, rfl, keys_rv ra, fun E R kk => PySem.W.kdu_collect (A := X.A.in1) (PySem.W.kdl_dict (knd := mixKind X.prog X.w) (kvs := vs) (ep := ep) lo) (I.ok.hd hc) hat (by rw [← rel.length]; exact z) fun h' tk acc hk hacc => ?_⟩
      refine kk h' tk acc.toList hk ?_
      rw [ek]
      exact keys_at (by rw [Array.length_toList]; exact hacc.1) fun j v e => hacc.2 j v (by rw [← Array.getElem?_toList]; exact e)
    · cases e
  · cases e
theorem x_sorted {e : Expr} {ce : EM} {x : Str} {p p2 kp pos : Pos} (D : Does T Z k f fd ps F) (hp : ps.length = 1) (hr : Room (k + 2) X.A) (hmx : Z.mg x = some (.ref f)) (hm : X.mg "sorted" = none) (he : Ex X (nW T) e ce) (hZ : wd X = Z := by rfl) (hg : Gl X "sorted" := by rfl) (hgx : Gl X x := by rfl)
    (hc : X.calm = true := by rfl) (hdx : (x == ("__debug__" : Str)) = false := by decide) (h0 : starEach [e] X.env = (false, eval e X.env) :: starEach [] X.env := by rfl) (h1 : backTo pos (starEach [e] X.env) = (false, eval e X.env) :: backTo pos (starEach [] X.env) := by rfl) (h2 : (backTo pos (starEach [e] X.env)).any (·.1) = false := by rfl)
    (h3 : (backToKw pos (keywordEach [⟨some "key", .Name x p2, kp⟩] X.env)).all (·.1.isSome) = true := by rfl) (h4 : (backToKw pos (keywordEach [⟨some "key", .Name x p2, kp⟩] X.env)).any (·.1.isNone) = false := by rfl)
    (h5 : (backToKw pos (keywordEach [⟨some "key", .Name x p2, kp⟩] X.env)).filterMap (·.1) = [Str.ofString "key"] := by rfl) : Ex X (nW T) (.Call (.Name "sorted" p) [e] [⟨some "key", .Name x p2, kp⟩] pos) (eSort F ce) := .mk fun ρ us h σ H Q L kk => by
  subst hZ
  refine eW_of (pe_callBK (ks := [Str.ofString "key"]) (crk_W (f := .builtin "sorted")) hg hm rfl (pa_cons peW pa_nil h0) (pk_cons (pe_glob (v := .ref f) hgx hmx rfl hdx) pk_nil) (by decide) (by decide) h1 h2 h3 h4 h5) ?_
  refine he.run L kk fun y h1 ρ1 v H1 _ g1 r1 L1 k1 => ?_
  intro pins s σ' us' ws' I rv1 rv2
  obtain ⟨u, rfl, ru⟩ := vals1 rv1
  obtain ⟨w, rfl, rw'⟩ := vals1 rv2
  cases rw'
  obtain ⟨u', h', e', q⟩ := k1.lft
  cases e1 : itemsU y h1 with
  | none => rw [e1] at e'; cases e'
  | some xs =>
    rw [e1] at e'
    cases e2 : sortU F h1 xs with
    | none => rw [Option.bind_some, e2] at e'; cases e'
    | some ys =>
      rw [Option.bind_some, e2] at e'
      cases e'
      obtain ⟨ks, hk, hok, hz, rfl⟩ := sortU_ok e2
      obtain ⟨ws, l, rfl, rx, col⟩ := col_items hc I L1.rh r1 ru e1
      exact sorted_at hr I rx L1.rh (fun s' H' x w v d I' g' t' rx' rv' hd => key_call I' (calls_def D rfl hp hr I') rx' rv' L1.rh g' t' hd) hk hok hz (col X.xe) q
end
end Mx
end
section
set_option maxHeartbeats 4000000
namespace Mx
open PySem L2
open NdefX (NTab TabsN TabN NF ncx NScope CellsAt inv_startN envF startF among_app2 codeO_at)
open LamX (CodeO TabB inv_table codeO_ne)
open PyProof.Rows (seqObj size_push')
/-! ### a lambda -/
/-- the object at f is a lambda -/
def LamO (f : Addr) (q : Str) (params : Arguments) (body : Expr) (scope : Scope) (cl : List (Str × Addr)) (c : Addr) : HO := .ext fun h => ∃ pm ctv, h.get? f = some (PySem.W.kla_obj "<lambda>" q params body scope cl pm c ctv)
section
variable {T : List NTab} {X : Cx} {Z : Wd} {pins : List (Addr × Obj)} {σ : St} {H H' : Hp} {s : Shared} {k : Nat} {f : Addr} {ρ : List Addr} {h : Hh}
theorem tab_grow {nm : Nat → Nat → Str} {P c' f : Addr} {ps : Array Value} {q : Str} {pos : Pos} {O : HO} (hT : TabsN T H) (hP : H P = some (.tbl ps)) (ht : TriplesOk ps.toList) (hu : ∀ p ∈ T, p.1 = P → p.2 = nm) (hn : nm pos.line pos.col = q) (nc : H c' = none) (nf : H f = none) (ne : c' ≠ f) :
    G0 H (upd (upd (upd H P (.tbl (ps ++ #[rawInt pos.line, rawInt pos.col, .ref c']))) c' (CodeO c' q)) f O) ∧ TabsN T (upd (upd (upd H P (.tbl (ps ++ #[rawInt pos.line, rawInt pos.col, .ref c']))) c' (CodeO c' q)) f O) := by
  have nP : ∀ b u, H b = some u → (∀ qs, u ≠ .tbl qs) → b ≠ P := fun b u e z y => by
    rw [y, hP] at e
    exact z ps (Option.some.inj e).symm
  have old : ∀ b u, H b = some u → b ≠ P → (upd (upd (upd H P (.tbl (ps ++ #[rawInt pos.line, rawInt pos.col, .ref c']))) c' (CodeO c' q)) f O) b = some u := fun b u e nb => by
    rw [upd_ne (ne_of_none e nf), upd_ne (ne_of_none e nc), upd_ne nb]
    exact e
  have atP : (upd (upd (upd H P (.tbl (ps ++ #[rawInt pos.line, rawInt pos.col, .ref c']))) c' (CodeO c' q)) f O) P = some (.tbl (ps ++ #[rawInt pos.line, rawInt pos.col, .ref c'])) := by
    rw [upd_ne (ne_of_none hP nf), upd_ne (ne_of_none hP nc), upd_same]
  have atc : (upd (upd (upd H P (.tbl (ps ++ #[rawInt pos.line, rawInt pos.col, .ref c']))) c' (CodeO c' q)) f O) c' = some (CodeO c' q) := by
    rw [upd_ne ne, upd_same]
  refine ⟨⟨⟨[], rfl⟩, fun b u e _ nt => old b u e (nP b u e nt), fun b hb => absurd hb (by simp), fun b o u e => old b _ e (nP b _ e (by intro _ z; cases z)), fun b qs e => ?_⟩, fun p hp => ?_⟩
  · by_cases hb : b = P
    · rw [hb, hP] at e
      cases e
      exact ⟨_, by rw [hb]; exact atP⟩
    · exact ⟨#[], by rw [old b _ e hb]; simp⟩
  · obtain ⟨qs, h1, h2, h3⟩ := hT p hp
    by_cases hb : p.1 = P
    · rw [hb, hP] at h1
      cases h1
      have eL : (ps ++ #[rawInt pos.line, rawInt pos.col, .ref c']).toList = ps.toList ++ [rawInt pos.line, rawInt pos.col, .ref c'] := by simp
      refine ⟨_, by rw [hb]; exact atP, by rw [eL]; exact PySem.TriplesOk_snoc _ _ _ _ ht, fun p' cv hcv => ?_⟩
      rw [eL] at hcv
      rcases among_app2 _ ht hcv with z | ⟨z, z1, z2⟩
      · obtain ⟨c0, e1, e2⟩ := h3 p' cv z
        exact ⟨c0, e1, old _ _ e2 (nP _ _ e2 codeO_ne)⟩
      · refine ⟨c', z, ?_⟩
        rw [hu p hp hb, ← z1, ← z2, hn]
        exact atc
    · refine ⟨qs, old _ _ h1 hb, h2, fun p' cv hcv => ?_⟩
      obtain ⟨c0, e1, e2⟩ := h3 p' cv hcv
      exact ⟨c0, e1, old _ _ e2 (nP _ _ e2 codeO_ne)⟩
theorem lam_make {nm : Nat → Nat → Str} {c P : Addr} {params : Arguments} {body : Expr} {scope : Scope} {pos : Pos} {E : Value → Shared → Prop} {Q : Value → Shared → Prop} (I : Inv X pins σ H s) (TB : TabB X.base X.mg c P) (hcode : X.env.code = .ref c)
    (hm : (P, nm) ∈ T) (hn : nm pos.line pos.col = X.env.qual ++ "<lambda>") (hu : ∀ p ∈ T, p.1 = P → p.2 = nm) (hT : TabsN T H) (hdef : defaultsOf params X.env = ([], [])) (hfree : ∀ y ∈ scope.names, y.2 = .free → ∃ c, X.env.cells.lookup y.1 = some c)
    (q : ∀ f c' H1 s', Inv X pins σ H1 s' → G0 H H1 → TabsN T H1 → H f = none → H1 f = some (LamO f (X.env.qual ++ "<lambda>") params body scope (cloFrom X.env.cells scope.names []) c') → H1 c' = some (CodeO c' (X.env.qual ++ "<lambda>")) → Q (.ref f) s') :
    wpAny (model X.prog X.w) X.A (eval (.Lambda params body scope pos) X.env) Q E s := by
  obtain ⟨ps, hP, ht, ha⟩ := hT _ hm
  refine PySem.W.kla_eval hdef ?_
  have bP : s.heap.BuiltinsAt X.mg P := TB.bm.keeps I.bk
  have hP' : s.heap.get? P = some { cls := .none, data := .fields ps } := I.hok P _ hP
  have lamNew : ∀ (G : Heap) (c' : Addr) (ctv : Value) (H1 : Hp) (tk : Nat), Inv X pins σ H1 { s with heap := G, toks := tk } → Inv X pins σ (upd H1 G.objs.size (LamO G.objs.size (X.env.qual ++ "<lambda>") params body scope (cloFrom X.env.cells scope.names []) c'))
      { s with heap := G.push (PySem.W.kla_obj "<lambda>" (X.env.qual ++ "<lambda>") params body scope (cloFrom X.env.cells scope.names []) ((X.mg "__name__").getD .none) c' ctv), toks := tk } := fun G c' ctv H1 tk J => by
    have e : (G.push (PySem.W.kla_obj "<lambda>" (X.env.qual ++ "<lambda>") params body scope (cloFrom X.env.cells scope.names []) ((X.mg "__name__").getD .none) c' ctv)).get? G.objs.size = some (PySem.W.kla_obj "<lambda>" (X.env.qual ++ "<lambda>") params body scope (cloFrom X.env.cells scope.names []) ((X.mg "__name__").getD .none) c' ctv) := Heap.get?_push_size _ rfl
    exact J.laid (a := G.objs.size) (t' := tk) (fun b u e => Heap.get?_push_of_some _ e) (Nat.le_refl _) ⟨⟨_, _, e⟩, ⟨_, e⟩, fun h1 h2 ⟨p, t, z⟩ st => ⟨p, t, st _ z⟩⟩
  cases hc : codeAmong pos ps.toList with
  | none =>
    refine PySem.W.kla_makeFunction (mg := X.mg) (c := c) (P := P) (ps := ps) (closure_ok hfree) I.ok.glob (I.mod.glob.keeps I.bk) hcode (TB.code.keeps I.bk) hP' ht hc TB.gP bP fun c' ctv h' tk hx hge hlt hrec htb => ?_
    obtain ⟨c2, oc, vs, t, e2, hoc, hd, hv⟩ := hrec
    cases e2
    have I1 := inv_table (t' := tk) (more := #[rawInt pos.line, rawInt pos.col, .ref c']) (h' := h') I hP (fun b o hb e => hx b o hb e) htb hge ⟨oc, vs, t, hoc, hd, hv⟩
    have nC : H c' = none := I.hok.fresh hge
    have nF : H h'.objs.size = none := I.hok.fresh (Nat.le_trans hge (Nat.le_of_lt hlt))
    have I2 := lamNew h' c' ctv _ tk I1
    obtain ⟨gg, tt⟩ := tab_grow (O := LamO h'.objs.size (X.env.qual ++ "<lambda>") params body scope (cloFrom X.env.cells scope.names []) c') hT hP ht hu hn nC nF (Nat.ne_of_lt hlt)
    exact q _ c' _ _ I2 gg tt nF upd_same (by rw [upd_ne (Nat.ne_of_lt hlt), upd_same])
  | some cv =>
    obtain ⟨c', e, hco⟩ := ha pos cv hc
    subst e
    dsimp only at hco
    rw [hn] at hco
    refine PySem.W.kla_makeFunctionHit (mg := X.mg) (c := c) (P := P) (ps := ps) (closure_ok hfree) I.ok.glob (I.mod.glob.keeps I.bk) hcode (TB.code.keeps I.bk) hP' ht hc bP fun ctv h' tk hx hsz => ?_
    have I1 : Inv X pins σ H { s with heap := h', toks := tk } := I.kept hx
    have nF : H h'.objs.size = none := I.hok.fresh hsz
    have I2 := lamNew h' c' ctv _ tk I1
    have old : ∀ b u, H b = some u → upd H h'.objs.size (LamO h'.objs.size (X.env.qual ++ "<lambda>") params body scope (cloFrom X.env.cells scope.names []) c') b = some u := fun b u e => by rw [upd_ne (ne_of_none e nF)]; exact e
    exact q _ c' _ _ I2 ⟨⟨[], rfl⟩, fun b u e _ _ => old b u e, fun b hb => absurd hb (by simp), fun b o u e => old b _ e, fun b qs e => ⟨#[], by rw [old b _ e]; simp⟩⟩ (hT.ext old) nF upd_same (old _ _ hco)

/-- the context of a lambda's body: one parameter, nothing captured -/
abbrev lmX (Z : Wd) (a q : Str) (params : Arguments) (scope : Scope) (f c : Addr) (Ar : Around) (outer : List Env) (s : Shared) (H : Hp) : Cx := (ncx CX0 Z.P Z.w Z.K Z.mg Z.base [a] ⟨"<lambda>", q, params, [], scope, [], c⟩ f Ar outer s H E0).nox
def lamF (c : EM) : FM := fun us h => c (us.map some) h
theorem calls_lam {a q : Str} {params : Arguments} {body : Expr} {scope : Scope} {c' : Addr} {cb : EM} {v : Value} (hf : H f = some (LamO f q params body scope [] c')) (hc : H c' = some (CodeO c' q)) (S : NScope [a] [a] [] scope)
    (hb : ∀ (pm ctv v : Value), bindArgs (PySem.W.kla_fn "<lambda>" q params body scope [] pm (.ref c') ctv) ⟨[v], []⟩ = pure [(a, v)]) (hr : Room (k + 1 + 2) X.A) (I : Inv X pins σ H s)
    (hbody : ∀ Ar outer s H, Room k (lmX (wd X) a q params scope f c' Ar outer s H).A → Ex (lmX (wd X) a q params scope f c' Ar outer s H) (nW T) body cb) : CallsF T X H s (lamF cb) f v := fun ρ h x w Q rx rv rh hq => by
  obtain ⟨⟨pm, ctv, ho⟩, _, _⟩ := I.hok f _ hf
  have hr2 : Room (k + 1) X.A.in1.in1 := hr.in1.in1
  have e0 := I.env0.in1.in1
  have lim : s.heap.NoLimit := e0.mod.nolimit.keeps fun b o e => (e0.bs b o e).1
  refine PySem.W.kla_callFunE hr2.depth ho rfl S.co S.gen rfl (codeO_at I.hok hc) ?_
  rw [hb]
  refine wpAny_pure (wpAny_newFunctionEnv S.nocell (fun ⟨n, _⟩ hy => S.par n (by rw [List.mem_singleton] at hy; cases hy; simp)) (fun h₁ hns hsb => ⟨lim.fresh _ hsb, ?_⟩) S.kind)
  show codeAny _ _ (.expr body (envF ⟨"<lambda>", q, params, [], scope, [], c'⟩ f s.heap.objs.size)) _ _
  have kp : ∀ b o, s.heap.get? b = some o → h₁.get? b = some o := fun b o e => hsb.extBut b o (Nat.ne_of_lt (Heap.lt_size e)) (Heap.get?_push_of_some _ e)
  have J : Inv (ncx CX0 X.prog X.w X.K X.mg X.base [a] ⟨"<lambda>", q, params, [], scope, [], c'⟩ f X.A.in1.in1 X.stack s H E0) [] (startF [a] [w] []) H { s with heap := h₁, toks := s.toks + ([(a, v)] : List (Str × Value)).length } :=
    inv_startN (ps := [a]) (us := [v]) (vs := [w]) (fr := []) (ws := []) S hr2.hd e0 rfl (.cons rv .nil) ⟨rfl, (fun y c e => nomatch e), (fun x y c e => nomatch e), (fun i y e => by simp at e)⟩ hns kp
  have pe := hbody X.A.in1.in1 X.stack s H (hr2.deeper _)
  have t := pe ρ [some x] h (startF [a] [w] []) H Q ⟨.cons ⟨w, rfl, rx⟩ .nil, rh⟩ (by
    unfold lamF at hq
    cases e : cb ([x].map some) h with
    | ok u h' => rw [e] at hq; show Af _ _ _ _ _ _ (cb [some x] h) _; rw [show cb [some x] h = .ok u h' from e]; exact hq
    | exc z h' => rw [e] at hq; exact absurd hq id
    | bad => rw [e] at hq; exact absurd hq id)
  refine PySem.W.kla_codeExpr (wpAny_mono ((PE.nox peW).run [] _ _ H Q J t) (fun v s' hq => ?_) fun e s' hq => hq)
  obtain ⟨w', H', J', rv', q'⟩ := hq
  exact ⟨w', H', J'.os, J'.bare, J'.base, J'.hok, rv', q'⟩
/-- sorted(e, key=lambda a: body) -/
theorem x_sortL {e : Expr} {ce cb : EM} {a : Str} {params : Arguments} {body : Expr} {scope : Scope} {c P : Addr} {nm : Nat → Nat → Str} {p p2 kp pos : Pos} (TB : TabB X.base X.mg c P) (hcode : X.env.code = .ref c) (hmT : (P, nm) ∈ T) (hn : nm p2.line p2.col = X.env.qual ++ "<lambda>")
    (hu : ∀ p ∈ T, p.1 = P → p.2 = nm) (S : NScope [a] [a] [] scope) (hdef : defaultsOf params X.env = ([], [])) (hb : ∀ (q : Str) (pm cv ctv v : Value), bindArgs (PySem.W.kla_fn "<lambda>" q params body scope [] pm cv ctv) ⟨[v], []⟩ = pure [(a, v)]) (hr : Room (k + 1 + 2) X.A) (hm : X.mg "sorted" = none) (he : Ex X (nW T) e ce)
    (hbody : ∀ f c' Ar outer s H, Room k (lmX (wd X) a (X.env.qual ++ "<lambda>") params scope f c' Ar outer s H).A → Ex (lmX (wd X) a (X.env.qual ++ "<lambda>") params scope f c' Ar outer s H) (nW T) body cb) (hg : Gl X "sorted" := by rfl)
    (hcl : cloFrom X.env.cells scope.names [] = [] := by rfl) (hc : X.calm = true := by rfl) (h0 : starEach [e] X.env = (false, eval e X.env) :: starEach [] X.env := by rfl) (h1 : backTo pos (starEach [e] X.env) = (false, eval e X.env) :: backTo pos (starEach [] X.env) := by rfl) (h2 : (backTo pos (starEach [e] X.env)).any (·.1) = false := by rfl)
    (h3 : (backToKw pos (keywordEach [⟨some "key", .Lambda params body scope p2, kp⟩] X.env)).all (·.1.isSome) = true := by rfl) (h4 : (backToKw pos (keywordEach [⟨some "key", .Lambda params body scope p2, kp⟩] X.env)).any (·.1.isNone) = false := by rfl)
    (h5 : (backToKw pos (keywordEach [⟨some "key", .Lambda params body scope p2, kp⟩] X.env)).filterMap (·.1) = [Str.ofString "key"] := by rfl) : Ex X (nW T) (.Call (.Name "sorted" p) [e] [⟨some "key", .Lambda params body scope p2, kp⟩] pos) (eSort (lamF cb) ce) := .mk fun ρ us h σ H Q L kk => by
  refine eW_of (pe_callBK (ks := [Str.ofString "key"]) (crk_W (f := .builtin "sorted")) hg hm rfl (pa_cons peW pa_nil h0) (pk_cons peW pk_nil) (by decide) (by decide) h1 h2 h3 h4 h5) ?_
  refine he.run L kk fun y h1 ρ1 v H1 _ g1 r1 L1 k1 => ?_
  intro pins s I
  refine lam_make I TB hcode hmT hn hu L1.rh.tb hdef (fun y hy e => absurd (S.free y hy e) (by simp)) fun f c' H2 s' I2 g2 t2 nf hf hco => ⟨.ref f, H2, I2, rfl, ?_⟩
  rw [hcl] at hf
  intro pins s σ' us' ws' I rv1 rv2
  obtain ⟨u, rfl, ru⟩ := vals1 rv1
  obtain ⟨w, rfl, rw'⟩ := vals1 rv2
  cases rw'
  obtain ⟨u', h', e', q⟩ := k1.lft
  have rh2 := L1.rh.g0 g2 t2
  cases e1 : itemsU y h1 with
  | none => rw [e1] at e'; cases e'
  | some xs =>
    rw [e1] at e'
    cases e2 : sortU (lamF cb) h1 xs with
    | none => rw [Option.bind_some, e2] at e'; cases e'
    | some ys =>
      rw [Option.bind_some, e2] at e'
      cases e'
      obtain ⟨ks, hk, hok, hz, rfl⟩ := sortU_ok e2
      obtain ⟨ws, l, rfl, rx, col⟩ := col_items hc I rh2 r1 ru e1
      exact sorted_at (k := k + 1) hr I rx rh2 (fun s' H' x w v d I' g' t' rx' rv' hd => key_call I' (calls_lam (k := k) (g'.fr _ _ hf (by simp) (by intro _ z; cases z)) (g'.fr _ _ hco (by simp) codeO_ne) S (fun pm ctv v => hb _ _ _ _ _) hr I' (fun Ar outer s H hr' => hbody f c' Ar outer s H hr')) rx' rv' rh2 g' t' hd) hk hok hz (col X.xe)
        fun ρ' b H' g r rh => q ρ' b H' ((g2.gw L1.rh).trans g) r rh
end
end Mx
end
section
set_option maxHeartbeats 4000000
/-! ### len(set(texts)) -/
namespace Mx
open PySem PySem.Spec L2
open PyProof.Rows (StrsAre SetOf_congr)
def stepD (d : List Str) (v : Str) : List Str := if d.any (· == v) then d else d ++ [v]
def dedS (xs : List Str) : List Str := xs.foldl stepD []
theorem stepD_any (d : List Str) (v y : Str) : (stepD d v).any (· == y) = (d.any (· == y) || decide (y = v)) := by
  unfold stepD
  by_cases hv : d.any (· == v) = true
  · rw [if_pos hv]
    by_cases e : y = v
    · subst e; rw [hv]; simp
    · simp [e]
  · rw [if_neg hv, List.any_append]
    by_cases e : y = v
    · subst e; simp
    · have hb : (v == y) = false := beq_eq_false_iff_ne.mpr (Ne.symm e)
      simp [hb, e]
theorem stepD_len (d : List Str) (v : Str) : (stepD d v).length = if d.any (· == v) then d.length else d.length + 1 := by
  unfold stepD; split <;> simp
theorem dedS_take {xs : List Str} {i : Nat} {v : Str} (e : xs[i]? = some v) : dedS (xs.take (i + 1)) = stepD (dedS (xs.take i)) v := by
  unfold dedS
  rw [List.take_add_one, e, List.foldl_append]
  rfl
theorem dedS_le (xs : List Str) : (dedS xs).length ≤ xs.length := by
  have h : ∀ (xs d : List Str), (xs.foldl stepD d).length ≤ d.length + xs.length := by
    intro xs
    induction xs with
    | nil => intro d; simp
    | cons x r ih =>
      intro d
      have h1 := ih (stepD d x)
      have h2 := stepD_len d x
      rw [List.foldl_cons, List.length_cons]
      split at h2 <;> omega
  have h1 := h xs []
  rw [List.length_nil, Nat.zero_add] at h1
  exact h1
section
variable {prog : Program} {w : World} {A : Around} {R : Result → Shared → Prop} {J : Addr} {fp wr : List Addr} {G : Array GenState → Array GenState → Prop} {n : Nat} {P : Nat → Value → Prop} {St : Nat → Shared → Prop}
abbrev HasD (prog : Program) (w : World) (h : Heap) (a : Addr) (d : List Str) : Prop := h.SetOf (PySem.strKind prog w) a (fun y => d.any (· == y)) d.length
theorem set_loop (W : WalksS prog w A.in1 J fp wr G n P St) (c : Addr) (cf : c ∉ fp) (xs : List Str) (lx : xs.length = n) (ln : n + 1 < scanBound) (hv : ∀ (i : Nat) (v : Value), P i v → ∃ (t : Tok) (x : Str), xs[i]? = some x ∧ v = Value.str x t) :
    ∀ (m i : Nat) (z : Shared), n - i = m → i ≤ n → St i z → HasD prog w z.heap c (dedS (xs.take i)) → (∀ z', Moved (c :: wr) G z z' → HasD prog w z'.heap c (dedS xs) → R (.ok (.ret .none)) z') →
      codeAny (model prog w) A (.builtin "set.update.loop" ⟨[.ref c, .ref J], []⟩) R z := by
  have cw : c ∉ wr := fun q => cf (W.sub _ q)
  have su : ∀ b ∈ wr, b ∈ c :: wr := fun b q => List.mem_cons_of_mem _ q
  intro m
  induction m with
  | zero =>
    intro i z hm hi st hd hR
    obtain rfl : i = n := by omega
    refine codeAny_builtin PyProof.Rows.F.entry_set_update_loop (by
      rw [Around.under_plainId PyProof.Rows.F.plain_set_update_loop _]
      show wpAny _ A.in1 (pyNext (.ref J) >>= _) _ _ z
      refine wpAny_bind (W.done z _ _ st fun z' mv => ?_)
      show wpAny _ A.in1 (ret Value.none) _ _ z'
      refine wpAny_pure (hR z' (mv.mono su) ?_)
      rw [← lx, List.take_length] at hd
      obtain ⟨o, es, ep, t, ho, more⟩ := hd
      exact ⟨o, es, ep, t, mv.heap c _ cw ho, more⟩)
  | succ m ih =>
    intro i z hm hi st hd hR
    have lt : i < n := by omega
    refine codeAny_builtin PyProof.Rows.F.entry_set_update_loop (by
      rw [Around.under_plainId PyProof.Rows.F.plain_set_update_loop _]
      show wpAny _ A.in1 (pyNext (.ref J) >>= _) _ _ z
      refine wpAny_bind (W.item i z _ _ lt st fun v z' hP st' mv => ?_)
      obtain ⟨t, x, ex, rfl⟩ := hv i v hP
      have hd' : HasD prog w z'.heap c (dedS (xs.take i)) := by
        obtain ⟨o, es, ep, tb, ho, more⟩ := hd
        exact ⟨o, es, ep, tb, mv.heap c _ cw ho, more⟩
      show wpAny _ A.in1 (holding [Value.str x t] (setAdd c (.str x t)) >>= _) _ _ z'
      refine wpAny_bind (wpAny_holding ?_)
      unfold setAdd
      refine wpAny_holding (wpAny_bind ((PySem.strKind prog w).pyHash (k := x) (strKind_is _ _ _ _) ?_))
      have rm : (dedS (xs.take i)).length + 1 < scanBound := by
        have l1 := dedS_le (xs.take i)
        rw [List.length_take] at l1
        omega
      refine wpAny_setAddHashed_of (knd := PySem.strKind prog w) (s := { z' with toks := z'.toks + 1 }) (strKind_is _ _ _ _) rfl hd' rm fun h' sb hd2 => ?_
      have hd3 : HasD prog w h' c (dedS (xs.take (i + 1))) := SetOf_congr hd2 (fun y => by rw [dedS_take ex, stepD_any]) (by rw [dedS_take ex, stepD_len])
      have nc : ∀ b, b ∈ fp → b ≠ c := fun b hb q => cf (by rw [← q]; exact hb)
      refine wpAny_pure ⟨plainId_quiet PyProof.Rows.F.plain_set_update_loop _, ih (i + 1) _ (by omega) lt (W.frame _ z' _ _ st' (Nat.le_succ _) fun b hb o e => by rw [sb.2 b (nc b hb)]; exact e) hd3 fun z'' mv' hd4 => hR z'' (Moved.trans W.gtrans ((mv.mono su).then_heap (Nat.le_succ _) fun b o hb e => ?_) mv') hd4⟩
      rw [sb.2 b (fun q : b = c => hb (by rw [q]; exact List.mem_cons_self))]; exact e)
end
section
variable {prog : Program} {w : World} {A : Around} {E : Value → Shared → Prop} {z : Shared}
abbrev set0 (ld : Bool) : Obj := { cls := .type "set", dict := none, data := .set #[] 0 (.fresh 0 0 ld) }
theorem call_setS {l : Addr} {its : Array Value} {xs : List Str} {Q : Value → Shared → Prop} (hh : A.handled = none) (hl : z.heap.IsList l its) (hx : ∀ (i : Nat) (v : Value), its[i]? = some v → ∃ (t : Tok) (x : Str), xs[i]? = some x ∧ v = Value.str x t) (lx : xs.length = its.size) (ln : xs.length + 1 < scanBound)
    (q : ∀ (h' : Heap) (tk : Nat), HasD prog w h' z.heap.objs.size (dedS xs) → (∀ b o, b < z.heap.objs.size → z.heap.get? b = some o → h'.get? b = some o) → Q (.ref z.heap.objs.size) { z with heap := h', toks := tk }) : wpAny (model prog w) A (call (.type "set") [.ref l]) Q E z := by
  obtain ⟨c, tl, hmro⟩ := PySem.F.called_set.mro
  have hmade := PySem.F.called_set.made
  have hsub := PySem.F.called_set.sub
  refine wpAny_call (codeAny_of_tree (by
    show wpAny _ _ (callAny (.type "set") _) _ _ _
    refine wpAny_pure ⟨Code.quiet_builtin _ (by decide +kernel), codeAny_builtin PySem.F.entry_type_call (by
      rw [Around.under_plain (weight_type_call_type "set" [.ref l] []) rfl]
      have n1 := PySem.F.called_set.notType
      have n2 := PySem.F.called_set.canCreate
      have n3 := PySem.F.typeCall_set_1 (.ref l)
      repeat (any_goals (first | assumption | wp_step))
      refine codeAny_mono (code_set_new_1 (.ref l) (E := E) (Q₁ := fun ob z1 => ∃ ld : Bool, ob = .ref z.heap.objs.size ∧ z1 = { z with heap := z.heap.push (set0 ld) }) fun ld => ⟨ld, rfl, rfl⟩) fun r z1 hr => ?_
      cases r with
      | error e => exact hr
      | ok fl =>
        cases fl with
        | ret ob =>
          obtain ⟨ld, rfl, rfl⟩ := hr
          have at0 : (z.heap.push (set0 ld)).get? z.heap.objs.size = some (set0 ld) := Heap.get?_push_size _ rfl
          have ty0 : Shared.TypeIs { z with heap := z.heap.push (set0 ld) } (.ref z.heap.objs.size) "set" := ⟨_, at0, rfl⟩
          have n4 := PySem.F.called_set.init.lookup
          have n5 := PySem.F.called_set.init.bind (.ref z.heap.objs.size)
          repeat (any_goals (first | assumption | wp_step))
          refine codeAny_mono (codeAny_call_builtin (R := wants (fun r z2 => r = .none ∧ ∃ h' tk, z2 = { z with heap := h', toks := tk } ∧ HasD prog w h' z.heap.objs.size (dedS xs) ∧ (∀ b o, b < z.heap.objs.size → z.heap.get? b = some o → h'.get? b = some o)) E) PySem.F.called_set.init.plain PySem.F.entry_set_init (check_set_init_1 ty0 ?_)) fun r2 z2 hr2 => ?_
          · obtain ⟨ol, hol, hcl, nl, hdl⟩ := hl
            obtain ⟨oc, od, oda, osl⟩ := ol
            simp only at hcl hdl
            subst hcl; subst hdl
            have hol2 : (z.heap.push (set0 ld)).get? l = some { cls := .type "list", dict := od, data := .seq its nl, slots := osl } := Heap.get?_push_of_some _ hol
            have n6 := PySem.F.sub_list_set
            have n7 := PySem.F.sub_list_frozenset
            have n8 : (Value.type "list" == Value.type "dict") = false := by decide
            have hl1 : (z.heap.push (set0 ld)).IsList l its := ⟨_, hol2, rfl, nl, rfl⟩
            unfold Builtin.«set.__init__» noKeywords Builtin.Frozenset.updateFrom
            generalize hPI : pyIter = PI
            wp_walk
            subst hPI
            refine wpAny_pyIter_list hl1 (wpAny_bind (wpAny_runValue ?_))
            have hlS : l < z.heap.objs.size := Heap.lt_size hol
            have h3 : A.in1.in1.in1.handled = none := by simp [hh]
            have nI : l ≠ (z.heap.push (set0 ld)).objs.size := by rw [Heap.size_push]; exact Nat.ne_of_lt (Nat.lt_succ_of_lt hlS)
            have cf : z.heap.objs.size ∉ [(z.heap.push (set0 ld)).objs.size, l] := by
              rw [Heap.size_push]
              simp only [List.mem_cons, List.mem_singleton, List.not_mem_nil, or_false, not_or]
              exact ⟨Nat.ne_of_lt (Nat.lt_succ_self _), Nat.ne_of_gt hlS⟩
            refine set_loop ((Walks.list h3 _ l nI its).toS) z.heap.objs.size cf xs lx (by rw [← lx]; exact ln) (fun i v hv => hx i v hv) (its.size - 0) 0 _ (by omega) (Nat.zero_le _) ⟨⟨_, Heap.get?_push_size _ rfl, rfl, rfl⟩, (hl1.push _)⟩ ?start ?stop
            case start =>
              have hg : ((z.heap.push (set0 ld)).push { cls := .type "list_iterator", data := .fields #[.ref l, .int 0 0] }).get? z.heap.objs.size = some (set0 ld) := Heap.get?_push_of_some _ at0
              exact SetOf_congr ((PyProof.Rows.setObjOf_fresh (knd := PySem.strKind prog w) ld).setOf hg (by unfold scanBound; omega)) (fun _ => rfl) rfl
            case stop =>
              intro z' mv hd'
              obtain ⟨h', g', d', tk', os'⟩ := z'
              have eg : g' = z.gens := mv.gens
              have ed : d' = z.drawn := mv.drawn
              have eo : os' = z.os := mv.os
              subst eg; subst ed; subst eo
              show wpAny _ _ _ _ _ _
              refine wpAny_pure (by
                show wpAny _ _ (ret Value.none) _ _ _
                refine wpAny_pure ⟨rfl, h', tk', rfl, hd', fun b o hb e => ?_⟩
                have b1 : b ≠ z.heap.objs.size := Nat.ne_of_lt hb
                have b2 : b ≠ (z.heap.push (set0 ld)).objs.size := by rw [Heap.size_push]; exact Nat.ne_of_lt (Nat.lt_succ_of_lt hb)
                exact mv.heap b o (by simp only [List.mem_cons, List.mem_singleton, List.not_mem_nil, or_false, not_or]; exact ⟨b1, b2⟩) (Heap.get?_push_of_some _ (Heap.get?_push_of_some _ e)))
          · cases r2 with
            | error e => exact hr2
            | ok fl2 =>
              cases fl2 with
              | ret r =>
                obtain ⟨rfl, h', tk, rfl, hd', kp⟩ := hr2
                repeat (any_goals (first | assumption | wp_step))
                exact q _ _ hd' kp
              | _ => exact hr2.elim
        | _ => exact hr.elim)⟩))
end

open NdefX (NTab TabsN TabN)
def mLenSet : O1 := fun x h => match x with | .loc p => (match h.get p with | some (.lst us) => (allS us).bind fun xs => if xs.length < 4000 then some (.int ((dedS xs).length : Nat), h) else none | _ => none) | _ => none
def e1 (m : O1) (c : EM) : EM := fun us h => (c us h).bind fun x h1 => lft (m x h1)
theorem vals_str : ∀ {xs : List Str} {us : List Value}, Vals (xs.map V.str) us → ∀ (i : Nat) (v : Value), us[i]? = some v → ∃ (t : Tok) (x : Str), xs[i]? = some x ∧ v = Value.str x t
  | [], _, .nil, i, v, e => by simp at e
  | x :: xs, _, .cons ⟨t, r⟩ rs, 0, v, e => by
    simp at e
    exact ⟨t, x, rfl, by rw [← e, r]⟩
  | x :: xs, _, .cons r rs, i + 1, v, e => by
    rw [List.getElem?_cons_succ] at e ⊢
    exact vals_str rs i v e
section
variable {X : Cx} {W : Wp}
theorem x_lenset {a : Expr} {ca : EM} {p p2 q pos : Pos} (hm : X.mg "len" = none) (hm2 : X.mg "set" = none) (ha : Ex X W a ca) (hc : X.calm = true := by rfl) (hg : Gl X "len" := by rfl) (hg2 : Gl X "set" := by rfl) (na : starEach [a] X.env = (false, eval a X.env) :: starEach [] X.env := by rfl) :
    Ex X W (.Call (.Name "len" p) [.Call (.Name "set" p2) [a] [] q] [] pos) (e1 mLenSet ca) := .mk fun ρ us h σ H Q L k => by
  have jj : ∀ Q', eW X a σ H Q' → (∀ v H1, Q' v H1 → ∃ (l : Addr) (xs : List Str), v = .ref l ∧ SqL X.K H1 l (xs.map V.str) ∧ xs.length < 4000 ∧ Q (.int ((dedS xs).length : Nat)) H1) → eW X (.Call (.Name "len" p) [.Call (.Name "set" p2) [a] [] q] [] pos) σ H Q := by
    intro Q' hQ hk pins s I
    refine PyProof.Rows.Call_ (ld_blt I hg hm PySem.boot_len (PyProof.Rows.callWith_builtin1 (PyProof.Rows.args_cons ?_ rfl) rfl rfl))
    refine PyProof.Rows.Call_ (ld_blt I hg2 hm2 PyProof.Rows.boot_set (PyProof.Rows.callWith_type1 (PyProof.Rows.args_cons (thn (hQ pins s I) fun v s1 ⟨x, H1, I1, r1, q1⟩ => PyProof.Rows.args_nil ?_) na) na rfl))
    obtain ⟨l, xs, rfl, hs, hl, q2⟩ := hk _ _ q1
    cases r1
    obtain ⟨its, r, pl, hz⟩ := I1.list hs
    have lx : its.length = xs.length := by rw [← r.length, List.length_map]
    refine call_setS (I1.ok.hd hc) pl.isList (fun i v e => vals_str r i v (by simpa using e)) (by rw [List.size_toArray]; exact lx.symm) (by unfold scanBound; omega) fun h' tk hS hk => ?_
    refine PyProof.Rows.args_nil ?_
    obtain ⟨o, es, ep, t, ho, hex, hd, _, _, _, hf, hn⟩ := hS
    have I2 : Inv X pins σ H1 { s1 with heap := h', toks := tk } := I1.kept fun b o e => hk b o (Heap.lt_size e) e
    have dl := dedS_le xs
    exact call_len_set ho hex hd hf (by rw [hn] <;> omega) ⟨.int ((dedS xs).length : Nat), H1, I2.tok _, ⟨_, by rw [hn]⟩, q2⟩
  refine jj _ (ha.run L k fun x h1 ρ1 v H1 _ g1 r1 L1 k1 => ?_) fun v H1 q => q
  obtain ⟨u, h', e, nq⟩ := k1.lft
  unfold mLenSet at e
  split at e
  · split at e
    · rename_i e1
      obtain ⟨b, vs, rfl, _, hb, rb⟩ := L1.rh.lst r1 e1
      cases e2 : allS _ with
      | none => rw [e2] at e; cases e
      | some xs =>
        rw [e2, Option.bind_some] at e
        split at e
        · rename_i hl
          cases e
          cases allS_rv rb e2
          exact ⟨b, xs, rfl, SqL.of hb, hl, NQ.flat nq L1.rh rfl⟩
        · cases e
    · cases e
  · cases e
end
end Mx
end
section
set_option maxHeartbeats 4000000
/-! ### dicts walked while locked -/
namespace Mx
open PySem L2
open NdefX (NTab TabsN TabN)
section
variable {T : List NTab} {X : Cx} {ρ ρ' : List Addr} {H H' : Hp}
theorem Gw.unlock {d : Addr} {u : HO} {od : Obj} {v : HO} (ha : d ∈ ρ) (hd : H d = some u) (nf : ∀ o x, u ≠ .frz o x) (nt : ∀ ps, u ≠ .tbl ps) (g : Gw ρ (upd H d (.frz od u)) ρ' H') : Gw ρ H ρ' (upd H' d v) := by
  have n1 : ∀ a, a ∉ ρ → a ≠ d := fun a h z => h (by rw [z]; exact ha)
  have n2 : ∀ a o x, H a = some (.frz o x) → a ≠ d := fun a o x e z => by
    rw [z, hd] at e
    exact nf o x (Option.some.inj e)
  have n3 : ∀ a ps, H a = some (.tbl ps) → a ≠ d := fun a ps e z => by
    rw [z, hd] at e
    exact nt ps (Option.some.inj e)
  refine ⟨g.pre, fun a O e k nt' => ?_, fun a h k => ?_, fun a o x e => ?_, fun a ps e => ?_⟩
  · rw [upd_ne (n1 a k)]
    exact g.fr a O (by rw [upd_ne (n1 a k)]; exact e) k nt'
  · have := g.nw a h k
    rw [upd_ne (n1 a k)] at this
    exact this
  · rw [upd_ne (n2 a o x e)]
    exact g.fz a o x (by rw [upd_ne (n2 a o x e)]; exact e)
  · obtain ⟨m, q⟩ := g.tg a ps (by rw [upd_ne (n3 a ps e)]; exact e)
    exact ⟨m, by rw [upd_ne (n3 a ps e)]; exact q⟩
end
abbrev Pth := Sl → Hh → Option U
def pSlot (i : Nat) : Pth := fun us _ => match us[i]? with | some (some u) => some u | _ => none
def pFld (f : Str) (p : Pth) : Pth := fun us h => match p us h with | some (.loc n) => (match h.get n with | some (.ins _ fs) => fs.lookup f | _ => none) | _ => none
/-- the dict at the path locked -/
def lockAt (p : Pth) (us : Sl) (h : Hh) : Option (Nat × List (Key × U)) := match p us h with | some (.loc n) => (match h.get n with | some (.dic false kvs) => some (n, kvs) | _ => none) | _ => none
def unlk (n : Nat) (h : Hh) : Option Hh := match h.get n with | some (.dic true kvs) => some (h.set n (.dic false kvs)) | _ => none
def eLock (p : Pth) (c : EM) : EM := fun us h => match lockAt p us h with
  | some (n, kvs) => (match c us (h.set n (.dic true kvs)) with | .ok u h' => (match unlk n h' with | some h2 => .ok u h2 | none => .bad) | _ => .bad)
  | none => .bad
def sLock (p : Pth) (c : SM) : SM := fun us h => match lockAt p us h with
  | some (n, kvs) => (match c us (h.set n (.dic true kvs)) with
    | .nx us' h' => (match unlk n h' with | some h2 => .nx us' h2 | none => .bad)
    | .rt u h' => (match unlk n h' with | some h2 => .rt u h2 | none => .bad)
    | .bk us' h' => (match unlk n h' with | some h2 => .bk us' h2 | none => .bad)
    | .ct us' h' => (match unlk n h' with | some h2 => .ct us' h2 | none => .bad)
    | _ => .bad)
  | none => .bad
theorem lockAt_some {p : Pth} {us : Sl} {h : Hh} {n : Nat} {kvs : List (Key × U)} (e : lockAt p us h = some (n, kvs)) : h.get n = some (.dic false kvs) := by
  unfold lockAt at e
  split at e
  · split at e
    · rename_i e1
      cases e
      exact e1
    · cases e
  · cases e
theorem unlk_some {n : Nat} {h h2 : Hh} (e : unlk n h = some h2) : ∃ kvs, h.get n = some (.dic true kvs) ∧ h2 = h.set n (.dic false kvs) := by
  unfold unlk at e
  split at e
  · rename_i kvs e1
    cases e
    exact ⟨kvs, e1, rfl⟩
  · cases e
section
variable {T : List NTab} {X : Cx} {W : Wp} {ρ ρ' : List Addr} {H H' : Hp} {h h' h2 : Hh} {n : Nat} {kvs : List (Key × U)}
/-- into the lock -/
theorem lock_in (rh : RH T X.mg ρ h H) (e : h.get n = some (.dic false kvs)) : ∃ d ws, ρ[n]? = some d ∧ H d = some (.dK ws) ∧ ∀ od, RH T X.mg ρ (h.set n (.dic true kvs)) (upd H d (.frz od (.dK ws))) := by
  obtain ⟨d, O, ed, hd, ws, rfl, rk⟩ := rh.addr e
  exact ⟨d, ws, ed, hd, fun od => rh.mut (Hh.get_lt e) ed ⟨od, ws, rfl, rk⟩⟩
/-- and out of it -/
theorem lock_out {d : Addr} {ws : List (Key × V)} {od : Obj} (ed : ρ[n]? = some d) (hd : H d = some (.dK ws)) (g : Gw ρ (upd H d (.frz od (.dK ws))) ρ' H') (rh : RH T X.mg ρ' h' H') (e : unlk n h' = some h2) :
    H' d = some (.frz od (.dK ws)) ∧ Gw ρ H ρ' (upd H' d (.dK ws)) ∧ RH T X.mg ρ' h2 (upd H' d (.dK ws)) := by
  obtain ⟨kvs', e1, rfl⟩ := unlk_some e
  have h1 : H' d = some (.frz od (.dK ws)) := g.fz d _ _ upd_same
  obtain ⟨O, h2, o', ws', rfl, rk⟩ := rh.at' e1 (g.get ed)
  rw [h1] at h2
  cases h2
  exact ⟨h1, Gw.unlock (mem_of_ix ed) hd (by intro _ _ z; cases z) (by intro _ z; cases z) g, rh.mut (Hh.get_lt e1) (g.get ed) ⟨ws, rfl, rk⟩⟩
theorem x_lock {e : Expr} {c : EM} (p : Pth) (he : Ex X W e c) : Ex X W e (eLock p c) := .mk fun ρ us h σ H Q L k => by
  unfold eLock at k
  split at k
  · rename_i n kvs e1
    obtain ⟨d, ws, ed, hd, rl⟩ := lock_in L.rh (lockAt_some e1)
    refine eW_of (pe_lock peW) ⟨d, .dK ws, hd, trivial, fun od => he ρ us _ σ _ _ ⟨L.sl, rl od⟩ ?_⟩
    split at k
    · rename_i u h' e2
      rw [e2]
      split at k
      · rename_i h2 e3
        intro ρ' b H' g r rh
        obtain ⟨q1, q2, q3⟩ := lock_out ed hd g rh e3
        exact ⟨q1, k ρ' b _ q2 r q3⟩
      · exact absurd k id
    · exact absurd k id
  · exact absurd k id
theorem s_lock {st : Stmt} {c : SM} (p : Pth) (hs : St1 X W st c) : St1 X W st (sLock p c) := .mk fun ρ us h σ H D L k => by
  unfold sLock at k
  split at k
  · rename_i n kvs e1
    obtain ⟨d, ws, ed, hd, rl⟩ := lock_in L.rh (lockAt_some e1)
    refine stW_of (ps_lock stWp) ⟨d, .dK ws, hd, trivial, fun od => hs ρ us _ σ _ _ ⟨L.sl, rl od⟩ ?_⟩
    split at k
    · rename_i us' h' e2
      rw [e2]
      split at k
      · rename_i h2 e3
        intro ρ' σ' H' g L'
        obtain ⟨q1, q2, q3⟩ := lock_out ed hd g L'.rh e3
        exact ⟨q1, k ρ' σ' _ q2 ⟨L'.sl, q3⟩⟩
      · exact absurd k id
    · rename_i u h' e2
      rw [e2]
      split at k
      · rename_i h2 e3
        intro ρ' b H' g r rh
        obtain ⟨q1, q2, q3⟩ := lock_out ed hd g rh e3
        exact ⟨q1, k ρ' b _ q2 r q3⟩
      · exact absurd k id
    · rename_i us' h' e2
      rw [e2]
      split at k
      · rename_i h2 e3
        intro ρ' σ' H' g L'
        obtain ⟨q1, q2, q3⟩ := lock_out ed hd g L'.rh e3
        exact ⟨q1, k ρ' σ' _ q2 ⟨L'.sl, q3⟩⟩
      · exact absurd k id
    · rename_i us' h' e2
      rw [e2]
      split at k
      · rename_i h2 e3
        intro ρ' σ' H' g L'
        obtain ⟨q1, q2, q3⟩ := lock_out ed hd g L'.rh e3
        exact ⟨q1, k ρ' σ' _ q2 ⟨L'.sl, q3⟩⟩
      · exact absurd k id
    · exact absurd k id
  · exact absurd k id

/-! ### the views -/
theorem ir_view {p : Nat} {d : Addr} {o : Obj} {ws : List (Key × V)} {m : ItM} {J : It} (hd : H d = some (.frz o (.dK ws))) (r : RKV X.mg ρ kvs ws)
    (hgo : ∀ i H, H d = some (.frz o (.dK ws)) → i < ws.length → J.go i H) (hst : ∀ i H, H d = some (.frz o (.dK ws)) → ws.length ≤ i → J.stop i H)
    (g1 : Key × U → Hh → U × Hh) (hn : ∀ i h, nxt m i h = match h.get p with | some (.dic true _) => some ((kvs[i]?).map fun kv => g1 kv h) | _ => none)
    (hy : ∀ T ρ' i h H k v u x H', RH T X.mg ρ' h H → ws[i]? = some (k, v) → RV X.mg ρ' u v → J.yld i H x H' → ∃ ρ'', Gw ρ' H ρ'' H' ∧ RV X.mg ρ'' (g1 (k, u) h).1 x ∧ RH T X.mg ρ'' (g1 (k, u) h).2 H') : IR X ρ m J H := fun T ρ' i h H g rh => by
  have hd' := g.fz _ _ _ hd
  refine ⟨fun e => ?_, fun u h' e => ?_⟩
  · rw [hn] at e
    split at e
    · refine hst i H hd' ?_
      cases q : kvs[i]? with
      | none => rw [← Paired.length r]; exact List.getElem?_eq_none_iff.mp q
      | some w => rw [q] at e; cases e
    · cases e
  · rw [hn] at e
    split at e
    · obtain ⟨kv, q, e⟩ := map_some' (Option.some.inj e)
      obtain ⟨⟨k, v⟩, hv, ek, rv⟩ := Pget r q
      refine ⟨hgo i H hd' (List.getElem?_eq_some_iff.mp hv).1, fun x H' y => ?_⟩
      have := hy T ρ' i h H k v kv.2 x H' rh hv (rv.gw g) y
      dsimp only at ek
      rw [ek, show ((kv.1, kv.2) : Key × U) = kv from rfl, e] at this
      exact this
    · cases e
def mkV (f : Nat → List (Key × U) → ItM) (x : U) (h : Hh) : Res ItM := match x with | .loc p => (match h.get p with | some (.dic true kvs) => .ok (f p kvs) h | _ => .bad) | _ => .bad
def iView (f : Nat → List (Key × U) → ItM) (c : EM) : Sl → Hh → Res ItM := fun us h => (c us h).bind (mkV f)
theorem keyV_rv {mg : Str → Option Value} : ∀ k : Key, RV mg ρ (keyV k) (L2.kV k)
  | .inl _ => rfl
  | .inr _ => rfl
theorem ir_keys {p : Nat} {d : Addr} {o : Obj} {ws : List (Key × V)} (hd : H d = some (.frz o (.dK ws))) (r : RKV X.mg ρ kvs ws) : IR X ρ (.keys p kvs) (Itk d o ws) H :=
  ir_view (p := p) hd r (fun i H h1 h2 => ⟨h1, h2⟩) (fun i H h1 h2 => ⟨h1, h2⟩) (fun kv h => (keyV kv.1, h)) (fun i h => rfl) fun T ρ' i h H k v u x H' rh hv rv y => by
    obtain ⟨rfl, k', v', e, rfl⟩ := y
    rw [hv] at e
    cases e
    exact ⟨ρ', Gw.refl, keyV_rv _, rh⟩
theorem ir_vals {p : Nat} {d : Addr} {o : Obj} {ws : List (Key × V)} (hd : H d = some (.frz o (.dK ws))) (r : RKV X.mg ρ kvs ws) : IR X ρ (.vals p kvs) (Itd d o ws) H :=
  ir_view (p := p) hd r (fun i H h1 h2 => ⟨h1, h2⟩) (fun i H h1 h2 => ⟨h1, h2⟩) (fun kv h => (kv.2, h)) (fun i h => rfl) fun T ρ' i h H k v u x H' rh hv rv y => by
    obtain ⟨rfl, k', e⟩ := y
    rw [hv] at e
    cases e
    exact ⟨ρ', Gw.refl, rv, rh⟩
theorem ir_items {p : Nat} {d : Addr} {o : Obj} {ws : List (Key × V)} (hd : H d = some (.frz o (.dK ws))) (r : RKV X.mg ρ kvs ws) : IR X ρ (.items p kvs) (Iti d o ws) H :=
  ir_view (p := p) hd r (fun i H h1 h2 => ⟨h1, h2⟩) (fun i H h1 h2 => ⟨h1, h2⟩) (fun kv h => (.loc h.size, h.push (.tup [keyV kv.1, kv.2]))) (fun i h => rfl) fun T ρ' i h H k v u x H' rh hv rv y => by
    obtain ⟨t, k', v', e, rfl, ht, rfl⟩ := y
    rw [hv] at e
    cases e
    have g : Gw ρ' H (ρ' ++ [t]) (upd H t (.tup [L2.kV k, v])) := Gw.new ht (rh.free ht)
    exact ⟨ρ' ++ [t], g, ⟨t, by rw [← rh.len]; simp, rfl⟩, rh.new ht ⟨_, rfl, .cons (keyV_rv _) (.cons (rv.gw g) .nil)⟩⟩
theorem i_view {tg e it : Expr} {ce : EM} {f : Nat → List (Key × U) → ItM} {F : Addr → Obj → List (Key × V) → It} {t : TI} (ht : PI X tg it t) (he : Ex X W e ce)
    (hr : ∀ σ H R, eW X e σ H (fun x H1 => ∃ d o kvs, x = .ref d ∧ H1 d = some (.frz o (.dK kvs)) ∧ R (F d o kvs) H1) → t σ H R) (hir : ∀ ρ p d o kvs ws H, H d = some (.frz o (.dK ws)) → RKV X.mg ρ kvs ws → IR X ρ (f p kvs) (F d o ws) H) : Ix X W tg it (iView f ce) := .mk fun ρ us h σ H Q L k => by
  refine iW_of ht (hr σ H Q ?_)
  unfold iView at k
  cases e1 : ce us h with
  | bad => rw [e1] at k; exact absurd k id
  | exc x h1 => rw [e1] at k; exact he ρ us h σ H _ L (by rw [e1]; exact k)
  | ok x h1 =>
    rw [e1] at k
    dsimp only [Res.bind] at k
    refine he ρ us h σ H _ L ?_
    rw [e1]
    intro ρ' b H' g r rh
    unfold mkV at k
    split at k
    · rename_i m h2 e2
      split at e2
      · rename_i p
        split at e2
        · rename_i kvs e3
          cases e2
          obtain ⟨d, O, rfl, ed, hd, o, ws, rfl, rk⟩ := rh.ref r e3
          exact ⟨d, o, ws, rfl, hd, k ρ' _ H' g (hir ρ' p d o kvs ws H' hd rk) rh⟩
        · cases e2
      · cases e2
    · rename_i e2
      split at e2
      · split at e2 <;> cases e2
      · cases e2
    · exact absurd k id
theorem i_keys {tg e : Expr} {ce : EM} (he : Ex X W e ce) : Ix X W tg e (iView .keys ce) := i_view (F := Itk) (pi_keys peW) he (fun σ H R h => eW_mono h fun v H1 q => by
  obtain ⟨d, o, kvs, e, h1, h2⟩ := q
  exact ⟨d, o, e, .inl ⟨kvs, h1, h2⟩⟩) fun ρ p d o kvs ws H hd r => ir_keys hd r
theorem i_vals {tg e : Expr} {ce : EM} {apos cpos : Pos} (he : Ex X W e ce) (hbase : attributeBase e "values" X.env (eval e X.env) = eval e X.env := by rfl) (hline : (apos.endLine == cpos.line) = true := by rfl) : Ix X W tg (.Call (.Attribute e "values" apos) [] [] cpos) (iView .vals ce) := i_view (F := Itd) (pi_values peW hbase hline) he (fun σ H R h => h) fun ρ p d o kvs ws H hd r => ir_vals hd r
theorem i_items {e : Expr} {ce : EM} {elts : List Expr} {kk : Nat} {tpos apos cpos : Pos} (he : Ex X W e ce) (hbase : attributeBase e "items" X.env (eval e X.env) = eval e X.env := by rfl) (hline : (apos.endLine == cpos.line) = true := by rfl) : Ix X W (.Tuple elts kk tpos) (.Call (.Attribute e "items" apos) [] [] cpos) (iView .items ce) := i_view (F := Iti) (pi_items peW hbase hline) he (fun σ H R h => h) fun ρ p d o kvs ws H hd r => ir_items hd r
end
end Mx
end
section
set_option maxHeartbeats 4000000
namespace Mx
open PySem L2
open NdefX (NTab TabsN TabN)
/-! ### {k: v, ..} -/
abbrev PM := Sl → Hh → Res (List (U × U))
def pNil : PM := fun _ h => .ok [] h
def pCons (k v : EM) (r : PM) : PM := fun us h => (k us h).bind fun x h1 => (v us h1).bind fun y h2 => (r us h2).bind fun ps h3 => .ok ((x, y) :: ps) h3
def keyP (kv : U × U) : Option (Key × U) := (keyU kv.1).map fun k => (k, kv.2)
def mDisp (p : Nat) (kvs : List (U × U)) (h : Hh) : Option (U × Hh) := match h.get p, kvs.mapM keyP with | some (.dic false []), some ks => if ks.length ≤ 15 then some (.loc p, h.set p (.dic false (mergeU [] ks))) else none | _, _ => none
def eDisp (ps : PM) : EM := fun us h => (ps us (h.push (.dic false []))).bind fun kvs h2 => lft (mDisp h.size kvs h2)
abbrev RPs (mg : Str → Option Value) (ρ : List Addr) : List (U × U) → List (V × V) → Prop := Paired fun x y => RV mg ρ x.1 y.1 ∧ RV mg ρ x.2 y.2
def Dx (X : Cx) (W : Wp) (pos : Pos) (keys : List (Option Expr)) (values : List Expr) (c : PM) : Prop := ∃ trs, PPs X pos keys values trs ∧ Jd X W (RPs X.mg) (fun σ H Q => tPairs trs σ H Q) c
section
variable {X : Cx} {W : Wp} {k v : Expr} {keys : List (Option Expr)} {values : List Expr} {ck cv : EM} {cp : PM} {pos : Pos}
theorem d_nil : Dx X W pos [] [] pNil := ⟨[], pps_nil, .mk fun ρ us h σ H Q L k => k.here .nil L.rh⟩
theorem d_cons (hk : Ex X W k ck) (hv : Ex X W v cv) (hr : Dx X W pos keys values cp) : Dx X W pos (some k :: keys) (v :: values) (pCons ck cv cp) := by
  obtain ⟨trs, h1, h2⟩ := hr
  refine ⟨_, pps_cons (peW (e := k)) (peW (e := v)) h1, .mk fun ρ us h σ H Q L kk => ?_⟩
  refine hk.run L kk fun x h1 ρ1 a H1 _ g1 r1 L1 k1 => hv.run L1 k1 fun y h3 ρ2 b H2 _ g2 r2 L2 k2 => h2.run L2 k2 fun ps h4 ρ3 qs H3 _ g3 r3 L3 k3 => k3.here (.cons ⟨(r1.gw g2).gw g3, r2.gw g3⟩ r3) L3.rh
theorem keyP_rv {mg : Str → Option Value} {ρ : List Addr} : ∀ {ps : List (U × U)} {qs : List (V × V)} {ks : List (Key × U)}, RPs mg ρ ps qs → Paired (fun x y => keyP x = some y) ps ks → ∃ kvs : List (Key × V), qs = kvs.map (fun kv => (L2.kV kv.1, kv.2)) ∧ RKV mg ρ ks kvs
  | _, _, _, .nil, .nil => ⟨[], rfl, .nil⟩
  | _, _, _, .cons (a := x) (b := y) r t, .cons e t' => by
    obtain ⟨kvs, e1, e2⟩ := keyP_rv t t'
    obtain ⟨kk, ek, e⟩ := map_some' e
    cases e
    have := key_rv r.1 ek
    exact ⟨(kk, y.2) :: kvs, by rw [List.map_cons, ← e1, ← this], .cons ⟨rfl, r.2⟩ e2⟩
theorem x_disp (h : Dx X W pos keys values cp) (hall : keys.all (·.isSome) = true := by rfl) (hl : keys.length = values.length := by rfl) (h0 : keys ≠ [] := by exact nofun) (h15 : keys.length ≤ 15 := by decide) : Ex X W (.Dict keys values pos) (eDisp cp) := .mk fun ρ us hh σ H Q L kk => by
  obtain ⟨trs, h1, h2⟩ := h
  refine eW_of (pe_disp h1 hall hl h0 h15) fun p hp => ?_
  have g0 : Gw ρ H (ρ ++ [p]) (upd H p (.dK [])) := Gw.new hp (L.rh.free hp)
  have rh0 : RH W.T X.mg (ρ ++ [p]) (hh.push (.dic false [])) (upd H p (.dK [])) := L.rh.new hp ⟨[], rfl, .nil⟩
  have ep : (ρ ++ [p])[hh.size]? = some p := by rw [← L.rh.len]; simp
  have kk2 : Af X W (RV X.mg) (ρ ++ [p]) (upd H p (.dK [])) σ ((cp us (hh.push (.dic false []))).bind fun kvs h2 => lft (mDisp hh.size kvs h2)) Q := Af.gw g0 kk
  refine h2.run (L.gw g0 rh0) kk2 fun ps h3 ρ1 qs H1 _ g1 r1 L1 k1 => ?_
  obtain ⟨u, h4, e, q⟩ := k1.lft
  unfold mDisp at e
  split at e
  · rename_i ks e1 e2
    split at e
    · rename_i hz
      cases e
      obtain ⟨O, hO, ws, rfl, rw'⟩ := L1.rh.at' e1 (g1.get ep)
      cases rw'
      obtain ⟨kvs, rfl, rk⟩ := keyP_rv r1 (mapM_some e2)
      refine ⟨hO, kvs, rfl, by rw [← Paired.length rk]; exact hz, ?_⟩
      exact NQ.mut q L1.rh e1 (g1.get ep) hO ⟨_, rfl, merge_rv rk .nil⟩ ⟨p, g1.get ep, rfl⟩
    · cases e
  · cases e
end

/-! ### defs by name -/
theorem _root_.L2.Room.u1 {k : Nat} {A : Around} (r : Room k A) : A.units + 1 < cLine := by have := r.un; omega
theorem _root_.L2.Room.u64 {k : Nat} {A : Around} (r : Room k A) : A.units + 64 < cLine := by have := r.un; omega
/-- a def of the top -/
def At (Z : Wd) (x : Str) (st : Stmt) (ps : List Str) : Prop := ∃ f fd, Z.mg x = some (.ref f) ∧ Df Z x x st ps f fd
/-- .. and what it does -/
def Cal (T : List NTab) (Z : Wd) (k : Nat) (x : Str) (n : Nat) (F : FM) : Prop := ∃ f fd ps, Z.mg x = some (.ref f) ∧ ps.length = n ∧ Does T Z k f fd ps F
/-- a class, a method -/
structure ClsAt (Z : Wd) (c : Str) (C : Addr) : Prop where
  mg : Z.mg c = some (.ref C)
  cls : Cls Z.K C
def AtM (Z : Wd) (c m q : Str) (st : Stmt) (ps : List Str) : Prop := ∃ C f fd, ClsAt Z c C ∧ Meth Z.K C m f ∧ Df Z m q st ps f fd
def AtI (Z : Wd) (c q : Str) (st : Stmt) (ps : List Str) : Prop := ∃ C f fd, ClsAt Z c C ∧ Mk Z.K C f ∧ Df Z "__init__" q st ps f fd
def CalM (T : List NTab) (Z : Wd) (k : Nat) (c m : Str) (n : Nat) (F : FM) : Prop := ∃ C f fd ps, ClsAt Z c C ∧ Meth Z.K C m f ∧ ps.length = n ∧ Does T Z k f fd ps F
def CalI (T : List NTab) (Z : Wd) (k : Nat) (c : Str) (n : Nat) (F : FM) : Prop := ∃ C f fd ps, ClsAt Z c C ∧ Mk Z.K C f ∧ ps.length = n ∧ Does T Z k f fd ps F
/-- a class's plain field -/
def FldAt (Z : Wd) (c f : Str) : Prop := ∃ C, ClsAt Z c C ∧ NoAttr Z.K C f
section
variable {T : List NTab} {Z : Wd} {x c m q : Str} {k j n : Nat} {F : FM} {st : Stmt} {N ps : List Str} {cs : SM}
theorem Cal.mono (h : Cal T Z j x n F) (l : j ≤ k) : Cal T Z k x n F := let ⟨f, fd, ps, a, b, d⟩ := h; ⟨f, fd, ps, a, b, d.mono l⟩
theorem CalM.mono (h : CalM T Z j c m n F) (l : j ≤ k) : CalM T Z k c m n F := let ⟨C, f, fd, ps, a, a2, b, d⟩ := h; ⟨C, f, fd, ps, a, a2, b, d.mono l⟩
theorem CalI.mono (h : CalI T Z j c n F) (l : j ≤ k) : CalI T Z k c n F := let ⟨C, f, fd, ps, a, a2, b, d⟩ := h; ⟨C, f, fd, ps, a, a2, b, d.mono l⟩
abbrev Body (T : List NTab) (Z : Wd) (k : Nat) (N : List Str) (q : Str) (st : Stmt) (cs : SM) : Prop := ∀ (f : Addr) (cdv : Value) (Ar : Around) (outer : List Env) (s : Shared) (H : Hp) (E : XK), Room k (bX Z N q (defScope st) f cdv Ar outer s H E).A → (bX Z N q (defScope st) f cdv Ar outer s H E).N.Nodup → Sx (bX Z N q (defScope st) f cdv Ar outer s H E) (nW T) (defBody st) cs
theorem cal_intro (h : At Z x st ps) (Sc : FnScope N ps (defScope st)) (body : Body T Z k N x st cs) : Cal T Z (k + 1) x ps.length (mkF N.length ps.length cs) := by
  obtain ⟨f, fd, hm, D⟩ := h
  exact ⟨f, fd, ps, hm, rfl, does_intro D Sc (body f)⟩
theorem calM_intro (h : AtM Z c m q st ps) (Sc : FnScope N ps (defScope st)) (body : Body T Z k N q st cs) : CalM T Z (k + 1) c m ps.length (mkF N.length ps.length cs) := by
  obtain ⟨C, f, fd, hC, hM, D⟩ := h
  exact ⟨C, f, fd, ps, hC, hM, rfl, does_intro D Sc (body f)⟩
theorem calI_intro (h : AtI Z c q st ps) (Sc : FnScope N ps (defScope st)) (body : Body T Z k N q st cs) : CalI T Z (k + 1) c ps.length (mkF N.length ps.length cs) := by
  obtain ⟨C, f, fd, hC, hM, D⟩ := h
  exact ⟨C, f, fd, ps, hC, hM, rfl, does_intro D Sc (body f)⟩
end
section
variable {T : List NTab} {X : Cx} {W : Wp} {e o a : Expr} {es : List Expr} {ca co ce : EM} {cs : AM} {pos p p2 kp pos' apos : Pos} {k : Nat} {F : FM} {Z : Wd} {x c m f : Str} {n : Nat}
theorem c_call (D : Cal T Z k x n F) (hr : Room k X.A) (ha : Ax X (nW T) (e :: es) cs) (hn : ∀ us h xs h', cs us h = .ok xs h' → xs.length = n) (hZ : wd X = Z := by rfl) (hg : Gl X x := by rfl) (hdb : (x == ("__debug__" : Str)) = false := by decide)
    (he : starEach (e :: es) X.env = (false, eval e X.env) :: starEach es X.env := by rfl) (hpl : (backTo pos (starEach es X.env)).any (·.1) = false := by rfl) : Ex X (nW T) (.Call (.Name x p) (e :: es) [] pos) (eCall F cs) := by
  obtain ⟨f, fd, ps, hm, rfl, D⟩ := D
  exact x_call D hm hr ha hn hZ hg hdb he hpl
theorem c_make (D : CalI T Z k c n F) (hr : Room (k + 1) X.A) (ha : Ax X (nW T) (e :: es) cs) (hn : ∀ us h xs h', cs us h = .ok xs h' → xs.length + 1 = n) (hZ : wd X = Z := by rfl) (hg : Gl X c := by rfl) (hdb : (c == ("__debug__" : Str)) = false := by decide)
    (he : starEach (e :: es) X.env = (false, eval e X.env) :: starEach es X.env := by rfl) (hpl : (backTo pos (starEach es X.env)).any (·.1) = false := by rfl) : Ex X (nW T) (.Call (.Name c p) (e :: es) [] pos) (eMake c F cs) := by
  obtain ⟨C, f, fd, ps, hC, hM, rfl, D⟩ := D
  subst hZ
  exact x_make hM D hC.mg hr ha hn rfl hg hdb he hpl
theorem c_meth {pl : Sem Bool} (D : CalM T Z k c m n F) (hr : Room k X.A) (ho : Ex X (nW T) o co) (ha : Ax X (nW T) (e :: es) cs) (hn : ∀ us h xs h', cs us h = .ok xs h' → xs.length + 1 = n) (hZ : wd X = Z := by rfl)
    (hst : starEach (e :: es) X.env = (false, eval e X.env) :: starEach es X.env := by rfl) (hpl : (backTo pos (starEach es X.env)).any (·.1) = false := by rfl)
    (ht : eval (.Call (.Attribute o m apos) (e :: es) [] pos) X.env = (do
      let ov ← eval o X.env
      standAt apos.atName
      let (f, first) ← holding [ov] (getMethod ov m pl)
      callWith pos f first (backTo pos (starEach (e :: es) X.env)) (backToKw pos (keywordEach [] X.env))) := by rfl) : Ex X (nW T) (.Call (.Attribute o m apos) (e :: es) [] pos) (eMeth c m F co cs) := by
  obtain ⟨C, f, fd, ps, hC, hM, rfl, D⟩ := D
  exact x_meth hC.mg hC.cls hM D hr ho ha hn hZ hst hpl ht
theorem c_fld (h : FldAt Z c f) (ho : Ex X W o co) (hZ : wd X = Z := by rfl) (hb : attributeBase o f X.env (eval o X.env) = eval o X.env := by rfl) : Ex X W (.Attribute o f pos) (eUn (mFld c f) co) := by
  obtain ⟨C, hC, hn⟩ := h
  subst hZ
  exact x_fld hC.mg hC.cls hn ho hb
theorem c_putF (h : FldAt Z c f) (ha : Ex X W a ca) (ho : Ex X W o co) (hZ : wd X = Z := by rfl) (hs : swapsWith a (some (.Attribute o f pos')) pos.line X.env = pure false := by rfl) : St1 X W (.Assign [.Attribute o f pos'] a pos) (sPutF c f ca co) := by
  obtain ⟨C, hC, hn⟩ := h
  subst hZ
  exact s_putF hC.mg hC.cls hn ha ho hs
theorem c_sorted (D : Cal T Z k x 1 F) (hr : Room (k + 2) X.A) (hm : Z.mg "sorted" = none) (he : Ex X (nW T) e ce) (hZ : wd X = Z := by rfl) (hg : Gl X "sorted" := by rfl) (hgx : Gl X x := by rfl)
    (hc : X.calm = true := by rfl) (hdx : (x == ("__debug__" : Str)) = false := by decide) (h0 : starEach [e] X.env = (false, eval e X.env) :: starEach [] X.env := by rfl) (h1 : backTo pos (starEach [e] X.env) = (false, eval e X.env) :: backTo pos (starEach [] X.env) := by rfl) (h2 : (backTo pos (starEach [e] X.env)).any (·.1) = false := by rfl)
    (h3 : (backToKw pos (keywordEach [⟨some "key", .Name x p2, kp⟩] X.env)).all (·.1.isSome) = true := by rfl) (h4 : (backToKw pos (keywordEach [⟨some "key", .Name x p2, kp⟩] X.env)).any (·.1.isNone) = false := by rfl)
    (h5 : (backToKw pos (keywordEach [⟨some "key", .Name x p2, kp⟩] X.env)).filterMap (·.1) = [Str.ofString "key"] := by rfl) : Ex X (nW T) (.Call (.Name "sorted" p) [e] [⟨some "key", .Name x p2, kp⟩] pos) (eSort F ce) := by
  obtain ⟨f, fd, ps, hmx, hp, D⟩ := D
  subst hZ
  exact x_sorted D hp hr hmx hm he rfl hg hgx hc hdx h0 h1 h2 h3 h4 h5
end
end Mx
end
section
set_option maxHeartbeats 4000000
namespace Mx
open PySem L2
open NdefX (NTab TabsN TabN)
theorem bo_len : bootBuiltins "len" = some (.builtin "len") := by decide +kernel
theorem bo_abs : bootBuiltins "abs" = some (.builtin "abs") := by decide +kernel
theorem bo_min : bootBuiltins "min" = some (.builtin "min") := by decide +kernel
theorem bo_max : bootBuiltins "max" = some (.builtin "max") := by decide +kernel
theorem bo_sum : bootBuiltins "sum" = some (.builtin "sum") := by decide +kernel
theorem bo_all : bootBuiltins "all" = some (.builtin "all") := by decide +kernel
theorem bo_any : bootBuiltins "any" = some (.builtin "any") := by decide +kernel
theorem bo_int : bootBuiltins "int" = some (.type "int") := by decide +kernel
theorem bo_str : bootBuiltins "str" = some (.type "str") := by decide +kernel
theorem bo_list : bootBuiltins "list" = some (.type "list") := by decide +kernel
theorem bo_dict : bootBuiltins "dict" = some (.type "dict") := by decide +kernel
theorem bo_bool : bootBuiltins "bool" = some (.type "bool") := by decide +kernel
theorem bo_tuple : bootBuiltins "tuple" = some (.type "tuple") := by decide +kernel
abbrev plA_str := @PySem.F.plainAttrs_str
abbrev plA_list := @PySem.F.plainAttrs_list
abbrev plA_dict := @PySem.F.plainAttrs_dict
section
variable {T : List NTab} {X : Cx} {W : Wp} {a : Expr} {ca : EM} {p p2 pos : Pos} {x : Str} {Z : Wd}
theorem c_inK {zs : List Str} (h : ∃ f, Z.mg x = some (.ref f) ∧ ∀ g, SqT Z.K g f (zs.map V.str)) (ha : Ex X W a ca) (hZ : wd X = Z := by rfl) (hg : Gl X x := by rfl) (hd : (x == ("__debug__" : Str)) = false := by decide) (hb : behindInMarks .In (.Name x p2) = false := by rfl) :
    Ex X W (.Compare a [.In] [.Name x p2] pos) (eUn (mInK zs false) ca) := by
  obtain ⟨f, h1, h2⟩ := h
  subst hZ
  exact x_inK h1 h2 ha hg hd hb
theorem ct_inK {zs : List Str} (h : ∃ f, Z.mg x = some (.ref f) ∧ ∀ g, SqT Z.K g f (zs.map V.str)) (ha : Ex X W a ca) (hZ : wd X = Z := by rfl) (hg : Gl X x := by rfl) (hd : (x == ("__debug__" : Str)) = false := by decide) (hb : behindInMarks .In (.Name x p2) = false := by rfl) :
    Tx X W (.Compare a [.In] [.Name x p2] pos) (tB' (eUn (mInK zs false) ca)) := by
  obtain ⟨f, h1, h2⟩ := h
  subst hZ
  exact t_inK h1 h2 ha hg hd hb
theorem cal_bad {N ps : List Str} {st : Stmt} {f : Addr} {fd : FuncData} {k : Nat} (hm : Z.mg x = some (.ref f)) (D : Df Z x x st ps f fd) (Sc : FnScope N ps (defScope st)) : Cal T Z (k + 1) x ps.length (fun _ _ => .bad) :=
  ⟨f, fd, ps, hm, rfl, ⟨D.fn.ok Sc (fun vs H Q E h => h.1) (fun cdv Ar outer s H vs Q E hr h => by
    obtain ⟨_, _, _, _, _, _, k2⟩ := h
    exact absurd k2 id), D.fn.kp, D.bd⟩⟩
end
end Mx
end
section
set_option maxHeartbeats 4000000
namespace Mx
open PySem L2
open NdefX (NTab TabsN TabN)
/-! ### a def whose code object is told -/
def AtC (Z : Wd) (x : Str) (st : Stmt) (ps : List Str) (c : Addr) : Prop := ∃ f fd, Z.mg x = some (.ref f) ∧ Df Z x x st ps f fd ∧ fd.code = .ref c
abbrev BodyC (T : List NTab) (Z : Wd) (k : Nat) (N : List Str) (q : Str) (st : Stmt) (c : Addr) (cs : SM) : Prop := ∀ (f : Addr) (Ar : Around) (outer : List Env) (s : Shared) (H : Hp) (E : XK), Room k (bX Z N q (defScope st) f (.ref c) Ar outer s H E).A → (bX Z N q (defScope st) f (.ref c) Ar outer s H E).N.Nodup → Sx (bX Z N q (defScope st) f (.ref c) Ar outer s H E) (nW T) (defBody st) cs
section
variable {T : List NTab} {Z : Wd} {x : Str} {k : Nat} {st : Stmt} {N ps : List Str} {cs : SM} {c : Addr}
theorem cal_introC (h : AtC Z x st ps c) (Sc : FnScope N ps (defScope st)) (body : BodyC T Z k N x st c cs) : Cal T Z (k + 1) x ps.length (mkF N.length ps.length cs) := by
  obtain ⟨f, fd, hm, D, hc⟩ := h
  refine ⟨f, fd, ps, hm, rfl, ?_, D.fn.kp, D.bd⟩
  obtain ⟨oc, od, dV, kV, doc, pm, an, cdv, ct, osl, rfl, lk, hcd, _, _⟩ := D.fn.ex
  have hc : cdv = .ref c := hc
  subst hc
  refine fn_of lk hcd Sc (fun vs H Q E h => h.1) fun Ar outer s H vs Q E hr h => ?_
  obtain ⟨hl, ρ, us, h, rv, rh, k2⟩ := h
  refine ⟨_, PSs.nox psW, ?_⟩
  have hl2 : us.length = ps.length := rv.length.trans hl
  refine body f Ar outer s H E hr Sc.nd ρ (us.map some ++ List.replicate (N.length - ps.length) none) h (L2.start N vs) H _ ⟨by rw [← hl2]; exact start_rv rv, rh⟩ ?_
  unfold mkF at k2
  cases e : cs (us.map some ++ List.replicate (N.length - ps.length) none) h with
  | nx us' h' => rw [e] at k2; exact fun ρ' σ' H' g' L' => k2 ρ' .non H' g' rfl L'.rh
  | rt u h' => rw [e] at k2; exact k2
  | bk us' h' => rw [e] at k2; exact absurd k2 id
  | ct us' h' => rw [e] at k2; exact absurd k2 id
  | exc x us' h' => rw [e] at k2; exact absurd k2 id
  | bad => rw [e] at k2; exact k2
end

/-! ### the law: its first row cuts the script -/
/-- the law's promise: told of what its rows behind the first do from the cut script on -/
def spL (T : List NTab) (Z : Wd) (N : Nat) (c : SM) : Sp := fun vs H Q _ => ∃ (a : Addr) (ns : List Int), vs = [V.ref a] ∧ SqL Z.K H a (ns.map V.int) ∧ TabsN T H ∧ ∃ u h', c (some (.loc 0) :: List.replicate (N - 1) none) ⟨[.lst ((ns.take 63).map U.int)]⟩ = .rt u h' ∧ ∀ ρ v H', RV Z.mg ρ u v → Q v H'
theorem cut63 (ns : List Int) : cutV (ns.map V.int) none (some 63) = (ns.take 63).map V.int := by
  unfold cutV
  rw [List.length_map]
  have h0 : HT.sIx ns.length 0 none = 0 := rfl
  have h1 : HT.sIx ns.length ns.length (some 63) = min 63 ns.length := by
    unfold HT.sIx
    simp
  rw [h0, h1, List.drop_zero, Nat.sub_zero, ← List.map_take]
  congr 1
  by_cases h : ns.length ≤ 63
  · rw [Nat.min_eq_right h, List.take_of_length_le (Nat.le_refl _), List.take_of_length_le h]
  · rw [Nat.min_eq_left (by omega)]
theorem law_intro {T : List NTab} {Z : Wd} {st : Stmt} {N : List Str} {x : Str} {k : Nat} {c : SM} {f : Addr} {fd : FuncData} {rest : List Stmt} {p1 p2 p3 p4 p5 p6 : Pos} {j : Nat} (D : Df Z "law" "law" st [x] f fd) (Sc : FnScope N [x] (defScope st))
    (hst : defBody st = .Assign [.Name x p1] (.Subscript (.Name x p2) (.Slice none (some (.Constant (.int 63) j p3)) none p4) p5) p6 :: rest) (hN : N[0]? = some x) (hl : (defScope st).names.lookup x = some .local) (hd : (x == ("__debug__" : Str)) = false)
    (hcd : (x == ("__classdict__" : Str)) = false) (hsw : ∀ (cdv : Value) (Ar : Around) (outer : List Env) (s : Shared) (H : Hp) (E : XK), swapsWith (.Subscript (.Name x p2) (.Slice none (some (.Constant (.int 63) j p3)) none p4) p5) (some (.Name x p1)) p6.line (bX Z N "law" (defScope st) f cdv Ar outer s H E).env = pure false)
    (body : ∀ (cdv : Value) (Ar : Around) (outer : List Env) (s : Shared) (H : Hp) (E : XK), Room k (bX Z N "law" (defScope st) f cdv Ar outer s H E).A → (bX Z N "law" (defScope st) f cdv Ar outer s H E).N.Nodup →
      Sx (bX Z N "law" (defScope st) f cdv Ar outer s H E) (nW T) rest c) : FnOk Z.P Z.w Z.K Z.mg Z.base CX0 (k + 1) f fd [x] (spL T Z N.length c) := by
  refine D.fn.ok Sc (fun vs H Q E h => by obtain ⟨a, ns, rfl, _⟩ := h; rfl) fun cdv Ar outer s H vs Q E hr h => ?_
  obtain ⟨a, ns, rfl, hS, tb, u, h', hrun, hQ⟩ := h
  rw [hst]
  have hvis : Vis (bX Z N "law" (defScope st) f cdv Ar outer s H E).env.scope x := .inl hl
  refine ⟨_, PSs.nox (pss_cons (ps_set (i := 0) Sc.nd hN (.inl hl) (pe_slice (SlR.or sl_list sl_str) (pe_var (i := 0) hN hvis hd hcd) po_none (po_some pe_int)) (hsw cdv Ar outer s H E)) psW), ?_⟩
  have hlen : 1 ≤ N.length := by
    have := (List.getElem?_eq_some_iff.mp hN).1
    omega
  refine ⟨.ref a, by unfold L2.start; rfl, ⟨63, rfl, .inl ⟨a, ns.map V.int, rfl, hS, fun p hp => ?_⟩⟩⟩
  rw [cut63]
  have rh0 : RH T Z.mg [] ⟨[]⟩ H := ⟨tb, List.nodup_nil, rfl, fun n o a e _ => by cases e⟩
  have rh1 : RH T Z.mg [p] ⟨[.lst ((ns.take 63).map U.int)]⟩ (upd H p (.lst ((ns.take 63).map V.int))) := rh0.new (o := .lst ((ns.take 63).map U.int)) hp ⟨_, rfl, ints_rv _⟩
  refine body cdv Ar outer s H E hr Sc.nd [p] (some (.loc 0) :: List.replicate (N.length - 1) none) ⟨[.lst ((ns.take 63).map U.int)]⟩ _ _ _ ⟨?_, rh1⟩ ?_
  · have e : (L2.start N [V.ref a]).set 0 (some (V.ref p)) = some (V.ref p) :: List.replicate (N.length - 1) none := by
      unfold L2.start
      simp
    rw [e]
    refine .cons ⟨_, rfl, p, rfl, rfl⟩ ?_
    have h2 : ∀ n, Paired (RS1 Z.mg [p]) (List.replicate n none) (List.replicate n none) := by
      intro n
      induction n with
      | zero => exact .nil
      | succ n ih => exact .cons trivial ih
    exact h2 _
  · rw [hrun]
    exact fun ρ' v H' g r rh => hQ ρ' v H' r
end Mx
end
section
set_option maxHeartbeats 4000000
/-! isinstance with a class of the text -/
namespace Mx
open PySem L2 C8
open NdefX (NTab TabsN TabN)
def mIsC (c : Str) : O1 := fun x h => match x with | .loc p => (match h.get p with | some (.ins c' _) => if c' = c then some (.bl true, h) else none | _ => none) | _ => none
def InsAt (Z : Wd) (c : Str) : Prop := ∃ C, Z.mg c = some (.ref C) ∧ InsC Z.K C
section
variable {X : Cx} {W : Wp} {a : Expr} {ca : EM} {pos p p2 : Pos} {c : Str} {Z : Wd}
theorem c_isC (hm : Z.mg "isinstance" = none) (hI : InsAt Z c) (ha : Ex X W a ca) (hZ : wd X = Z := by rfl) (hg : Gl X "isinstance" := by rfl) (hg2 : Gl X c := by rfl) (hd : (c == ("__debug__" : Str)) = false := by decide)
    (hs : starEach [a, .Name c p2] X.env = (false, eval a X.env) :: starEach [.Name c p2] X.env := by rfl) (hs2 : starEach [.Name c p2] X.env = [(false, eval (.Name c p2) X.env)] := by rfl) (hpl : (backTo pos (starEach [.Name c p2] X.env)).any (·.1) = false := by rfl) :
    Ex X W (.Call (.Name "isinstance" p) [a, .Name c p2] [] pos) (eUn (mIsC c) ca) := .mk fun ρ us h σ H Q L k => by
  subst hZ
  obtain ⟨C, hC, ic⟩ := hI
  refine eW_of (pe_callB (call_isC ic) hg hm (by decide +kernel) (pa_cons peW (pa_cons (pe_gc (v := .ref C) hg2 ⟨.ref C, hC, rfl⟩ hd) pa_nil hs2) hs) (by decide) (by decide) hs hpl) (ha.run L k fun u h1 ρ1 v H1 _ g1 r1 L1 k1 => ?_)
  obtain ⟨w, h', e, q⟩ := k1.lft
  unfold mIsC at e
  split at e
  · split at e
    · rename_i e1
      split at e
      · rename_i ec
        cases e
        subst ec
        obtain ⟨d, O, rfl, ed, hd, C', dx, gs, hC', rfl, rk⟩ := L1.rh.ref r1 e1
        have : C' = C := by
          have hC : X.mg _ = some (.ref C) := hC
          rw [hC] at hC'
          cases hC'
          rfl
        subst this
        exact ⟨d, dx, gs, rfl, hd, NQ.flat q L1.rh rfl⟩
      · cases e
    · cases e
  · cases e
end
/-- the facts, looked at -/
def isaB (K : PySem.W.Frag) (x : Str) : Bool := He.eqO (PySem.W.findIn K (.ref (He.ga K x)) "__class__") (some (some (.builtin "object.__class__"))) && (He.eqO (PySem.W.specialIn K (.builtin "object.__class__") "__get__") (some (some (.builtin "getset_descriptor.__get__"))) && (decide (PySem.W.takesIn K (.builtin "object.__class__") = some true) && decide (PySem.W.mroIn K (He.ga K x) (.type "object") = some true)))
theorem isaB_ok {K : PySem.W.Frag} {x : Str} (h : isaB K x = true) (cl : Cls K (He.ga K x)) : InsC K (He.ga K x) := by
  unfold isaB at h
  simp only [Bool.and_eq_true, decide_eq_true_eq] at h
  exact ⟨cl, He.eqO_ok h.1, He.eqO_ok h.2.1, h.2.2.1, h.2.2.2, by unfold PySem.W.kitOne; rw [if_pos (by simp)]⟩
end Mx
end
section
set_option maxHeartbeats 4000000
/-! My: plain reasoning about mirrors. -/
namespace My
open PySem Mx
/-! ### what a run gives -/
def ok {α : Type} (r : Res α) (Q : α → Hh → Prop) : Prop := match r with | .ok a h => Q a h | _ => False
def okO {α : Type} (o : Option (α × Hh)) (Q : α → Hh → Prop) : Prop := match o with | some (a, h) => Q a h | none => False
/-- statements: Q behind them, R at a return -/
def okS (r : RS) (Q : Sl → Hh → Prop) (R : U → Hh → Prop) : Prop := match r with | .nx us h => Q us h | .rt u h => R u h | _ => False
/-- a loop's body: B at a break -/
def okB (r : RS) (Q B : Sl → Hh → Prop) (R : U → Hh → Prop) : Prop := match r with | .nx us h => Q us h | .ct us h => Q us h | .bk us h => B us h | .rt u h => R u h | _ => False
section
variable {α β : Type} {Q Q' : α → Hh → Prop} {h : Hh} {r : Res α}
theorem ok_mono (k : ok r Q) (f : ∀ a h, Q a h → Q' a h) : ok r Q' := by
  cases r with
  | ok a h => exact f a h k
  | _ => exact k
theorem ok_get (k : ok r Q) : ∃ a h, r = .ok a h ∧ Q a h := by
  cases r with
  | ok a h => exact ⟨a, h, rfl, k⟩
  | _ => exact absurd k id
@[simp] theorem ok_ok {a : α} : ok (.ok a h) Q ↔ Q a h := Iff.rfl
@[simp] theorem ok_bad : ok (.bad : Res α) Q ↔ False := Iff.rfl
@[simp] theorem ok_bind {f : α → Hh → Res β} {P : β → Hh → Prop} : ok (r.bind f) P ↔ ok r fun a h => ok (f a h) P := by
  cases r <;> exact Iff.rfl
@[simp] theorem ok_lft {o : Option (α × Hh)} : ok (lft o) Q ↔ okO o Q := by
  cases o <;> exact Iff.rfl
@[simp] theorem okO_some {a : α} : okO (some (a, h)) Q ↔ Q a h := Iff.rfl
@[simp] theorem okO_none : okO (none : Option (α × Hh)) Q ↔ False := Iff.rfl
@[simp] theorem okO_map {o : Option β} {f : β → α × Hh} : okO (o.map f) Q ↔ ∃ b, o = some b ∧ Q (f b).1 (f b).2 := by
  cases o <;> simp [okO]
@[simp] theorem okO_bind {o : Option β} {f : β → Option (α × Hh)} : okO (o.bind f) Q ↔ ∃ b, o = some b ∧ okO (f b) Q := by
  cases o <;> simp [okO]
@[simp] theorem okO_ite {c : Prop} [Decidable c] {a b : Option (α × Hh)} : okO (if c then a else b) Q ↔ if c then okO a Q else okO b Q := by split <;> rfl
@[simp] theorem ok_ite {c : Prop} [Decidable c] {a b : Res α} : ok (if c then a else b) Q ↔ if c then ok a Q else ok b Q := by split <;> rfl
end
section
variable {Q Q' : Sl → Hh → Prop} {R R' : U → Hh → Prop} {us : Sl} {h : Hh} {r : RS} {a b : SM} {e e' e'' : EM} {t t' : TM} {P : U → Hh → Prop} {PB : Bool → Hh → Prop} {m m' : O2} {i : Nat} {cs : AM} {PL : List U → Hh → Prop}
theorem okS_mono (k : okS r Q R) (f : ∀ us h, Q us h → Q' us h) (g : ∀ u h, R u h → R' u h) : okS r Q' R' := by
  cases r with
  | nx us h => exact f us h k
  | rt u h => exact g u h k
  | _ => exact k
@[simp] theorem okS_nil : okS (sNil us h) Q R ↔ Q us h := Iff.rfl
@[simp] theorem okS_seq : okS (sSeq a b us h) Q R ↔ okS (a us h) (fun us h => okS (b us h) Q R) R := by
  unfold sSeq
  cases a us h <;> exact Iff.rfl
@[simp] theorem okS_ret : okS (sRet e us h) Q R ↔ ok (e us h) R := by
  unfold sRet
  cases e us h <;> exact Iff.rfl
@[simp] theorem okS_expr : okS (sExpr e us h) Q R ↔ ok (e us h) fun _ h => Q us h := by
  unfold sExpr
  cases e us h <;> exact Iff.rfl
@[simp] theorem okS_if : okS (sIf t a b us h) Q R ↔ ok (t us h) fun c h1 => if c then okS (a us h1) Q R else okS (b us h1) Q R := by
  unfold sIf
  cases e : t us h with
  | ok c h1 => cases c <;> exact Iff.rfl
  | _ => exact Iff.rfl
@[simp] theorem okS_set : okS (sAsg e (gName i) us h) Q R ↔ ok (e us h) fun u h1 => Q (us.set i (some u)) h1 := by
  unfold sAsg
  cases e us h <;> exact Iff.rfl
theorem okS_asg {g : GM} : okS (sAsg e g us h) Q R ↔ ok (e us h) fun u h1 => ok (g u us h1) Q := by
  unfold sAsg
  cases e us h with
  | ok u h1 =>
    show okS (match g u us h1 with | .ok us' h2 => .nx us' h2 | _ => .bad) Q R ↔ ok (g u us h1) Q
    cases g u us h1 <;> exact Iff.rfl
  | _ => exact Iff.rfl
@[simp] theorem okS_par {is : List Nat} : okS (sPar is cs us h) Q R ↔ ok (cs us h) fun xs h1 => xs.length = is.length ∧ Q (setAll is xs us) h1 := by
  unfold sPar
  cases cs us h with
  | ok xs h1 =>
    show okS (if xs.length = is.length then .nx (setAll is xs us) h1 else .bad) Q R ↔ xs.length = is.length ∧ Q (setAll is xs us) h1
    split <;> simp_all [okS]
  | _ => exact Iff.rfl
@[simp] theorem okS_aug : okS (sAug i m e us h) Q R ↔ ∃ x, us[i]? = some (some x) ∧ ok (e us h) fun y h1 => okO (m x y h1) fun z h2 => Q (us.set i (some z)) h2 := by
  unfold sAug
  split
  · rename_i x ex
    rw [ex]
    simp only [Option.some.injEq, exists_eq_left']
    cases e us h with
    | ok y h1 =>
      show okS ((lft (m x y h1)).thn us fun z h2 => .nx (us.set i (some z)) h2) Q R ↔ okO (m x y h1) _
      cases m x y h1 <;> exact Iff.rfl
    | _ => exact Iff.rfl
  · rename_i hx
    constructor
    · intro k; exact absurd k id
    · rintro ⟨x, ex, _⟩
      exact absurd ex (hx x)
@[simp] theorem okS_put {o x : EM} : okS (sPut e o x us h) Q R ↔ ok (e us h) fun v h1 => ok (o us h1) fun p h2 => ok (x us h2) fun y h3 => ∃ h4, mPut p y v h3 = some h4 ∧ Q us h4 := by
  unfold sPut
  cases e us h with
  | ok v h1 =>
    show okS ((o us h1).thn us _) Q R ↔ ok (o us h1) _
    cases o us h1 with
    | ok p h2 =>
      show okS ((x us h2).thn us _) Q R ↔ ok (x us h2) _
      cases x us h2 with
      | ok y h3 =>
        show okS (match mPut p y v h3 with | some h4 => .nx us h4 | none => .bad) Q R ↔ ∃ h4, mPut p y v h3 = some h4 ∧ Q us h4
        cases mPut p y v h3 <;> simp [okS]
      | _ => exact Iff.rfl
    | _ => exact Iff.rfl
  | _ => exact Iff.rfl
@[simp] theorem okS_putF {c f : Str} {o : EM} : okS (sPutF c f e o us h) Q R ↔ ok (e us h) fun v h1 => ok (o us h1) fun p h2 => ∃ h4, mPutF c f p v h2 = some h4 ∧ Q us h4 := by
  unfold sPutF
  cases e us h with
  | ok v h1 =>
    show okS ((o us h1).thn us _) Q R ↔ ok (o us h1) _
    cases o us h1 with
    | ok p h2 =>
      show okS (match mPutF c f p v h2 with | some h4 => .nx us h4 | none => .bad) Q R ↔ ∃ h4, mPutF c f p v h2 = some h4 ∧ Q us h4
      cases mPutF c f p v h2 <;> simp [okS]
    | _ => exact Iff.rfl
  | _ => exact Iff.rfl
@[simp] theorem ok_mkF {N n : Nat} {xs : List U} : ok (mkF N n a xs h) P ↔ okS (a (xs.map some ++ List.replicate (N - n) none) h) (fun _ h => P .non h) P := by
  unfold mkF
  cases a (xs.map some ++ List.replicate (N - n) none) h <;> exact Iff.rfl
/-! ### expressions -/
@[simp] theorem ok_eVar : ok (eVar i us h) P ↔ ∃ u, us[i]? = some (some u) ∧ P u h := by
  unfold eVar
  split
  · rename_i u e
    rw [e]
    simp
  · rename_i hx
    constructor
    · intro k; exact absurd k id
    · rintro ⟨x, ex, _⟩
      exact absurd ex (hx x)
@[simp] theorem ok_eC {u : U} : ok (eC u us h) P ↔ P u h := Iff.rfl
@[simp] theorem ok_eBin : ok (eBin m e e' us h) P ↔ ok (e us h) fun x h1 => ok (e' us h1) fun y h2 => okO (m x y h2) P := by unfold eBin; simp
@[simp] theorem ok_eUn {m : O1} : ok (eUn m e us h) P ↔ ok (e us h) fun x h1 => okO (m x h1) P := by unfold eUn; simp
@[simp] theorem ok_e1 {m : O1} : ok (e1 m e us h) P ↔ ok (e us h) fun x h1 => okO (m x h1) P := by unfold e1; simp
@[simp] theorem ok_isB {x : U} : ok (isB x h) PB ↔ ∃ c, x = .bl c ∧ PB c h := by
  cases x <;> simp [isB]
@[simp] theorem ok_eAnd : ok (eAnd e e' us h) P ↔ ok (e us h) fun x h1 => ∃ c, x = .bl c ∧ if c then ok (e' us h1) P else P (.bl false) h1 := by unfold eAnd; simp
@[simp] theorem ok_eOr : ok (eOr e e' us h) P ↔ ok (e us h) fun x h1 => ∃ c, x = .bl c ∧ if c then P (.bl true) h1 else ok (e' us h1) P := by unfold eOr; simp
@[simp] theorem ok_eNot : ok (eNot e us h) P ↔ ok (e us h) fun x h1 => ∃ c, x = .bl c ∧ P (.bl (!c)) h1 := by unfold eNot; simp
@[simp] theorem ok_eIf : ok (eIf t e e' us h) P ↔ ok (t us h) fun c h1 => if c then ok (e us h1) P else ok (e' us h1) P := by unfold eIf; simp
@[simp] theorem ok_eChain : ok (eChain m m' e e' e'' us h) P ↔ ok (e us h) fun x h1 => ok (e' us h1) fun y h2 => okO (m x y h2) fun z h3 => ∃ k, z = .bl k ∧ if k then ok (e'' us h3) fun w h5 => okO (m' y w h5) P else P (.bl false) h3 := by unfold eChain; simp
@[simp] theorem ok_tB : ok (tB' e us h) PB ↔ ok (e us h) fun x h1 => ∃ c, x = .bl c ∧ PB c h1 := by unfold tB'; simp
@[simp] theorem ok_tNot : ok (tNot t us h) PB ↔ ok (t us h) fun c h1 => PB (!c) h1 := by unfold tNot; simp
@[simp] theorem ok_tAnd : ok (tAnd t t' us h) PB ↔ ok (t us h) fun c h1 => if c then ok (t' us h1) PB else PB false h1 := by unfold tAnd; simp
@[simp] theorem ok_tOr : ok (tOr t t' us h) PB ↔ ok (t us h) fun c h1 => if c then PB true h1 else ok (t' us h1) PB := by unfold tOr; simp
@[simp] theorem ok_tYes : ok (tYes us h) PB ↔ PB true h := Iff.rfl
@[simp] theorem ok_aNil : ok (aNil us h) PL ↔ PL [] h := Iff.rfl
@[simp] theorem ok_aCons : ok (aCons e cs us h) PL ↔ ok (e us h) fun x h1 => ok (cs us h1) fun xs h2 => PL (x :: xs) h2 := by unfold aCons; simp
@[simp] theorem ok_eTup : ok (eTup cs us h) P ↔ ok (cs us h) fun xs h1 => okO (mTup xs h1) P := by unfold eTup; simp
@[simp] theorem ok_eLst : ok (eLst cs us h) P ↔ ok (cs us h) fun xs h1 => okO (mLst xs h1) P := by unfold eLst; simp
@[simp] theorem ok_eD0 : ok (eD0 us h) P ↔ P (.loc h.size) (h.push (.dic false [])) := Iff.rfl
@[simp] theorem ok_eCb {m : ON} : ok (eCb m cs us h) P ↔ ok (cs us h) fun xs h1 => okO (m xs h1) P := by unfold eCb; simp
@[simp] theorem ok_eCall {F : FM} : ok (eCall F cs us h) P ↔ ok (cs us h) fun xs h1 => ok (F xs h1) P := by unfold eCall; simp
@[simp] theorem ok_okIf {c : Bool} {f : Unit → Hh → Prop} : ok (okIf c h) f ↔ c = true ∧ f () h := by
  unfold okIf
  cases c <;> simp
@[simp] theorem ok_eMt {chk : U → Hh → Bool} {m : OM} : ok (eMt chk m e cs us h) P ↔ ok (e us h) fun x h1 => chk x h1 = true ∧ ok (cs us h1) fun xs h3 => okO (m x xs h3) P := by unfold eMt; simp
@[simp] theorem ok_e3 {chk : U → Hh → Bool} {m : U → U → U → Hh → Option (U × Hh)} : ok (e3 chk m e e' e'' us h) P ↔ ok (e us h) fun x h1 => chk x h1 = true ∧ ok (e' us h1) fun y h3 => ok (e'' us h3) fun z h4 => okO (m x y z h4) P := by unfold e3; simp
@[simp] theorem ok_eSort {F : FM} : ok (eSort F e us h) P ↔ ok (e us h) fun x h1 => ∃ xs, itemsU x h1 = some xs ∧ ∃ ys, sortU F h1 xs = some ys ∧ P (.loc h1.size) (h1.push (.lst ys)) := by unfold eSort; simp
@[simp] theorem ok_eMake {c : Str} {F : FM} : ok (eMake c F cs us h) P ↔ ok (cs us h) fun xs h1 => ok (F (.loc h1.size :: xs) (h1.push (.ins c []))) fun r h2 => r = .non ∧ P (.loc h1.size) h2 := by
  unfold eMake
  rw [ok_bind]
  refine ⟨fun k => ok_mono k fun xs h1 k => ?_, fun k => ok_mono k fun xs h1 k => ?_⟩
  · rw [ok_bind] at k
    refine ok_mono k fun r h2 k => ?_
    cases r <;> first | exact ⟨rfl, k⟩ | exact absurd k id
  · rw [ok_bind]
    refine ok_mono k fun r h2 k => ?_
    obtain ⟨rfl, k⟩ := k
    exact k
@[simp] theorem ok_eMeth {c m : Str} {F : FM} : ok (eMeth c m F e cs us h) P ↔ ok (e us h) fun x h1 => isI c m x h1 = true ∧ ok (cs us h1) fun xs h3 => ok (F (x :: xs) h3) P := by unfold eMeth; simp
@[simp] theorem ok_pN {PO : Option Int → Hh → Prop} : ok (pN us h) PO ↔ PO none h := Iff.rfl
@[simp] theorem ok_pS {PO : Option Int → Hh → Prop} : ok (pS e us h) PO ↔ ok (e us h) fun x h1 => ∃ i, x = .int i ∧ PO (some i) h1 := by
  unfold pS
  rw [ok_bind]
  refine ⟨fun k => ok_mono k fun x h1 k => ?_, fun k => ok_mono k fun x h1 k => ?_⟩
  · cases x <;> first | exact ⟨_, rfl, k⟩ | exact absurd k id
  · obtain ⟨i, rfl, k⟩ := k
    exact k
@[simp] theorem ok_eSl {lo hi : Sl → Hh → Res (Option Int)} : ok (eSl e lo hi us h) P ↔ ok (e us h) fun x h1 => ok (lo us h1) fun l h2 => ok (hi us h2) fun u h3 => okO (mSl x l u h3) P := by unfold eSl; simp
end
end My
end
section
set_option maxHeartbeats 4000000
namespace My
open PySem Mx
/-! ### heaps that grow -/
/-- what stood in h stands in h' -/
structure Ext (h h' : Hh) : Prop where
  get : ∀ {n o}, h.get n = some o → h'.get n = some o
  le : h.size ≤ h'.size
theorem Ext.refl {h : Hh} : Ext h h := ⟨fun e => e, Nat.le_refl _⟩
theorem Ext.trans {a b c : Hh} (x : Ext a b) (y : Ext b c) : Ext a c := ⟨fun e => y.get (x.get e), Nat.le_trans x.le y.le⟩
theorem Ext.push {h : Hh} {o : Ob} : Ext h (h.push o) := ⟨fun e => Hh.get_push_old e, by rw [Hh.size_push]; exact Nat.le_succ _⟩
/-- an object newer than h0 changed -/
theorem Ext.set {h0 h : Hh} {n : Nat} {o : Ob} (x : Ext h0 h) (hn : h0.size ≤ n) : Ext h0 (h.set n o) := ⟨fun {m u} e => by
  have l := Hh.get_lt e
  rw [Hh.get_set_ne (by omega)]
  exact x.get e, by rw [Hh.size_set]; exact x.le⟩
theorem Ext.pushR {h0 h : Hh} {o : Ob} (x : Ext h0 h) : Ext h0 (h.push o) := x.trans .push
@[simp] theorem get_push_size {h : Hh} {o : Ob} : (h.push o).get h.size = some o := Hh.get_push_new
theorem get_set_same {h : Hh} {n : Nat} {o u : Ob} (e : h.get n = some u) : (h.set n o).get n = some o := Hh.get_set_same (Hh.get_lt e)
/-! ### data in a heap -/
abbrev Pd (α : Type) := Hh → U → α → Prop
class Mono {α : Type} (P : Pd α) : Prop where
  mono : ∀ {h h' u a}, Ext h h' → P h u a → P h' u a
def iS : Pd Str := fun _ u s => u = .str s
def iI : Pd Int := fun _ u i => u = .int i
def iB : Pd Bool := fun _ u b => u = .bl b
def iL {α : Type} (P : Pd α) : Pd (List α) := fun h u xs => ∃ p us, u = .loc p ∧ h.get p = some (.lst us) ∧ Paired (P h) us xs
def iT2 {α β : Type} (P : Pd α) (Q : Pd β) : Pd (α × β) := fun h u x => ∃ p a b, u = .loc p ∧ h.get p = some (.tup [a, b]) ∧ P h a x.1 ∧ Q h b x.2
def iT3 {α β γ : Type} (P : Pd α) (Q : Pd β) (R : Pd γ) : Pd (α × β × γ) := fun h u x => ∃ p a b c, u = .loc p ∧ h.get p = some (.tup [a, b, c]) ∧ P h a x.1 ∧ Q h b x.2.1 ∧ R h c x.2.2
/-- a dict with texts as keys -/
def iD {α : Type} (P : Pd α) : Pd (List (Str × α)) := fun h u kvs => ∃ p us, u = .loc p ∧ h.get p = some (.dic false us) ∧ Paired (fun x (y : Str × α) => x.1 = Sum.inr y.1 ∧ P h x.2 y.2) us kvs
theorem Pm {α β : Type} {F G : α → β → Prop} {l : List α} {m : List β} (p : Paired F l m) (f : ∀ a b, F a b → G a b) : Paired G l m := Pimp p f
section
variable {α β γ : Type} {P : Pd α} {Q : Pd β} {R : Pd γ}
instance : Mono iS := ⟨fun _ e => e⟩
instance : Mono iI := ⟨fun _ e => e⟩
instance : Mono iB := ⟨fun _ e => e⟩
instance [Mono P] : Mono (iL P) := ⟨fun x ⟨p, us, e, hp, r⟩ => ⟨p, us, e, x.get hp, Pm r fun _ _ => Mono.mono x⟩⟩
instance [Mono P] [Mono Q] : Mono (iT2 P Q) := ⟨fun x ⟨p, a, b, e, hp, r, s⟩ => ⟨p, a, b, e, x.get hp, Mono.mono x r, Mono.mono x s⟩⟩
instance [Mono P] [Mono Q] [Mono R] : Mono (iT3 P Q R) := ⟨fun x ⟨p, a, b, c, e, hp, r, s, t⟩ => ⟨p, a, b, c, e, x.get hp, Mono.mono x r, Mono.mono x s, Mono.mono x t⟩⟩
instance [Mono P] : Mono (iD P) := ⟨fun x ⟨p, us, e, hp, r⟩ => ⟨p, us, e, x.get hp, Pm r fun _ _ q => ⟨q.1, Mono.mono x q.2⟩⟩⟩
end
/-! ### loops -/
/-- the i-th thing of m in h is u, with the heap h' -/
def Nx (m : ItM) (i : Nat) (h : Hh) (u : U) (h' : Hh) : Prop := nxt m i h = some (some (u, h'))
section
variable {Q B : Sl → Hh → Prop} {R : U → Hh → Prop} {us : Sl} {h : Hh} {m : ItM} {g : GM} {b : SM}
/-- a for loop: n turns, J between them -/
theorem for_run (n : Nat) (J : Nat → Sl → Hh → Prop) (hn : ∀ us h, J n us h → nxt m n h = some none ∧ Q us h)
    (hs : ∀ i us h, i < n → J i us h → ∃ u h1, nxt m i h = some (some (u, h1)) ∧ ok (g u us h1) fun us1 h2 => okB (b us1 h2) (J (i + 1)) Q R) :
    ∀ f i us h, n - i < f → i ≤ n → J i us h → okS (forL m g b f i us h) Q R := by
  intro f
  induction f with
  | zero => intro i us h hf; omega
  | succ f ih =>
    intro i us h hf hi hJ
    unfold forL
    by_cases hin : i = n
    · subst hin
      obtain ⟨e, q⟩ := hn us h hJ
      rw [e]
      exact q
    · obtain ⟨u, h1, e, k⟩ := hs i us h (by omega) hJ
      rw [e]
      show okS (match g u us h1 with
        | .ok us1 h2 => (match b us1 h2 with | .nx us' h' => forL m g b f (i + 1) us' h' | .ct us' h' => forL m g b f (i + 1) us' h' | .bk us' h' => .nx us' h' | r => r)
        | _ => .bad) Q R
      obtain ⟨us1, h2, e2, k2⟩ := ok_get k
      rw [e2]
      show okS (match b us1 h2 with | .nx us' h' => forL m g b f (i + 1) us' h' | .ct us' h' => forL m g b f (i + 1) us' h' | .bk us' h' => .nx us' h' | r => r) Q R
      cases e3 : b us1 h2 with
      | nx us' h' => rw [e3] at k2; exact ih (i + 1) us' h' (by omega) (by omega) k2
      | ct us' h' => rw [e3] at k2; exact ih (i + 1) us' h' (by omega) (by omega) k2
      | bk us' h' => rw [e3] at k2; exact k2
      | rt u h' => rw [e3] at k2; exact k2
      | exc x us' h' => rw [e3] at k2; exact absurd k2 id
      | bad => rw [e3] at k2; exact absurd k2 id
@[simp] theorem okS_for {it : Sl → Hh → Res ItM} : okS (sFor it g b us h) Q R ↔ ok (it us h) fun m h1 => okS (forL m g b fuel 0 us h1) Q R := by
  unfold sFor
  cases it us h <;> exact Iff.rfl
theorem for0 (n : Nat) (J : Nat → Sl → Hh → Prop) (l : n < 1000000) (hJ : J 0 us h) (hn : ∀ us h, J n us h → nxt m n h = some none ∧ Q us h)
    (hs : ∀ i us h, i < n → J i us h → ∃ u h1, nxt m i h = some (some (u, h1)) ∧ ok (g u us h1) fun us1 h2 => okB (b us1 h2) (J (i + 1)) Q R) : okS (forL m g b fuel 0 us h) Q R :=
  for_run n J hn hs fuel 0 us h (by unfold fuel; omega) (Nat.zero_le _) hJ
/-- a while loop: V falls -/
theorem while_run {t : TM} (J : Nat → Sl → Hh → Prop) (hs : ∀ v us h, J v us h → ok (t us h) fun c h1 => if c then okB (b us h1) (fun us' h' => ∃ w, w < v ∧ J w us' h') Q R else Q us h1) : ∀ f v us h, v < f → J v us h → okS (whl t b f us h) Q R := by
  intro f
  induction f with
  | zero => intro v us h hf; omega
  | succ f ih =>
    intro v us h hf hJ
    unfold whl
    obtain ⟨c, h1, e, k⟩ := ok_get (hs v us h hJ)
    rw [e]
    cases c with
    | false => exact k
    | true =>
      show okS (match b us h1 with | .nx us' h' => whl t b f us' h' | .ct us' h' => whl t b f us' h' | .bk us' h' => .nx us' h' | r => r) Q R
      have k : okB (b us h1) (fun us' h' => ∃ w, w < v ∧ J w us' h') Q R := k
      cases e3 : b us h1 with
      | nx us' h' => rw [e3] at k; obtain ⟨w, l, j⟩ := k; exact ih w us' h' (by omega) j
      | ct us' h' => rw [e3] at k; obtain ⟨w, l, j⟩ := k; exact ih w us' h' (by omega) j
      | bk us' h' => rw [e3] at k; exact k
      | rt u h' => rw [e3] at k; exact k
      | exc x us' h' => rw [e3] at k; exact absurd k id
      | bad => rw [e3] at k; exact absurd k id
theorem while0 {t : TM} (v : Nat) (J : Nat → Sl → Hh → Prop) (l : v < 1000000) (hJ : J v us h) (hs : ∀ v us h, J v us h → ok (t us h) fun c h1 => if c then okB (b us h1) (fun us' h' => ∃ w, w < v ∧ J w us' h') Q R else Q us h1) : okS (sWhile t b us h) Q R :=
  while_run J hs fuel v us h (by unfold fuel; omega) hJ
theorem okB_of {r : RS} (k : okS r Q R) : okB r Q B R := by
  cases r with
  | nx us h => exact k
  | rt u h => exact k
  | _ => exact absurd k id
/-- a comprehension: n turns, J i acc h between them (acc: what is found, the last first) -/
theorem lc_run' {t : TM} {e : EM} {usw : Sl} {P : List U → Hh → Prop} (n : Nat) (J : Nat → List U → Hh → Prop) (hl : ∀ i acc h, J i acc h → acc.length ≤ i) (hz : n ≤ sizeLine) (hn : ∀ acc h, J n acc h → nxt m n h = some none ∧ P acc.reverse h)
    (hs : ∀ i acc h, i < n → J i acc h → ∃ u h1, nxt m i h = some (some (u, h1)) ∧ ok (g u usw h1) fun us1 h2 => ok (t us1 h2) fun c h3 => if c then ok (e us1 h3) fun y h4 => J (i + 1) (y :: acc) h4 else J (i + 1) acc h3) :
    ∀ f i acc h, n - i < f → i ≤ n → J i acc h → ok (lcL m g t e usw f i acc h) P := by
  intro f
  induction f with
  | zero => intro i acc h hf; omega
  | succ f ih =>
    intro i acc h hf hi hJ
    unfold lcL
    by_cases hin : i = n
    · subst hin
      obtain ⟨e, q⟩ := hn acc h hJ
      rw [e]
      exact q
    · obtain ⟨u, h1, e1, k⟩ := hs i acc h (by omega) hJ
      obtain ⟨us1, h2, e2, k2⟩ := ok_get k
      obtain ⟨c, h3, e3, k3⟩ := ok_get k2
      simp only [e1, e2, e3]
      cases c with
      | false => exact ih (i + 1) acc h3 (by omega) (by omega) k3
      | true =>
        have k3 : ok (e us1 h3) fun y h4 => J (i + 1) (y :: acc) h4 := k3
        obtain ⟨y, h4, e4, k4⟩ := ok_get k3
        have l1 := hl i acc h hJ
        simp only [e4]
        rw [if_pos trivial, if_pos (by omega)]
        exact ih (i + 1) (y :: acc) h4 (by omega) (by omega) k4
@[simp] theorem ok_eLc {it : Sl → Hh → Res ItM} {t : TM} {e : EM} {vs : List Nat} {P : U → Hh → Prop} : ok (eLc it g t e vs us h) P ↔ ok (it us h) fun m h1 => ok (lcL m g t e (wipeU us vs) fuel 0 [] h1) fun ys h2 => P (.loc h2.size) (h2.push (.lst ys)) := by
  unfold eLc; simp
theorem lc0 {t : TM} {e : EM} {usw : Sl} {P : List U → Hh → Prop} (n : Nat) (J : Nat → List U → Hh → Prop) (l : n < 1000000) (hJ : J 0 [] h) (hl : ∀ i acc h, J i acc h → acc.length ≤ i) (hn : ∀ acc h, J n acc h → nxt m n h = some none ∧ P acc.reverse h)
    (hs : ∀ i acc h, i < n → J i acc h → ∃ u h1, nxt m i h = some (some (u, h1)) ∧ ok (g u usw h1) fun us1 h2 => ok (t us1 h2) fun c h3 => if c then ok (e us1 h3) fun y h4 => J (i + 1) (y :: acc) h4 else J (i + 1) acc h3) : ok (lcL m g t e usw fuel 0 [] h) P :=
  lc_run' n J hl (by rw [sizeLine_eq]; omega) hn hs fuel 0 [] h (by unfold fuel; omega) (Nat.zero_le _) hJ
end
/-! ### comprehensions that only look -/
section
variable {m : ItM} {g : GM} {t : TM} {e : EM} {usw : Sl} {P : List U → Hh → Prop} {h : Hh} {α β : Type} {A : Pd α} {F : Pd β} [Mono F]
/-- over xs: from each x that c takes f x, found in heaps that only grow -/
theorem lc_map {xs : List α} (c : α → Bool) (f : α → β) (l : xs.length < 1000000) (hend : ∀ h', Ext h h' → nxt m xs.length h' = some none)
    (hs : ∀ i x h', xs[i]? = some x → Ext h h' → ∃ u h1, nxt m i h' = some (some (u, h1)) ∧ Ext h' h1 ∧ ok (g u usw h1) fun us1 h2 => Ext h1 h2 ∧ ok (t us1 h2) fun b h3 => b = c x ∧ Ext h2 h3 ∧ (c x = true → ok (e us1 h3) fun y h4 => Ext h3 h4 ∧ F h4 y (f x)))
    (q : ∀ ys h', Ext h h' → Paired (F h') ys ((xs.filter c).map f) → P ys h') : ok (lcL m g t e usw fuel 0 [] h) P := by
  refine lc0 xs.length (fun i acc h' => Ext h h' ∧ acc.length ≤ i ∧ Paired (F h') acc.reverse (((xs.take i).filter c).map f)) l ⟨Ext.refl, Nat.le_refl _, by simpa using Paired.nil⟩ (fun i acc h' j => j.2.1) (fun acc h' j => ⟨hend h' j.1, ?_⟩) fun i acc h' hi j => ?_
  · obtain ⟨j1, j2, j3⟩ := j
    rw [List.take_length] at j3
    exact q _ _ j1 j3
  · obtain ⟨j1, j2, j3⟩ := j
    obtain ⟨u, h1, e1, x1, k1⟩ := hs i xs[i] h' (by simp) j1
    refine ⟨u, h1, e1, ok_mono k1 fun us1 h2 ⟨x2, k2⟩ => ok_mono k2 fun b h3 ⟨eb, x3, k3⟩ => ?_⟩
    have et : xs.take (i + 1) = xs.take i ++ [xs[i]] := by rw [List.take_add_one]; simp [hi]
    subst eb
    cases hc : c xs[i] with
    | true =>
      refine ok_mono (k3 hc) fun y h4 ⟨x4, k4⟩ => ⟨j1.trans (x1.trans (x2.trans (x3.trans x4))), by simp; omega, ?_⟩
      rw [et, List.filter_append, List.map_append, List.reverse_cons]
      refine Papp (Pm j3 fun _ _ => Mono.mono (x1.trans (x2.trans (x3.trans x4)))) ?_
      rw [List.filter_cons_of_pos hc]
      exact .cons k4 .nil
    | false =>
      refine ⟨j1.trans (x1.trans (x2.trans x3)), by omega, ?_⟩
      rw [et, List.filter_append, List.map_append, List.filter_cons_of_neg (by simp [hc])]
      simp only [List.filter_nil, List.map_nil, List.append_nil]
      exact Pm j3 fun _ _ => Mono.mono (x1.trans (x2.trans x3))
end
end My
end
section
set_option maxHeartbeats 4000000
/-! texts: paths and folders -/
namespace My
open PySem Mx L2
def sl (x : Str) : List Nat := x.cps.toList
theorem sl_inj {x y : Str} (h : sl x = sl y) : x = y := by
  obtain ⟨⟨a⟩⟩ := x
  obtain ⟨⟨b⟩⟩ := y
  have h : a = b := h
  rw [h]
theorem sl_app (x y : Str) : sl (x ++ y) = sl x ++ sl y := TL.tl_append x y
theorem len_sl (x : Str) : x.length = (sl x).length := by unfold Str.length sl; simp
@[simp] theorem sl_47 : sl ⟨#[47]⟩ = [47] := rfl
@[simp] theorem sl_nil : sl ⟨#[]⟩ = [] := rfl
@[simp] theorem sl_mk (l : List Nat) : sl ⟨l.toArray⟩ = l := rfl
theorem slash : (Str.ofString "/") = ⟨#[47]⟩ := by decide +kernel
theorem sl_slash : sl (Str.ofString "/") = [47] := by rw [slash]; rfl
theorem empt : (Str.ofString "") = ⟨#[]⟩ := by decide +kernel
/-- the folder of these names -/
def dirS : List Str → Str
  | [] => ⟨#[]⟩
  | n :: r => n ++ ⟨#[47]⟩ ++ dirS r
theorem dirS_app (a b : List Str) : sl (dirS (a ++ b)) = sl (dirS a) ++ sl (dirS b) := by
  induction a with
  | nil => rfl
  | cons n r ih =>
    show sl (n ++ ⟨#[47]⟩ ++ dirS (r ++ b)) = sl (n ++ ⟨#[47]⟩ ++ dirS r) ++ _
    rw [sl_app, sl_app, ih, sl_app, sl_app]
    simp
theorem dirS_snoc (a : List Str) (x : Str) : sl (dirS (a ++ [x])) = sl (dirS a) ++ (sl x ++ [47]) := by
  rw [dirS_app]
  congr 1
  show sl (x ++ ⟨#[47]⟩ ++ ⟨#[]⟩) = _
  rw [sl_app, sl_app]
  simp
/-- no sign of it is a slash -/
def NoS (x : Str) : Prop := 47 ∉ sl x
theorem join_path (ds : List Str) (x : Str) : Str.join ⟨#[47]⟩ (ds ++ [x]) = dirS ds ++ x := by
  refine sl_inj ?_
  induction ds with
  | nil => simp [Str.join, dirS, sl_app]
  | cons n r ih =>
    cases r with
    | nil =>
      show sl (n ++ ⟨#[47]⟩ ++ Str.join ⟨#[47]⟩ [x]) = sl ((n ++ ⟨#[47]⟩ ++ ⟨#[]⟩) ++ x)
      rw [sl_app, sl_app, sl_app, sl_app, sl_app]
      simp [Str.join]
    | cons m r =>
      show sl (n ++ ⟨#[47]⟩ ++ Str.join ⟨#[47]⟩ ((m :: r) ++ [x])) = sl ((n ++ ⟨#[47]⟩ ++ dirS (m :: r)) ++ x)
      rw [sl_app, ih, sl_app, sl_app, sl_app, sl_app, sl_app]
      simp
theorem split_path {ds : List Str} {x : Str} (hd : ∀ d ∈ ds, NoS d) (hx : NoS x) : Txt.split (dirS ds ++ x) ⟨#[47]⟩ = ds ++ [x] := by
  rw [← join_path, ← TL.join_eq]
  refine TL.split_join (s := 47) (S := []) rfl (by decide +kernel) (by simp) fun p hp => ?_
  rcases List.mem_append.mp hp with h | h
  · exact hd p h
  · rw [List.mem_singleton.mp h]; exact hx
theorem at_iff (x : Str) (i : Nat) : StrLaws.At x ⟨#[47]⟩ x.length i ↔ (sl x)[i]? = some 47 := StrLaws.subAt_one x 47 i
/-- the last slash -/
theorem rfind_app {x : Str} {a b : List Nat} (e : sl x = a ++ 47 :: b) (hb : 47 ∉ b) : Txt.rfind x ⟨#[47]⟩ = (a.length : Int) := by
  unfold Txt.rfind
  rcases StrLaws.last_spec x ⟨#[47]⟩ with ⟨h1, h2⟩ | ⟨i, h1, h2, h3⟩
  · exact absurd ((at_iff x a.length).mpr (by rw [e]; simp)) (h2 a.length)
  · rw [h1]
    show (i : Int) = _
    have hi := (at_iff x i).mp h2
    have hna : ¬ i < a.length := fun hlt => h3 a.length hlt ((at_iff x a.length).mpr (by rw [e]; simp))
    rw [e, List.getElem?_append_right (by omega)] at hi
    cases hk : i - a.length with
    | zero => omega
    | succ k =>
      rw [hk, List.getElem?_cons_succ] at hi
      exact absurd (List.mem_of_getElem? hi) hb
theorem rfind_none {x : Str} (h : NoS x) : Txt.rfind x ⟨#[47]⟩ = -1 := by
  unfold Txt.rfind
  rcases StrLaws.last_spec x ⟨#[47]⟩ with ⟨h1, h2⟩ | ⟨i, h1, h2, h3⟩
  · rw [h1]
  · exact absurd (List.mem_of_getElem? ((at_iff x i).mp h2)) h
theorem dirS_end (ds : List Str) : sl (dirS ds) = [] ∧ ds = [] ∨ ∃ a, sl (dirS ds) = a ++ [47] := by
  rcases List.eq_nil_or_concat ds with rfl | ⟨l, x, rfl⟩
  · exact .inl ⟨rfl, rfl⟩
  · refine .inr ⟨sl (dirS l) ++ sl x, ?_⟩
    rw [List.concat_eq_append, dirS_snoc, List.append_assoc]
theorem rfind_path {ds : List Str} {x : Str} (hx : NoS x) : Txt.rfind (dirS ds ++ x) ⟨#[47]⟩ + 1 = ((sl (dirS ds)).length : Int) := by
  rcases dirS_end ds with ⟨h, rfl⟩ | ⟨a, h⟩
  · rw [h, rfind_none (by unfold NoS; rw [sl_app, h]; exact hx)]
    rfl
  · rw [rfind_app (a := a) (b := sl x) (by rw [sl_app, h]; simp) hx, h]
    simp
theorem cut_to {z : Str} {n : Nat} : sl (cutS z none (some (n : Int))) = (sl z).take n := by
  unfold cutS
  show List.take _ (List.drop _ (sl z)) = _
  rw [HT.sIx_nat, HT.sIx_none, List.drop_zero, Nat.sub_zero, len_sl]
  by_cases h : n ≤ (sl z).length
  · rw [Nat.min_eq_left h]
  · rw [Nat.min_eq_right (by omega), List.take_of_length_le (Nat.le_refl _), List.take_of_length_le (by omega)]
theorem folder_of_path {ds : List Str} {x : Str} (hx : NoS x) : cutS (dirS ds ++ x) none (some (Txt.rfind (dirS ds ++ x) ⟨#[47]⟩ + 1)) = dirS ds := by
  refine sl_inj ?_
  rw [rfind_path hx, cut_to, sl_app, List.take_left']
  rfl
theorem cut_last (z : Str) : sl (cutS z none (some (-1))) = (sl z).dropLast := by
  unfold cutS
  show List.take _ (List.drop _ (sl z)) = _
  have e : HT.sIx z.length z.length (some (-1)) = z.length - 1 := by
    show (if (-1 : Int) < 0 then ((-1 : Int) + (z.length : Int)).toNat else min (-1 : Int).toNat z.length) = _
    rw [if_pos (by decide)]
    omega
  rw [HT.sIx_none, List.drop_zero, Nat.sub_zero, e, len_sl, List.dropLast_eq_take]
theorem around_dir {ds : List Str} {x : Str} : cutS (dirS (ds ++ [x])) none (some (-1)) = dirS ds ++ x := by
  refine sl_inj ?_
  rw [cut_last, dirS_snoc, sl_app, ← List.append_assoc, List.dropLast_concat]
theorem ends_iff (x : Str) : Txt.endswith x ⟨#[47]⟩ = decide ((sl x).getLast? = some 47) := by
  have h1 : Txt.endswith x ⟨#[47]⟩ = (decide (0 + 1 ≤ x.length) && Builtin.Str.subAt x ⟨#[47]⟩ (x.length - 1)) := rfl
  rw [h1, Bool.eq_iff_iff, Bool.and_eq_true, decide_eq_true_eq, decide_eq_true_eq]
  have h2 := StrLaws.subAt_one x 47 (x.length - 1)
  rw [List.getLast?_eq_getElem?, ← len_sl]
  constructor
  · rintro ⟨a, b⟩
    exact h2.mp ⟨by show x.length - 1 + 1 ≤ _; omega, b⟩
  · intro h
    obtain ⟨a, b⟩ := h2.mpr h
    have a : x.length - 1 + 1 ≤ x.length := a
    exact ⟨by omega, b⟩
end My
end
section
set_option maxHeartbeats 4000000
/-! operators, read -/
namespace My
open PySem Mx L2
theorem okO_if {α : Type} {c : Prop} [Decidable c] {a : α} {h : Hh} {Q : α → Hh → Prop} : okO (if c then some (a, h) else none) Q ↔ c ∧ Q a h := by
  by_cases k : c
  · rw [if_pos k]; exact ⟨fun q => ⟨k, q⟩, fun q => q.2⟩
  · rw [if_neg k]; exact ⟨fun q => absurd q id, fun q => absurd q.1 k⟩
section
variable {P : U → Hh → Prop} {h : Hh} {s t : Str} {i j : Int} {p q : Nat} {xs ys us : List U} {b : Bool}
@[simp] theorem isS_str : isS (.str s) = true := rfl
@[simp] theorem o_addI : okO (opAdd (.int i) (.int j) h) P ↔ P (.int (i + j)) h := Iff.rfl
@[simp] theorem o_addII : okO (opAddI (.int i) (.int j) h) P ↔ P (.int (i + j)) h := Iff.rfl
@[simp] theorem o_addS : okO (opAdd (.str s) (.str t) h) P ↔ s.length + t.length ≤ sizeLine ∧ P (.str (s ++ t)) h := by
  show okO (if s.length + t.length ≤ sizeLine then some (.str (s ++ t), h) else none) P ↔ _
  rw [okO_if]
theorem o_addL (e1 : h.get p = some (.lst xs)) (e2 : h.get q = some (.lst ys)) : okO (opAdd (.loc p) (.loc q) h) P ↔ xs.length + ys.length ≤ sizeLine ∧ P (.loc h.size) (h.push (.lst (xs ++ ys))) := by
  have : opAdd (.loc p) (.loc q) h = if xs.length + ys.length ≤ sizeLine then some (.loc h.size, h.push (.lst (xs ++ ys))) else none := by
    unfold opAdd
    simp only [e1, e2]
  rw [this]
  rw [okO_if]
@[simp] theorem o_sub : okO (opSub (.int i) (.int j) h) P ↔ P (.int (i - j)) h := Iff.rfl
@[simp] theorem o_mul : okO (opMul (.int i) (.int j) h) P ↔ cMul i j = true ∧ P (.int (i * j)) h := by
  show okO (if cMul i j = true then some (.int (i * j), h) else none) P ↔ _
  rw [okO_if]
@[simp] theorem o_mulS : okO (opMul (.str s) (.int j) h) P ↔ mulOk s j = true ∧ P (.str (Txt.mul s j)) h := by
  show okO (if mulOk s j = true then some (.str (Txt.mul s j), h) else none) P ↔ _
  rw [okO_if]
@[simp] theorem o_mod : okO (opMod (.int i) (.int j) h) P ↔ 0 < j ∧ P (.int (i % j)) h := by
  show okO (if 0 < j then some (.int (i % j), h) else none) P ↔ _
  rw [okO_if]
@[simp] theorem o_div : okO (opDiv (.int i) (.int j) h) P ↔ (0 < j ∧ j < 1073741824) ∧ P (.int (i / j)) h := by
  show okO (if decide (0 < j) && decide (j < 1073741824) then some (.int (i / j), h) else none) P ↔ _
  rw [okO_if]; simp [and_assoc]
@[simp] theorem o_pow : okO (opPow (.int i) (.int j) h) P ↔ ((0 ≤ j ∧ j ≤ 1000) ∧ i.natAbs < 18446744073709551616) ∧ P (.int (i ^ j.toNat)) h := by
  show okO (if decide (0 ≤ j) && decide (j ≤ 1000) && decide (i.natAbs < 18446744073709551616) then some (.int (i ^ j.toNat), h) else none) P ↔ _
  rw [okO_if]; simp [and_assoc]
@[simp] theorem o_shr : okO (opShr (.int i) (.int j) h) P ↔ 0 ≤ j ∧ P (.int (i / 2 ^ j.toNat)) h := by
  show okO (if 0 ≤ j then some (.int (i / 2 ^ j.toNat), h) else none) P ↔ _
  rw [okO_if]
@[simp] theorem o_and : okO (opAnd (.int i) (.int j) h) P ↔ P (.int (Builtin.bitAnd i j)) h := Iff.rfl
@[simp] theorem o_neg : okO (opNeg (.int i) h) P ↔ P (.int (-i)) h := Iff.rfl
@[simp] theorem o_lt : okO (opLt (.int i) (.int j) h) P ↔ P (.bl (decide (i < j))) h := Iff.rfl
@[simp] theorem o_le : okO (opLe (.int i) (.int j) h) P ↔ P (.bl (decide (i ≤ j))) h := Iff.rfl
@[simp] theorem o_gt : okO (opGt (.int i) (.int j) h) P ↔ P (.bl (decide (j < i))) h := Iff.rfl
@[simp] theorem o_ge : okO (opGe (.int i) (.int j) h) P ↔ P (.bl (decide (j ≤ i))) h := Iff.rfl
/-- a text of signs that may be compared -/
abbrev Sok (s : Str) : Prop := (PyData.str s).canLay0 = true
theorem sh_str (hs : Sok s) : SeqAt.shaped (.str s) = true := by
  unfold SeqAt.shaped
  rw [hs]
  rfl
theorem eqD_str (hs : Sok s) (ht : Sok t) : eqD (.str s) (.str t) h = some (s == t) := by
  have e1 : toD 8 h (.str s) = some (.str s) := by rfl
  have e2 : toD 8 h (.str t) = some (.str t) := by rfl
  unfold eqD
  rw [e1, e2]
  dsimp only
  rw [sh_str hs, sh_str ht]
  rfl
theorem o_eqS (hs : Sok s) (ht : Sok t) : okO (opEq (.str s) (.str t) h) P ↔ P (.bl (s == t)) h := by
  unfold opEq
  rw [eqD_str hs ht]
  exact Iff.rfl
theorem o_neS (hs : Sok s) (ht : Sok t) : okO (opNe (.str s) (.str t) h) P ↔ P (.bl (!(s == t))) h := by
  unfold opNe
  rw [eqD_str hs ht]
  exact Iff.rfl
theorem eqD_int : eqD (.int i) (.int j) h = some (i == j) := by rfl
@[simp] theorem o_eqI : okO (opEq (.int i) (.int j) h) P ↔ P (.bl (i == j)) h := Iff.rfl
@[simp] theorem o_neI : okO (opNe (.int i) (.int j) h) P ↔ P (.bl (!(i == j))) h := Iff.rfl
@[simp] theorem o_eqB {c : Bool} : okO (opEq (.bl b) (.bl c) h) P ↔ P (.bl (b == c)) h := Iff.rfl
@[simp] theorem o_neB {c : Bool} : okO (opNe (.bl b) (.bl c) h) P ↔ P (.bl (!(b == c))) h := Iff.rfl
@[simp] theorem o_lenS : okO (mLen [.str s] h) P ↔ s.length ≤ sizeLine ∧ P (.int s.length) h := by
  show okO (if s.length ≤ sizeLine then some (.int s.length, h) else none) P ↔ _
  rw [okO_if]
theorem o_lenL (e : h.get p = some (.lst xs)) : okO (mLen [.loc p] h) P ↔ P (.int xs.length) h := by
  unfold mLen
  simp only [e]
  exact Iff.rfl
@[simp] theorem o_tup : okO (mTup xs h) P ↔ xs.length ≤ sizeLine ∧ P (.loc h.size) (h.push (.tup xs)) := by
  unfold mTup
  rw [okO_if]
@[simp] theorem o_lst : okO (mLst xs h) P ↔ xs.length ≤ sizeLine ∧ P (.loc h.size) (h.push (.lst xs)) := by
  unfold mLst
  rw [okO_if]
@[simp] theorem o_s1 {g : Str → Str → Option U} : okO (mS1 g (.str s) [.str t] h) P ↔ ∃ u, g s t = some u ∧ P u h := by
  show okO ((g s t).map fun u => (u, h)) P ↔ _
  simp
@[simp] theorem g_ends {u : U} : gEnds s t = some u ↔ .bl (Txt.endswith s t) = u := by simp [gEnds]
@[simp] theorem g_starts {u : U} : gStarts s t = some u ↔ .bl (Txt.startswith s t) = u := by simp [gStarts]
@[simp] theorem g_rfind {u : U} : gRfind s t = some u ↔ .int (Txt.rfind s t) = u := by simp [gRfind]
@[simp] theorem o_slS {lo hi : Option Int} : okO (mSl (.str s) lo hi h) P ↔ s.length ≤ sizeLine ∧ P (.str (cutS s lo hi)) h := by
  show okO (if s.length ≤ sizeLine then some (.str (cutS s lo hi), h) else none) P ↔ _
  rw [okO_if]
theorem o_slL {lo hi : Option Int} (e : h.get p = some (.lst xs)) : okO (mSl (.loc p) lo hi h) P ↔ P (.loc h.size) (h.push (.lst (cutU xs lo hi))) := by
  unfold mSl
  simp only [e]
  exact Iff.rfl
theorem o_ixL (e : h.get p = some (.lst xs)) : okO (opIx (.loc p) (.int i) h) P ↔ ∃ u, atI xs i = some u ∧ P u h := by
  unfold opIx
  simp only [e]
  simp
theorem o_ixT (e : h.get p = some (.tup xs)) : okO (opIx (.loc p) (.int i) h) P ↔ ∃ u, atI xs i = some u ∧ P u h := by
  unfold opIx
  simp only [e]
  simp
@[simp] theorem o_ixS : okO (opIx (.str s) (.int i) h) P ↔ s.length ≤ sizeLine ∧ ∃ c, atI (sl s) i = some c ∧ P (.str ⟨#[c]⟩) h := by
  show okO (if s.length ≤ sizeLine then (atI (sl s) i).map fun c => (U.str ⟨#[c]⟩, h) else none) P ↔ _
  by_cases k : s.length ≤ sizeLine
  · rw [if_pos k]; simp [k]
  · rw [if_neg k]; simp [k]
theorem o_append (e : h.get p = some (.lst xs)) {x : U} : okO (mAppend (.loc p) [x] h) P ↔ xs.length < sizeLine ∧ P .non (h.set p (.lst (xs ++ [x]))) := by
  have : mAppend (.loc p) [x] h = if xs.length < sizeLine then some (.non, h.set p (.lst (xs ++ [x]))) else none := by
    unfold mAppend
    simp only [e]
  rw [this]
  rw [okO_if]
theorem isL_get (e : h.get p = some (.lst xs)) : isL (.loc p) h = true := by
  unfold isL
  simp only [e]
@[simp] theorem o_split : okO (mSplit (.str s) [.str t] h) P ↔ ((t.length ≠ 0) ∧ s.length + 2 ≤ sizeLine) ∧ P (.loc h.size) (h.push (.lst ((Txt.split s t).map U.str))) := by
  show okO (if !(t.length == 0) && decide (s.length + 2 ≤ sizeLine) then some (U.loc h.size, h.push (.lst ((Txt.split s t).map U.str))) else none) P ↔ _
  rw [okO_if]; simp [and_assoc]
end
end My
end
section
set_option maxHeartbeats 4000000
/-! targets, walks -/
namespace My
open PySem Mx L2
@[simp] theorem Ext_refl {h : Hh} : Ext h h := Ext.refl
@[simp] theorem Ext_push {h : Hh} {o : Ob} : Ext h (h.push o) := Ext.push
@[simp] theorem iB_iff {h : Hh} {u : U} {b : Bool} : iB h u b ↔ u = .bl b := Iff.rfl
@[simp] theorem iS_iff {h : Hh} {u : U} {b : Str} : iS h u b ↔ u = .str b := Iff.rfl
@[simp] theorem iI_iff {h : Hh} {u : U} {b : Int} : iI h u b ↔ u = .int b := Iff.rfl
section
variable {us : Sl} {h : Hh} {u : U} {Q : Sl → Hh → Prop} {i j k : Nat} {e : EM} {cs : AM} {QI : ItM → Hh → Prop} {p q : Nat} {xs ys : List U} {s : Str} {x y z : U}
@[simp] theorem ok_gName : ok (gName i u us h) Q ↔ Q (us.set i (some u)) h := Iff.rfl
theorem ok_gTup2 (e : h.get p = some (.tup [x, y])) : ok (gTup [gName i, gName j] (.loc p) us h) Q ↔ Q ((us.set i (some x)).set j (some y)) h := by
  unfold Mx.gTup
  simp only [e]
  simp [gEach]
theorem ok_gTup3 (e : h.get p = some (.tup [x, y, z])) : ok (gTup [gName i, gName j, gName k] (.loc p) us h) Q ↔ Q (((us.set i (some x)).set j (some y)).set k (some z)) h := by
  unfold Mx.gTup
  simp only [e]
  simp [gEach]
@[simp] theorem ok_iSeq : ok (iSeq e us h) QI ↔ ok (e us h) fun x h1 => ok (mkIt x h1) QI := by unfold iSeq; simp
@[simp] theorem ok_iCall {m : List U → Hh → Res ItM} : ok (iCall m cs us h) QI ↔ ok (cs us h) fun x h1 => ok (m x h1) QI := by unfold iCall; simp
@[simp] theorem mkIt_str : ok (mkIt (.str s) h) QI ↔ QI (.str s) h := Iff.rfl
theorem mkIt_lst (e : h.get p = some (.lst xs)) : ok (mkIt (.loc p) h) QI ↔ QI (.lst p) h := by
  unfold mkIt
  simp only [e]
  exact Iff.rfl
theorem mkIt_tup (e : h.get p = some (.tup xs)) : ok (mkIt (.loc p) h) QI ↔ QI (.tup p) h := by
  unfold mkIt
  simp only [e]
  exact Iff.rfl
theorem mkEn_lst (e : h.get p = some (.lst xs)) : ok (mkEn [.loc p] h) QI ↔ QI (.enum p) h := by
  unfold mkEn
  simp only [e]
  exact Iff.rfl
theorem mkZp_lst (e : h.get p = some (.lst xs)) (e2 : h.get q = some (.lst ys)) : ok (mkZp [.loc p, .loc q] h) QI ↔ QI (.zip p q) h := by
  unfold mkZp
  simp only [e, e2]
  exact Iff.rfl
theorem nx_lst (e : h.get p = some (.lst xs)) : nxt (.lst p) i h = some ((xs[i]?).map fun u => (u, h)) := by
  unfold nxt
  simp only [e]
theorem nx_tup (e : h.get p = some (.tup xs)) : nxt (.tup p) i h = some ((xs[i]?).map fun u => (u, h)) := by
  unfold nxt
  simp only [e]
theorem nx_str : nxt (.str s) i h = some (((sl s)[i]?).map fun c => (.str ⟨#[c]⟩, h)) := by
  unfold nxt sl
  simp
theorem nx_enum (e : h.get p = some (.lst xs)) : nxt (.enum p) i h = some ((xs[i]?).map fun u => (.loc h.size, h.push (.tup [.int (i : Nat), u]))) := by
  unfold nxt
  simp only [e]
end
theorem Pnth {α β : Type} {F : α → β → Prop} {l : List α} {m : List β} (p : Paired F l m) {i : Nat} {b : β} (e : m[i]? = some b) : ∃ a, l[i]? = some a ∧ F a b := by
  induction p generalizing i with
  | nil => simp at e
  | cons r t ih =>
    cases i with
    | zero => simp at e; subst e; exact ⟨_, rfl, r⟩
    | succ i => exact ih (by simpa using e)
section
variable {α β : Type} {A : Pd α} {F : Pd β} [Mono A] [Mono F] {h : Hh} {g : GM} {t : TM} {e : EM} {usw : Sl} {P : List U → Hh → Prop} {p : Nat} {us : List U} {xs : List α} {s : Str}
/-- [e for .. in a list if t] -/
theorem lc_list (c : α → Bool) (f : α → β) (hp : h.get p = some (.lst us)) (hr : Paired (A h) us xs) (l : xs.length < 1000000)
    (hs : ∀ x u h', x ∈ xs → Ext h h' → A h' u x → ok (g u usw h') fun us1 h2 => Ext h' h2 ∧ ok (t us1 h2) fun b h3 => b = c x ∧ Ext h2 h3 ∧ (c x = true → ok (e us1 h3) fun y h4 => Ext h3 h4 ∧ F h4 y (f x)))
    (q : ∀ ys h', Ext h h' → Paired (F h') ys ((xs.filter c).map f) → P ys h') : ok (lcL (.lst p) g t e usw fuel 0 [] h) P := by
  refine lc_map c f l (fun h' hx => ?_) (fun i x h' ex hx => ?_) q
  · rw [nx_lst (hx.get hp), ← Paired.length hr]
    simp
  · obtain ⟨u, eu, ru⟩ := Pnth hr ex
    exact ⟨u, h', by rw [nx_lst (hx.get hp), eu]; rfl, Ext.refl, hs x u h' (List.mem_of_getElem? ex) hx (Mono.mono hx ru)⟩
/-- .. over a text's signs -/
theorem lc_str (c : Nat → Bool) (f : Nat → β) (l : (sl s).length < 1000000)
    (hs : ∀ x h', x ∈ sl s → Ext h h' → ok (g (.str ⟨#[x]⟩) usw h') fun us1 h2 => Ext h' h2 ∧ ok (t us1 h2) fun b h3 => b = c x ∧ Ext h2 h3 ∧ (c x = true → ok (e us1 h3) fun y h4 => Ext h3 h4 ∧ F h4 y (f x)))
    (q : ∀ ys h', Ext h h' → Paired (F h') ys (((sl s).filter c).map f) → P ys h') : ok (lcL (.str s) g t e usw fuel 0 [] h) P := by
  refine lc_map c f l (fun h' hx => ?_) (fun i x h' ex hx => ?_) q
  · rw [nx_str]
    simp
  · exact ⟨_, h', by rw [nx_str, ex]; rfl, Ext.refl, hs x h' (List.mem_of_getElem? ex) hx⟩
end
theorem Peq {α : Type} {f : α → U} {h : Hh} {us : List U} {xs : List α} (p : Paired (fun u x => u = f x) us xs) : us = xs.map f := by
  induction p with
  | nil => rfl
  | cons r _ ih => rw [r, ih]; rfl
theorem PiS {us : List U} {xs : List Str} {h : Hh} (p : Paired (iS h) us xs) : us = xs.map U.str := Peq (h := h) p
theorem PiB {us : List U} {xs : List Bool} {h : Hh} (p : Paired (iB h) us xs) : us = xs.map U.bl := Peq (h := h) p
theorem PiI {us : List U} {xs : List Int} {h : Hh} (p : Paired (iI h) us xs) : us = xs.map U.int := Peq (h := h) p
theorem PS {h : Hh} (xs : List Str) : Paired (iS h) (xs.map U.str) xs := by
  induction xs with
  | nil => exact .nil
  | cons x r ih => exact .cons rfl ih
theorem PI {h : Hh} (xs : List Int) : Paired (iI h) (xs.map U.int) xs := by
  induction xs with
  | nil => exact .nil
  | cons x r ih => exact .cons rfl ih
theorem allB_map (bs : List Bool) : allB (bs.map U.bl) = some bs := by
  induction bs with
  | nil => rfl
  | cons b r ih => show (allB (r.map U.bl)).map (b :: ·) = _; rw [ih]; rfl
theorem allI_map (bs : List Int) : allI (bs.map U.int) = some bs := by
  induction bs with
  | nil => rfl
  | cons b r ih => show (allI (r.map U.int)).map (b :: ·) = _; rw [ih]; rfl
theorem allS_map (bs : List Str) : allS (bs.map U.str) = some bs := by
  induction bs with
  | nil => rfl
  | cons b r ih => show (allS (r.map U.str)).map (b :: ·) = _; rw [ih]; rfl
section
variable {P : U → Hh → Prop} {h : Hh} {p : Nat} {bs : List Bool} {is : List Int}
theorem o_all (e : h.get p = some (.lst (bs.map U.bl))) : okO (mAll [.loc p] h) P ↔ P (.bl (bs.all id)) h := by
  unfold mAll lstAt
  simp only [e, Option.bind_some, allB_map]
  exact Iff.rfl
theorem o_any (e : h.get p = some (.lst (bs.map U.bl))) : okO (mAny [.loc p] h) P ↔ P (.bl (bs.any id)) h := by
  unfold mAny lstAt
  simp only [e, Option.bind_some, allB_map]
  exact Iff.rfl
theorem o_sum (e : h.get p = some (.lst (is.map U.int))) : okO (mSum [.loc p] h) P ↔ P (.int is.sum) h := by
  unfold mSum lstAt
  simp only [e, Option.bind_some, allI_map]
  exact Iff.rfl
@[simp] theorem o_abs {i : Int} : okO (mAbs [.int i] h) P ↔ P (.int (if i < 0 then -i else i)) h := Iff.rfl
@[simp] theorem o_min {i j : Int} : okO (mMin [.int i, .int j] h) P ↔ P (.int (if j < i then j else i)) h := Iff.rfl
@[simp] theorem o_max {i j : Int} : okO (mMax [.int i, .int j] h) P ↔ P (.int (if j > i then j else i)) h := Iff.rfl
@[simp] theorem o_intB {b : Bool} : okO (mInt [.bl b] h) P ↔ P (.int (if b then 1 else 0)) h := Iff.rfl
theorem isiS (s : Str) (h : Hh) : mIsi "str" (.str s) h = some (.bl true, h) := by
  have e : isaT "str" "str" = some true := by decide +kernel
  show (isaT "str" "str").map (fun b => (U.bl b, h)) = _
  rw [e]
  rfl
@[simp] theorem o_isiS {s : Str} : okO (mIsi "str" (.str s) h) P ↔ P (.bl true) h := by
  rw [isiS]
  exact Iff.rfl
@[simp] theorem o_inK {s : Str} {zs : List Str} : okO (mInK zs false (.str s) h) P ↔ P (.bl (decide (s ∈ zs))) h := Iff.rfl
@[simp] theorem wipeU_nil {us : Sl} : wipeU us [] = us := rfl
@[simp] theorem wipeU_cons {us : Sl} {v : Nat} {vs : List Nat} : wipeU us (v :: vs) = (wipeU us vs).set v none := rfl
@[simp] theorem o_in {x y : U} : okO (opIn x y h) P ↔ ∃ b, inB x y h = some b ∧ P (.bl b) h := by unfold opIn; simp
@[simp] theorem o_nin {x y : U} : okO (opNin x y h) P ↔ ∃ b, inB x y h = some b ∧ P (.bl (!b)) h := by unfold opNin; simp
end
end My
end
section
set_option maxHeartbeats 4000000
/-! data read as PyData; keys of a sort -/
namespace My
open PySem Mx L2
/-- what P tells is the datum enc a, n deep -/
structure Dat {α : Type} (P : Pd α) (n : Nat) (enc : α → PyData) : Prop where
  to : ∀ {h u a}, P h u a → toD n h u = some (enc a)
theorem mapM_pair {α : Type} {f : U → Option PyData} {g : α → PyData} : ∀ {us : List U} {xs : List α}, Paired (fun u a => f u = some (g a)) us xs → us.mapM f = some (xs.map g)
  | _, _, .nil => rfl
  | _, _, .cons r t => by
    rw [List.mapM_cons, r, mapM_pair t]
    rfl
section
variable {α β γ : Type} {P : Pd α} {Q : Pd β} {R : Pd γ} {n : Nat} {f : α → PyData} {g : β → PyData} {k : γ → PyData}
theorem dS (n : Nat) : Dat iS n PyData.str := ⟨fun {h u a} e => by
  have e : u = .str a := e
  subst e
  cases n <;> rfl⟩
theorem dI (n : Nat) : Dat iI n PyData.int := ⟨fun {h u a} e => by
  have e : u = .int a := e
  subst e
  cases n <;> rfl⟩
theorem dB (n : Nat) : Dat iB n PyData.bool := ⟨fun {h u a} e => by
  have e : u = .bl a := e
  subst e
  cases n <;> rfl⟩
theorem dL (d : Dat P n f) : Dat (iL P) (n + 1) fun xs => .list (xs.map f) := ⟨fun {h u a} ⟨p, us, e, hp, r⟩ => by
  subst e
  show (match h.get p with | some (.lst xs) => (xs.mapM (toD n h)).map PyData.list | some (.tup xs) => (xs.mapM (toD n h)).map PyData.tuple | _ => none) = _
  simp only [hp]
  rw [mapM_pair (Pm r fun _ _ => d.to)]
  rfl⟩
theorem dT2 (d : Dat P n f) (d2 : Dat Q n g) : Dat (iT2 P Q) (n + 1) fun x => .tuple [f x.1, g x.2] := ⟨fun {h u a} ⟨p, x, y, e, hp, r, s⟩ => by
  subst e
  show (match h.get p with | some (.lst xs) => (xs.mapM (toD n h)).map PyData.list | some (.tup xs) => (xs.mapM (toD n h)).map PyData.tuple | _ => none) = _
  simp only [hp]
  simp [d.to r, d2.to s]⟩
theorem dT3 (d : Dat P n f) (d2 : Dat Q n g) (d3 : Dat R n k) : Dat (iT3 P Q R) (n + 1) fun x => .tuple [f x.1, g x.2.1, k x.2.2] := ⟨fun {h u a} ⟨p, x, y, z, e, hp, r, s, t⟩ => by
  subst e
  show (match h.get p with | some (.lst xs) => (xs.mapM (toD n h)).map PyData.list | some (.tup xs) => (xs.mapM (toD n h)).map PyData.tuple | _ => none) = _
  simp only [hp]
  simp [d.to r, d2.to s, d3.to t]⟩
/-- a list of pairs told by a comprehension -/
theorem iL_mk {h : Hh} {us : List U} {xs : List α} (p : Paired (P h) us xs) [Mono P] : iL P (h.push (.lst us)) (.loc h.size) xs := ⟨_, us, rfl, get_push_size, Pm p fun _ _ => Mono.mono Ext.push⟩
theorem iT2_mk {h : Hh} {u w : U} {a : α} {b : β} [Mono P] [Mono Q] (r : P h u a) (s : Q h w b) : iT2 P Q (h.push (.tup [u, w])) (.loc h.size) (a, b) := ⟨_, u, w, rfl, get_push_size, Mono.mono Ext.push r, Mono.mono Ext.push s⟩
theorem iT3_mk {h : Hh} {u w v : U} {a : α} {b : β} {c : γ} [Mono P] [Mono Q] [Mono R] (r : P h u a) (s : Q h w b) (t : R h v c) : iT3 P Q R (h.push (.tup [u, w, v])) (.loc h.size) (a, b, c) := ⟨_, u, w, v, rfl, get_push_size, Mono.mono Ext.push r, Mono.mono Ext.push s, Mono.mono Ext.push t⟩
end
/-- a key of a text -/
theorem keyOf_str {F : FM} {s : Str} {h : Hh} {d : PyData} (k : ok (F [.str s] ⟨[]⟩) fun u h' => toD 8 h' u = some d) : keyOf F h (.str s) = some d := by
  obtain ⟨u, h', e, q⟩ := ok_get k
  show (if flatU (.str s) then Mx.runKey F (.str s) ⟨[]⟩ else none) = _
  rw [if_pos (by rfl)]
  unfold Mx.runKey
  rw [e]
  exact q
end My
end
section
set_option maxHeartbeats 4000000
/-! dicts with texts as keys -/
namespace My
open PySem Mx L2
abbrev Tb (α : Type) := List (Str × α)
def thas {α : Type} (m : Tb α) (k : Str) : Bool := m.any fun x => decide (x.1 = k)
def tget {α : Type} (m : Tb α) (k : Str) : Option α := (m.find? fun x => decide (x.1 = k)).map (·.2)
def tput {α : Type} (m : Tb α) (k : Str) (v : α) : Tb α := if thas m k = true then m.map (fun x => if x.1 = k then (x.1, v) else x) else m ++ [(k, v)]
/-- kvs tells m -/
abbrev TR {α : Type} (R : U → α → Prop) : List (Key × U) → Tb α → Prop := Paired fun kv x => kv.1 = Sum.inr x.1 ∧ R kv.2 x.2
section
variable {α : Type} {R : U → α → Prop} {k : Str}
theorem key_dec {a : Key} {s : Str} (e : a = Sum.inr s) : decide (a = Sum.inr k) = decide (s = k) := by
  subst e
  by_cases h : s = k
  · rw [h]; simp
  · rw [decide_eq_false h, decide_eq_false fun z => h (Sum.inr.inj z)]
theorem tr_has : ∀ {kvs : List (Key × U)} {m : Tb α}, TR R kvs m → hasK kvs (.inr k) = thas m k
  | _, _, .nil => rfl
  | _, _, .cons r t => by
    show (decide _ || hasK _ _) = (decide _ || thas _ _)
    rw [tr_has t, key_dec r.1]
theorem tr_get : ∀ {kvs : List (Key × U)} {m : Tb α}, TR R kvs m → (tget m k = none → getK kvs (.inr k) = none) ∧ ∀ a, tget m k = some a → ∃ u, getK kvs (.inr k) = some u ∧ R u a
  | _, _, .nil => ⟨fun _ => rfl, fun a e => by cases e⟩
  | _, _, .cons (a := kv) (b := x) (l₁ := kvs) (l₂ := m) r t => by
    have ih := tr_get t
    have hd := key_dec (k := k) r.1
    by_cases h : x.1 = k
    · rw [decide_eq_true h] at hd
      have e1 : getK (kv :: kvs) (.inr k) = some kv.2 := by unfold getK; rw [List.find?_cons_of_pos (by simpa using hd)]; rfl
      have e2 : tget (x :: m) k = some x.2 := by unfold tget; rw [List.find?_cons_of_pos (by simpa using h)]; rfl
      rw [e1, e2]
      exact ⟨(fun z => by cases z), (fun a z => by cases z; exact ⟨_, rfl, r.2⟩)⟩
    · rw [decide_eq_false h] at hd
      have e1 : getK (kv :: kvs) (.inr k) = getK kvs (.inr k) := by unfold getK; rw [List.find?_cons_of_neg (by simp [hd])]
      have e2 : tget (x :: m) k = tget m k := by unfold tget; rw [List.find?_cons_of_neg (by simp [h])]
      rw [e1, e2]
      exact ih
theorem tr_map {u : U} {v : α} (r : R u v) : ∀ {kvs : List (Key × U)} {m : Tb α}, TR R kvs m → TR R (kvs.map fun kv => if kv.1 = .inr k then (kv.1, u) else kv) (m.map fun x => if x.1 = k then (x.1, v) else x)
  | _, _, .nil => .nil
  | _, _, .cons (a := kv) (b := x) q t => by
    refine .cons ?_ (tr_map r t)
    have hd := key_dec (k := k) q.1
    dsimp only
    by_cases h : x.1 = k
    · rw [if_pos h, if_pos (by rw [q.1, h])]
      exact ⟨q.1, r⟩
    · rw [if_neg h, if_neg (by rw [q.1]; exact fun z => h (Sum.inr.inj z))]
      exact q
theorem tr_put {u : U} {v : α} (r : R u v) {kvs : List (Key × U)} {m : Tb α} (t : TR R kvs m) : TR R (putU kvs (.inr k) u) (tput m k v) := by
  unfold putU tput
  rw [tr_has t]
  split
  · exact tr_map r t
  · exact Papp t (.cons ⟨rfl, r⟩ .nil)
theorem thas_get (m : Tb α) : thas m k = (tget m k).isSome := by
  induction m with
  | nil => rfl
  | cons x r ih =>
    unfold thas tget at *
    by_cases h : x.1 = k
    · rw [List.any_cons, decide_eq_true h, List.find?_cons_of_pos (by simpa using h)]
      rfl
    · rw [List.any_cons, decide_eq_false h, List.find?_cons_of_neg (by simp [h]), ← ih, Bool.false_or]
theorem keyU_str : keyU (.str k) = some (Sum.inr k) := rfl
section
variable {P : U → Hh → Prop} {h : Hh} {p : Nat} {kvs : List (Key × U)} {b : Bool} {z u : U}
theorem isDc_get (e : h.get p = some (.dic b kvs)) : isDc (.loc p) h = true := by
  unfold isDc
  simp only [e]
theorem o_get (e : h.get p = some (.dic b kvs)) : okO (mGet (.loc p) (.str k) z h) P ↔ P ((getK kvs (.inr k)).getD z) h := by
  unfold mGet
  simp only [e]
  exact Iff.rfl
theorem o_setd (e : h.get p = some (.dic false kvs)) (l : kvs.length < sizeLine) : okO (mSetd (.loc p) (.str k) z h) P ↔ (match getK kvs (.inr k) with | some v => P v h | none => P z (h.set p (.dic false (putU kvs (.inr k) z)))) := by
  have : mSetd (.loc p) (.str k) z h = (match getK kvs (.inr k) with | some v => some (v, h) | none => some (z, h.set p (.dic false (putU kvs (.inr k) z)))) := by
    unfold mSetd
    simp only [e, keyU_str, Option.bind_some]
    rw [if_pos l] <;> cases getK kvs (.inr k) <;> rfl
  rw [this]
  cases getK kvs (.inr k) <;> exact Iff.rfl
theorem o_put (e : h.get p = some (.dic false kvs)) (l : kvs.length < sizeLine) : mPut (.loc p) (.str k) u h = some (h.set p (.dic false (putU kvs (.inr k) u))) := by
  unfold mPut
  simp only [e, keyU_str, Option.bind_some]
  rw [if_pos l]
theorem o_ixD (e : h.get p = some (.dic b kvs)) : okO (opIx (.loc p) (.str k) h) P ↔ ∃ u, getK kvs (.inr k) = some u ∧ P u h := by
  unfold opIx
  simp only [e]
  simp [keyU_str]
theorem in_dic (e : h.get p = some (.dic b kvs)) : inB (.str k) (.loc p) h = some (hasK kvs (.inr k)) := by
  unfold inB
  simp only [e]
  rfl
end
end
theorem eqU_str (s t : Str) : eqU' (.str s) (.str t) = (s == t) := rfl
theorem flat_strs (xs : List Str) : (xs.map U.str).all flatU = true := by
  rw [List.all_eq_true]
  intro u hu
  obtain ⟨s, _, rfl⟩ := List.mem_map.mp hu
  rfl
theorem in_lst {h : Hh} {p : Nat} {xs : List Str} {s : Str} (e : h.get p = some (.lst (xs.map U.str))) : inB (.str s) (.loc p) h = some (decide (s ∈ xs)) := by
  unfold inB
  simp only [e]
  rw [if_pos (by rw [flat_strs]; rfl)]
  congr 1
  rw [Bool.eq_iff_iff, decide_eq_true_eq, List.any_eq_true]
  constructor
  · rintro ⟨u, hu, e⟩
    obtain ⟨t, ht, rfl⟩ := List.mem_map.mp hu
    rw [eqU_str, beq_iff_eq] at e
    rwa [← e]
  · intro hm
    exact ⟨.str s, List.mem_map.mpr ⟨s, hm, rfl⟩, by rw [eqU_str, beq_self_eq_true]⟩
end My
end
section
set_option maxHeartbeats 4000000
/-! typed data: operators told by what stands in the heap -/
namespace My
open PySem Mx L2
theorem up {α : Type} {P : Pd α} [Mono P] {h h' : Hh} {u : U} {a : α} (x : Ext h h') (r : P h u a) : P h' u a := Mono.mono x r
theorem okO_mono {α : Type} {o : Option (α × Hh)} {Q Q' : α → Hh → Prop} (k : okO o Q) (f : ∀ a h, Q a h → Q' a h) : okO o Q' := by
  cases o with
  | none => exact k
  | some x => exact f _ _ k
theorem okS_cut {a b : SM} {us : Sl} {h : Hh} {Q : Sl → Hh → Prop} {R : U → Hh → Prop} (Q1 : Sl → Hh → Prop) (k1 : okS (a us h) Q1 R) (k2 : ∀ us h, Q1 us h → okS (b us h) Q R) : okS (sSeq a b us h) Q R := okS_seq.mpr (okS_mono k1 k2 fun _ _ r => r)
def cutT {α : Type} (xs : List α) (lo hi : Option Int) : List α := (xs.drop (HT.sIx xs.length 0 lo)).take (HT.sIx xs.length xs.length hi - HT.sIx xs.length 0 lo)
theorem Pdrop {α β : Type} {F : α → β → Prop} : ∀ (n : Nat) {l : List α} {m : List β}, Paired F l m → Paired F (l.drop n) (m.drop n)
  | 0, _, _, p => p
  | n + 1, _, _, .nil => .nil
  | n + 1, _, _, .cons _ t => Pdrop n t
theorem Ptake' {α β : Type} {F : α → β → Prop} : ∀ (n : Nat) {l : List α} {m : List β}, Paired F l m → Paired F (l.take n) (m.take n)
  | 0, _, _, p => by cases p <;> exact .nil
  | n + 1, _, _, .nil => .nil
  | n + 1, _, _, .cons r t => .cons r (Ptake' n t)
theorem Prev {α β : Type} {F : α → β → Prop} : ∀ {l : List α} {m : List β}, Paired F l m → Paired F l.reverse m.reverse
  | _, _, .nil => .nil
  | _, _, .cons r t => by
    rw [List.reverse_cons, List.reverse_cons]
    exact Papp (Prev t) (.cons r .nil)
theorem Plen {α β : Type} {F : α → β → Prop} {l : List α} {m : List β} (p : Paired F l m) : l.length = m.length := Paired.length p
theorem Pmap {α β γ : Type} {F : α → β → Prop} {G : α → γ → Prop} (f : β → γ) (hf : ∀ a b, F a b → G a (f b)) : ∀ {l : List α} {m : List β}, Paired F l m → Paired G l (m.map f)
  | _, _, .nil => .nil
  | _, _, .cons r t => .cons (hf _ _ r) (Pmap f hf t)
theorem PmapL {α β γ : Type} {F : α → β → Prop} {G : γ → β → Prop} (f : α → γ) (hf : ∀ a b, F a b → G (f a) b) : ∀ {l : List α} {m : List β}, Paired F l m → Paired G (l.map f) m
  | _, _, .nil => .nil
  | _, _, .cons r t => .cons (hf _ _ r) (PmapL f hf t)
theorem Patl {α β : Type} {F : α → β → Prop} {l : List α} {m : List β} (p : Paired F l m) {i : Int} {b : β} (e : atI m i = some b) : ∃ a, atI l i = some a ∧ F a b := by
  unfold atI at e ⊢
  rw [Plen p]
  cases q : ixN m.length i with
  | none => rw [q] at e; cases e
  | some j => rw [q] at e; exact Pnth p e
section
variable {α β γ : Type} {P : Pd α} {Q : Pd β} {R : Pd γ} {h h' : Hh} {u v w : U} {xs ys : List α} {K : U → Hh → Prop} {k s : Str}
theorem t_len (r : iL P h u xs) (k : K (.int xs.length) h) : okO (mLen [u] h) K := by
  obtain ⟨p, us, rfl, hp, r⟩ := r
  rw [o_lenL hp, Plen r]
  exact k
theorem t_isL (r : iL P h u xs) : isL u h = true := by
  obtain ⟨p, us, rfl, hp, r⟩ := r
  exact isL_get hp
theorem t_in {xs : List Str} (r : iL iS h u xs) : inB (.str s) u h = some (decide (s ∈ xs)) := by
  obtain ⟨p, us, rfl, hp, r⟩ := r
  rw [PiS r] at hp
  exact in_lst hp
theorem t_add [Mono P] (r : iL P h u xs) (s : iL P h v ys) (l : xs.length + ys.length ≤ 16777216) (k : ∀ w h', Ext h h' → iL P h' w (xs ++ ys) → K w h') : okO (opAdd u v h) K := by
  obtain ⟨p, us, rfl, hp, r⟩ := r
  obtain ⟨q, ws, rfl, hq, s⟩ := s
  rw [o_addL hp hq]
  refine ⟨by rw [Plen r, Plen s, sizeLine_eq]; exact l, k _ _ Ext.push (iL_mk (Papp r s))⟩
theorem t_ix (r : iL P h u xs) {i : Int} {x : α} (e : atI xs i = some x) (k : ∀ w, P h w x → K w h) : okO (opIx u (.int i) h) K := by
  obtain ⟨p, us, rfl, hp, r⟩ := r
  obtain ⟨a, ea, ra⟩ := Patl r e
  rw [o_ixL hp]
  exact ⟨a, ea, k a ra⟩
theorem t_sl [Mono P] (r : iL P h u xs) {lo hi : Option Int} (k : ∀ w h', Ext h h' → iL P h' w (cutT xs lo hi) → K w h') : okO (mSl u lo hi h) K := by
  obtain ⟨p, us, rfl, hp, r⟩ := r
  rw [o_slL hp]
  refine k _ _ Ext.push (iL_mk ?_)
  unfold cutU cutT
  rw [Plen r]
  exact Ptake' _ (Pdrop _ r)
theorem t_rev [Mono P] (r : iL P h u xs) (k : ∀ w h', Ext h h' → iL P h' w xs.reverse → K w h') : okO (mRev u h) K := by
  obtain ⟨p, us, rfl, hp, r⟩ := r
  have : mRev (.loc p) h = some (.loc h.size, h.push (.lst us.reverse)) := by unfold mRev; simp only [hp]
  rw [this]
  exact k _ _ Ext.push (iL_mk (Prev r))
theorem t_list [Mono P] (r : iL P h u xs) (k : ∀ h', Ext h h' → (∀ us, h'.get h.size = some (.lst us) → Paired (P h') us xs) → iL P h' (.loc h.size) xs → K (.loc h.size) h') : okO (mList [u] h) K := by
  obtain ⟨p, us, rfl, hp, r⟩ := r
  have : mList [.loc p] h = some (.loc h.size, h.push (.lst us)) := by unfold mList; simp only [hp]
  rw [this]
  refine k _ Ext.push (fun us' e => ?_) (iL_mk r)
  rw [get_push_size] at e
  cases e
  exact Pm r fun _ _ => Mono.mono Ext.push
theorem t_listD {m : Tb α} (r : iD P h u m) (k : ∀ w h', Ext h h' → iL iS h' w (m.map (·.1)) → K w h') : okO (mList [u] h) K := by
  obtain ⟨p, us, rfl, hp, r⟩ := r
  have : mList [.loc p] h = some (.loc h.size, h.push (.lst (us.map fun kv => keyV kv.1))) := by unfold mList; simp only [hp]
  rw [this]
  refine k _ _ Ext.push (iL_mk (P := iS) ?_)
  exact PmapL _ (fun a b e => by rw [e]; rfl) (Pmap (G := fun a b => a.1 = Sum.inr b) (·.1) (fun a b e => e.1) r)
theorem t_it {QI : ItM → Hh → Prop} (r : iL P h u xs) (k : ∀ p us, u = .loc p → h.get p = some (.lst us) → Paired (P h) us xs → QI (.lst p) h) : ok (mkIt u h) QI := by
  obtain ⟨p, us, rfl, hp, r⟩ := r
  rw [mkIt_lst hp]
  exact k p us rfl hp r
theorem t_en {QI : ItM → Hh → Prop} (r : iL P h u xs) (k : ∀ p us, u = .loc p → h.get p = some (.lst us) → Paired (P h) us xs → QI (.enum p) h) : ok (mkEn [u] h) QI := by
  obtain ⟨p, us, rfl, hp, r⟩ := r
  rw [mkEn_lst hp]
  exact k p us rfl hp r
/-- [e for .. in a list if t] -/
theorem t_lc [Mono P] [Mono Q] {g : GM} {t : TM} {e : EM} {usw : Sl} (c : α → Bool) (f : α → β) (r : iL P h u xs) (l : xs.length < 1000000)
    (hs : ∀ x w h', x ∈ xs → Ext h h' → P h' w x → ok (g w usw h') fun us1 h2 => Ext h' h2 ∧ ok (t us1 h2) fun b h3 => b = c x ∧ Ext h2 h3 ∧ (c x = true → ok (e us1 h3) fun y h4 => Ext h3 h4 ∧ Q h4 y (f x)))
    {PK : List U → Hh → Prop} (q : ∀ ys h', Ext h (h'.push (.lst ys)) → iL Q (h'.push (.lst ys)) (.loc h'.size) ((xs.filter c).map f) → PK ys h') : ok (mkIt u h) fun m h1 => ok (lcL m g t e usw fuel 0 [] h1) PK := by
  refine t_it r fun p us e hp rr => ?_
  exact lc_list c f hp rr l hs fun ys h' he hy => q _ _ he.pushR (iL_mk hy)
/-- [e for .. in a list] -/
theorem t_lc1 [Mono P] [Mono Q] {g : GM} {e : EM} {usw : Sl} (f : α → β) (r : iL P h u xs) (l : xs.length < 1000000)
    (hs : ∀ x w h', x ∈ xs → Ext h h' → P h' w x → ok (g w usw h') fun us1 h2 => Ext h' h2 ∧ ok (e us1 h2) fun y h4 => Ext h2 h4 ∧ Q h4 y (f x))
    {PK : List U → Hh → Prop} (q : ∀ ys h', Ext h (h'.push (.lst ys)) → iL Q (h'.push (.lst ys)) (.loc h'.size) (xs.map f) → PK ys h') : ok (mkIt u h) fun m h1 => ok (lcL m g tYes e usw fuel 0 [] h1) PK := by
  refine t_lc (P := P) (Q := Q) (fun _ => true) f r l (fun x w h' hx he hw => ?_) fun w h' he hw => ?_
  · exact ok_mono (hs x w h' hx he hw) fun us1 h2 k => ⟨k.1, rfl, Ext.refl, fun _ => k.2⟩
  · rw [List.filter_eq_self.mpr fun _ _ => rfl] at hw
    exact q w h' he hw
theorem iB_all {bs : List Bool} (r : iL iB h u bs) (k : K (.bl (bs.all id)) h) : okO (mAll [u] h) K := by
  obtain ⟨p, us, rfl, hp, r⟩ := r
  rw [PiB r] at hp
  rw [o_all hp]
  exact k
theorem iI_sum {is : List Int} (r : iL iI h u is) (k : K (.int is.sum) h) : okO (mSum [u] h) K := by
  obtain ⟨p, us, rfl, hp, r⟩ := r
  rw [PiI r] at hp
  rw [o_sum hp]
  exact k
theorem t_2 {x : α × β} (r : iT2 P Q h u x) : ∃ a b, P h a x.1 ∧ Q h b x.2 ∧ (∀ {K : U → Hh → Prop}, K a h → okO (opIx u (.int 0) h) K) ∧ (∀ {K : U → Hh → Prop}, K b h → okO (opIx u (.int 1) h) K) ∧ ∀ {K : Sl → Hh → Prop} {i j : Nat} {us : Sl}, K ((us.set i (some a)).set j (some b)) h → ok (gTup [gName i, gName j] u us h) K := by
  obtain ⟨p, a, b, rfl, hp, r, s⟩ := r
  refine ⟨a, b, r, s, fun {K} k => ?_, fun {K} k => ?_, fun {K i j us} k => ?_⟩
  · rw [o_ixT hp]; exact ⟨a, rfl, k⟩
  · rw [o_ixT hp]; exact ⟨b, rfl, k⟩
  · rw [ok_gTup2 hp]; exact k
theorem t_3 {x : α × β × γ} (r : iT3 P Q R h u x) : ∃ a b c, P h a x.1 ∧ Q h b x.2.1 ∧ R h c x.2.2 ∧ (∀ {K : U → Hh → Prop}, K a h → okO (opIx u (.int 0) h) K) ∧ (∀ {K : U → Hh → Prop}, K b h → okO (opIx u (.int 1) h) K) ∧ (∀ {K : U → Hh → Prop}, K c h → okO (opIx u (.int 2) h) K) ∧ ∀ {K : Sl → Hh → Prop} {i j k : Nat} {us : Sl}, K (((us.set i (some a)).set j (some b)).set k (some c)) h → ok (gTup [gName i, gName j, gName k] u us h) K := by
  obtain ⟨p, a, b, c, rfl, hp, r, s, t⟩ := r
  refine ⟨a, b, c, r, s, t, fun {K} k => ?_, fun {K} k => ?_, fun {K} k => ?_, fun {K i j k us} q => ?_⟩
  · rw [o_ixT hp]; exact ⟨a, rfl, k⟩
  · rw [o_ixT hp]; exact ⟨b, rfl, k⟩
  · rw [o_ixT hp]; exact ⟨c, rfl, k⟩
  · rw [ok_gTup3 hp]; exact q
theorem t_dget {m : Tb α} {v : α} (r : iD P h u m) (e : tget m k = some v) (kk : ∀ w, P h w v → K w h) : okO (opIx u (.str k) h) K := by
  obtain ⟨p, us, rfl, hp, r⟩ := r
  obtain ⟨w, e1, e2⟩ := (tr_get (k := k) r).2 v e
  rw [o_ixD hp]
  exact ⟨w, e1, kk w e2⟩
theorem t_din {m : Tb α} (r : iD P h u m) : inB (.str k) u h = some (thas m k) := by
  obtain ⟨p, us, rfl, hp, r⟩ := r
  rw [in_dic hp, tr_has r]
theorem t_dc {m : Tb α} (r : iD P h u m) : isDc u h = true := by
  obtain ⟨p, us, rfl, hp, r⟩ := r
  exact isDc_get hp
end
/-! ### tuples of plain things stay, whatever list or dict is changed -/
/-- each tuple stays -/
def ExtT (h h' : Hh) : Prop := ∀ n xs, h.get n = some (.tup xs) → h'.get n = some (.tup xs)
class Flat {α : Type} (P : Pd α) : Prop where
  flat : ∀ {h h' u a}, ExtT h h' → P h u a → P h' u a
theorem Ext.tup {h h' : Hh} (x : Ext h h') : ExtT h h' := fun _ _ e => x.get e
theorem ExtT.trans {a b c : Hh} (x : ExtT a b) (y : ExtT b c) : ExtT a c := fun n xs e => y n xs (x n xs e)
theorem ExtT.refl {a : Hh} : ExtT a a := fun _ _ e => e
theorem ExtT.set {h : Hh} {p : Nat} {o o' : Ob} (e : h.get p = some o) (ne : ∀ xs, o ≠ .tup xs) : ExtT h (h.set p o') := fun n xs en => by
  rw [Hh.get_set_ne]
  · exact en
  · rintro rfl
    rw [e] at en
    exact ne xs (Option.some.inj en)
theorem ExtT.setL {h : Hh} {p : Nat} {us : List U} {o' : Ob} (e : h.get p = some (.lst us)) : ExtT h (h.set p o') := ExtT.set e (by intro _ z; cases z)
theorem ExtT.setD {h : Hh} {p : Nat} {b : Bool} {kvs : List (Key × U)} {o' : Ob} (e : h.get p = some (.dic b kvs)) : ExtT h (h.set p o') := ExtT.set e (by intro _ z; cases z)
section
variable {α β γ : Type} {P : Pd α} {Q : Pd β} {R : Pd γ}
instance : Flat iS := ⟨fun _ e => e⟩
instance : Flat iI := ⟨fun _ e => e⟩
instance : Flat iB := ⟨fun _ e => e⟩
instance [Flat P] [Flat Q] : Flat (iT2 P Q) := ⟨fun x ⟨p, a, b, e, hp, r, s⟩ => ⟨p, a, b, e, x _ _ hp, Flat.flat x r, Flat.flat x s⟩⟩
instance [Flat P] [Flat Q] [Flat R] : Flat (iT3 P Q R) := ⟨fun x ⟨p, a, b, c, e, hp, r, s, t⟩ => ⟨p, a, b, c, e, x _ _ hp, Flat.flat x r, Flat.flat x s, Flat.flat x t⟩⟩
/-- a list of its own at p that may be changed -/
def atL (P : Pd α) (h : Hh) (p : Nat) (xs : List α) : Prop := ∃ us, h.get p = some (.lst us) ∧ Paired (P h) us xs
def atD (P : Pd α) (h : Hh) (p : Nat) (m : Tb α) : Prop := ∃ us, h.get p = some (.dic false us) ∧ Paired (fun x (y : Str × α) => x.1 = Sum.inr y.1 ∧ P h x.2 y.2) us m
theorem atL.iL {h : Hh} {p : Nat} {xs : List α} (r : atL P h p xs) : iL P h (.loc p) xs := by
  obtain ⟨us, a, b⟩ := r
  exact ⟨p, us, rfl, a, b⟩
theorem atD.iD {h : Hh} {p : Nat} {m : Tb α} (r : atD P h p m) : iD P h (.loc p) m := by
  obtain ⟨us, a, b⟩ := r
  exact ⟨p, us, rfl, a, b⟩
theorem atL.up [Mono P] {h h' : Hh} {p : Nat} {xs : List α} (x : Ext h h') (r : atL P h p xs) : atL P h' p xs := by
  obtain ⟨us, a, b⟩ := r
  exact ⟨us, x.get a, Pm b fun _ _ => Mono.mono x⟩
theorem atD.up [Mono P] {h h' : Hh} {p : Nat} {xs : Tb α} (x : Ext h h') (r : atD P h p xs) : atD P h' p xs := by
  obtain ⟨us, a, b⟩ := r
  exact ⟨us, x.get a, Pm b fun _ _ q => ⟨q.1, Mono.mono x q.2⟩⟩
theorem atL_nil [Mono P] {h : Hh} : atL P (h.push (.lst [])) h.size [] := ⟨[], get_push_size, .nil⟩
theorem atD_nil [Mono P] {h : Hh} : atD P (h.push (.dic false [])) h.size [] := ⟨[], get_push_size, .nil⟩
/-- x.append(y) -/
theorem atL_app [Flat P] {h : Hh} {p : Nat} {xs : List α} {u : U} {a : α} {K : U → Hh → Prop} (r : atL P h p xs) (ru : P h u a) (l : xs.length < 16777216) (k : ∀ h', (∀ h0, Ext h0 h → h0.size ≤ p → Ext h0 h') → (∀ n, n ≠ p → h'.get n = h.get n) → h'.size = h.size → ExtT h h' → atL P h' p (xs ++ [a]) → K .non h') : okO (mAppend (.loc p) [u] h) K := by
  obtain ⟨us, e, b⟩ := r
  have t : ExtT h (h.set p (.lst (us ++ [u]))) := ExtT.setL e
  rw [o_append e]
  refine ⟨by rw [Plen b, sizeLine_eq]; exact l, k _ (fun h0 x l => x.set l) (fun n ne => Hh.get_set_ne ne) Hh.size_set t ⟨_, get_set_same e, Papp (Pm b fun _ _ => Flat.flat t) (.cons (Flat.flat t ru) .nil)⟩⟩
/-- x.extend(ys) -/
theorem atL_ext [Flat P] {h : Hh} {p : Nat} {xs ys : List α} {u : U} {K : U → Hh → Prop} (r : atL P h p xs) (ru : iL P h u ys) (l : xs.length + ys.length ≤ 16777216) (k : ∀ h', (∀ h0, Ext h0 h → h0.size ≤ p → Ext h0 h') → (∀ n, n ≠ p → h'.get n = h.get n) → h'.size = h.size → ExtT h h' → atL P h' p (xs ++ ys) → K .non h') : okO (mExtend (.loc p) [u] h) K := by
  obtain ⟨us, e, b⟩ := r
  obtain ⟨q, ws, rfl, eq, c⟩ := ru
  have t : ExtT h (h.set p (.lst (us ++ ws))) := ExtT.setL e
  have : mExtend (.loc p) [.loc q] h = some (.non, h.set p (.lst (us ++ ws))) := by
    unfold mExtend
    simp only [e, eq]
    rw [if_pos (by rw [Plen b, Plen c, sizeLine_eq]; exact l)]
  rw [this]
  exact k _ (fun h0 x l => x.set l) (fun n ne => Hh.get_set_ne ne) Hh.size_set t ⟨_, get_set_same e, Papp (Pm b fun _ _ => Flat.flat t) (Pm c fun _ _ => Flat.flat t)⟩
/-- d[k] = v -/
theorem atD_put [Flat P] {h : Hh} {p : Nat} {m : Tb α} {s : Str} {u : U} {a : α} {K : Hh → Prop} (r : atD P h p m) (ru : P h u a) (l : m.length < 16777216) (k : ∀ h', (∀ h0, Ext h0 h → h0.size ≤ p → Ext h0 h') → (∀ n, n ≠ p → h'.get n = h.get n) → h'.size = h.size → ExtT h h' → atD P h' p (tput m s a) → K h') : ∃ h4, mPut (.loc p) (.str s) u h = some h4 ∧ K h4 := by
  obtain ⟨us, e, b⟩ := r
  have t : ExtT h (h.set p (.dic false (putU us (.inr s) u))) := ExtT.setD e
  refine ⟨_, o_put e (by rw [Plen b, sizeLine_eq]; exact l), k _ (fun h0 x l => x.set l) (fun n ne => Hh.get_set_ne ne) Hh.size_set t ⟨_, get_set_same e, tr_put (R := P (h.set p (.dic false (putU us (.inr s) u)))) (Flat.flat t ru) (Pm b fun _ _ q => ⟨q.1, Flat.flat t q.2⟩)⟩⟩
/-- a for loop over a list that stays -/
theorem for_list {A : U → α → Prop} {p : Nat} {us0 : List U} {xs : List α} {g : GM} {b : SM} {us : Sl} {h : Hh} {K : Sl → Hh → Prop} {R : U → Hh → Prop} (J : Nat → Sl → Hh → Prop) (hr : Paired A us0 xs) (l : xs.length < 1000000) (hJ : J 0 us h) (hk : ∀ i us h', J i us h' → h'.get p = some (.lst us0)) (hn : ∀ us h', J xs.length us h' → K us h')
    (hs : ∀ i x u us h', xs[i]? = some x → A u x → J i us h' → ok (g u us h') fun us1 h2 => okB (b us1 h2) (J (i + 1)) K R) : okS (forL (.lst p) g b fuel 0 us h) K R := by
  refine for0 xs.length J l hJ (fun us h' j => ⟨?_, hn us h' j⟩) fun i us h' hi j => ?_
  · rw [nx_lst (hk _ _ _ j), ← Plen hr]
    simp
  · obtain ⟨u, eu, ru⟩ := Pnth hr (i := i) (b := xs[i]) (by simp)
    exact ⟨u, h', by rw [nx_lst (hk _ _ _ j), eu]; rfl, hs i xs[i] u us h' (by simp) ru j⟩
end
/-! ### lists and tuples stay, whatever dict is changed -/
def ExtN (h h' : Hh) : Prop := ∀ n o, h.get n = some o → (∀ b kvs, o ≠ .dic b kvs) → h'.get n = some o
class NoD {α : Type} (P : Pd α) : Prop where
  nod : ∀ {h h' u a}, ExtN h h' → P h u a → P h' u a
theorem ExtN.set {h : Hh} {p : Nat} {b : Bool} {kvs : List (Key × U)} {o' : Ob} (e : h.get p = some (.dic b kvs)) : ExtN h (h.set p o') := fun n o en ne => by
  rw [Hh.get_set_ne]
  · exact en
  · rintro rfl
    rw [e] at en
    exact ne _ _ (Option.some.inj en).symm
section
variable {α β γ : Type} {P : Pd α} {Q : Pd β} {R : Pd γ}
instance : NoD iS := ⟨fun _ e => e⟩
instance : NoD iI := ⟨fun _ e => e⟩
instance : NoD iB := ⟨fun _ e => e⟩
instance [NoD P] : NoD (iL P) := ⟨fun x ⟨p, us, e, hp, r⟩ => ⟨p, us, e, x _ _ hp (by intro _ _ z; cases z), Pm r fun _ _ => NoD.nod x⟩⟩
instance [NoD P] [NoD Q] : NoD (iT2 P Q) := ⟨fun x ⟨p, a, b, e, hp, r, s⟩ => ⟨p, a, b, e, x _ _ hp (by intro _ _ z; cases z), NoD.nod x r, NoD.nod x s⟩⟩
instance [NoD P] [NoD Q] [NoD R] : NoD (iT3 P Q R) := ⟨fun x ⟨p, a, b, c, e, hp, r, s, t⟩ => ⟨p, a, b, c, e, x _ _ hp (by intro _ _ z; cases z), NoD.nod x r, NoD.nod x s, NoD.nod x t⟩⟩
/-- d[k] = v, v a list -/
theorem atD_putN [NoD P] {h : Hh} {p : Nat} {m : Tb α} {s : Str} {u : U} {a : α} {K : Hh → Prop} (r : atD P h p m) (ru : P h u a) (l : m.length < 16777216) (k : ∀ h', (∀ h0, Ext h0 h → h0.size ≤ p → Ext h0 h') → (∀ n, n ≠ p → h'.get n = h.get n) → h'.size = h.size → ExtN h h' → atD P h' p (tput m s a) → K h') : ∃ h4, mPut (.loc p) (.str s) u h = some h4 ∧ K h4 := by
  obtain ⟨us, e, b⟩ := r
  have t : ExtN h (h.set p (.dic false (putU us (.inr s) u))) := ExtN.set e
  refine ⟨_, o_put e (by rw [Plen b, sizeLine_eq]; exact l), k _ (fun h0 x l => x.set l) (fun n ne => Hh.get_set_ne ne) Hh.size_set t ⟨_, get_set_same e, tr_put (R := P (h.set p (.dic false (putU us (.inr s) u)))) (NoD.nod t ru) (Pm b fun _ _ q => ⟨q.1, NoD.nod t q.2⟩)⟩⟩
theorem for_zip {A : U → α → Prop} {B : U → β → Prop} {p q : Nat} {us0 ws0 : List U} {xs : List α} {ys : List β} {g : GM} {b : SM} {us : Sl} {h : Hh} {K : Sl → Hh → Prop} {R : U → Hh → Prop} (J : Nat → Sl → Hh → Prop) (hr : Paired A us0 xs) (hr2 : Paired B ws0 ys) (le : ys.length ≤ xs.length) (l : ys.length < 1000000) (hJ : J 0 us h) (hk : ∀ i us h', J i us h' → h'.get p = some (.lst us0) ∧ h'.get q = some (.lst ws0)) (hn : ∀ us h', J ys.length us h' → K us h')
    (hs : ∀ i x y u w us h', xs[i]? = some x → ys[i]? = some y → A u x → B w y → J i us h' → ok (g (.loc h'.size) us (h'.push (.tup [u, w]))) fun us1 h2 => okB (b us1 h2) (J (i + 1)) K R) : okS (forL (.zip p q) g b fuel 0 us h) K R := by
  refine for0 ys.length J l hJ (fun us h' j => ⟨?_, hn us h' j⟩) fun i us h' hi j => ?_
  · unfold nxt
    simp only [(hk _ _ _ j).1, (hk _ _ _ j).2]
    have : ws0[ys.length]? = none := by rw [List.getElem?_eq_none_iff, Plen hr2]; exact Nat.le_refl _
    rw [this]
    cases us0[ys.length]? <;> rfl
  · obtain ⟨u, eu, ru⟩ := Pnth hr (i := i) (b := xs[i]) (by simp)
    obtain ⟨w, ew, rw'⟩ := Pnth hr2 (i := i) (b := ys[i]) (by simp)
    refine ⟨.loc h'.size, h'.push (.tup [u, w]), ?_, hs i xs[i] ys[i] u w us h' (by simp) (by simp) ru rw' j⟩
    unfold nxt
    simp only [(hk _ _ _ j).1, (hk _ _ _ j).2, eu, ew]
end
/-! ### == by data -/
structure Enc {α : Type} [DecidableEq α] (P : Pd α) (n : Nat) (enc : α → PyData) (G : α → Prop) : Prop where
  to : ∀ {h u a}, P h u a → toD n h u = some (enc a)
  sh : ∀ {a}, G a → (enc a).canLay0 = true
  dp : ∀ a, (enc a).depth ≤ n
  eq : ∀ a b, PyData.eqv (enc a) (enc b) = decide (a = b)
section
variable {α β γ : Type} [DecidableEq α] [DecidableEq β] [DecidableEq γ] {P : Pd α} {Q : Pd β} {R : Pd γ} {n : Nat} {f : α → PyData} {g : β → PyData} {k : γ → PyData} {G : α → Prop} {G2 : β → Prop} {G3 : γ → Prop}
theorem bqd {α : Type} [BEq α] [LawfulBEq α] [DecidableEq α] (a b : α) : (a == b) = decide (a = b) := by
  rw [Bool.eq_iff_iff, beq_iff_eq, decide_eq_true_eq]
theorem eS (n : Nat) : Enc iS n PyData.str Sok := ⟨(dS n).to, fun h => h, fun _ => Nat.zero_le _, fun a b => by simp only [PyData.eqv]; exact bqd a b⟩
theorem eI (n : Nat) : Enc iI n PyData.int (fun _ => True) := ⟨(dI n).to, fun _ => rfl, fun _ => Nat.zero_le _, fun a b => by simp only [PyData.eqv]; exact bqd a b⟩
theorem eB (n : Nat) : Enc iB n PyData.bool (fun _ => True) := ⟨(dB n).to, fun _ => rfl, fun _ => Nat.zero_le _, fun a b => by simp only [PyData.eqv]; exact bqd a b⟩
theorem lay_map {xs : List α} (h : ∀ x ∈ xs, (f x).canLay0 = true) : PyData.canLayAll0 (xs.map f) = true := by
  induction xs with
  | nil => simp [PyData.canLayAll0]
  | cons x r ih =>
    rw [List.map_cons, PyData.canLayAll0, h x (by simp), ih fun y hy => h y (by simp [hy])]
    rfl
theorem dep_map (xs : List α) (h : ∀ x, (f x).depth ≤ n) : PyData.depthAll (xs.map f) ≤ n := by
  induction xs with
  | nil => simp [PyData.depthAll]
  | cons x r ih =>
    rw [List.map_cons, PyData.depthAll]
    exact Nat.max_le.mpr ⟨h x, ih⟩
theorem eqv_map (h : ∀ a b, PyData.eqv (f a) (f b) = decide (a = b)) : ∀ xs ys : List α, PyData.eqvAll (xs.map f) (ys.map f) = decide (xs = ys)
  | [], [] => by simp [PyData.eqvAll]
  | [], _ :: _ => by simp [PyData.eqvAll]
  | _ :: _, [] => by simp [PyData.eqvAll]
  | x :: xs, y :: ys => by
    rw [List.map_cons, List.map_cons, PyData.eqvAll, h x y, eqv_map h xs ys, Bool.eq_iff_iff]
    simp
theorem Enc.dat (d : Enc P n f G) : Dat P n f := ⟨d.to⟩
theorem eL (d : Enc P n f G) : Enc (iL P) (n + 1) (fun xs => .list (xs.map f)) (fun xs => ∀ x ∈ xs, G x) :=
  ⟨fun r => (dL d.dat).to r, fun h => by rw [PyData.canLay0]; exact lay_map fun x hx => d.sh (h x hx), fun a => by rw [PyData.depth]; exact Nat.succ_le_succ (dep_map a d.dp), fun a b => by rw [PyData.eqv]; exact eqv_map d.eq a b⟩
theorem eT2 (d : Enc P n f G) (d2 : Enc Q n g G2) : Enc (iT2 P Q) (n + 1) (fun x => .tuple [f x.1, g x.2]) (fun x => G x.1 ∧ G2 x.2) :=
  ⟨fun r => (dT2 d.dat d2.dat).to r, fun h => by simp [PyData.canLay0, PyData.canLayAll0, d.sh h.1, d2.sh h.2], fun a => by
    have := d.dp a.1
    have := d2.dp a.2
    simp [PyData.depth, PyData.depthAll]
    omega, fun a b => by
    simp only [PyData.eqv, PyData.eqvAll, d.eq, d2.eq, Bool.and_true]
    rw [Bool.eq_iff_iff]
    simp [Prod.ext_iff]⟩
theorem eT3 (d : Enc P n f G) (d2 : Enc Q n g G2) (d3 : Enc R n k G3) : Enc (iT3 P Q R) (n + 1) (fun x => .tuple [f x.1, g x.2.1, k x.2.2]) (fun x => G x.1 ∧ G2 x.2.1 ∧ G3 x.2.2) :=
  ⟨fun r => (dT3 d.dat d2.dat d3.dat).to r, fun h => by simp [PyData.canLay0, PyData.canLayAll0, d.sh h.1, d2.sh h.2.1, d3.sh h.2.2], fun a => by
    have := d.dp a.1
    have := d2.dp a.2.1
    have := d3.dp a.2.2
    simp [PyData.depth, PyData.depthAll]
    omega, fun a b => by
    simp only [PyData.eqv, PyData.eqvAll, d.eq, d2.eq, d3.eq, Bool.and_true]
    rw [Bool.eq_iff_iff]
    simp [Prod.ext_iff]⟩
theorem t_eqD (d : Enc P 8 f G) {h : Hh} {u v : U} {a b : α} (r : P h u a) (s : P h v b) (ga : G a) (gb : G b) : eqD u v h = some (decide (a = b)) := by
  unfold eqD
  rw [d.to r, d.to s]
  dsimp only
  have sh : ∀ x, G x → SeqAt.shaped (f x) = true := fun x gx => by
    unfold SeqAt.shaped
    rw [d.sh gx]
    have := d.dp x
    simp
    omega
  rw [sh a ga, sh b gb, d.eq]
  rfl
theorem t_eq (d : Enc P 8 f G) {h : Hh} {u v : U} {a b : α} {K : U → Hh → Prop} (r : P h u a) (s : P h v b) (ga : G a) (gb : G b) (k : K (.bl (decide (a = b))) h) : okO (opEq u v h) K := by
  unfold opEq
  rw [t_eqD d r s ga gb]
  exact k
theorem t_ne (d : Enc P 8 f G) {h : Hh} {u v : U} {a b : α} {K : U → Hh → Prop} (r : P h u a) (s : P h v b) (ga : G a) (gb : G b) (k : K (.bl (!decide (a = b))) h) : okO (opNe u v h) K := by
  unfold opNe
  rw [t_eqD d r s ga gb]
  exact k
end
end My
end
section
set_option maxHeartbeats 4000000
namespace Wk
open PySem L2 Mx
open NdefX (NTab TabsN TabN)
def top (i : Nat) : Stmt := PySem.Challenge.pw_hushroll_k06_whole_few.main.body.getD i (.Pass ⟨0, 0, 0, 0⟩)
structure Gk (Z : Wd) : Prop where
  n_abs : Z.mg "abs" = none
  n_all : Z.mg "all" = none
  n_enumerate : Z.mg "enumerate" = none
  n_int : Z.mg "int" = none
  n_isinstance : Z.mg "isinstance" = none
  n_len : Z.mg "len" = none
  n_list : Z.mg "list" = none
  n_max : Z.mg "max" = none
  n_min : Z.mg "min" = none
  n_range : Z.mg "range" = none
  n_set : Z.mg "set" = none
  n_sorted : Z.mg "sorted" = none
  n_str : Z.mg "str" = none
  n_sum : Z.mg "sum" = none
  n_zip : Z.mg "zip" = none
  c_KEPT : ∃ f, Z.mg "KEPT" = some (.ref f) ∧ ∀ g, SqT Z.K g f ((["until", "because"] : List Str).map V.str)
  c_LETTERS : ∃ t, Z.mg "LETTERS" = some (.str "abcdefghijklmnopqrstuvwxyz" t)
  c_LONGEST : ∃ t, Z.mg "LONGEST" = some (.int 12 t)
  c_MOST_NAMES : ∃ t, Z.mg "MOST_NAMES" = some (.int 5 t)
  c_MOST_PATHS : ∃ t, Z.mg "MOST_PATHS" = some (.int 30 t)
  c_SETTINGS : ∃ t, Z.mg "SETTINGS" = some (.str "hush" t)
  f_Few_heights : FldAt Z "Few" "heights"
  f_Few_marks : FldAt Z "Few" "marks"
  k_Few : InsAt Z "Few"
/-! ### Few___init__ -/
def B_Few___init__ : SM := sSeq (sPutF "Few" "marks" (eCb mList (aCons (eVar 1) (aNil))) (eVar 0)) (sSeq (sPutF "Few" "heights" (eCb mList (aCons (eVar 2) (aNil))) (eVar 0)) (sNil))
def F_Few___init__ : FM := mkF 3 3 B_Few___init__
theorem sc_Few___init__ : FnScope ["self", "marks", "heights"] ["self", "marks", "heights"] (defScope (inClass (top 28) 0)) := ⟨rfl, rfl, rfl, by decide +kernel, rfl, by decide +kernel, by decide +kernel⟩
theorem b_Few___init__ {T : List NTab} {Z : Wd} (G : Gk Z)  : Body T Z 0 ["self", "marks", "heights"] "Few.__init__" (inClass (top 28) 0) B_Few___init__ := fun f cdv Ar outer s H E hr hN => by
  unfold B_Few___init__
  exact s_cons (c_putF G.f_Few_marks (x_callTy (cs_list rfl) G.n_list bo_list (a_cons (x_var 1) (a_nil))) (x_var 0)) (s_cons (c_putF G.f_Few_heights (x_callTy (cs_list rfl) G.n_list bo_list (a_cons (x_var 2) (a_nil))) (x_var 0)) (s_nil))
theorem ok_Few___init__ {T : List NTab} {Z : Wd} (G : Gk Z) (h : AtI Z "Few" "Few.__init__" (inClass (top 28) 0) ["self", "marks", "heights"])  : CalI T Z 1 "Few" 3 F_Few___init__ := calI_intro h sc_Few___init__ (b_Few___init__ G )
/-! ### rank -/
def B_rank : SM := sSeq (sRet (eTup (aCons (eCb mLen (aCons (eVar 0) (aNil))) (aCons (eVar 0) (aNil))))) (sNil)
def F_rank : FM := mkF 1 1 B_rank
theorem sc_rank : FnScope ["name"] ["name"] (defScope (top 10)) := ⟨rfl, rfl, rfl, by decide +kernel, rfl, by decide +kernel, by decide +kernel⟩
theorem b_rank {T : List NTab} {Z : Wd} (G : Gk Z)  : Body T Z 0 ["name"] "rank" (top 10) B_rank := fun f cdv Ar outer s H E hr hN => by
  unfold B_rank
  exact s_cons (s_ret (x_tup (a_cons (x_callB cs_len G.n_len bo_len (a_cons (x_var 0) (a_nil))) (a_cons (x_var 0) (a_nil))))) (s_nil)
theorem ok_rank {T : List NTab} {Z : Wd} (G : Gk Z) (h : At Z "rank" (top 10) ["name"])  : Cal T Z 1 "rank" 1 F_rank := cal_intro h sc_rank (b_rank G )
/-! ### place_rank -/
def B_place_rank : SM := sSeq (sAsg (eLc (iSeq (eMt (fun x _ => isS x) mSplit (eVar 0) (aCons (eC (.str "/")) (aNil)))) (gName 2) (tB' (eBin opNe (eVar 2) (eC (.str "")))) (eVar 2) [2]) (gName 1)) (sSeq (sRet (eTup (aCons (eCb mLen (aCons (eVar 1) (aNil))) (aCons (eLc (iSeq (eVar 1)) (gName 2) (tYes) (eCall F_rank (aCons (eVar 2) (aNil))) [2]) (aCons (eIf (tOr (tB' (eBin opEq (eVar 0) (eC (.str "")))) (tB' (eMt (fun x _ => isS x) (mS1 gEnds) (eVar 0) (aCons (eC (.str "/")) (aNil))))) (eC (.int 0)) (eC (.int 1))) (aNil)))))) (sNil))
def F_place_rank : FM := mkF 3 1 B_place_rank
theorem sc_place_rank : FnScope ["place", "names", "name"] ["place"] (defScope (top 12)) := ⟨rfl, rfl, rfl, by decide +kernel, rfl, by decide +kernel, by decide +kernel⟩
theorem b_place_rank {T : List NTab} {Z : Wd} (G : Gk Z) (d_rank : Cal T Z 1 "rank" 1 F_rank) : Body T Z 3 ["place", "names", "name"] "place_rank" (top 12) B_place_rank := fun f cdv Ar outer s H E hr hN => by
  unfold B_place_rank
  exact s_cons (s_lc 1 (own := [("name", 2)]) (i_seq (x_mt plA_str PySem.F.slot_str_split PySem.F.type_str_split ty_str ms_split (x_var 0) (a_cons (x_str) (a_nil)))) (by exact hN) (blkOk_by (by kernel_rfl)) ⟨⟨[2], fun s H C cl fp => g_name 2 (by exact hN), by decide⟩, fun s H C cl fp => ts_one (t_cmp (os_ne (by exact hr.u64)) (x_var 2) (x_str)), fun s H C cl fp => x_var 2⟩ (sw_true rfl rfl rfl rfl)) (s_cons (s_ret (x_tup (a_cons (x_callB cs_len G.n_len bo_len (a_cons (x_var 1) (a_nil))) (a_cons (x_lc (own := [("name", 2)]) (i_seq (x_var 1)) (by exact hN) (blkOk_by (by kernel_rfl)) ⟨⟨[2], fun s H C cl fp => g_name 2 (by exact hN), by decide⟩, fun s H C cl fp => ts_nil, fun s H C cl fp => c_call (k := 3) (d_rank.mono (by decide)) (by exact hr) (a_cons (x_var 2) (a_nil)) (n_cons (n_nil))⟩) (a_cons (x_if (t_w (w_or (t_cmp (os_eq (by exact hr.u64)) (x_var 0) (x_str)) (w_or1 (t_val (x_mt plA_str PySem.F.slot_str_endswith PySem.F.type_str_endswith ty_str ms_ends (x_var 0) (a_cons (x_str) (a_nil))))))) (x_int) (x_int)) (a_nil)))))) (s_nil))
theorem ok_place_rank {T : List NTab} {Z : Wd} (G : Gk Z) (h : At Z "place_rank" (top 12) ["place"]) (d_rank : Cal T Z 1 "rank" 1 F_rank) : Cal T Z 4 "place_rank" 1 F_place_rank := cal_intro h sc_place_rank (b_place_rank G d_rank)
/-! ### is_folder -/
def B_is_folder : SM := sSeq (sRet (eOr (eBin opEq (eVar 0) (eC (.str ""))) (eMt (fun x _ => isS x) (mS1 gEnds) (eVar 0) (aCons (eC (.str "/")) (aNil))))) (sNil)
def F_is_folder : FM := mkF 1 1 B_is_folder
theorem sc_is_folder : FnScope ["place"] ["place"] (defScope (top 22)) := ⟨rfl, rfl, rfl, by decide +kernel, rfl, by decide +kernel, by decide +kernel⟩
theorem b_is_folder {T : List NTab} {Z : Wd} (G : Gk Z)  : Body T Z 0 ["place"] "is_folder" (top 22) B_is_folder := fun f cdv Ar outer s H E hr hN => by
  unfold B_is_folder
  exact s_cons (s_ret (x_or (x_cmp (os_eq (by exact hr.u64)) (x_var 0) (x_str)) (x_one (x_mt plA_str PySem.F.slot_str_endswith PySem.F.type_str_endswith ty_str ms_ends (x_var 0) (a_cons (x_str) (a_nil)))))) (s_nil)
theorem ok_is_folder {T : List NTab} {Z : Wd} (G : Gk Z) (h : At Z "is_folder" (top 22) ["place"])  : Cal T Z 1 "is_folder" 1 F_is_folder := cal_intro h sc_is_folder (b_is_folder G )
/-! ### spread -/
def B_spread (F : FM) : SM := sSeq (sIf (tNot (tB' (eCall F_is_folder (aCons (eVar 0) (aNil))))) (sSeq (sIf (tB' (eBin opEq (eBin opIn (eVar 0) (eVar 2)) (eVar 4))) (sSeq (sRet (eLst (aNil))) (sNil)) (sNil)) (sSeq (sRet (eLst (aCons (eTup (aCons (eVar 0) (aCons (eIf (tB' (eVar 4)) (eC (.str "on")) (eC (.str "off"))) (aNil)))) (aNil)))) (sNil))) (sNil)) (sSeq (sAsg (eLc (iSeq (eTup (aCons (eC (.int 0)) (aCons (eC (.int 1)) (aNil))))) (gName 8) (tYes) (eCb mSum (aCons (eLc (iSeq (eBin opIx (eVar 1) (eVar 0))) (gName 7) (tYes) (eBin opIx (eBin opIx (eVar 3) (eVar 7)) (eVar 8)) [7]) (aNil))) [8]) (gName 5)) (sSeq (sAsg (eLst (aNil)) (gName 6)) (sSeq (sIf (tB' (eBin opGt (eBin opIx (eVar 5) (eCb mInt (aCons (eVar 4) (aNil)))) (eBin opAdd (eC (.int 1)) (eBin opIx (eVar 5) (eBin opSub (eC (.int 1)) (eCb mInt (aCons (eVar 4) (aNil)))))))) (sSeq (sExpr (eMt isL mAppend (eVar 6) (aCons (eTup (aCons (eVar 0) (aCons (eIf (tB' (eVar 4)) (eC (.str "on")) (eC (.str "off"))) (aNil)))) (aNil)))) (sSeq (sAsg (eNot (eVar 4)) (gName 4)) (sNil))) (sNil)) (sSeq (sFor (iSeq (eBin opIx (eVar 1) (eVar 0))) (gName 7) (sSeq (sExpr (eMt isL mExtend (eVar 6) (aCons (eCall F (aCons (eVar 7) (aCons (eVar 1) (aCons (eVar 2) (aCons (eVar 3) (aCons (eVar 4) (aNil))))))) (aNil)))) (sNil))) (sSeq (sRet (eVar 6)) (sNil))))))
def R_spread : Nat → FM
  | 0 => fun _ _ => .bad
  | n + 1 => mkF 9 5 (B_spread (R_spread n))
def F_spread : FM := R_spread 10
theorem sc_spread : FnScope ["place", "inside", "lot", "numbers", "hushed", "sums", "found", "inner", "which"] ["place", "inside", "lot", "numbers", "hushed"] (defScope (top 25)) := ⟨rfl, rfl, rfl, by decide +kernel, rfl, by decide +kernel, by decide +kernel⟩
theorem b_spread {T : List NTab} {Z : Wd} {F : FM} {k : Nat} (G : Gk Z) (hk : 3 ≤ k) (d_is_folder : Cal T Z 1 "is_folder" 1 F_is_folder) (d_self : Cal T Z k "spread" 5 F) : Body T Z k ["place", "inside", "lot", "numbers", "hushed", "sums", "found", "inner", "which"] "spread" (top 25) (B_spread F) := fun f cdv Ar outer s H E hr hN => by
  unfold B_spread
  exact s_cons (s_if (t_not (t_val (c_call (k := k) (d_is_folder.mono (Nat.le_trans (by decide) hk)) (by exact hr) (a_cons (x_var 0) (a_nil)) (n_cons (n_nil))))) (s_cons (s_if (t_cmp (os_eq (by exact hr.u64)) (x_cmp (os_in (by exact hr.u1)) (x_var 0) (x_var 2)) (x_var 4)) (s_cons (s_ret (x_lst (a_nil))) (s_nil)) (s_nil)) (s_cons (s_ret (x_lst (a_cons (x_tup (a_cons (x_var 0) (a_cons (x_if (t_val (x_var 4)) (x_str) (x_str)) (a_nil)))) (a_nil)))) (s_nil))) (s_nil)) (s_cons (s_lc 5 (own := [("which", 8)]) (i_seq (x_tup (a_cons (x_int) (a_cons (x_int) (a_nil))))) (by exact hN) (blkOk_by (by kernel_rfl)) ⟨⟨[8], fun s H C cl fp => g_name 8 (by exact hN), by decide⟩, fun s H C cl fp => ts_nil, fun s H C cl fp => x_callB (cs_sum rfl) G.n_sum bo_sum (a_cons (x_lc (own := [("inner", 7)]) (i_seq (x_ix (by exact hr.u1) (x_var 1) (x_var 0))) (by exact hN) (blkOk_by (by kernel_rfl)) ⟨⟨[7], fun s H C cl fp => g_name 7 (by exact hN), by decide⟩, fun s H C cl fp => ts_nil, fun s H C cl fp => x_ix (by exact hr.u1) (x_ix (by exact hr.u1) (x_var 3) (x_var 7)) (x_var 8)⟩) (a_nil))⟩ (sw_true rfl rfl rfl rfl)) (s_cons (s_set 6 (x_lst (a_nil)) (by exact hN)) (s_cons (s_if (t_cmp os_gt (x_ix (by exact hr.u1) (x_var 5) (x_callTy cs_int G.n_int bo_int (a_cons (x_var 4) (a_nil)))) (x_bin os_add (x_int) (x_ix (by exact hr.u1) (x_var 5) (x_bin os_sub (x_int) (x_callTy cs_int G.n_int bo_int (a_cons (x_var 4) (a_nil))))))) (s_cons (s_expr (x_mt plA_list PySem.F.slot_list_append PySem.F.type_list_append ty_list ml_append (x_var 6) (a_cons (x_tup (a_cons (x_var 0) (a_cons (x_if (t_val (x_var 4)) (x_str) (x_str)) (a_nil)))) (a_nil)))) (s_cons (s_set 4 (x_not (x_var 4)) (by exact hN)) (s_nil))) (s_nil)) (s_cons (s_for (i_seq (x_ix (by exact hr.u1) (x_var 1) (x_var 0))) (g_name 7 (by exact hN)) (s_cons (s_expr (x_mt plA_list PySem.F.slot_list_extend PySem.F.type_list_extend ty_list ml_extend (x_var 6) (a_cons (c_call d_self (by exact hr) (a_cons (x_var 7) (a_cons (x_var 1) (a_cons (x_var 2) (a_cons (x_var 3) (a_cons (x_var 4) (a_nil)))))) (n_cons (n_cons (n_cons (n_cons (n_cons (n_nil))))))) (a_nil)))) (s_nil))) (s_cons (s_ret (x_var 6)) (s_nil))))))
theorem r_spread {T : List NTab} {Z : Wd} (G : Gk Z) (h : At Z "spread" (top 25) ["place", "inside", "lot", "numbers", "hushed"]) (d_is_folder : Cal T Z 1 "is_folder" 1 F_is_folder) : ∀ n, Cal T Z (3 + n) "spread" 5 (R_spread n)
  | 0 => by
    obtain ⟨f, fd, hm, D⟩ := h
    exact cal_bad hm D (sc_spread)
  | n + 1 => cal_intro h sc_spread (b_spread (k := 3 + n) G (Nat.le_add_right _ _) d_is_folder (r_spread G h d_is_folder n))
theorem ok_spread {T : List NTab} {Z : Wd} (G : Gk Z) (h : At Z "spread" (top 25) ["place", "inside", "lot", "numbers", "hushed"]) (d_is_folder : Cal T Z 1 "is_folder" 1 F_is_folder) : Cal T Z 14 "spread" 5 F_spread := (r_spread G h d_is_folder 10).mono (by decide)
/-! ### needed -/
def B_needed (F : FM) : SM := sSeq (sIf (tNot (tB' (eCall F_is_folder (aCons (eVar 0) (aNil))))) (sSeq (sRet (eDisp (pCons (eVar 0) (eTup (aCons (eCb mInt (aCons (eBin opIn (eVar 0) (eVar 2)) (aNil))) (aCons (eCb mInt (aCons (eBin opNin (eVar 0) (eVar 2)) (aNil))) (aNil)))) (pNil)))) (sNil)) (sNil)) (sSeq (sPar [4, 5, 6] (aCons (eD0) (aCons (eC (.int 0)) (aCons (eC (.int 0)) (aNil))))) (sSeq (sFor (iSeq (eBin opIx (eVar 1) (eVar 0))) (gName 3) (sSeq (sExpr (eMt isDu mUpdate (eVar 4) (aCons (eCall F (aCons (eVar 3) (aCons (eVar 1) (aCons (eVar 2) (aNil))))) (aNil)))) (sSeq (sAug 5 opAddI (eBin opIx (eBin opIx (eVar 4) (eVar 3)) (eC (.int 0)))) (sSeq (sAug 6 opAddI (eBin opIx (eBin opIx (eVar 4) (eVar 3)) (eC (.int 1)))) (sNil))))) (sSeq (sPut (eTup (aCons (eCb mMin (aCons (eVar 5) (aCons (eBin opAdd (eC (.int 1)) (eVar 6)) (aNil)))) (aCons (eCb mMin (aCons (eVar 6) (aCons (eBin opAdd (eC (.int 1)) (eVar 5)) (aNil)))) (aNil)))) (eVar 4) (eVar 0)) (sSeq (sRet (eVar 4)) (sNil)))))
def R_needed : Nat → FM
  | 0 => fun _ _ => .bad
  | n + 1 => mkF 7 3 (B_needed (R_needed n))
def F_needed : FM := R_needed 10
theorem sc_needed : FnScope ["place", "inside", "lot", "inner", "found", "told", "hushed"] ["place", "inside", "lot"] (defScope (top 24)) := ⟨rfl, rfl, rfl, by decide +kernel, rfl, by decide +kernel, by decide +kernel⟩
theorem b_needed {T : List NTab} {Z : Wd} {F : FM} {k : Nat} (G : Gk Z) (hk : 3 ≤ k) (d_is_folder : Cal T Z 1 "is_folder" 1 F_is_folder) (d_self : Cal T Z k "needed" 3 F) : Body T Z k ["place", "inside", "lot", "inner", "found", "told", "hushed"] "needed" (top 24) (B_needed F) := fun f cdv Ar outer s H E hr hN => by
  unfold B_needed
  exact s_cons (s_if (t_not (t_val (c_call (k := k) (d_is_folder.mono (Nat.le_trans (by decide) hk)) (by exact hr) (a_cons (x_var 0) (a_nil)) (n_cons (n_nil))))) (s_cons (s_ret (x_disp (d_cons (x_var 0) (x_tup (a_cons (x_callTy cs_int G.n_int bo_int (a_cons (x_cmp (os_in (by exact hr.u1)) (x_var 0) (x_var 2)) (a_nil))) (a_cons (x_callTy cs_int G.n_int bo_int (a_cons (x_cmp (os_nin (by exact hr.u1)) (x_var 0) (x_var 2)) (a_nil))) (a_nil)))) (d_nil)))) (s_nil)) (s_nil)) (s_cons (s_par3 4 5 6 (by exact hN) (a_cons (x_d0) (a_cons (x_int) (a_cons (x_int) (a_nil))))) (s_cons (s_for (i_seq (x_ix (by exact hr.u1) (x_var 1) (x_var 0))) (g_name 3 (by exact hN)) (s_cons (s_expr (x_mt plA_dict PySem.F.slot_dict_update PySem.F.type_dict_update ty_dict md_update (x_var 4) (a_cons (c_call d_self (by exact hr) (a_cons (x_var 3) (a_cons (x_var 1) (a_cons (x_var 2) (a_nil)))) (n_cons (n_cons (n_cons (n_nil))))) (a_nil)))) (s_cons (s_augA 5 (x_ix (by exact hr.u1) (x_ix (by exact hr.u1) (x_var 4) (x_var 3)) (x_int)) (by exact hN)) (s_cons (s_augA 6 (x_ix (by exact hr.u1) (x_ix (by exact hr.u1) (x_var 4) (x_var 3)) (x_int)) (by exact hN)) (s_nil))))) (s_cons (s_put (by exact hr.u1) (x_tup (a_cons (x_callB (cs_min rfl) G.n_min bo_min (a_cons (x_var 5) (a_cons (x_bin os_add (x_int) (x_var 6)) (a_nil)))) (a_cons (x_callB (cs_min rfl) G.n_min bo_min (a_cons (x_var 6) (a_cons (x_bin os_add (x_int) (x_var 5)) (a_nil)))) (a_nil)))) (x_var 4) (x_var 0)) (s_cons (s_ret (x_var 4)) (s_nil)))))
theorem r_needed {T : List NTab} {Z : Wd} (G : Gk Z) (h : At Z "needed" (top 24) ["place", "inside", "lot"]) (d_is_folder : Cal T Z 1 "is_folder" 1 F_is_folder) : ∀ n, Cal T Z (3 + n) "needed" 3 (R_needed n)
  | 0 => by
    obtain ⟨f, fd, hm, D⟩ := h
    exact cal_bad hm D (sc_needed)
  | n + 1 => cal_intro h sc_needed (b_needed (k := 3 + n) G (Nat.le_add_right _ _) d_is_folder (r_needed G h d_is_folder n))
theorem ok_needed {T : List NTab} {Z : Wd} (G : Gk Z) (h : At Z "needed" (top 24) ["place", "inside", "lot"]) (d_is_folder : Cal T Z 1 "is_folder" 1 F_is_folder) : Cal T Z 14 "needed" 3 F_needed := (r_needed G h d_is_folder 10).mono (by decide)
/-! ### folder_of -/
def B_folder_of : SM := sSeq (sRet (eSl (eVar 0) (pN) (pS (eBin opAdd (eMt (fun x _ => isS x) (mS1 gRfind) (eVar 0) (aCons (eC (.str "/")) (aNil))) (eC (.int 1)))))) (sNil)
def F_folder_of : FM := mkF 1 1 B_folder_of
theorem sc_folder_of : FnScope ["path"] ["path"] (defScope (top 13)) := ⟨rfl, rfl, rfl, by decide +kernel, rfl, by decide +kernel, by decide +kernel⟩
theorem b_folder_of {T : List NTab} {Z : Wd} (G : Gk Z)  : Body T Z 0 ["path"] "folder_of" (top 13) B_folder_of := fun f cdv Ar outer s H E hr hN => by
  unfold B_folder_of
  exact s_cons (s_ret (x_slice (x_var 0) (p_none) (p_some (x_bin os_add (x_mt plA_str PySem.F.slot_str_rfind PySem.F.type_str_rfind ty_str ms_rfind (x_var 0) (a_cons (x_str) (a_nil))) (x_int))))) (s_nil)
theorem ok_folder_of {T : List NTab} {Z : Wd} (G : Gk Z) (h : At Z "folder_of" (top 13) ["path"])  : Cal T Z 1 "folder_of" 1 F_folder_of := cal_intro h sc_folder_of (b_folder_of G )
/-! ### around -/
def B_around : SM := sSeq (sRet (eCall F_folder_of (aCons (eSl (eVar 0) (pN) (pS (eUn opNeg (eC (.int 1))))) (aNil)))) (sNil)
def F_around : FM := mkF 1 1 B_around
theorem sc_around : FnScope ["folder"] ["folder"] (defScope (top 14)) := ⟨rfl, rfl, rfl, by decide +kernel, rfl, by decide +kernel, by decide +kernel⟩
theorem b_around {T : List NTab} {Z : Wd} (G : Gk Z) (d_folder_of : Cal T Z 1 "folder_of" 1 F_folder_of) : Body T Z 3 ["folder"] "around" (top 14) B_around := fun f cdv Ar outer s H E hr hN => by
  unfold B_around
  exact s_cons (s_ret (c_call (k := 3) (d_folder_of.mono (by decide)) (by exact hr) (a_cons (x_slice (x_var 0) (p_none) (p_some (x_un us_neg (x_int)))) (a_nil)) (n_cons (n_nil)))) (s_nil)
theorem ok_around {T : List NTab} {Z : Wd} (G : Gk Z) (h : At Z "around" (top 14) ["folder"]) (d_folder_of : Cal T Z 1 "folder_of" 1 F_folder_of) : Cal T Z 4 "around" 1 F_around := cal_intro h sc_around (b_around G d_folder_of)
/-! ### folders_up -/
def B_folders_up : SM := sSeq (sAsg (eLst (aCons (eVar 0) (aNil))) (gName 1)) (sSeq (sWhile (tB' (eBin opNe (eBin opIx (eVar 1) (eUn opNeg (eC (.int 1)))) (eC (.str "")))) (sSeq (sExpr (eMt isL mAppend (eVar 1) (aCons (eCall F_around (aCons (eBin opIx (eVar 1) (eUn opNeg (eC (.int 1)))) (aNil))) (aNil)))) (sNil))) (sSeq (sRet (eVar 1)) (sNil)))
def F_folders_up : FM := mkF 2 1 B_folders_up
theorem sc_folders_up : FnScope ["folder", "found"] ["folder"] (defScope (top 15)) := ⟨rfl, rfl, rfl, by decide +kernel, rfl, by decide +kernel, by decide +kernel⟩
theorem b_folders_up {T : List NTab} {Z : Wd} (G : Gk Z) (d_around : Cal T Z 4 "around" 1 F_around) : Body T Z 6 ["folder", "found"] "folders_up" (top 15) B_folders_up := fun f cdv Ar outer s H E hr hN => by
  unfold B_folders_up
  exact s_cons (s_set 1 (x_lst (a_cons (x_var 0) (a_nil))) (by exact hN)) (s_cons (s_while (t_cmp (os_ne (by exact hr.u64)) (x_ix (by exact hr.u1) (x_var 1) (x_un us_neg (x_int))) (x_str)) (s_cons (s_expr (x_mt plA_list PySem.F.slot_list_append PySem.F.type_list_append ty_list ml_append (x_var 1) (a_cons (c_call (k := 6) (d_around.mono (by decide)) (by exact hr) (a_cons (x_ix (by exact hr.u1) (x_var 1) (x_un us_neg (x_int))) (a_nil)) (n_cons (n_nil))) (a_nil)))) (s_nil))) (s_cons (s_ret (x_var 1)) (s_nil)))
theorem ok_folders_up {T : List NTab} {Z : Wd} (G : Gk Z) (h : At Z "folders_up" (top 15) ["folder"]) (d_around : Cal T Z 4 "around" 1 F_around) : Cal T Z 7 "folders_up" 1 F_folders_up := cal_intro h sc_folders_up (b_folders_up G d_around)
/-! ### straight_in -/
def B_straight_in : SM := sSeq (sAsg (eD0) (gName 1)) (sSeq (sFor (iSeq (eVar 0)) (gName 2) (sSeq (sAsg (eVar 2) (gName 3)) (sSeq (sFor (iSeq (eCall F_folders_up (aCons (eCall F_folder_of (aCons (eVar 2) (aNil))) (aNil)))) (gName 4) (sSeq (sAsg (e3 isDc mSetd (eVar 1) (eVar 4) (eLst (aNil))) (gName 5)) (sSeq (sIf (tB' (eBin opNin (eVar 3) (eVar 5))) (sSeq (sExpr (eMt isL mAppend (eVar 5) (aCons (eVar 3) (aNil)))) (sNil)) (sNil)) (sSeq (sAsg (eVar 4) (gName 3)) (sNil))))) (sNil)))) (sSeq (sRet (eVar 1)) (sNil)))
def F_straight_in : FM := mkF 6 1 B_straight_in
theorem sc_straight_in : FnScope ["paths", "found", "path", "inner", "folder", "some"] ["paths"] (defScope (top 21)) := ⟨rfl, rfl, rfl, by decide +kernel, rfl, by decide +kernel, by decide +kernel⟩
theorem b_straight_in {T : List NTab} {Z : Wd} (G : Gk Z) (d_folders_up : Cal T Z 7 "folders_up" 1 F_folders_up) (d_folder_of : Cal T Z 1 "folder_of" 1 F_folder_of) : Body T Z 9 ["paths", "found", "path", "inner", "folder", "some"] "straight_in" (top 21) B_straight_in := fun f cdv Ar outer s H E hr hN => by
  unfold B_straight_in
  exact s_cons (s_set 1 (x_d0) (by exact hN)) (s_cons (s_for (i_seq (x_var 0)) (g_name 2 (by exact hN)) (s_cons (s_set 3 (x_var 2) (by exact hN)) (s_cons (s_for (i_seq (c_call (k := 9) (d_folders_up.mono (by decide)) (by exact hr) (a_cons (c_call (k := 9) (d_folder_of.mono (by decide)) (by exact hr) (a_cons (x_var 2) (a_nil)) (n_cons (n_nil))) (a_nil)) (n_cons (n_nil)))) (g_name 4 (by exact hN)) (s_cons (s_set 5 (x_setd (x_var 1) (x_var 4) (x_lst (a_nil))) (by exact hN)) (s_cons (s_if (t_cmp (os_nin (by exact hr.u1)) (x_var 3) (x_var 5)) (s_cons (s_expr (x_mt plA_list PySem.F.slot_list_append PySem.F.type_list_append ty_list ml_append (x_var 5) (a_cons (x_var 3) (a_nil)))) (s_nil)) (s_nil)) (s_cons (s_set 3 (x_var 4) (by exact hN)) (s_nil))))) (s_nil)))) (s_cons (s_ret (x_var 1)) (s_nil)))
theorem ok_straight_in {T : List NTab} {Z : Wd} (G : Gk Z) (h : At Z "straight_in" (top 21) ["paths"]) (d_folders_up : Cal T Z 7 "folders_up" 1 F_folders_up) (d_folder_of : Cal T Z 1 "folder_of" 1 F_folder_of) : Cal T Z 10 "straight_in" 1 F_straight_in := cal_intro h sc_straight_in (b_straight_in G d_folders_up d_folder_of)
/-! ### is_name -/
def B_is_name : SM := sSeq (sIf (tOr (tNot (tB' (eUn (mIsi "str") (eVar 0)))) (tOr (tNot (tB' (eChain opLe opLe (eC (.int 1)) (eCb mLen (aCons (eVar 0) (aNil))) (eC (.int 12))))) (tB' (eUn (mInK ["until", "because"] false) (eVar 0))))) (sSeq (sRet (eC (.bl false))) (sNil)) (sNil)) (sSeq (sRet (eCb mAll (aCons (eLc (iSeq (eVar 0)) (gName 1) (tYes) (eBin opIn (eVar 1) (eC (.str "abcdefghijklmnopqrstuvwxyz"))) [1]) (aNil)))) (sNil))
def F_is_name : FM := mkF 2 1 B_is_name
theorem sc_is_name : FnScope ["thing", "sign"] ["thing"] (defScope (top 9)) := ⟨rfl, rfl, rfl, by decide +kernel, rfl, by decide +kernel, by decide +kernel⟩
theorem b_is_name {T : List NTab} {Z : Wd} (G : Gk Z)  : Body T Z 0 ["thing", "sign"] "is_name" (top 9) B_is_name := fun f cdv Ar outer s H E hr hN => by
  unfold B_is_name
  exact s_cons (s_if (t_w (w_or (t_not (t_val (x_isi G.n_isinstance G.n_str bo_str (x_var 0)))) (w_or (t_not (t_chainT os_le os_le (x_int) (x_callB cs_len G.n_len bo_len (a_cons (x_var 0) (a_nil))) (x_globI G.c_LONGEST))) (w_or1 (ct_inK G.c_KEPT (x_var 0)))))) (s_cons (s_ret (x_bl)) (s_nil)) (s_nil)) (s_cons (s_ret (x_callB (cs_all rfl) G.n_all bo_all (a_cons (x_lc (own := [("sign", 1)]) (i_seq (x_var 0)) (by exact hN) (blkOk_by (by kernel_rfl)) ⟨⟨[1], fun s H C cl fp => g_name 1 (by exact hN), by decide⟩, fun s H C cl fp => ts_nil, fun s H C cl fp => x_cmp (os_in (by exact hr.u1)) (x_var 1) (x_globS G.c_LETTERS)⟩) (a_nil)))) (s_nil))
theorem ok_is_name {T : List NTab} {Z : Wd} (G : Gk Z) (h : At Z "is_name" (top 9) ["thing"])  : Cal T Z 1 "is_name" 1 F_is_name := cal_intro h sc_is_name (b_is_name G )
/-! ### is_path -/
def B_is_path : SM := sSeq (sIf (tNot (tB' (eUn (mIsi "str") (eVar 0)))) (sSeq (sRet (eC (.bl false))) (sNil)) (sNil)) (sSeq (sAsg (eMt (fun x _ => isS x) mSplit (eVar 0) (aCons (eC (.str "/")) (aNil))) (gName 1)) (sSeq (sRet (eAnd (eBin opLe (eCb mLen (aCons (eVar 1) (aNil))) (eC (.int 5))) (eCb mAll (aCons (eLc (iSeq (eVar 1)) (gName 2) (tYes) (eCall F_is_name (aCons (eVar 2) (aNil))) [2]) (aNil))))) (sNil)))
def F_is_path : FM := mkF 3 1 B_is_path
theorem sc_is_path : FnScope ["thing", "names", "name"] ["thing"] (defScope (top 11)) := ⟨rfl, rfl, rfl, by decide +kernel, rfl, by decide +kernel, by decide +kernel⟩
theorem b_is_path {T : List NTab} {Z : Wd} (G : Gk Z) (d_is_name : Cal T Z 1 "is_name" 1 F_is_name) : Body T Z 3 ["thing", "names", "name"] "is_path" (top 11) B_is_path := fun f cdv Ar outer s H E hr hN => by
  unfold B_is_path
  exact s_cons (s_if (t_not (t_val (x_isi G.n_isinstance G.n_str bo_str (x_var 0)))) (s_cons (s_ret (x_bl)) (s_nil)) (s_nil)) (s_cons (s_set 1 (x_mt plA_str PySem.F.slot_str_split PySem.F.type_str_split ty_str ms_split (x_var 0) (a_cons (x_str) (a_nil))) (by exact hN)) (s_cons (s_ret (x_and (x_cmp os_le (x_callB cs_len G.n_len bo_len (a_cons (x_var 1) (a_nil))) (x_globI G.c_MOST_NAMES)) (x_one (x_callB (cs_all rfl) G.n_all bo_all (a_cons (x_lc (own := [("name", 2)]) (i_seq (x_var 1)) (by exact hN) (blkOk_by (by kernel_rfl)) ⟨⟨[2], fun s H C cl fp => g_name 2 (by exact hN), by decide⟩, fun s H C cl fp => ts_nil, fun s H C cl fp => c_call (k := 3) (d_is_name.mono (by decide)) (by exact hr) (a_cons (x_var 2) (a_nil)) (n_cons (n_nil))⟩) (a_nil)))))) (s_nil)))
theorem ok_is_path {T : List NTab} {Z : Wd} (G : Gk Z) (h : At Z "is_path" (top 11) ["thing"]) (d_is_name : Cal T Z 1 "is_name" 1 F_is_name) : Cal T Z 4 "is_path" 1 F_is_path := cal_intro h sc_is_path (b_is_path G d_is_name)
/-! ### is_settings -/
def B_is_settings : SM := sSeq (sRet (eBin opEq (eBin opIx (eMt (fun x _ => isS x) mSplit (eVar 0) (aCons (eC (.str "/")) (aNil))) (eUn opNeg (eC (.int 1)))) (eC (.str "hush")))) (sNil)
def F_is_settings : FM := mkF 1 1 B_is_settings
theorem sc_is_settings : FnScope ["path"] ["path"] (defScope (top 16)) := ⟨rfl, rfl, rfl, by decide +kernel, rfl, by decide +kernel, by decide +kernel⟩
theorem b_is_settings {T : List NTab} {Z : Wd} (G : Gk Z)  : Body T Z 0 ["path"] "is_settings" (top 16) B_is_settings := fun f cdv Ar outer s H E hr hN => by
  unfold B_is_settings
  exact s_cons (s_ret (x_cmp (os_eq (by exact hr.u64)) (x_ix (by exact hr.u1) (x_mt plA_str PySem.F.slot_str_split PySem.F.type_str_split ty_str ms_split (x_var 0) (a_cons (x_str) (a_nil))) (x_un us_neg (x_int))) (x_globS G.c_SETTINGS))) (s_nil)
theorem ok_is_settings {T : List NTab} {Z : Wd} (G : Gk Z) (h : At Z "is_settings" (top 16) ["path"])  : Cal T Z 1 "is_settings" 1 F_is_settings := cal_intro h sc_is_settings (b_is_settings G )
/-! ### are_paths -/
def B_are_paths : SM := sSeq (sIf (tOr (tNot (tB' (eUn (mIsi "list") (eVar 0)))) (tB' (eBin opGt (eCb mLen (aCons (eVar 0) (aNil))) (eC (.int 30))))) (sSeq (sRet (eC (.bl false))) (sNil)) (sNil)) (sSeq (sIf (tNot (tB' (eCb mAll (aCons (eLc (iSeq (eVar 0)) (gName 1) (tYes) (eAnd (eCall F_is_path (aCons (eVar 1) (aNil))) (eNot (eCall F_is_settings (aCons (eVar 1) (aNil))))) [1]) (aNil))))) (sSeq (sRet (eC (.bl false))) (sNil)) (sNil)) (sSeq (sRet (eBin opEq (e1 mLenSet (eVar 0)) (eCb mLen (aCons (eVar 0) (aNil))))) (sNil)))
def F_are_paths : FM := mkF 2 1 B_are_paths
theorem sc_are_paths : FnScope ["paths", "path"] ["paths"] (defScope (top 19)) := ⟨rfl, rfl, rfl, by decide +kernel, rfl, by decide +kernel, by decide +kernel⟩
theorem b_are_paths {T : List NTab} {Z : Wd} (G : Gk Z) (d_is_path : Cal T Z 4 "is_path" 1 F_is_path) (d_is_settings : Cal T Z 1 "is_settings" 1 F_is_settings) : Body T Z 6 ["paths", "path"] "are_paths" (top 19) B_are_paths := fun f cdv Ar outer s H E hr hN => by
  unfold B_are_paths
  exact s_cons (s_if (t_w (w_or (t_not (t_val (x_isi G.n_isinstance G.n_list bo_list (x_var 0)))) (w_or1 (t_cmp os_gt (x_callB cs_len G.n_len bo_len (a_cons (x_var 0) (a_nil))) (x_globI G.c_MOST_PATHS))))) (s_cons (s_ret (x_bl)) (s_nil)) (s_nil)) (s_cons (s_if (t_not (t_val (x_callB (cs_all rfl) G.n_all bo_all (a_cons (x_lc (own := [("path", 1)]) (i_seq (x_var 0)) (by exact hN) (blkOk_by (by kernel_rfl)) ⟨⟨[1], fun s H C cl fp => g_name 1 (by exact hN), by decide⟩, fun s H C cl fp => ts_nil, fun s H C cl fp => x_and (c_call (k := 6) (d_is_path.mono (by decide)) (by exact hr) (a_cons (x_var 1) (a_nil)) (n_cons (n_nil))) (x_one (x_not (c_call (k := 6) (d_is_settings.mono (by decide)) (by exact hr) (a_cons (x_var 1) (a_nil)) (n_cons (n_nil)))))⟩) (a_nil))))) (s_cons (s_ret (x_bl)) (s_nil)) (s_nil)) (s_cons (s_ret (x_cmp (os_eq (by exact hr.u64)) (x_lenset G.n_len G.n_set (x_var 0)) (x_callB cs_len G.n_len bo_len (a_cons (x_var 0) (a_nil))))) (s_nil)))
theorem ok_are_paths {T : List NTab} {Z : Wd} (G : Gk Z) (h : At Z "are_paths" (top 19) ["paths"]) (d_is_path : Cal T Z 4 "is_path" 1 F_is_path) (d_is_settings : Cal T Z 1 "is_settings" 1 F_is_settings) : Cal T Z 7 "are_paths" 1 F_are_paths := cal_intro h sc_are_paths (b_are_paths G d_is_path d_is_settings)
/-! ### is_lot -/
def B_is_lot : SM := sSeq (sIf (tOr (tNot (tB' (eUn (mIsi "list") (eVar 0)))) (tNot (tB' (eCb mAll (aCons (eLc (iSeq (eVar 0)) (gName 2) (tYes) (eAnd (eUn (mIsi "str") (eVar 2)) (eBin opIn (eVar 2) (eVar 1))) [2]) (aNil)))))) (sSeq (sRet (eC (.bl false))) (sNil)) (sNil)) (sSeq (sRet (eBin opEq (e1 mLenSet (eVar 0)) (eCb mLen (aCons (eVar 0) (aNil))))) (sNil))
def F_is_lot : FM := mkF 3 2 B_is_lot
theorem sc_is_lot : FnScope ["lot", "paths", "path"] ["lot", "paths"] (defScope (top 20)) := ⟨rfl, rfl, rfl, by decide +kernel, rfl, by decide +kernel, by decide +kernel⟩
theorem b_is_lot {T : List NTab} {Z : Wd} (G : Gk Z)  : Body T Z 0 ["lot", "paths", "path"] "is_lot" (top 20) B_is_lot := fun f cdv Ar outer s H E hr hN => by
  unfold B_is_lot
  exact s_cons (s_if (t_w (w_or (t_not (t_val (x_isi G.n_isinstance G.n_list bo_list (x_var 0)))) (w_or1 (t_not (t_val (x_callB (cs_all rfl) G.n_all bo_all (a_cons (x_lc (own := [("path", 2)]) (i_seq (x_var 0)) (by exact hN) (blkOk_by (by kernel_rfl)) ⟨⟨[2], fun s H C cl fp => g_name 2 (by exact hN), by decide⟩, fun s H C cl fp => ts_nil, fun s H C cl fp => x_and (x_isi G.n_isinstance G.n_str bo_str (x_var 2)) (x_one (x_cmp (os_in (by exact hr.u1)) (x_var 2) (x_var 1)))⟩) (a_nil)))))))) (s_cons (s_ret (x_bl)) (s_nil)) (s_nil)) (s_cons (s_ret (x_cmp (os_eq (by exact hr.u64)) (x_lenset G.n_len G.n_set (x_var 0)) (x_callB cs_len G.n_len bo_len (a_cons (x_var 0) (a_nil))))) (s_nil))
theorem ok_is_lot {T : List NTab} {Z : Wd} (G : Gk Z) (h : At Z "is_lot" (top 20) ["lot", "paths"])  : Cal T Z 1 "is_lot" 2 F_is_lot := cal_intro h sc_is_lot (b_is_lot G )
/-! ### fewest -/
def B_fewest : SM := sSeq (sIf (tOr (tNot (tB' (eCall F_are_paths (aCons (eVar 0) (aNil))))) (tNot (tB' (eCall F_is_lot (aCons (eVar 1) (aCons (eVar 0) (aNil))))))) (sSeq (sBad) (sNil)) (sNil)) (sSeq (sAsg (eCall F_straight_in (aCons (eVar 0) (aNil))) (gName 2)) (sSeq (sIf (tB' (eBin opEq (eVar 0) (eLst (aNil)))) (sSeq (sRet (eMake "Few" F_Few___init__ (aCons (eLst (aNil)) (aCons (eLst (aNil)) (aNil))))) (sNil)) (sNil)) (sSeq (sAsg (eCall F_needed (aCons (eC (.str "")) (aCons (eVar 2) (aCons (eVar 1) (aNil))))) (gName 3)) (sSeq (sAsg (eCall F_spread (aCons (eC (.str "")) (aCons (eVar 2) (aCons (eVar 1) (aCons (eVar 3) (aCons (eC (.bl false)) (aNil))))))) (gName 4)) (sSeq (sAsg (eLc (iSeq (eSort F_place_rank (eVar 3))) (gName 6) (tYes) (eTup (aCons (eVar 6) (aCons (eBin opIx (eBin opIx (eVar 3) (eVar 6)) (eC (.int 0))) (aCons (eBin opIx (eBin opIx (eVar 3) (eVar 6)) (eC (.int 1))) (aNil))))) [6]) (gName 5)) (sSeq (sRet (eMake "Few" F_Few___init__ (aCons (eSort (lamF (eCall F_place_rank (aCons (eBin opIx (eVar 0) (eC (.int 0))) (aNil)))) (eVar 4)) (aCons (eVar 5) (aNil))))) (sNil)))))))
def F_fewest : FM := mkF 7 2 B_fewest
theorem sc_fewest : FnScope ["paths", "lot", "inside", "numbers", "sayings", "heights", "place"] ["paths", "lot"] (defScope (top 29)) := ⟨rfl, rfl, rfl, by decide +kernel, rfl, by decide +kernel, by decide +kernel⟩
theorem b_fewest {T : List NTab} {Z : Wd} (G : Gk Z) {c P : Addr} {nm : Nat → Nat → Str} (TB : LamX.TabB Z.base Z.mg c P) (hmT : (P, nm) ∈ T) (hnm : ∀ a b, nm a b = (("fewest" : Str) ++ ".<locals>.") ++ "<lambda>") (huT : ∀ p ∈ T, p.1 = P → p.2 = nm) (d_Few___init__ : CalI T Z 1 "Few" 3 F_Few___init__) (d_place_rank : Cal T Z 4 "place_rank" 1 F_place_rank) (d_spread : Cal T Z 14 "spread" 5 F_spread) (d_needed : Cal T Z 14 "needed" 3 F_needed) (d_straight_in : Cal T Z 10 "straight_in" 1 F_straight_in) (d_are_paths : Cal T Z 7 "are_paths" 1 F_are_paths) (d_is_lot : Cal T Z 1 "is_lot" 2 F_is_lot) : BodyC T Z 16 ["paths", "lot", "inside", "numbers", "sayings", "heights", "place"] "fewest" (top 29) c B_fewest := fun f Ar outer s H E hr hN => by
  unfold B_fewest
  exact s_cons (s_if (t_w (w_or (t_not (t_val (c_call (k := 16) (d_are_paths.mono (by decide)) (by exact hr) (a_cons (x_var 0) (a_nil)) (n_cons (n_nil))))) (w_or1 (t_not (t_val (c_call (k := 16) (d_is_lot.mono (by decide)) (by exact hr) (a_cons (x_var 1) (a_cons (x_var 0) (a_nil))) (n_cons (n_cons (n_nil))))))))) (s_cons (s_never) (s_nil)) (s_nil)) (s_cons (s_set 2 (c_call (k := 16) (d_straight_in.mono (by decide)) (by exact hr) (a_cons (x_var 0) (a_nil)) (n_cons (n_nil))) (by exact hN)) (s_cons (s_if (t_cmp (os_eq (by exact hr.u64)) (x_var 0) (x_lst (a_nil))) (s_cons (s_ret (c_make (k := 15) (d_Few___init__.mono (by decide)) (by exact hr) (a_cons (x_lst (a_nil)) (a_cons (x_lst (a_nil)) (a_nil))) (n_suc (n_cons (n_cons (n_nil))) rfl))) (s_nil)) (s_nil)) (s_cons (s_set 3 (c_call (k := 16) (d_needed.mono (by decide)) (by exact hr) (a_cons (x_str) (a_cons (x_var 2) (a_cons (x_var 1) (a_nil)))) (n_cons (n_cons (n_cons (n_nil))))) (by exact hN)) (s_cons (s_set 4 (c_call (k := 16) (d_spread.mono (by decide)) (by exact hr) (a_cons (x_str) (a_cons (x_var 2) (a_cons (x_var 1) (a_cons (x_var 3) (a_cons (x_bl) (a_nil)))))) (n_cons (n_cons (n_cons (n_cons (n_cons (n_nil))))))) (by exact hN)) (s_cons (s_lc 5 (own := [("place", 6)]) (i_seq (c_sorted (k := 14) (d_place_rank.mono (by decide)) (by exact hr) G.n_sorted (x_var 3))) (by exact hN) (blkOk_by (by kernel_rfl)) ⟨⟨[6], fun s H C cl fp => g_name 6 (by exact hN), by decide⟩, fun s H C cl fp => ts_nil, fun s H C cl fp => x_tup (a_cons (x_var 6) (a_cons (x_ix (by exact hr.u1) (x_ix (by exact hr.u1) (x_var 3) (x_var 6)) (x_int)) (a_cons (x_ix (by exact hr.u1) (x_ix (by exact hr.u1) (x_var 3) (x_var 6)) (x_int)) (a_nil))))⟩ (sw_true rfl rfl rfl rfl)) (s_cons (s_ret (c_make (k := 15) (d_Few___init__.mono (by decide)) (by exact hr) (a_cons (x_sortL (k := 13) (by exact TB) rfl hmT (by exact hnm _ _) huT (NdefX.nscope_by (by kernel_rfl)) rfl (fun _ _ _ _ _ => rfl) (by exact hr) G.n_sorted (x_var 4) (fun f c' Ar outer s H hr => c_call (k := 13) (d_place_rank.mono (by decide)) (by exact hr) (a_cons (x_ix (by exact hr.u1) (x_var 0) (x_int)) (a_nil)) (n_cons (n_nil)))) (a_cons (x_var 5) (a_nil))) (n_suc (n_cons (n_cons (n_nil))) rfl))) (s_nil)))))))
theorem ok_fewest {T : List NTab} {Z : Wd} (G : Gk Z) {c P : Addr} {nm : Nat → Nat → Str} (TB : LamX.TabB Z.base Z.mg c P) (hmT : (P, nm) ∈ T) (hnm : ∀ a b, nm a b = (("fewest" : Str) ++ ".<locals>.") ++ "<lambda>") (huT : ∀ p ∈ T, p.1 = P → p.2 = nm) (h : AtC Z "fewest" (top 29) ["paths", "lot"] c) (d_Few___init__ : CalI T Z 1 "Few" 3 F_Few___init__) (d_place_rank : Cal T Z 4 "place_rank" 1 F_place_rank) (d_spread : Cal T Z 14 "spread" 5 F_spread) (d_needed : Cal T Z 14 "needed" 3 F_needed) (d_straight_in : Cal T Z 10 "straight_in" 1 F_straight_in) (d_are_paths : Cal T Z 7 "are_paths" 1 F_are_paths) (d_is_lot : Cal T Z 1 "is_lot" 2 F_is_lot) : Cal T Z 17 "fewest" 2 F_fewest := cal_introC h sc_fewest (b_fewest G TB hmT hnm huT d_Few___init__ d_place_rank d_spread d_needed d_straight_in d_are_paths d_is_lot)
/-! ### are_heights -/
def B_are_heights : SM := sSeq (sAsg (eD0) (gName 3)) (sSeq (sFor (iSeq (eVar 0)) (gTup [gName 4, gName 5, gName 6]) (sSeq (sPut (eTup (aCons (eVar 5) (aCons (eVar 6) (aNil)))) (eVar 3) (eVar 4)) (sNil))) (sSeq (sFor (iSeq (eVar 0)) (gTup [gName 4, gName 5, gName 6]) (sSeq (sIf (tNot (tB' (eCall F_is_folder (aCons (eVar 4) (aNil))))) (sSeq (sAsg (eTup (aCons (eCb mInt (aCons (eBin opIn (eVar 4) (eVar 2)) (aNil))) (aCons (eCb mInt (aCons (eBin opNin (eVar 4) (eVar 2)) (aNil))) (aNil)))) (gName 7)) (sNil)) (sSeq (sAsg (eLc (iSeq (eTup (aCons (eC (.int 0)) (aCons (eC (.int 1)) (aNil))))) (gName 9) (tYes) (eCb mSum (aCons (eLc (iSeq (eBin opIx (eVar 1) (eVar 4))) (gName 10) (tYes) (eBin opIx (eBin opIx (eVar 3) (eVar 10)) (eVar 9)) [10]) (aNil))) [9]) (gName 8)) (sSeq (sAsg (eTup (aCons (eCb mMin (aCons (eBin opIx (eVar 8) (eC (.int 0))) (aCons (eBin opAdd (eC (.int 1)) (eBin opIx (eVar 8) (eC (.int 1)))) (aNil)))) (aCons (eCb mMin (aCons (eBin opIx (eVar 8) (eC (.int 1))) (aCons (eBin opAdd (eC (.int 1)) (eBin opIx (eVar 8) (eC (.int 0)))) (aNil)))) (aNil)))) (gName 7)) (sNil)))) (sSeq (sIf (tOr (tB' (eBin opGt (eVar 5) (eBin opIx (eVar 7) (eC (.int 0))))) (tB' (eBin opGt (eVar 6) (eBin opIx (eVar 7) (eC (.int 1)))))) (sSeq (sRet (eC (.bl false))) (sNil)) (sNil)) (sNil)))) (sSeq (sRet (eC (.bl true))) (sNil))))
def F_are_heights : FM := mkF 11 3 B_are_heights
theorem sc_are_heights : FnScope ["heights", "inside", "lot", "known", "place", "told", "hushed", "sums", "within", "which", "inner"] ["heights", "inside", "lot"] (defScope (top 27)) := ⟨rfl, rfl, rfl, by decide +kernel, rfl, by decide +kernel, by decide +kernel⟩
theorem b_are_heights {T : List NTab} {Z : Wd} (G : Gk Z) (d_is_folder : Cal T Z 1 "is_folder" 1 F_is_folder) : Body T Z 3 ["heights", "inside", "lot", "known", "place", "told", "hushed", "sums", "within", "which", "inner"] "are_heights" (top 27) B_are_heights := fun f cdv Ar outer s H E hr hN => by
  unfold B_are_heights
  exact s_cons (s_set 3 (x_d0) (by exact hN)) (s_cons (s_for (i_seq (x_var 0)) (g_tup (gs_cons (g_name 4 (by exact hN)) (gs_cons (g_name 5 (by exact hN)) (gs_cons (g_name 6 (by exact hN)) (gs_nil))))) (s_cons (s_put (by exact hr.u1) (x_tup (a_cons (x_var 5) (a_cons (x_var 6) (a_nil)))) (x_var 3) (x_var 4)) (s_nil))) (s_cons (s_for (i_seq (x_var 0)) (g_tup (gs_cons (g_name 4 (by exact hN)) (gs_cons (g_name 5 (by exact hN)) (gs_cons (g_name 6 (by exact hN)) (gs_nil))))) (s_cons (s_if (t_not (t_val (c_call (k := 3) (d_is_folder.mono (by decide)) (by exact hr) (a_cons (x_var 4) (a_nil)) (n_cons (n_nil))))) (s_cons (s_set 7 (x_tup (a_cons (x_callTy cs_int G.n_int bo_int (a_cons (x_cmp (os_in (by exact hr.u1)) (x_var 4) (x_var 2)) (a_nil))) (a_cons (x_callTy cs_int G.n_int bo_int (a_cons (x_cmp (os_nin (by exact hr.u1)) (x_var 4) (x_var 2)) (a_nil))) (a_nil)))) (by exact hN)) (s_nil)) (s_cons (s_lc 8 (own := [("which", 9)]) (i_seq (x_tup (a_cons (x_int) (a_cons (x_int) (a_nil))))) (by exact hN) (blkOk_by (by kernel_rfl)) ⟨⟨[9], fun s H C cl fp => g_name 9 (by exact hN), by decide⟩, fun s H C cl fp => ts_nil, fun s H C cl fp => x_callB (cs_sum rfl) G.n_sum bo_sum (a_cons (x_lc (own := [("inner", 10)]) (i_seq (x_ix (by exact hr.u1) (x_var 1) (x_var 4))) (by exact hN) (blkOk_by (by kernel_rfl)) ⟨⟨[10], fun s H C cl fp => g_name 10 (by exact hN), by decide⟩, fun s H C cl fp => ts_nil, fun s H C cl fp => x_ix (by exact hr.u1) (x_ix (by exact hr.u1) (x_var 3) (x_var 10)) (x_var 9)⟩) (a_nil))⟩ (sw_true rfl rfl rfl rfl)) (s_cons (s_set 7 (x_tup (a_cons (x_callB (cs_min rfl) G.n_min bo_min (a_cons (x_ix (by exact hr.u1) (x_var 8) (x_int)) (a_cons (x_bin os_add (x_int) (x_ix (by exact hr.u1) (x_var 8) (x_int))) (a_nil)))) (a_cons (x_callB (cs_min rfl) G.n_min bo_min (a_cons (x_ix (by exact hr.u1) (x_var 8) (x_int)) (a_cons (x_bin os_add (x_int) (x_ix (by exact hr.u1) (x_var 8) (x_int))) (a_nil)))) (a_nil)))) (by exact hN)) (s_nil)))) (s_cons (s_if (t_w (w_or (t_cmp os_gt (x_var 5) (x_ix (by exact hr.u1) (x_var 7) (x_int))) (w_or1 (t_cmp os_gt (x_var 6) (x_ix (by exact hr.u1) (x_var 7) (x_int)))))) (s_cons (s_ret (x_bl)) (s_nil)) (s_nil)) (s_nil)))) (s_cons (s_ret (x_bl)) (s_nil))))
theorem ok_are_heights {T : List NTab} {Z : Wd} (G : Gk Z) (h : At Z "are_heights" (top 27) ["heights", "inside", "lot"]) (d_is_folder : Cal T Z 1 "is_folder" 1 F_is_folder) : Cal T Z 4 "are_heights" 3 F_are_heights := cal_intro h sc_are_heights (b_are_heights G d_is_folder)
/-! ### is_hushed -/
def B_is_hushed : SM := sSeq (sFor (iSeq (eBin opAdd (eLst (aCons (eVar 0) (aNil))) (eCall F_folders_up (aCons (eCall F_folder_of (aCons (eVar 0) (aNil))) (aNil))))) (gName 2) (sSeq (sIf (tB' (eBin opIn (eVar 2) (eVar 1))) (sSeq (sRet (eBin opEq (eBin opIx (eVar 1) (eVar 2)) (eC (.str "off")))) (sNil)) (sNil)) (sNil))) (sSeq (sRet (eC (.bl false))) (sNil))
def F_is_hushed : FM := mkF 3 2 B_is_hushed
theorem sc_is_hushed : FnScope ["path", "words", "place"] ["path", "words"] (defScope (top 26)) := ⟨rfl, rfl, rfl, by decide +kernel, rfl, by decide +kernel, by decide +kernel⟩
theorem b_is_hushed {T : List NTab} {Z : Wd} (G : Gk Z) (d_folders_up : Cal T Z 7 "folders_up" 1 F_folders_up) (d_folder_of : Cal T Z 1 "folder_of" 1 F_folder_of) : Body T Z 9 ["path", "words", "place"] "is_hushed" (top 26) B_is_hushed := fun f cdv Ar outer s H E hr hN => by
  unfold B_is_hushed
  exact s_cons (s_for (i_seq (x_bin os_add (x_lst (a_cons (x_var 0) (a_nil))) (c_call (k := 9) (d_folders_up.mono (by decide)) (by exact hr) (a_cons (c_call (k := 9) (d_folder_of.mono (by decide)) (by exact hr) (a_cons (x_var 0) (a_nil)) (n_cons (n_nil))) (a_nil)) (n_cons (n_nil))))) (g_name 2 (by exact hN)) (s_cons (s_if (t_cmp (os_in (by exact hr.u1)) (x_var 2) (x_var 1)) (s_cons (s_ret (x_cmp (os_eq (by exact hr.u64)) (x_ix (by exact hr.u1) (x_var 1) (x_var 2)) (x_str))) (s_nil)) (s_nil)) (s_nil))) (s_cons (s_ret (x_bl)) (s_nil))
theorem ok_is_hushed {T : List NTab} {Z : Wd} (G : Gk Z) (h : At Z "is_hushed" (top 26) ["path", "words"]) (d_folders_up : Cal T Z 7 "folders_up" 1 F_folders_up) (d_folder_of : Cal T Z 1 "folder_of" 1 F_folder_of) : Cal T Z 10 "is_hushed" 2 F_is_hushed := cal_intro h sc_is_hushed (b_is_hushed G d_folders_up d_folder_of)
/-! ### is_folder_text -/
def B_is_folder_text : SM := sSeq (sRet (eOr (eBin opEq (eVar 0) (eC (.str ""))) (eAnd (eMt (fun x _ => isS x) (mS1 gEnds) (eVar 0) (aCons (eC (.str "/")) (aNil))) (eCall F_is_path (aCons (eBin opAdd (eVar 0) (eC (.str "a"))) (aNil)))))) (sNil)
def F_is_folder_text : FM := mkF 1 1 B_is_folder_text
theorem sc_is_folder_text : FnScope ["place"] ["place"] (defScope (top 23)) := ⟨rfl, rfl, rfl, by decide +kernel, rfl, by decide +kernel, by decide +kernel⟩
theorem b_is_folder_text {T : List NTab} {Z : Wd} (G : Gk Z) (d_is_path : Cal T Z 4 "is_path" 1 F_is_path) : Body T Z 6 ["place"] "is_folder_text" (top 23) B_is_folder_text := fun f cdv Ar outer s H E hr hN => by
  unfold B_is_folder_text
  exact s_cons (s_ret (x_or (x_cmp (os_eq (by exact hr.u64)) (x_var 0) (x_str)) (x_one (x_and (x_mt plA_str PySem.F.slot_str_endswith PySem.F.type_str_endswith ty_str ms_ends (x_var 0) (a_cons (x_str) (a_nil))) (x_one (c_call (k := 6) (d_is_path.mono (by decide)) (by exact hr) (a_cons (x_bin os_add (x_var 0) (x_str)) (a_nil)) (n_cons (n_nil)))))))) (s_nil)
theorem ok_is_folder_text {T : List NTab} {Z : Wd} (G : Gk Z) (h : At Z "is_folder_text" (top 23) ["place"]) (d_is_path : Cal T Z 4 "is_path" 1 F_is_path) : Cal T Z 7 "is_folder_text" 1 F_is_folder_text := cal_intro h sc_is_folder_text (b_is_folder_text G d_is_path)
/-! ### Few_shows -/
def B_Few_shows : SM := sSeq (sAsg (eTup (aCons (eD0) (aCons (eCall F_straight_in (aCons (eVar 1) (aNil))) (aNil)))) (gTup [gName 4, gName 5])) (sSeq (sFor (iSeq (eUn (mFld "Few" "marks") (eVar 0))) (gTup [gName 6, gName 7]) (sSeq (sPut (eVar 7) (eVar 4) (eVar 6)) (sNil))) (sSeq (sAsg (eSort F_place_rank (eVar 4)) (gName 3)) (sSeq (sIf (tB' (eBin opNe (eLc (iSeq (eUn (mFld "Few" "marks") (eVar 0))) (gTup [gName 6, gName 7]) (tYes) (eVar 6) [6, 7]) (eVar 3))) (sSeq (sRet (eC (.bl false))) (sNil)) (sNil)) (sSeq (sIf (tNot (tB' (eCb mAll (aCons (eLock (pSlot 4) (eLc (iView .vals (eVar 4)) (gName 7) (tYes) (eBin opIn (eVar 7) (eTup (aCons (eC (.str "on")) (aCons (eC (.str "off")) (aNil))))) [7])) (aNil))))) (sSeq (sRet (eC (.bl false))) (sNil)) (sNil)) (sSeq (sIf (tNot (tB' (eCb mAll (aCons (eLc (iSeq (eVar 3)) (gName 6) (tYes) (eOr (eBin opIn (eVar 6) (eVar 1)) (eCall F_is_folder_text (aCons (eVar 6) (aNil)))) [6]) (aNil))))) (sSeq (sRet (eC (.bl false))) (sNil)) (sNil)) (sSeq (sIf (tNot (tB' (eCb mAll (aCons (eLc (iSeq (eVar 1)) (gName 8) (tYes) (eBin opEq (eCall F_is_hushed (aCons (eVar 8) (aCons (eVar 4) (aNil)))) (eBin opIn (eVar 8) (eVar 2))) [8]) (aNil))))) (sSeq (sRet (eC (.bl false))) (sNil)) (sNil)) (sSeq (sIf (tB' (eBin opNe (eLc (iSeq (eUn (mFld "Few" "heights") (eVar 0))) (gTup [gName 6, gName 9, gName 10]) (tYes) (eVar 6) [6, 9, 10]) (eSort F_place_rank (eBin opAdd (eCb mList (aCons (eVar 5) (aNil))) (eVar 1))))) (sSeq (sRet (eC (.bl false))) (sNil)) (sNil)) (sSeq (sIf (tNot (tB' (eCall F_are_heights (aCons (eUn (mFld "Few" "heights") (eVar 0)) (aCons (eVar 5) (aCons (eVar 2) (aNil))))))) (sSeq (sRet (eC (.bl false))) (sNil)) (sNil)) (sSeq (sRet (eBin opEq (eCb mLen (aCons (eUn (mFld "Few" "marks") (eVar 0)) (aNil))) (eIf (tB' (eBin opNe (eVar 1) (eLst (aNil)))) (eBin opIx (eBin opIx (eUn (mFld "Few" "heights") (eVar 0)) (eC (.int 0))) (eC (.int 1))) (eC (.int 0))))) (sNil))))))))))
def F_Few_shows : FM := mkF 11 3 B_Few_shows
theorem sc_Few_shows : FnScope ["self", "paths", "lot", "places", "words", "inside", "place", "word", "path", "told", "hushed"] ["self", "paths", "lot"] (defScope (inClass (top 28) 1)) := ⟨rfl, rfl, rfl, by decide +kernel, rfl, by decide +kernel, by decide +kernel⟩
theorem b_Few_shows {T : List NTab} {Z : Wd} (G : Gk Z) (d_are_heights : Cal T Z 4 "are_heights" 3 F_are_heights) (d_place_rank : Cal T Z 4 "place_rank" 1 F_place_rank) (d_is_hushed : Cal T Z 10 "is_hushed" 2 F_is_hushed) (d_is_folder_text : Cal T Z 7 "is_folder_text" 1 F_is_folder_text) (d_straight_in : Cal T Z 10 "straight_in" 1 F_straight_in) : Body T Z 12 ["self", "paths", "lot", "places", "words", "inside", "place", "word", "path", "told", "hushed"] "Few.shows" (inClass (top 28) 1) B_Few_shows := fun f cdv Ar outer s H E hr hN => by
  unfold B_Few_shows
  exact s_cons (s_asg (x_tup (a_cons (x_d0) (a_cons (c_call (k := 12) (d_straight_in.mono (by decide)) (by exact hr) (a_cons (x_var 1) (a_nil)) (n_cons (n_nil))) (a_nil)))) (g_tup (gs_cons (g_name 4 (by exact hN)) (gs_cons (g_name 5 (by exact hN)) (gs_nil))))) (s_cons (s_for (i_seq (c_fld G.f_Few_marks (x_var 0))) (g_tup (gs_cons (g_name 6 (by exact hN)) (gs_cons (g_name 7 (by exact hN)) (gs_nil)))) (s_cons (s_put (by exact hr.u1) (x_var 7) (x_var 4) (x_var 6)) (s_nil))) (s_cons (s_set 3 (c_sorted (k := 10) (d_place_rank.mono (by decide)) (by exact hr) G.n_sorted (x_var 4)) (by exact hN)) (s_cons (s_if (t_cmp (os_ne (by exact hr.u64)) (x_lc (own := [("place", 6), ("word", 7)]) (i_seq (c_fld G.f_Few_marks (x_var 0))) (by exact hN) (blkOk_by (by kernel_rfl)) ⟨⟨[6, 7], fun s H C cl fp => g_tup (gs_cons (g_name 6 (by exact hN)) (gs_cons (g_name 7 (by exact hN)) (gs_nil))), by decide⟩, fun s H C cl fp => ts_nil, fun s H C cl fp => x_var 6⟩) (x_var 3)) (s_cons (s_ret (x_bl)) (s_nil)) (s_nil)) (s_cons (s_if (t_not (t_val (x_callB (cs_all rfl) G.n_all bo_all (a_cons (x_lock (pSlot 4) (x_lc (own := [("word", 7)]) (i_vals (x_var 4)) (by exact hN) (blkOk_by (by kernel_rfl)) ⟨⟨[7], fun s H C cl fp => g_name 7 (by exact hN), by decide⟩, fun s H C cl fp => ts_nil, fun s H C cl fp => x_cmp (os_in (by exact hr.u1)) (x_var 7) (x_tup (a_cons (x_str) (a_cons (x_str) (a_nil))))⟩)) (a_nil))))) (s_cons (s_ret (x_bl)) (s_nil)) (s_nil)) (s_cons (s_if (t_not (t_val (x_callB (cs_all rfl) G.n_all bo_all (a_cons (x_lc (own := [("place", 6)]) (i_seq (x_var 3)) (by exact hN) (blkOk_by (by kernel_rfl)) ⟨⟨[6], fun s H C cl fp => g_name 6 (by exact hN), by decide⟩, fun s H C cl fp => ts_nil, fun s H C cl fp => x_or (x_cmp (os_in (by exact hr.u1)) (x_var 6) (x_var 1)) (x_one (c_call (k := 12) (d_is_folder_text.mono (by decide)) (by exact hr) (a_cons (x_var 6) (a_nil)) (n_cons (n_nil))))⟩) (a_nil))))) (s_cons (s_ret (x_bl)) (s_nil)) (s_nil)) (s_cons (s_if (t_not (t_val (x_callB (cs_all rfl) G.n_all bo_all (a_cons (x_lc (own := [("path", 8)]) (i_seq (x_var 1)) (by exact hN) (blkOk_by (by kernel_rfl)) ⟨⟨[8], fun s H C cl fp => g_name 8 (by exact hN), by decide⟩, fun s H C cl fp => ts_nil, fun s H C cl fp => x_cmp (os_eq (by exact hr.u64)) (c_call (k := 12) (d_is_hushed.mono (by decide)) (by exact hr) (a_cons (x_var 8) (a_cons (x_var 4) (a_nil))) (n_cons (n_cons (n_nil)))) (x_cmp (os_in (by exact hr.u1)) (x_var 8) (x_var 2))⟩) (a_nil))))) (s_cons (s_ret (x_bl)) (s_nil)) (s_nil)) (s_cons (s_if (t_cmp (os_ne (by exact hr.u64)) (x_lc (own := [("place", 6), ("told", 9), ("hushed", 10)]) (i_seq (c_fld G.f_Few_heights (x_var 0))) (by exact hN) (blkOk_by (by kernel_rfl)) ⟨⟨[6, 9, 10], fun s H C cl fp => g_tup (gs_cons (g_name 6 (by exact hN)) (gs_cons (g_name 9 (by exact hN)) (gs_cons (g_name 10 (by exact hN)) (gs_nil)))), by decide⟩, fun s H C cl fp => ts_nil, fun s H C cl fp => x_var 6⟩) (c_sorted (k := 10) (d_place_rank.mono (by decide)) (by exact hr) G.n_sorted (x_bin os_add (x_callTy (cs_list rfl) G.n_list bo_list (a_cons (x_var 5) (a_nil))) (x_var 1)))) (s_cons (s_ret (x_bl)) (s_nil)) (s_nil)) (s_cons (s_if (t_not (t_val (c_call (k := 12) (d_are_heights.mono (by decide)) (by exact hr) (a_cons (c_fld G.f_Few_heights (x_var 0)) (a_cons (x_var 5) (a_cons (x_var 2) (a_nil)))) (n_cons (n_cons (n_cons (n_nil))))))) (s_cons (s_ret (x_bl)) (s_nil)) (s_nil)) (s_cons (s_ret (x_cmp (os_eq (by exact hr.u64)) (x_callB cs_len G.n_len bo_len (a_cons (c_fld G.f_Few_marks (x_var 0)) (a_nil))) (x_if (t_cmp (os_ne (by exact hr.u64)) (x_var 1) (x_lst (a_nil))) (x_ix (by exact hr.u1) (x_ix (by exact hr.u1) (c_fld G.f_Few_heights (x_var 0)) (x_int)) (x_int)) (x_int)))) (s_nil))))))))))
theorem ok_Few_shows {T : List NTab} {Z : Wd} (G : Gk Z) (h : AtM Z "Few" "shows" "Few.shows" (inClass (top 28) 1) ["self", "paths", "lot"]) (d_are_heights : Cal T Z 4 "are_heights" 3 F_are_heights) (d_place_rank : Cal T Z 4 "place_rank" 1 F_place_rank) (d_is_hushed : Cal T Z 10 "is_hushed" 2 F_is_hushed) (d_is_folder_text : Cal T Z 7 "is_folder_text" 1 F_is_folder_text) (d_straight_in : Cal T Z 10 "straight_in" 1 F_straight_in) : CalM T Z 13 "Few" "shows" 3 F_Few_shows := calM_intro h sc_Few_shows (b_Few_shows G d_are_heights d_place_rank d_is_hushed d_is_folder_text d_straight_in)
/-! ### _law_rank -/
def B__law_rank : SM := sSeq (sRet (eTup (aCons (eCb mLen (aCons (eVar 0) (aNil))) (aCons (eVar 0) (aNil))))) (sNil)
def F__law_rank : FM := mkF 1 1 B__law_rank
theorem sc__law_rank : FnScope ["_law_name"] ["_law_name"] (defScope (top 35)) := ⟨rfl, rfl, rfl, by decide +kernel, rfl, by decide +kernel, by decide +kernel⟩
theorem b__law_rank {T : List NTab} {Z : Wd} (G : Gk Z)  : Body T Z 0 ["_law_name"] "_law_rank" (top 35) B__law_rank := fun f cdv Ar outer s H E hr hN => by
  unfold B__law_rank
  exact s_cons (s_ret (x_tup (a_cons (x_callB cs_len G.n_len bo_len (a_cons (x_var 0) (a_nil))) (a_cons (x_var 0) (a_nil))))) (s_nil)
theorem ok__law_rank {T : List NTab} {Z : Wd} (G : Gk Z) (h : At Z "_law_rank" (top 35) ["_law_name"])  : Cal T Z 1 "_law_rank" 1 F__law_rank := cal_intro h sc__law_rank (b__law_rank G )
/-! ### _law_place_rank -/
def B__law_place_rank : SM := sSeq (sAsg (eLc (iSeq (eMt (fun x _ => isS x) mSplit (eVar 0) (aCons (eC (.str "/")) (aNil)))) (gName 2) (tB' (eBin opNe (eVar 2) (eC (.str "")))) (eVar 2) [2]) (gName 1)) (sSeq (sRet (eTup (aCons (eCb mLen (aCons (eVar 1) (aNil))) (aCons (eLc (iSeq (eVar 1)) (gName 2) (tYes) (eCall F__law_rank (aCons (eVar 2) (aNil))) [2]) (aCons (eIf (tOr (tB' (eBin opEq (eVar 0) (eC (.str "")))) (tB' (eBin opEq (eBin opIx (eVar 0) (eUn opNeg (eC (.int 1)))) (eC (.str "/"))))) (eC (.int 0)) (eC (.int 1))) (aNil)))))) (sNil))
def F__law_place_rank : FM := mkF 3 1 B__law_place_rank
theorem sc__law_place_rank : FnScope ["_law_place", "_law_names_here", "_law_name"] ["_law_place"] (defScope (top 38)) := ⟨rfl, rfl, rfl, by decide +kernel, rfl, by decide +kernel, by decide +kernel⟩
theorem b__law_place_rank {T : List NTab} {Z : Wd} (G : Gk Z) (d__law_rank : Cal T Z 1 "_law_rank" 1 F__law_rank) : Body T Z 3 ["_law_place", "_law_names_here", "_law_name"] "_law_place_rank" (top 38) B__law_place_rank := fun f cdv Ar outer s H E hr hN => by
  unfold B__law_place_rank
  exact s_cons (s_lc 1 (own := [("_law_name", 2)]) (i_seq (x_mt plA_str PySem.F.slot_str_split PySem.F.type_str_split ty_str ms_split (x_var 0) (a_cons (x_str) (a_nil)))) (by exact hN) (blkOk_by (by kernel_rfl)) ⟨⟨[2], fun s H C cl fp => g_name 2 (by exact hN), by decide⟩, fun s H C cl fp => ts_one (t_cmp (os_ne (by exact hr.u64)) (x_var 2) (x_str)), fun s H C cl fp => x_var 2⟩ (sw_true rfl rfl rfl rfl)) (s_cons (s_ret (x_tup (a_cons (x_callB cs_len G.n_len bo_len (a_cons (x_var 1) (a_nil))) (a_cons (x_lc (own := [("_law_name", 2)]) (i_seq (x_var 1)) (by exact hN) (blkOk_by (by kernel_rfl)) ⟨⟨[2], fun s H C cl fp => g_name 2 (by exact hN), by decide⟩, fun s H C cl fp => ts_nil, fun s H C cl fp => c_call (k := 3) (d__law_rank.mono (by decide)) (by exact hr) (a_cons (x_var 2) (a_nil)) (n_cons (n_nil))⟩) (a_cons (x_if (t_w (w_or (t_cmp (os_eq (by exact hr.u64)) (x_var 0) (x_str)) (w_or1 (t_cmp (os_eq (by exact hr.u64)) (x_ix (by exact hr.u1) (x_var 0) (x_un us_neg (x_int))) (x_str))))) (x_int) (x_int)) (a_nil)))))) (s_nil))
theorem ok__law_place_rank {T : List NTab} {Z : Wd} (G : Gk Z) (h : At Z "_law_place_rank" (top 38) ["_law_place"]) (d__law_rank : Cal T Z 1 "_law_rank" 1 F__law_rank) : Cal T Z 4 "_law_place_rank" 1 F__law_place_rank := cal_intro h sc__law_place_rank (b__law_place_rank G d__law_rank)
/-! ### _law_folders -/
def B__law_folders : SM := sSeq (sPar [2, 3] (aCons (eSl (eMt (fun x _ => isS x) mSplit (eVar 0) (aCons (eC (.str "/")) (aNil))) (pN) (pS (eUn opNeg (eC (.int 1))))) (aCons (eLst (aNil)) (aNil)))) (sSeq (sFor (iCall mkR3 (aCons (eCb mLen (aCons (eVar 2) (aNil))) (aCons (eUn opNeg (eC (.int 1))) (aCons (eUn opNeg (eC (.int 1))) (aNil))))) (gName 1) (sSeq (sExpr (eMt isL mAppend (eVar 3) (aCons (eMt (fun x _ => isS x) mJoin (eC (.str "")) (aCons (eLc (iSeq (eSl (eVar 2) (pN) (pS (eVar 1)))) (gName 4) (tYes) (eBin opAdd (eVar 4) (eC (.str "/"))) [4]) (aNil))) (aNil)))) (sNil))) (sSeq (sRet (eVar 3)) (sNil)))
def F__law_folders : FM := mkF 5 1 B__law_folders
theorem sc__law_folders : FnScope ["_law_path", "_law_many", "_law_names_here", "_law_found", "_law_name"] ["_law_path"] (defScope (top 37)) := ⟨rfl, rfl, rfl, by decide +kernel, rfl, by decide +kernel, by decide +kernel⟩
theorem b__law_folders {T : List NTab} {Z : Wd} (G : Gk Z)  : Body T Z 0 ["_law_path", "_law_many", "_law_names_here", "_law_found", "_law_name"] "_law_folders" (top 37) B__law_folders := fun f cdv Ar outer s H E hr hN => by
  unfold B__law_folders
  exact s_cons (s_par2 2 3 (by exact hN) (a_cons (x_slice (x_mt plA_str PySem.F.slot_str_split PySem.F.type_str_split ty_str ms_split (x_var 0) (a_cons (x_str) (a_nil))) (p_none) (p_some (x_un us_neg (x_int)))) (a_cons (x_lst (a_nil)) (a_nil)))) (s_cons (s_for (i_range3 G.n_range (a_cons (x_callB cs_len G.n_len bo_len (a_cons (x_var 2) (a_nil))) (a_cons (x_un us_neg (x_int)) (a_cons (x_un us_neg (x_int)) (a_nil))))) (g_name 1 (by exact hN)) (s_cons (s_expr (x_mt plA_list PySem.F.slot_list_append PySem.F.type_list_append ty_list ml_append (x_var 3) (a_cons (x_mt plA_str PySem.F.slot_str_join PySem.F.type_str_join ty_str ms_join (x_str) (a_cons (x_lc (own := [("_law_name", 4)]) (i_seq (x_slice (x_var 2) (p_none) (p_some (x_var 1)))) (by exact hN) (blkOk_by (by kernel_rfl)) ⟨⟨[4], fun s H C cl fp => g_name 4 (by exact hN), by decide⟩, fun s H C cl fp => ts_nil, fun s H C cl fp => x_bin os_add (x_var 4) (x_str)⟩) (a_nil))) (a_nil)))) (s_nil))) (s_cons (s_ret (x_var 3)) (s_nil)))
theorem ok__law_folders {T : List NTab} {Z : Wd} (G : Gk Z) (h : At Z "_law_folders" (top 37) ["_law_path"])  : Cal T Z 1 "_law_folders" 1 F__law_folders := cal_intro h sc__law_folders (b__law_folders G )
/-! ### _law_inside -/
def B__law_inside : SM := sSeq (sAsg (eD0) (gName 1)) (sSeq (sFor (iSeq (eVar 0)) (gName 2) (sSeq (sFor (iCall mkZp (aCons (eBin opAdd (eLst (aCons (eVar 2) (aNil))) (eCall F__law_folders (aCons (eVar 2) (aNil)))) (aCons (eCall F__law_folders (aCons (eVar 2) (aNil))) (aNil)))) (gTup [gName 3, gName 4]) (sSeq (sAsg (e3 isDc mGet (eVar 1) (eVar 4) (eLst (aNil))) (gName 5)) (sSeq (sPut (eBin opAdd (eVar 5) (eIf (tB' (eBin opNin (eVar 3) (eVar 5))) (eLst (aCons (eVar 3) (aNil))) (eLst (aNil)))) (eVar 1) (eVar 4)) (sNil)))) (sNil))) (sSeq (sRet (eVar 1)) (sNil)))
def F__law_inside : FM := mkF 6 1 B__law_inside
theorem sc__law_inside : FnScope ["_law_paths_here", "_law_found", "_law_path", "_law_inner", "_law_folder", "_law_some"] ["_law_paths_here"] (defScope (top 40)) := ⟨rfl, rfl, rfl, by decide +kernel, rfl, by decide +kernel, by decide +kernel⟩
theorem b__law_inside {T : List NTab} {Z : Wd} (G : Gk Z) (d__law_folders : Cal T Z 1 "_law_folders" 1 F__law_folders) : Body T Z 3 ["_law_paths_here", "_law_found", "_law_path", "_law_inner", "_law_folder", "_law_some"] "_law_inside" (top 40) B__law_inside := fun f cdv Ar outer s H E hr hN => by
  unfold B__law_inside
  exact s_cons (s_set 1 (x_d0) (by exact hN)) (s_cons (s_for (i_seq (x_var 0)) (g_name 2 (by exact hN)) (s_cons (s_for (i_zip G.n_zip (a_cons (x_bin os_add (x_lst (a_cons (x_var 2) (a_nil))) (c_call (k := 3) (d__law_folders.mono (by decide)) (by exact hr) (a_cons (x_var 2) (a_nil)) (n_cons (n_nil)))) (a_cons (c_call (k := 3) (d__law_folders.mono (by decide)) (by exact hr) (a_cons (x_var 2) (a_nil)) (n_cons (n_nil))) (a_nil)))) (g_tup (gs_cons (g_name 3 (by exact hN)) (gs_cons (g_name 4 (by exact hN)) (gs_nil)))) (s_cons (s_set 5 (x_get (by exact hr.u1) (x_var 1) (x_var 4) (x_lst (a_nil))) (by exact hN)) (s_cons (s_put (by exact hr.u1) (x_bin os_add (x_var 5) (x_if (t_cmp (os_nin (by exact hr.u1)) (x_var 3) (x_var 5)) (x_lst (a_cons (x_var 3) (a_nil))) (x_lst (a_nil)))) (x_var 1) (x_var 4)) (s_nil)))) (s_nil))) (s_cons (s_ret (x_var 1)) (s_nil)))
theorem ok__law_inside {T : List NTab} {Z : Wd} (G : Gk Z) (h : At Z "_law_inside" (top 40) ["_law_paths_here"]) (d__law_folders : Cal T Z 1 "_law_folders" 1 F__law_folders) : Cal T Z 4 "_law_inside" 1 F__law_inside := cal_intro h sc__law_inside (b__law_inside G d__law_folders)
/-! ### _law_are_heights -/
def B__law_are_heights : SM := sSeq (sAsg (eTup (aCons (eCall F__law_inside (aCons (eVar 1) (aNil))) (aCons (eD0) (aNil)))) (gTup [gName 3, gName 4])) (sSeq (sIf (tB' (eBin opNe (eLc (iSeq (eVar 0)) (gName 9) (tYes) (eBin opIx (eVar 9) (eC (.int 0))) [9]) (eSort F__law_place_rank (eBin opAdd (eCb mList (aCons (eVar 3) (aNil))) (eVar 1))))) (sSeq (sRet (eC (.bl false))) (sNil)) (sNil)) (sSeq (sFor (iSeq (eVar 0)) (gTup [gName 5, gName 6, gName 7]) (sSeq (sPut (eTup (aCons (eVar 6) (aCons (eVar 7) (aNil)))) (eVar 4) (eVar 5)) (sNil))) (sSeq (sFor (iSeq (eVar 0)) (gTup [gName 5, gName 6, gName 7]) (sSeq (sIf (tB' (eBin opIn (eVar 5) (eVar 1))) (sSeq (sAsg (eTup (aCons (eIf (tB' (eBin opIn (eVar 5) (eVar 2))) (eC (.int 1)) (eC (.int 0))) (aCons (eIf (tB' (eBin opIn (eVar 5) (eVar 2))) (eC (.int 0)) (eC (.int 1))) (aNil)))) (gName 8)) (sNil)) (sSeq (sAsg (eCb mSum (aCons (eLc (iSeq (eBin opIx (eVar 3) (eVar 5))) (gName 11) (tYes) (eBin opIx (eBin opIx (eVar 4) (eVar 11)) (eC (.int 0))) [11]) (aNil))) (gName 9)) (sSeq (sAsg (eCb mSum (aCons (eLc (iSeq (eBin opIx (eVar 3) (eVar 5))) (gName 11) (tYes) (eBin opIx (eBin opIx (eVar 4) (eVar 11)) (eC (.int 1))) [11]) (aNil))) (gName 10)) (sSeq (sAsg (eTup (aCons (eCb mMin (aCons (eVar 9) (aCons (eBin opAdd (eC (.int 1)) (eVar 10)) (aNil)))) (aCons (eCb mMin (aCons (eVar 10) (aCons (eBin opAdd (eC (.int 1)) (eVar 9)) (aNil)))) (aNil)))) (gName 8)) (sNil))))) (sSeq (sIf (tOr (tB' (eBin opGt (eVar 6) (eBin opIx (eVar 8) (eC (.int 0))))) (tB' (eBin opGt (eVar 7) (eBin opIx (eVar 8) (eC (.int 1)))))) (sSeq (sRet (eC (.bl false))) (sNil)) (sNil)) (sNil)))) (sSeq (sRet (eC (.bl true))) (sNil)))))
def F__law_are_heights : FM := mkF 12 3 B__law_are_heights
theorem sc__law_are_heights : FnScope ["_law_heights", "_law_paths_here", "_law_lot", "_law_inside_here", "_law_known", "_law_place", "_law_told", "_law_hushed", "_law_most", "_law_one", "_law_other", "_law_inner"] ["_law_heights", "_law_paths_here", "_law_lot"] (defScope (top 41)) := ⟨rfl, rfl, rfl, by decide +kernel, rfl, by decide +kernel, by decide +kernel⟩
theorem b__law_are_heights {T : List NTab} {Z : Wd} (G : Gk Z) (d__law_place_rank : Cal T Z 4 "_law_place_rank" 1 F__law_place_rank) (d__law_inside : Cal T Z 4 "_law_inside" 1 F__law_inside) : Body T Z 6 ["_law_heights", "_law_paths_here", "_law_lot", "_law_inside_here", "_law_known", "_law_place", "_law_told", "_law_hushed", "_law_most", "_law_one", "_law_other", "_law_inner"] "_law_are_heights" (top 41) B__law_are_heights := fun f cdv Ar outer s H E hr hN => by
  unfold B__law_are_heights
  exact s_cons (s_asg (x_tup (a_cons (c_call (k := 6) (d__law_inside.mono (by decide)) (by exact hr) (a_cons (x_var 1) (a_nil)) (n_cons (n_nil))) (a_cons (x_d0) (a_nil)))) (g_tup (gs_cons (g_name 3 (by exact hN)) (gs_cons (g_name 4 (by exact hN)) (gs_nil))))) (s_cons (s_if (t_cmp (os_ne (by exact hr.u64)) (x_lc (own := [("_law_one", 9)]) (i_seq (x_var 0)) (by exact hN) (blkOk_by (by kernel_rfl)) ⟨⟨[9], fun s H C cl fp => g_name 9 (by exact hN), by decide⟩, fun s H C cl fp => ts_nil, fun s H C cl fp => x_ix (by exact hr.u1) (x_var 9) (x_int)⟩) (c_sorted (k := 4) (d__law_place_rank.mono (by decide)) (by exact hr) G.n_sorted (x_bin os_add (x_callTy (cs_list rfl) G.n_list bo_list (a_cons (x_var 3) (a_nil))) (x_var 1)))) (s_cons (s_ret (x_bl)) (s_nil)) (s_nil)) (s_cons (s_for (i_seq (x_var 0)) (g_tup (gs_cons (g_name 5 (by exact hN)) (gs_cons (g_name 6 (by exact hN)) (gs_cons (g_name 7 (by exact hN)) (gs_nil))))) (s_cons (s_put (by exact hr.u1) (x_tup (a_cons (x_var 6) (a_cons (x_var 7) (a_nil)))) (x_var 4) (x_var 5)) (s_nil))) (s_cons (s_for (i_seq (x_var 0)) (g_tup (gs_cons (g_name 5 (by exact hN)) (gs_cons (g_name 6 (by exact hN)) (gs_cons (g_name 7 (by exact hN)) (gs_nil))))) (s_cons (s_if (t_cmp (os_in (by exact hr.u1)) (x_var 5) (x_var 1)) (s_cons (s_set 8 (x_tup (a_cons (x_if (t_cmp (os_in (by exact hr.u1)) (x_var 5) (x_var 2)) (x_int) (x_int)) (a_cons (x_if (t_cmp (os_in (by exact hr.u1)) (x_var 5) (x_var 2)) (x_int) (x_int)) (a_nil)))) (by exact hN)) (s_nil)) (s_cons (s_set 9 (x_callB (cs_sum rfl) G.n_sum bo_sum (a_cons (x_lc (own := [("_law_inner", 11)]) (i_seq (x_ix (by exact hr.u1) (x_var 3) (x_var 5))) (by exact hN) (blkOk_by (by kernel_rfl)) ⟨⟨[11], fun s H C cl fp => g_name 11 (by exact hN), by decide⟩, fun s H C cl fp => ts_nil, fun s H C cl fp => x_ix (by exact hr.u1) (x_ix (by exact hr.u1) (x_var 4) (x_var 11)) (x_int)⟩) (a_nil))) (by exact hN)) (s_cons (s_set 10 (x_callB (cs_sum rfl) G.n_sum bo_sum (a_cons (x_lc (own := [("_law_inner", 11)]) (i_seq (x_ix (by exact hr.u1) (x_var 3) (x_var 5))) (by exact hN) (blkOk_by (by kernel_rfl)) ⟨⟨[11], fun s H C cl fp => g_name 11 (by exact hN), by decide⟩, fun s H C cl fp => ts_nil, fun s H C cl fp => x_ix (by exact hr.u1) (x_ix (by exact hr.u1) (x_var 4) (x_var 11)) (x_int)⟩) (a_nil))) (by exact hN)) (s_cons (s_set 8 (x_tup (a_cons (x_callB (cs_min rfl) G.n_min bo_min (a_cons (x_var 9) (a_cons (x_bin os_add (x_int) (x_var 10)) (a_nil)))) (a_cons (x_callB (cs_min rfl) G.n_min bo_min (a_cons (x_var 10) (a_cons (x_bin os_add (x_int) (x_var 9)) (a_nil)))) (a_nil)))) (by exact hN)) (s_nil))))) (s_cons (s_if (t_w (w_or (t_cmp os_gt (x_var 6) (x_ix (by exact hr.u1) (x_var 8) (x_int))) (w_or1 (t_cmp os_gt (x_var 7) (x_ix (by exact hr.u1) (x_var 8) (x_int)))))) (s_cons (s_ret (x_bl)) (s_nil)) (s_nil)) (s_nil)))) (s_cons (s_ret (x_bl)) (s_nil)))))
theorem ok__law_are_heights {T : List NTab} {Z : Wd} (G : Gk Z) (h : At Z "_law_are_heights" (top 41) ["_law_heights", "_law_paths_here", "_law_lot"]) (d__law_place_rank : Cal T Z 4 "_law_place_rank" 1 F__law_place_rank) (d__law_inside : Cal T Z 4 "_law_inside" 1 F__law_inside) : Cal T Z 7 "_law_are_heights" 3 F__law_are_heights := cal_intro h sc__law_are_heights (b__law_are_heights G d__law_place_rank d__law_inside)
/-! ### _law_is_hushed -/
def B__law_is_hushed : SM := sSeq (sFor (iSeq (eBin opAdd (eLst (aCons (eVar 0) (aNil))) (eCall F__law_folders (aCons (eVar 0) (aNil))))) (gName 2) (sSeq (sIf (tB' (eBin opIn (eVar 2) (eVar 1))) (sSeq (sRet (eBin opEq (eBin opIx (eVar 1) (eVar 2)) (eC (.str "off")))) (sNil)) (sNil)) (sNil))) (sSeq (sRet (eC (.bl false))) (sNil))
def F__law_is_hushed : FM := mkF 3 2 B__law_is_hushed
theorem sc__law_is_hushed : FnScope ["_law_path", "_law_words", "_law_place"] ["_law_path", "_law_words"] (defScope (top 39)) := ⟨rfl, rfl, rfl, by decide +kernel, rfl, by decide +kernel, by decide +kernel⟩
theorem b__law_is_hushed {T : List NTab} {Z : Wd} (G : Gk Z) (d__law_folders : Cal T Z 1 "_law_folders" 1 F__law_folders) : Body T Z 3 ["_law_path", "_law_words", "_law_place"] "_law_is_hushed" (top 39) B__law_is_hushed := fun f cdv Ar outer s H E hr hN => by
  unfold B__law_is_hushed
  exact s_cons (s_for (i_seq (x_bin os_add (x_lst (a_cons (x_var 0) (a_nil))) (c_call (k := 3) (d__law_folders.mono (by decide)) (by exact hr) (a_cons (x_var 0) (a_nil)) (n_cons (n_nil))))) (g_name 2 (by exact hN)) (s_cons (s_if (t_cmp (os_in (by exact hr.u1)) (x_var 2) (x_var 1)) (s_cons (s_ret (x_cmp (os_eq (by exact hr.u64)) (x_ix (by exact hr.u1) (x_var 1) (x_var 2)) (x_str))) (s_nil)) (s_nil)) (s_nil))) (s_cons (s_ret (x_bl)) (s_nil))
theorem ok__law_is_hushed {T : List NTab} {Z : Wd} (G : Gk Z) (h : At Z "_law_is_hushed" (top 39) ["_law_path", "_law_words"]) (d__law_folders : Cal T Z 1 "_law_folders" 1 F__law_folders) : Cal T Z 4 "_law_is_hushed" 2 F__law_is_hushed := cal_intro h sc__law_is_hushed (b__law_is_hushed G d__law_folders)
/-! ### _law_are_sayings -/
def B__law_are_sayings : SM := sSeq (sAsg (eTup (aCons (eLc (iSeq (eVar 0)) (gName 7) (tYes) (eBin opIx (eVar 7) (eC (.int 0))) [7]) (aCons (eD0) (aNil)))) (gTup [gName 3, gName 4])) (sSeq (sFor (iSeq (eVar 0)) (gTup [gName 5, gName 6]) (sSeq (sPut (eVar 6) (eVar 4) (eVar 5)) (sNil))) (sSeq (sIf (tOr (tB' (eBin opNe (eVar 3) (eSort F__law_place_rank (eVar 4)))) (tNot (tB' (eCb mAll (aCons (eLock (pSlot 4) (eLc (iView .vals (eVar 4)) (gName 6) (tYes) (eBin opIn (eVar 6) (eTup (aCons (eC (.str "on")) (aCons (eC (.str "off")) (aNil))))) [6])) (aNil)))))) (sSeq (sRet (eC (.bl false))) (sNil)) (sNil)) (sSeq (sRet (eCb mAll (aCons (eLc (iSeq (eVar 1)) (gName 8) (tYes) (eBin opEq (eCall F__law_is_hushed (aCons (eVar 8) (aCons (eVar 4) (aNil)))) (eBin opIn (eVar 8) (eVar 2))) [8]) (aNil)))) (sNil))))
def F__law_are_sayings : FM := mkF 9 3 B__law_are_sayings
theorem sc__law_are_sayings : FnScope ["_law_marks", "_law_paths_here", "_law_lot", "_law_places", "_law_words", "_law_place", "_law_word", "_law_one", "_law_path"] ["_law_marks", "_law_paths_here", "_law_lot"] (defScope (top 42)) := ⟨rfl, rfl, rfl, by decide +kernel, rfl, by decide +kernel, by decide +kernel⟩
theorem b__law_are_sayings {T : List NTab} {Z : Wd} (G : Gk Z) (d__law_is_hushed : Cal T Z 4 "_law_is_hushed" 2 F__law_is_hushed) (d__law_place_rank : Cal T Z 4 "_law_place_rank" 1 F__law_place_rank) : Body T Z 6 ["_law_marks", "_law_paths_here", "_law_lot", "_law_places", "_law_words", "_law_place", "_law_word", "_law_one", "_law_path"] "_law_are_sayings" (top 42) B__law_are_sayings := fun f cdv Ar outer s H E hr hN => by
  unfold B__law_are_sayings
  exact s_cons (s_asg (x_tup (a_cons (x_lc (own := [("_law_one", 7)]) (i_seq (x_var 0)) (by exact hN) (blkOk_by (by kernel_rfl)) ⟨⟨[7], fun s H C cl fp => g_name 7 (by exact hN), by decide⟩, fun s H C cl fp => ts_nil, fun s H C cl fp => x_ix (by exact hr.u1) (x_var 7) (x_int)⟩) (a_cons (x_d0) (a_nil)))) (g_tup (gs_cons (g_name 3 (by exact hN)) (gs_cons (g_name 4 (by exact hN)) (gs_nil))))) (s_cons (s_for (i_seq (x_var 0)) (g_tup (gs_cons (g_name 5 (by exact hN)) (gs_cons (g_name 6 (by exact hN)) (gs_nil)))) (s_cons (s_put (by exact hr.u1) (x_var 6) (x_var 4) (x_var 5)) (s_nil))) (s_cons (s_if (t_w (w_or (t_cmp (os_ne (by exact hr.u64)) (x_var 3) (c_sorted (k := 4) (d__law_place_rank.mono (by decide)) (by exact hr) G.n_sorted (x_var 4))) (w_or1 (t_not (t_val (x_callB (cs_all rfl) G.n_all bo_all (a_cons (x_lock (pSlot 4) (x_lc (own := [("_law_word", 6)]) (i_vals (x_var 4)) (by exact hN) (blkOk_by (by kernel_rfl)) ⟨⟨[6], fun s H C cl fp => g_name 6 (by exact hN), by decide⟩, fun s H C cl fp => ts_nil, fun s H C cl fp => x_cmp (os_in (by exact hr.u1)) (x_var 6) (x_tup (a_cons (x_str) (a_cons (x_str) (a_nil))))⟩)) (a_nil)))))))) (s_cons (s_ret (x_bl)) (s_nil)) (s_nil)) (s_cons (s_ret (x_callB (cs_all rfl) G.n_all bo_all (a_cons (x_lc (own := [("_law_path", 8)]) (i_seq (x_var 1)) (by exact hN) (blkOk_by (by kernel_rfl)) ⟨⟨[8], fun s H C cl fp => g_name 8 (by exact hN), by decide⟩, fun s H C cl fp => ts_nil, fun s H C cl fp => x_cmp (os_eq (by exact hr.u64)) (c_call (k := 6) (d__law_is_hushed.mono (by decide)) (by exact hr) (a_cons (x_var 8) (a_cons (x_var 4) (a_nil))) (n_cons (n_cons (n_nil)))) (x_cmp (os_in (by exact hr.u1)) (x_var 8) (x_var 2))⟩) (a_nil)))) (s_nil))))
theorem ok__law_are_sayings {T : List NTab} {Z : Wd} (G : Gk Z) (h : At Z "_law_are_sayings" (top 42) ["_law_marks", "_law_paths_here", "_law_lot"]) (d__law_is_hushed : Cal T Z 4 "_law_is_hushed" 2 F__law_is_hushed) (d__law_place_rank : Cal T Z 4 "_law_place_rank" 1 F__law_place_rank) : Cal T Z 7 "_law_are_sayings" 3 F__law_are_sayings := cal_intro h sc__law_are_sayings (b__law_are_sayings G d__law_is_hushed d__law_place_rank)
/-! ### _law_few_right -/
def B__law_few_right : SM := sSeq (sIf (tOr (tNot (tB' (eUn (mIsC "Few") (eVar 0)))) (tNot (tB' (eCall F__law_are_sayings (aCons (eUn (mFld "Few" "marks") (eVar 0)) (aCons (eVar 1) (aCons (eVar 2) (aNil)))))))) (sSeq (sRet (eC (.bl false))) (sNil)) (sNil)) (sSeq (sIf (tB' (eBin opEq (eVar 1) (eLst (aNil)))) (sSeq (sRet (eAnd (eBin opEq (eUn (mFld "Few" "marks") (eVar 0)) (eLst (aNil))) (eBin opEq (eUn (mFld "Few" "heights") (eVar 0)) (eLst (aNil))))) (sNil)) (sNil)) (sSeq (sRet (eAnd (eCall F__law_are_heights (aCons (eUn (mFld "Few" "heights") (eVar 0)) (aCons (eVar 1) (aCons (eVar 2) (aNil))))) (eBin opEq (eBin opIx (eBin opIx (eUn (mFld "Few" "heights") (eVar 0)) (eC (.int 0))) (eC (.int 1))) (eCb mLen (aCons (eUn (mFld "Few" "marks") (eVar 0)) (aNil)))))) (sNil)))
def F__law_few_right : FM := mkF 3 3 B__law_few_right
theorem sc__law_few_right : FnScope ["_law_told", "_law_paths_here", "_law_lot"] ["_law_told", "_law_paths_here", "_law_lot"] (defScope (top 43)) := ⟨rfl, rfl, rfl, by decide +kernel, rfl, by decide +kernel, by decide +kernel⟩
theorem b__law_few_right {T : List NTab} {Z : Wd} (G : Gk Z) (d__law_are_heights : Cal T Z 7 "_law_are_heights" 3 F__law_are_heights) (d__law_are_sayings : Cal T Z 7 "_law_are_sayings" 3 F__law_are_sayings) : Body T Z 9 ["_law_told", "_law_paths_here", "_law_lot"] "_law_few_right" (top 43) B__law_few_right := fun f cdv Ar outer s H E hr hN => by
  unfold B__law_few_right
  exact s_cons (s_if (t_w (w_or (t_not (t_val (c_isC G.n_isinstance G.k_Few (x_var 0)))) (w_or1 (t_not (t_val (c_call (k := 9) (d__law_are_sayings.mono (by decide)) (by exact hr) (a_cons (c_fld G.f_Few_marks (x_var 0)) (a_cons (x_var 1) (a_cons (x_var 2) (a_nil)))) (n_cons (n_cons (n_cons (n_nil)))))))))) (s_cons (s_ret (x_bl)) (s_nil)) (s_nil)) (s_cons (s_if (t_cmp (os_eq (by exact hr.u64)) (x_var 1) (x_lst (a_nil))) (s_cons (s_ret (x_and (x_cmp (os_eq (by exact hr.u64)) (c_fld G.f_Few_marks (x_var 0)) (x_lst (a_nil))) (x_one (x_cmp (os_eq (by exact hr.u64)) (c_fld G.f_Few_heights (x_var 0)) (x_lst (a_nil)))))) (s_nil)) (s_nil)) (s_cons (s_ret (x_and (c_call (k := 9) (d__law_are_heights.mono (by decide)) (by exact hr) (a_cons (c_fld G.f_Few_heights (x_var 0)) (a_cons (x_var 1) (a_cons (x_var 2) (a_nil)))) (n_cons (n_cons (n_cons (n_nil))))) (x_one (x_cmp (os_eq (by exact hr.u64)) (x_ix (by exact hr.u1) (x_ix (by exact hr.u1) (c_fld G.f_Few_heights (x_var 0)) (x_int)) (x_int)) (x_callB cs_len G.n_len bo_len (a_cons (c_fld G.f_Few_marks (x_var 0)) (a_nil))))))) (s_nil)))
theorem ok__law_few_right {T : List NTab} {Z : Wd} (G : Gk Z) (h : At Z "_law_few_right" (top 43) ["_law_told", "_law_paths_here", "_law_lot"]) (d__law_are_heights : Cal T Z 7 "_law_are_heights" 3 F__law_are_heights) (d__law_are_sayings : Cal T Z 7 "_law_are_sayings" 3 F__law_are_sayings) : Cal T Z 10 "_law_few_right" 3 F__law_few_right := cal_intro h sc__law_few_right (b__law_few_right G d__law_are_heights d__law_are_sayings)
/-! ### _law_draw -/
def B__law_draw : SM := sSeq (sAsg (eTup (aCons (eC (.int 1000003)) (aCons (eC (.int 1000033)) (aCons (eC (.int 1000037)) (aCons (eC (.int 1000039)) (aCons (eC (.int 1000081)) (aCons (eC (.int 1000099)) (aCons (eC (.int 1000117)) (aCons (eC (.int 1000121)) (aCons (eC (.int 1000133)) (aCons (eC (.int 1000151)) (aCons (eC (.int 1000159)) (aCons (eC (.int 1000171)) (aCons (eC (.int 1000183)) (aCons (eC (.int 1000187)) (aCons (eC (.int 1000193)) (aCons (eC (.int 1000199)) (aNil)))))))))))))))))) (gName 3)) (sSeq (sRet (eBin opMod (eBin opMod (eBin opAdd (eBin opMul (eVar 0) (eC (.int 48271))) (eBin opMul (eVar 1) (eC (.int 69621)))) (eBin opIx (eVar 3) (eBin opMod (eVar 1) (eC (.int 16))))) (eVar 2))) (sNil))
def F__law_draw : FM := mkF 4 3 B__law_draw
theorem sc__law_draw : FnScope ["_law_cell", "_law_k", "_law_many", "_law_primes"] ["_law_cell", "_law_k", "_law_many"] (defScope (top 31)) := ⟨rfl, rfl, rfl, by decide +kernel, rfl, by decide +kernel, by decide +kernel⟩
theorem b__law_draw {T : List NTab} {Z : Wd} (G : Gk Z)  : Body T Z 0 ["_law_cell", "_law_k", "_law_many", "_law_primes"] "_law_draw" (top 31) B__law_draw := fun f cdv Ar outer s H E hr hN => by
  unfold B__law_draw
  exact s_cons (s_set 3 (x_tup (a_cons (x_int) (a_cons (x_int) (a_cons (x_int) (a_cons (x_int) (a_cons (x_int) (a_cons (x_int) (a_cons (x_int) (a_cons (x_int) (a_cons (x_int) (a_cons (x_int) (a_cons (x_int) (a_cons (x_int) (a_cons (x_int) (a_cons (x_int) (a_cons (x_int) (a_cons (x_int) (a_nil)))))))))))))))))) (by exact hN)) (s_cons (s_ret (x_bin os_mod (x_bin os_mod (x_bin os_add (x_bin os_mul (x_var 0) (x_int)) (x_bin os_mul (x_var 1) (x_int))) (x_ix (by exact hr.u1) (x_var 3) (x_bin os_mod (x_var 1) (x_int)))) (x_var 2))) (s_nil))
theorem ok__law_draw {T : List NTab} {Z : Wd} (G : Gk Z) (h : At Z "_law_draw" (top 31) ["_law_cell", "_law_k", "_law_many"])  : Cal T Z 1 "_law_draw" 3 F__law_draw := cal_intro h sc__law_draw (b__law_draw G )
/-! ### _law_cell_at -/
def B__law_cell_at : SM := sSeq (sIf (tB' (eBin opLt (eVar 1) (eCb mLen (aCons (eVar 0) (aNil))))) (sSeq (sRet (eCb mAbs (aCons (eBin opIx (eVar 0) (eVar 1)) (aNil)))) (sNil)) (sNil)) (sSeq (sRet (eCall F__law_draw (aCons (eBin opAdd (eCb mAbs (aCons (eCb mSum (aCons (eVar 0) (aNil))) (aNil))) (eBin opMul (eC (.int 7919)) (eVar 1))) (aCons (eVar 1) (aCons (eC (.int 999983)) (aNil)))))) (sNil))
def F__law_cell_at : FM := mkF 2 2 B__law_cell_at
theorem sc__law_cell_at : FnScope ["_law_script", "_law_k"] ["_law_script", "_law_k"] (defScope (top 32)) := ⟨rfl, rfl, rfl, by decide +kernel, rfl, by decide +kernel, by decide +kernel⟩
theorem b__law_cell_at {T : List NTab} {Z : Wd} (G : Gk Z) (d__law_draw : Cal T Z 1 "_law_draw" 3 F__law_draw) : Body T Z 3 ["_law_script", "_law_k"] "_law_cell_at" (top 32) B__law_cell_at := fun f cdv Ar outer s H E hr hN => by
  unfold B__law_cell_at
  exact s_cons (s_if (t_cmp os_lt (x_var 1) (x_callB cs_len G.n_len bo_len (a_cons (x_var 0) (a_nil)))) (s_cons (s_ret (x_callB cs_abs G.n_abs bo_abs (a_cons (x_ix (by exact hr.u1) (x_var 0) (x_var 1)) (a_nil)))) (s_nil)) (s_nil)) (s_cons (s_ret (c_call (k := 3) (d__law_draw.mono (by decide)) (by exact hr) (a_cons (x_bin os_add (x_callB cs_abs G.n_abs bo_abs (a_cons (x_callB (cs_sum rfl) G.n_sum bo_sum (a_cons (x_var 0) (a_nil))) (a_nil))) (x_bin os_mul (x_int) (x_var 1))) (a_cons (x_var 1) (a_cons (x_int) (a_nil)))) (n_cons (n_cons (n_cons (n_nil)))))) (s_nil))
theorem ok__law_cell_at {T : List NTab} {Z : Wd} (G : Gk Z) (h : At Z "_law_cell_at" (top 32) ["_law_script", "_law_k"]) (d__law_draw : Cal T Z 1 "_law_draw" 3 F__law_draw) : Cal T Z 4 "_law_cell_at" 2 F__law_cell_at := cal_intro h sc__law_cell_at (b__law_cell_at G d__law_draw)
/-! ### _law_digits -/
def B__law_digits : SM := sSeq (sPar [6, 7] (aCons (eCall F__law_cell_at (aCons (eVar 0) (aCons (eVar 1) (aNil)))) (aCons (eLst (aNil)) (aNil)))) (sSeq (sAsg (eBin opSub (eVar 6) (eBin opPow (eC (.int 10)) (eC (.int 18)))) (gName 4)) (sSeq (sFor (iCall mkR1 (aCons (eVar 2) (aNil))) (gName 5) (sSeq (sIf (tB' (eBin opGe (eVar 6) (eBin opPow (eC (.int 10)) (eC (.int 18))))) (sSeq (sExpr (eMt isL mAppend (eVar 7) (aCons (eBin opMod (eVar 4) (eVar 3)) (aNil)))) (sSeq (sAsg (eBin opDiv (eVar 4) (eVar 3)) (gName 4)) (sNil))) (sSeq (sAsg (eCall F__law_draw (aCons (eBin opMul (eBin opAdd (eVar 6) (eBin opMul (eC (.int 977)) (eVar 5))) (eBin opAdd (eBin opAdd (eVar 6) (eBin opMul (eC (.int 31)) (eVar 5))) (eC (.int 5)))) (aCons (eBin opAdd (eBin opMod (eVar 5) (eC (.int 9))) (eC (.int 1))) (aCons (eC (.int 999983)) (aNil))))) (gName 8)) (sSeq (sAsg (eCall F__law_draw (aCons (eBin opAdd (eBin opMul (eBin opAdd (eVar 6) (eBin opMul (eC (.int 31)) (eVar 5))) (eBin opAdd (eVar 6) (eC (.int 7)))) (eBin opMul (eC (.int 977)) (eVar 5))) (aCons (eBin opAdd (eBin opMod (eVar 5) (eC (.int 7))) (eC (.int 2))) (aCons (eC (.int 1000003)) (aNil))))) (gName 9)) (sSeq (sExpr (eMt isL mAppend (eVar 7) (aCons (eBin opMod (eBin opAdd (eBin opMul (eVar 8) (eC (.int 1000003))) (eVar 9)) (eVar 3)) (aNil)))) (sNil))))) (sNil))) (sSeq (sRet (eVar 7)) (sNil))))
def F__law_digits : FM := mkF 10 4 B__law_digits
theorem sc__law_digits : FnScope ["_law_script", "_law_at", "_law_many", "_law_base", "_law_left", "_law_turn", "_law_cell", "_law_found", "_law_blend", "_law_more"] ["_law_script", "_law_at", "_law_many", "_law_base"] (defScope (top 33)) := ⟨rfl, rfl, rfl, by decide +kernel, rfl, by decide +kernel, by decide +kernel⟩
theorem b__law_digits {T : List NTab} {Z : Wd} (G : Gk Z) (d__law_draw : Cal T Z 1 "_law_draw" 3 F__law_draw) (d__law_cell_at : Cal T Z 4 "_law_cell_at" 2 F__law_cell_at) : Body T Z 6 ["_law_script", "_law_at", "_law_many", "_law_base", "_law_left", "_law_turn", "_law_cell", "_law_found", "_law_blend", "_law_more"] "_law_digits" (top 33) B__law_digits := fun f cdv Ar outer s H E hr hN => by
  unfold B__law_digits
  exact s_cons (s_par2 6 7 (by exact hN) (a_cons (c_call (k := 6) (d__law_cell_at.mono (by decide)) (by exact hr) (a_cons (x_var 0) (a_cons (x_var 1) (a_nil))) (n_cons (n_cons (n_nil)))) (a_cons (x_lst (a_nil)) (a_nil)))) (s_cons (s_set 4 (x_bin os_sub (x_var 6) (x_bin os_pow (x_int) (x_int))) (by exact hN)) (s_cons (s_for (i_range1 G.n_range (a_cons (x_var 2) (a_nil))) (g_name 5 (by exact hN)) (s_cons (s_if (t_cmp os_ge (x_var 6) (x_bin os_pow (x_int) (x_int))) (s_cons (s_expr (x_mt plA_list PySem.F.slot_list_append PySem.F.type_list_append ty_list ml_append (x_var 7) (a_cons (x_bin os_mod (x_var 4) (x_var 3)) (a_nil)))) (s_cons (s_set 4 (x_bin os_div (x_var 4) (x_var 3)) (by exact hN)) (s_nil))) (s_cons (s_set 8 (c_call (k := 6) (d__law_draw.mono (by decide)) (by exact hr) (a_cons (x_bin os_mul (x_bin os_add (x_var 6) (x_bin os_mul (x_int) (x_var 5))) (x_bin os_add (x_bin os_add (x_var 6) (x_bin os_mul (x_int) (x_var 5))) (x_int))) (a_cons (x_bin os_add (x_bin os_mod (x_var 5) (x_int)) (x_int)) (a_cons (x_int) (a_nil)))) (n_cons (n_cons (n_cons (n_nil))))) (by exact hN)) (s_cons (s_set 9 (c_call (k := 6) (d__law_draw.mono (by decide)) (by exact hr) (a_cons (x_bin os_add (x_bin os_mul (x_bin os_add (x_var 6) (x_bin os_mul (x_int) (x_var 5))) (x_bin os_add (x_var 6) (x_int))) (x_bin os_mul (x_int) (x_var 5))) (a_cons (x_bin os_add (x_bin os_mod (x_var 5) (x_int)) (x_int)) (a_cons (x_int) (a_nil)))) (n_cons (n_cons (n_cons (n_nil))))) (by exact hN)) (s_cons (s_expr (x_mt plA_list PySem.F.slot_list_append PySem.F.type_list_append ty_list ml_append (x_var 7) (a_cons (x_bin os_mod (x_bin os_add (x_bin os_mul (x_var 8) (x_int)) (x_var 9)) (x_var 3)) (a_nil)))) (s_nil))))) (s_nil))) (s_cons (s_ret (x_var 7)) (s_nil))))
theorem ok__law_digits {T : List NTab} {Z : Wd} (G : Gk Z) (h : At Z "_law_digits" (top 33) ["_law_script", "_law_at", "_law_many", "_law_base"]) (d__law_draw : Cal T Z 1 "_law_draw" 3 F__law_draw) (d__law_cell_at : Cal T Z 4 "_law_cell_at" 2 F__law_cell_at) : Cal T Z 7 "_law_digits" 4 F__law_digits := cal_intro h sc__law_digits (b__law_digits G d__law_draw d__law_cell_at)
/-! ### _law_paths -/
def B__law_paths : SM := sSeq (sAsg (eLst (aNil)) (gName 4)) (sSeq (sFor (iSeq (eCall F__law_digits (aCons (eVar 0) (aCons (eVar 1) (aCons (eVar 3) (aCons (eBin opAdd (eBin opPow (eC (.int 10)) (eC (.int 6))) (eC (.int 3))) (aNil))))))) (gName 5) (sSeq (sAsg (eLc (iCall mkR1 (aCons (eBin opMod (eBin opDiv (eVar 5) (eC (.int 256))) (eC (.int 4))) (aNil))) (gName 8) (tYes) (eBin opIx (eVar 2) (eBin opMod (eBin opDiv (eVar 5) (eBin opIx (eTup (aCons (eC (.int 1)) (aCons (eC (.int 4)) (aCons (eC (.int 16)) (aNil))))) (eVar 8))) (eC (.int 3)))) [8]) (gName 6)) (sSeq (sAsg (eMt (fun x _ => isS x) mJoin (eC (.str "/")) (aCons (eBin opAdd (eVar 6) (eLst (aCons (eBin opIx (eVar 2) (eBin opMod (eBin opDiv (eVar 5) (eC (.int 1024))) (eC (.int 4)))) (aNil)))) (aNil))) (gName 7)) (sSeq (sIf (tAnd (tB' (eBin opNin (eVar 7) (eVar 4))) (tB' (eBin opNe (eBin opIx (eMt (fun x _ => isS x) mSplit (eVar 7) (aCons (eC (.str "/")) (aNil))) (eUn opNeg (eC (.int 1)))) (eC (.str "hush"))))) (sSeq (sExpr (eMt isL mAppend (eVar 4) (aCons (eVar 7) (aNil)))) (sNil)) (sNil)) (sNil))))) (sSeq (sRet (eVar 4)) (sNil)))
def F__law_paths : FM := mkF 9 4 B__law_paths
theorem sc__law_paths : FnScope ["_law_script", "_law_at", "_law_names_here", "_law_many", "_law_found", "_law_draw_here", "_law_folders_here", "_law_path", "_law_turn"] ["_law_script", "_law_at", "_law_names_here", "_law_many"] (defScope (top 36)) := ⟨rfl, rfl, rfl, by decide +kernel, rfl, by decide +kernel, by decide +kernel⟩
theorem b__law_paths {T : List NTab} {Z : Wd} (G : Gk Z) (d__law_digits : Cal T Z 7 "_law_digits" 4 F__law_digits) : Body T Z 9 ["_law_script", "_law_at", "_law_names_here", "_law_many", "_law_found", "_law_draw_here", "_law_folders_here", "_law_path", "_law_turn"] "_law_paths" (top 36) B__law_paths := fun f cdv Ar outer s H E hr hN => by
  unfold B__law_paths
  exact s_cons (s_set 4 (x_lst (a_nil)) (by exact hN)) (s_cons (s_for (i_seq (c_call (k := 9) (d__law_digits.mono (by decide)) (by exact hr) (a_cons (x_var 0) (a_cons (x_var 1) (a_cons (x_var 3) (a_cons (x_bin os_add (x_bin os_pow (x_int) (x_int)) (x_int)) (a_nil))))) (n_cons (n_cons (n_cons (n_cons (n_nil))))))) (g_name 5 (by exact hN)) (s_cons (s_lc 6 (own := [("_law_turn", 8)]) (i_range1 G.n_range (a_cons (x_bin os_mod (x_bin os_div (x_var 5) (x_int)) (x_int)) (a_nil))) (by exact hN) (blkOk_by (by kernel_rfl)) ⟨⟨[8], fun s H C cl fp => g_name 8 (by exact hN), by decide⟩, fun s H C cl fp => ts_nil, fun s H C cl fp => x_ix (by exact hr.u1) (x_var 2) (x_bin os_mod (x_bin os_div (x_var 5) (x_ix (by exact hr.u1) (x_tup (a_cons (x_int) (a_cons (x_int) (a_cons (x_int) (a_nil))))) (x_var 8))) (x_int))⟩ (sw_true rfl rfl rfl rfl)) (s_cons (s_set 7 (x_mt plA_str PySem.F.slot_str_join PySem.F.type_str_join ty_str ms_join (x_str) (a_cons (x_bin os_add (x_var 6) (x_lst (a_cons (x_ix (by exact hr.u1) (x_var 2) (x_bin os_mod (x_bin os_div (x_var 5) (x_int)) (x_int))) (a_nil)))) (a_nil))) (by exact hN)) (s_cons (s_if (t_w (w_and (t_cmp (os_nin (by exact hr.u1)) (x_var 7) (x_var 4)) (w_and1 (t_cmp (os_ne (by exact hr.u64)) (x_ix (by exact hr.u1) (x_mt plA_str PySem.F.slot_str_split PySem.F.type_str_split ty_str ms_split (x_var 7) (a_cons (x_str) (a_nil))) (x_un us_neg (x_int))) (x_str))))) (s_cons (s_expr (x_mt plA_list PySem.F.slot_list_append PySem.F.type_list_append ty_list ml_append (x_var 4) (a_cons (x_var 7) (a_nil)))) (s_nil)) (s_nil)) (s_nil))))) (s_cons (s_ret (x_var 4)) (s_nil)))
theorem ok__law_paths {T : List NTab} {Z : Wd} (G : Gk Z) (h : At Z "_law_paths" (top 36) ["_law_script", "_law_at", "_law_names_here", "_law_many"]) (d__law_digits : Cal T Z 7 "_law_digits" 4 F__law_digits) : Cal T Z 10 "_law_paths" 4 F__law_paths := cal_intro h sc__law_paths (b__law_paths G d__law_digits)
/-! ### _law_names -/
def B__law_names : SM := sSeq (sAsg (eTup (aCons (eCall F__law_digits (aCons (eVar 0) (aCons (eVar 1) (aCons (eC (.int 11)) (aCons (eBin opMul (eBin opMul (eC (.int 26)) (eC (.int 26))) (eC (.int 4))) (aNil)))))) (aCons (eLst (aNil)) (aNil)))) (gTup [gName 4, gName 5])) (sSeq (sFor (iCall mkR1 (aCons (eC (.int 10)) (aNil))) (gName 2) (sSeq (sAsg (eBin opIx (eC (.str "abcdefghijklmnopqrstuvwxyz")) (eBin opMod (eBin opAdd (eBin opIx (eVar 4) (eC (.int 10))) (eBin opMul (eC (.int 2)) (eVar 2))) (eC (.int 26)))) (gName 6)) (sSeq (sAsg (eBin opIx (eC (.str "abcdefghijklmnopqrstuvwxyz")) (eBin opMod (eBin opIx (eVar 4) (eVar 2)) (eC (.int 26)))) (gName 7)) (sSeq (sAsg (eSl (eBin opAdd (eBin opAdd (eVar 6) (eVar 7)) (eVar 6)) (pN) (pS (eBin opAdd (eC (.int 1)) (eBin opDiv (eBin opIx (eVar 4) (eVar 2)) (eC (.int 676)))))) (gName 8)) (sSeq (sExpr (eMt isL mAppend (eVar 5) (aCons (eIf (tB' (eBin opEq (eBin opMod (eBin opDiv (eBin opIx (eVar 4) (eC (.int 10))) (eC (.int 26))) (eC (.int 3))) (eC (.int 0)))) (eSl (eBin opMul (eVar 8) (eC (.int 12))) (pN) (pS (eBin opAdd (eC (.int 5)) (eBin opMod (eBin opIx (eVar 4) (eVar 2)) (eC (.int 8)))))) (eVar 8)) (aNil)))) (sNil)))))) (sSeq (sAsg (eLst (aCons (eC (.str "on")) (aCons (eC (.str "off")) (aCons (eC (.str "row")) (aCons (eC (.str "file")) (aCons (eC (.str "hush")) (aNil))))))) (gName 3)) (sSeq (sIf (tAnd (tB' (eBin opEq (eBin opMod (eBin opDiv (eBin opIx (eVar 4) (eC (.int 10))) (eC (.int 78))) (eC (.int 2))) (eC (.int 0)))) (tB' (eCb mAll (aCons (eLc (iSeq (eVar 3)) (gName 9) (tYes) (eBin opNin (eVar 9) (eVar 5)) [9]) (aNil))))) (sSeq (sPut (eBin opIx (eVar 3) (eBin opMod (eBin opIx (eVar 4) (eC (.int 10))) (eC (.int 5)))) (eVar 5) (eBin opMod (eBin opIx (eVar 4) (eC (.int 10))) (eC (.int 3)))) (sSeq (sPut (eBin opIx (eVar 3) (eBin opMod (eBin opAdd (eBin opIx (eVar 4) (eC (.int 10))) (eC (.int 1))) (eC (.int 5)))) (eVar 5) (eBin opAdd (eC (.int 4)) (eBin opMod (eBin opIx (eVar 4) (eC (.int 10))) (eC (.int 4))))) (sNil))) (sNil)) (sSeq (sRet (eVar 5)) (sNil)))))
def F__law_names : FM := mkF 10 2 B__law_names
theorem sc__law_names : FnScope ["_law_script", "_law_at", "_law_turn", "_law_some", "_law_draws", "_law_found", "_law_first", "_law_second", "_law_name", "_law_word"] ["_law_script", "_law_at"] (defScope (top 34)) := ⟨rfl, rfl, rfl, by decide +kernel, rfl, by decide +kernel, by decide +kernel⟩
theorem b__law_names {T : List NTab} {Z : Wd} (G : Gk Z) (d__law_digits : Cal T Z 7 "_law_digits" 4 F__law_digits) : Body T Z 9 ["_law_script", "_law_at", "_law_turn", "_law_some", "_law_draws", "_law_found", "_law_first", "_law_second", "_law_name", "_law_word"] "_law_names" (top 34) B__law_names := fun f cdv Ar outer s H E hr hN => by
  unfold B__law_names
  exact s_cons (s_asg (x_tup (a_cons (c_call (k := 9) (d__law_digits.mono (by decide)) (by exact hr) (a_cons (x_var 0) (a_cons (x_var 1) (a_cons (x_int) (a_cons (x_bin os_mul (x_bin os_mul (x_int) (x_int)) (x_int)) (a_nil))))) (n_cons (n_cons (n_cons (n_cons (n_nil)))))) (a_cons (x_lst (a_nil)) (a_nil)))) (g_tup (gs_cons (g_name 4 (by exact hN)) (gs_cons (g_name 5 (by exact hN)) (gs_nil))))) (s_cons (s_for (i_range1 G.n_range (a_cons (x_int) (a_nil))) (g_name 2 (by exact hN)) (s_cons (s_set 6 (x_ix (by exact hr.u1) (x_str) (x_bin os_mod (x_bin os_add (x_ix (by exact hr.u1) (x_var 4) (x_int)) (x_bin os_mul (x_int) (x_var 2))) (x_int))) (by exact hN)) (s_cons (s_set 7 (x_ix (by exact hr.u1) (x_str) (x_bin os_mod (x_ix (by exact hr.u1) (x_var 4) (x_var 2)) (x_int))) (by exact hN)) (s_cons (s_set 8 (x_slice (x_bin os_add (x_bin os_add (x_var 6) (x_var 7)) (x_var 6)) (p_none) (p_some (x_bin os_add (x_int) (x_bin os_div (x_ix (by exact hr.u1) (x_var 4) (x_var 2)) (x_int))))) (by exact hN)) (s_cons (s_expr (x_mt plA_list PySem.F.slot_list_append PySem.F.type_list_append ty_list ml_append (x_var 5) (a_cons (x_if (t_cmp (os_eq (by exact hr.u64)) (x_bin os_mod (x_bin os_div (x_ix (by exact hr.u1) (x_var 4) (x_int)) (x_int)) (x_int)) (x_int)) (x_slice (x_bin os_mul (x_var 8) (x_int)) (p_none) (p_some (x_bin os_add (x_int) (x_bin os_mod (x_ix (by exact hr.u1) (x_var 4) (x_var 2)) (x_int))))) (x_var 8)) (a_nil)))) (s_nil)))))) (s_cons (s_set 3 (x_lst (a_cons (x_str) (a_cons (x_str) (a_cons (x_str) (a_cons (x_str) (a_cons (x_str) (a_nil))))))) (by exact hN)) (s_cons (s_if (t_w (w_and (t_cmp (os_eq (by exact hr.u64)) (x_bin os_mod (x_bin os_div (x_ix (by exact hr.u1) (x_var 4) (x_int)) (x_int)) (x_int)) (x_int)) (w_and1 (t_val (x_callB (cs_all rfl) G.n_all bo_all (a_cons (x_lc (own := [("_law_word", 9)]) (i_seq (x_var 3)) (by exact hN) (blkOk_by (by kernel_rfl)) ⟨⟨[9], fun s H C cl fp => g_name 9 (by exact hN), by decide⟩, fun s H C cl fp => ts_nil, fun s H C cl fp => x_cmp (os_nin (by exact hr.u1)) (x_var 9) (x_var 5)⟩) (a_nil))))))) (s_cons (s_put (by exact hr.u1) (x_ix (by exact hr.u1) (x_var 3) (x_bin os_mod (x_ix (by exact hr.u1) (x_var 4) (x_int)) (x_int))) (x_var 5) (x_bin os_mod (x_ix (by exact hr.u1) (x_var 4) (x_int)) (x_int))) (s_cons (s_put (by exact hr.u1) (x_ix (by exact hr.u1) (x_var 3) (x_bin os_mod (x_bin os_add (x_ix (by exact hr.u1) (x_var 4) (x_int)) (x_int)) (x_int))) (x_var 5) (x_bin os_add (x_int) (x_bin os_mod (x_ix (by exact hr.u1) (x_var 4) (x_int)) (x_int)))) (s_nil))) (s_nil)) (s_cons (s_ret (x_var 5)) (s_nil)))))
theorem ok__law_names {T : List NTab} {Z : Wd} (G : Gk Z) (h : At Z "_law_names" (top 34) ["_law_script", "_law_at"]) (d__law_digits : Cal T Z 7 "_law_digits" 4 F__law_digits) : Cal T Z 10 "_law_names" 2 F__law_names := cal_intro h sc__law_names (b__law_names G d__law_digits)
/-! ### law -/
def B_law : SM := sSeq (sAsg (eCall F__law_names (aCons (eVar 0) (aCons (eC (.int 0)) (aNil)))) (gName 1)) (sSeq (sFor (iCall mkR2 (aCons (eC (.int 1)) (aCons (eCb mMax (aCons (eC (.int 2)) (aCons (eCb mMin (aCons (eC (.int 10)) (aCons (eCb mLen (aCons (eVar 0) (aNil))) (aNil)))) (aNil)))) (aNil)))) (gName 2) (sSeq (sAsg (eCall F__law_digits (aCons (eVar 0) (aCons (eVar 2) (aCons (eC (.int 3)) (aCons (eBin opAdd (eBin opPow (eC (.int 10)) (eC (.int 6))) (eC (.int 3))) (aNil)))))) (gName 3)) (sSeq (sAsg (eCall F__law_paths (aCons (eVar 0) (aCons (eBin opAdd (eVar 2) (eC (.int 1))) (aCons (eVar 1) (aCons (eBin opMod (eBin opIx (eVar 3) (eC (.int 0))) (eC (.int 13))) (aNil)))))) (gName 4)) (sSeq (sAsg (eLst (aCons (eLst (aNil)) (aCons (eCb mList (aCons (eVar 4) (aNil))) (aCons (eLc (iCall mkEn (aCons (eVar 4) (aNil))) (gTup [gName 11, gName 10]) (tB' (eBin opEq (eBin opAnd (eBin opShr (eBin opIx (eVar 3) (eC (.int 1))) (eVar 11)) (eC (.int 1))) (eC (.int 1)))) (eVar 10) [11, 10]) (aNil))))) (gName 5)) (sSeq (sExpr (eMt isL mAppend (eVar 5) (aCons (eLc (iSeq (eVar 4)) (gName 10) (tB' (eBin opIn (eBin opAdd (eBin opIx (eVar 1) (eBin opMod (eBin opIx (eVar 3) (eC (.int 2))) (eC (.int 3)))) (eC (.str "/"))) (eVar 10))) (eVar 10) [10]) (aNil)))) (sSeq (sFor (iSeq (eVar 5)) (gName 6) (sSeq (sPar [8, 9] (aCons (eCb mList (aCons (eVar 4) (aNil))) (aCons (eUn mRev (eVar 6)) (aNil)))) (sSeq (sAsg (eCall F_fewest (aCons (eVar 8) (aCons (eVar 9) (aNil)))) (gName 7)) (sSeq (sIf (tOr (tB' (eBin opNe (eVar 8) (eVar 4))) (tOr (tB' (eBin opNe (eVar 9) (eUn mRev (eVar 6)))) (tNot (tB' (eCall F__law_few_right (aCons (eVar 7) (aCons (eVar 4) (aCons (eVar 6) (aNil))))))))) (sSeq (sRet (eC (.bl false))) (sNil)) (sNil)) (sSeq (sIf (tB' (eBin opNotN (eMeth "Few" "shows" F_Few_shows (eVar 7) (aCons (eVar 8) (aCons (eVar 9) (aNil)))) (eC (.bl true)))) (sSeq (sRet (eC (.bl false))) (sNil)) (sNil)) (sSeq (sExpr (eMt isL mAppend (eUn (mFld "Few" "marks") (eVar 7)) (aCons (eTup (aCons (eC (.str "")) (aCons (eC (.str "off")) (aNil)))) (aNil)))) (sSeq (sExpr (eMt isL mAppend (eUn (mFld "Few" "heights") (eVar 7)) (aCons (eTup (aCons (eC (.str "")) (aCons (eC (.int 0)) (aCons (eC (.int 0)) (aNil))))) (aNil)))) (sSeq (sIf (tOr (tB' (eBin opNotN (eMeth "Few" "shows" F_Few_shows (eVar 7) (aCons (eVar 8) (aCons (eVar 9) (aNil)))) (eC (.bl false)))) (tNot (tB' (eCall F__law_few_right (aCons (eCall F_fewest (aCons (eVar 8) (aCons (eVar 9) (aNil)))) (aCons (eVar 4) (aCons (eVar 6) (aNil)))))))) (sSeq (sRet (eC (.bl false))) (sNil)) (sNil)) (sNil))))))))) (sNil))))))) (sSeq (sRet (eAnd (eBin opEq (eUn (mFld "Few" "marks") (eCall F_fewest (aCons (eLst (aNil)) (aCons (eLst (aNil)) (aNil))))) (eLst (aNil))) (eBin opEq (eBin opIx (eBin opIx (eUn (mFld "Few" "heights") (eCall F_fewest (aCons (eLst (aCons (eC (.str "a")) (aNil))) (aCons (eLst (aCons (eC (.str "a")) (aNil))) (aNil))))) (eC (.int 0))) (eC (.int 1))) (eC (.int 1))))) (sNil)))

theorem sc_law : FnScope ["_law_script", "_law_names_here", "_law_by", "_law_draws", "_law_paths_here", "_law_lots", "_law_lot", "_law_told", "_law_handed", "_law_some", "_law_path", "_law_at"] ["_law_script"] (defScope (top 44)) := ⟨rfl, rfl, rfl, by decide +kernel, rfl, by decide +kernel, by decide +kernel⟩
theorem ok_law {T : List NTab} {Z : Wd} {f : Addr} {fd : FuncData} (G : Gk Z) (D : Df Z "law" "law" (top 44) ["_law_script"] f fd) (d_fewest : Cal T Z 17 "fewest" 2 F_fewest) (d_Few_shows : CalM T Z 13 "Few" "shows" 3 F_Few_shows) (d__law_few_right : Cal T Z 10 "_law_few_right" 3 F__law_few_right) (d__law_paths : Cal T Z 10 "_law_paths" 4 F__law_paths) (d__law_digits : Cal T Z 7 "_law_digits" 4 F__law_digits) (d__law_names : Cal T Z 10 "_law_names" 2 F__law_names) : FnOk Z.P Z.w Z.K Z.mg Z.base CX0 (19 + 1) f fd ["_law_script"] (spL T Z 12 B_law) := law_intro D sc_law rfl rfl rfl (by decide) (by decide) (fun _ _ _ _ _ _ => rfl) fun cdv Ar outer s H E hr hN => by
  unfold B_law
  exact s_cons (s_set 1 (c_call (k := 19) (d__law_names.mono (by decide)) (by exact hr) (a_cons (x_var 0) (a_cons (x_int) (a_nil))) (n_cons (n_cons (n_nil)))) (by exact hN)) (s_cons (s_for (i_range2 G.n_range (a_cons (x_int) (a_cons (x_callB (cs_max rfl) G.n_max bo_max (a_cons (x_int) (a_cons (x_callB (cs_min rfl) G.n_min bo_min (a_cons (x_int) (a_cons (x_callB cs_len G.n_len bo_len (a_cons (x_var 0) (a_nil))) (a_nil)))) (a_nil)))) (a_nil)))) (g_name 2 (by exact hN)) (s_cons (s_set 3 (c_call (k := 19) (d__law_digits.mono (by decide)) (by exact hr) (a_cons (x_var 0) (a_cons (x_var 2) (a_cons (x_int) (a_cons (x_bin os_add (x_bin os_pow (x_int) (x_int)) (x_int)) (a_nil))))) (n_cons (n_cons (n_cons (n_cons (n_nil)))))) (by exact hN)) (s_cons (s_set 4 (c_call (k := 19) (d__law_paths.mono (by decide)) (by exact hr) (a_cons (x_var 0) (a_cons (x_bin os_add (x_var 2) (x_int)) (a_cons (x_var 1) (a_cons (x_bin os_mod (x_ix (by exact hr.u1) (x_var 3) (x_int)) (x_int)) (a_nil))))) (n_cons (n_cons (n_cons (n_cons (n_nil)))))) (by exact hN)) (s_cons (s_set 5 (x_lst (a_cons (x_lst (a_nil)) (a_cons (x_callTy (cs_list rfl) G.n_list bo_list (a_cons (x_var 4) (a_nil))) (a_cons (x_lc (own := [("_law_at", 11), ("_law_path", 10)]) (i_enum G.n_enumerate (a_cons (x_var 4) (a_nil))) (by exact hN) (blkOk_by (by kernel_rfl)) ⟨⟨[11, 10], fun s H C cl fp => g_tup (gs_cons (g_name 11 (by exact hN)) (gs_cons (g_name 10 (by exact hN)) (gs_nil))), by decide⟩, fun s H C cl fp => ts_one (t_cmp (os_eq (by exact hr.u64)) (x_bin os_and (x_bin os_shr (x_ix (by exact hr.u1) (x_var 3) (x_int)) (x_var 11)) (x_int)) (x_int)), fun s H C cl fp => x_var 10⟩) (a_nil))))) (by exact hN)) (s_cons (s_expr (x_mt plA_list PySem.F.slot_list_append PySem.F.type_list_append ty_list ml_append (x_var 5) (a_cons (x_lc (own := [("_law_path", 10)]) (i_seq (x_var 4)) (by exact hN) (blkOk_by (by kernel_rfl)) ⟨⟨[10], fun s H C cl fp => g_name 10 (by exact hN), by decide⟩, fun s H C cl fp => ts_one (t_cmp (os_in (by exact hr.u1)) (x_bin os_add (x_ix (by exact hr.u1) (x_var 1) (x_bin os_mod (x_ix (by exact hr.u1) (x_var 3) (x_int)) (x_int))) (x_str)) (x_var 10)), fun s H C cl fp => x_var 10⟩) (a_nil)))) (s_cons (s_for (i_seq (x_var 5)) (g_name 6 (by exact hN)) (s_cons (s_par2 8 9 (by exact hN) (a_cons (x_callTy (cs_list rfl) G.n_list bo_list (a_cons (x_var 4) (a_nil))) (a_cons (x_rev (x_var 6)) (a_nil)))) (s_cons (s_set 7 (c_call (k := 19) (d_fewest.mono (by decide)) (by exact hr) (a_cons (x_var 8) (a_cons (x_var 9) (a_nil))) (n_cons (n_cons (n_nil)))) (by exact hN)) (s_cons (s_if (t_w (w_or (t_cmp (os_ne (by exact hr.u64)) (x_var 8) (x_var 4)) (w_or (t_cmp (os_ne (by exact hr.u64)) (x_var 9) (x_rev (x_var 6))) (w_or1 (t_not (t_val (c_call (k := 19) (d__law_few_right.mono (by decide)) (by exact hr) (a_cons (x_var 7) (a_cons (x_var 4) (a_cons (x_var 6) (a_nil)))) (n_cons (n_cons (n_cons (n_nil))))))))))) (s_cons (s_ret (x_bl)) (s_nil)) (s_nil)) (s_cons (s_if (t_cmp os_isnot (c_meth (k := 19) (d_Few_shows.mono (by decide)) (by exact hr) (x_var 7) (a_cons (x_var 8) (a_cons (x_var 9) (a_nil))) (n_suc (n_cons (n_cons (n_nil))) rfl)) (x_bl)) (s_cons (s_ret (x_bl)) (s_nil)) (s_nil)) (s_cons (s_expr (x_mt plA_list PySem.F.slot_list_append PySem.F.type_list_append ty_list ml_append (c_fld G.f_Few_marks (x_var 7)) (a_cons (x_tup (a_cons (x_str) (a_cons (x_str) (a_nil)))) (a_nil)))) (s_cons (s_expr (x_mt plA_list PySem.F.slot_list_append PySem.F.type_list_append ty_list ml_append (c_fld G.f_Few_heights (x_var 7)) (a_cons (x_tup (a_cons (x_str) (a_cons (x_int) (a_cons (x_int) (a_nil))))) (a_nil)))) (s_cons (s_if (t_w (w_or (t_cmp os_isnot (c_meth (k := 19) (d_Few_shows.mono (by decide)) (by exact hr) (x_var 7) (a_cons (x_var 8) (a_cons (x_var 9) (a_nil))) (n_suc (n_cons (n_cons (n_nil))) rfl)) (x_bl)) (w_or1 (t_not (t_val (c_call (k := 19) (d__law_few_right.mono (by decide)) (by exact hr) (a_cons (c_call (k := 19) (d_fewest.mono (by decide)) (by exact hr) (a_cons (x_var 8) (a_cons (x_var 9) (a_nil))) (n_cons (n_cons (n_nil)))) (a_cons (x_var 4) (a_cons (x_var 6) (a_nil)))) (n_cons (n_cons (n_cons (n_nil)))))))))) (s_cons (s_ret (x_bl)) (s_nil)) (s_nil)) (s_nil))))))))) (s_nil))))))) (s_cons (s_ret (x_and (x_cmp (os_eq (by exact hr.u64)) (c_fld G.f_Few_marks (c_call (k := 19) (d_fewest.mono (by decide)) (by exact hr) (a_cons (x_lst (a_nil)) (a_cons (x_lst (a_nil)) (a_nil))) (n_cons (n_cons (n_nil))))) (x_lst (a_nil))) (x_one (x_cmp (os_eq (by exact hr.u64)) (x_ix (by exact hr.u1) (x_ix (by exact hr.u1) (c_fld G.f_Few_heights (c_call (k := 19) (d_fewest.mono (by decide)) (by exact hr) (a_cons (x_lst (a_cons (x_str) (a_nil))) (a_cons (x_lst (a_cons (x_str) (a_nil))) (a_nil))) (n_cons (n_cons (n_nil))))) (x_int)) (x_int)) (x_int))))) (s_nil)))
end Wk
end
section
set_option maxHeartbeats 0
namespace Wk
open PySem L2 Mx
open NdefX (NTab TabsN TabN)
def d0 : He.DefD := ⟨("Few", some "__init__"), "__init__", "Few.__init__", defArgs (inClass (top 28) 0), defBody (inClass (top 28) 0), defScope (inClass (top 28) 0), [], []⟩
def d1 : He.DefD := ⟨("rank", none), "rank", "rank", defArgs (top 10), defBody (top 10), defScope (top 10), [], []⟩
def d2 : He.DefD := ⟨("place_rank", none), "place_rank", "place_rank", defArgs (top 12), defBody (top 12), defScope (top 12), [], []⟩
def d3 : He.DefD := ⟨("is_folder", none), "is_folder", "is_folder", defArgs (top 22), defBody (top 22), defScope (top 22), [], []⟩
def d4 : He.DefD := ⟨("spread", none), "spread", "spread", defArgs (top 25), defBody (top 25), defScope (top 25), [], []⟩
def d5 : He.DefD := ⟨("needed", none), "needed", "needed", defArgs (top 24), defBody (top 24), defScope (top 24), [], []⟩
def d6 : He.DefD := ⟨("folder_of", none), "folder_of", "folder_of", defArgs (top 13), defBody (top 13), defScope (top 13), [], []⟩
def d7 : He.DefD := ⟨("around", none), "around", "around", defArgs (top 14), defBody (top 14), defScope (top 14), [], []⟩
def d8 : He.DefD := ⟨("folders_up", none), "folders_up", "folders_up", defArgs (top 15), defBody (top 15), defScope (top 15), [], []⟩
def d9 : He.DefD := ⟨("straight_in", none), "straight_in", "straight_in", defArgs (top 21), defBody (top 21), defScope (top 21), [], []⟩
def d10 : He.DefD := ⟨("is_name", none), "is_name", "is_name", defArgs (top 9), defBody (top 9), defScope (top 9), [], []⟩
def d11 : He.DefD := ⟨("is_path", none), "is_path", "is_path", defArgs (top 11), defBody (top 11), defScope (top 11), [], []⟩
def d12 : He.DefD := ⟨("is_settings", none), "is_settings", "is_settings", defArgs (top 16), defBody (top 16), defScope (top 16), [], []⟩
def d13 : He.DefD := ⟨("are_paths", none), "are_paths", "are_paths", defArgs (top 19), defBody (top 19), defScope (top 19), [], []⟩
def d14 : He.DefD := ⟨("is_lot", none), "is_lot", "is_lot", defArgs (top 20), defBody (top 20), defScope (top 20), [], []⟩
def d15 : He.DefD := ⟨("fewest", none), "fewest", "fewest", defArgs (top 29), defBody (top 29), defScope (top 29), [], []⟩
def d16 : He.DefD := ⟨("are_heights", none), "are_heights", "are_heights", defArgs (top 27), defBody (top 27), defScope (top 27), [], []⟩
def d17 : He.DefD := ⟨("is_hushed", none), "is_hushed", "is_hushed", defArgs (top 26), defBody (top 26), defScope (top 26), [], []⟩
def d18 : He.DefD := ⟨("is_folder_text", none), "is_folder_text", "is_folder_text", defArgs (top 23), defBody (top 23), defScope (top 23), [], []⟩
def d19 : He.DefD := ⟨("Few", some "shows"), "shows", "Few.shows", defArgs (inClass (top 28) 1), defBody (inClass (top 28) 1), defScope (inClass (top 28) 1), [], []⟩
def d20 : He.DefD := ⟨("_law_rank", none), "_law_rank", "_law_rank", defArgs (top 35), defBody (top 35), defScope (top 35), [], []⟩
def d21 : He.DefD := ⟨("_law_place_rank", none), "_law_place_rank", "_law_place_rank", defArgs (top 38), defBody (top 38), defScope (top 38), [], []⟩
def d22 : He.DefD := ⟨("_law_folders", none), "_law_folders", "_law_folders", defArgs (top 37), defBody (top 37), defScope (top 37), [], []⟩
def d23 : He.DefD := ⟨("_law_inside", none), "_law_inside", "_law_inside", defArgs (top 40), defBody (top 40), defScope (top 40), [], []⟩
def d24 : He.DefD := ⟨("_law_are_heights", none), "_law_are_heights", "_law_are_heights", defArgs (top 41), defBody (top 41), defScope (top 41), [], []⟩
def d25 : He.DefD := ⟨("_law_is_hushed", none), "_law_is_hushed", "_law_is_hushed", defArgs (top 39), defBody (top 39), defScope (top 39), [], []⟩
def d26 : He.DefD := ⟨("_law_are_sayings", none), "_law_are_sayings", "_law_are_sayings", defArgs (top 42), defBody (top 42), defScope (top 42), [], []⟩
def d27 : He.DefD := ⟨("_law_few_right", none), "_law_few_right", "_law_few_right", defArgs (top 43), defBody (top 43), defScope (top 43), [], []⟩
def d28 : He.DefD := ⟨("_law_draw", none), "_law_draw", "_law_draw", defArgs (top 31), defBody (top 31), defScope (top 31), [], []⟩
def d29 : He.DefD := ⟨("_law_cell_at", none), "_law_cell_at", "_law_cell_at", defArgs (top 32), defBody (top 32), defScope (top 32), [], []⟩
def d30 : He.DefD := ⟨("_law_digits", none), "_law_digits", "_law_digits", defArgs (top 33), defBody (top 33), defScope (top 33), [], []⟩
def d31 : He.DefD := ⟨("_law_paths", none), "_law_paths", "_law_paths", defArgs (top 36), defBody (top 36), defScope (top 36), [], []⟩
def d32 : He.DefD := ⟨("_law_names", none), "_law_names", "_law_names", defArgs (top 34), defBody (top 34), defScope (top 34), [], []⟩
def d33 : He.DefD := ⟨("law", none), "law", "law", defArgs (top 44), defBody (top 44), defScope (top 44), [], []⟩
def fn0 : List He.DefD := [d0, d1, d2, d3, d4, d5, d6, d7, d8, d9, d10, d11, d12, d13, d14, d15, d16, d17, d18, d19, d20, d21, d22, d23, d24, d25, d26, d27, d28, d29]
def fn1 : List He.DefD := [d30, d31, d32, d33]
def fn : List He.DefD := fn0 ++ fn1
def fa0 : List He.Fa := [.glo "Few", .cls "Few", .mkr "Few", .glo "rank", .glo "place_rank", .glo "is_folder", .glo "spread", .glo "needed", .glo "folder_of", .glo "around", .glo "folders_up", .glo "straight_in", .glo "is_name", .glo "is_path", .glo "is_settings", .glo "are_paths", .glo "is_lot", .glo "fewest", .glo "are_heights", .glo "is_hushed", .glo "is_folder_text", .meth "Few" "shows", .glo "_law_rank", .glo "_law_place_rank", .glo "_law_folders", .glo "_law_inside", .glo "_law_are_heights", .glo "_law_is_hushed", .glo "_law_are_sayings", .glo "_law_few_right"]
def fa1 : List He.Fa := [.glo "_law_draw", .glo "_law_cell_at", .glo "_law_digits", .glo "_law_paths", .glo "_law_names", .glo "law", .free "abs", .free "all", .free "enumerate", .free "int", .free "isinstance", .free "len", .free "list", .free "max", .free "min", .free "range", .free "set", .free "sorted", .free "str", .free "sum", .free "zip", .glo "KEPT", .str "LETTERS" "abcdefghijklmnopqrstuvwxyz", .int "LONGEST" 12, .int "MOST_NAMES" 5, .int "MOST_PATHS" 30, .str "SETTINGS" "hush", .noat "Few" "heights", .noat "Few" "marks"]
def fa : List He.Fa := fa0 ++ fa1
def names0 : List PySem.Str := ["HushError", "BadLot", "LETTERS", "LONGEST", "SETTINGS", "KEPT", "MOST_NAMES", "is_name", "rank", "is_path", "place_rank", "folder_of", "around", "folders_up", "is_settings", "MOST_PATHS", "are_paths", "is_lot", "straight_in", "is_folder", "is_folder_text", "needed", "spread", "is_hushed", "are_heights", "Few", "fewest", "_law_draw", "_law_cell_at", "_law_digits"]
def names1 : List PySem.Str := ["_law_names", "_law_rank", "_law_paths", "_law_folders", "_law_place_rank", "_law_is_hushed", "_law_inside", "_law_are_heights", "_law_are_sayings", "_law_few_right"]
def names : List PySem.Str := names0 ++ names1
def tf : List He.Defn := [("fewest", none)]
def exK (K : PySem.W.Frag) : Bool := (He.tupB K "KEPT" [.str "until", .str "because"] && isaB K "Few")
abbrev R : PySem.W.OpenRow := PySem.W.OpenLaw.row PySem.Challenge.rw_hushroll_k06_whole_few
abbrev hk : PySem.W.Hook := He.hookX 5 fa fn [] tf exK
def ob (s : PySem.W.SharedT) : He.AlX := He.obsX 5 fa fn [] tf exK (HandSHeadRun.getT s)
theorem ob_eq (s : PySem.W.SharedT) : ob s = hk.obs s.abs := He.obsX_eq (HandSHeadRun.getT_eq s)
theorem run (w : World) : HandSHeadRun.RunEq R (PySem.W.view R.prog [44]) hk ob 6000 names w := by
  intro os
  kernel_rfl
end Wk
end
section
set_option maxHeartbeats 0
namespace Wk
open PySem L2 Mx
open NdefX (NTab TabsN TabN)
section
variable {P : Program} {w : World} {K : PySem.W.Frag} {h : Heap} {mg : Str → Option Value} {base : Heap}
abbrev zz (P : Program) (w : World) (K : PySem.W.Frag) (mg : Str → Option Value) (base : Heap) : Wd := ⟨P, w, K, mg, base⟩
theorem gk (KX : K.In h) (GX : h.Ns mainGlobals mg) (c : He.SaysX fa fn [] tf exK w h K) : Gk (zz P w K mg base) where
  n_abs := He.free_ok KX GX (c.t.d.fact 36 (f := .free "abs") rfl)
  n_all := He.free_ok KX GX (c.t.d.fact 37 (f := .free "all") rfl)
  n_enumerate := He.free_ok KX GX (c.t.d.fact 38 (f := .free "enumerate") rfl)
  n_int := He.free_ok KX GX (c.t.d.fact 39 (f := .free "int") rfl)
  n_isinstance := He.free_ok KX GX (c.t.d.fact 40 (f := .free "isinstance") rfl)
  n_len := He.free_ok KX GX (c.t.d.fact 41 (f := .free "len") rfl)
  n_list := He.free_ok KX GX (c.t.d.fact 42 (f := .free "list") rfl)
  n_max := He.free_ok KX GX (c.t.d.fact 43 (f := .free "max") rfl)
  n_min := He.free_ok KX GX (c.t.d.fact 44 (f := .free "min") rfl)
  n_range := He.free_ok KX GX (c.t.d.fact 45 (f := .free "range") rfl)
  n_set := He.free_ok KX GX (c.t.d.fact 46 (f := .free "set") rfl)
  n_sorted := He.free_ok KX GX (c.t.d.fact 47 (f := .free "sorted") rfl)
  n_str := He.free_ok KX GX (c.t.d.fact 48 (f := .free "str") rfl)
  n_sum := He.free_ok KX GX (c.t.d.fact 49 (f := .free "sum") rfl)
  n_zip := He.free_ok KX GX (c.t.d.fact 50 (f := .free "zip") rfl)
  c_KEPT := ⟨_, He.glo_ok KX GX (c.t.d.fact 51 (f := .glo "KEPT") rfl), fun g => He.tupB_ok (vs := [.str "until", .str "because"]) (show He.tupB K "KEPT" [.str "until", .str "because"] = true from (Bool.and_eq_true_iff.mp c.more).1) g⟩
  c_LETTERS := He.str_ok KX GX (c.t.d.fact 52 (f := .str "LETTERS" "abcdefghijklmnopqrstuvwxyz") rfl)
  c_LONGEST := He.int_ok KX GX (c.t.d.fact 53 (f := .int "LONGEST" 12) rfl)
  c_MOST_NAMES := He.int_ok KX GX (c.t.d.fact 54 (f := .int "MOST_NAMES" 5) rfl)
  c_MOST_PATHS := He.int_ok KX GX (c.t.d.fact 55 (f := .int "MOST_PATHS" 30) rfl)
  c_SETTINGS := He.str_ok KX GX (c.t.d.fact 56 (f := .str "SETTINGS" "hush") rfl)
  f_Few_heights := ⟨_, ⟨He.glo_ok KX GX (c.t.d.fact 0 (f := .glo "Few") rfl), He.cls_ok (c.t.d.fact 1 (f := .cls "Few") rfl)⟩, He.noat_ok (c.t.d.fact 57 (f := .noat "Few" "heights") rfl)⟩
  f_Few_marks := ⟨_, ⟨He.glo_ok KX GX (c.t.d.fact 0 (f := .glo "Few") rfl), He.cls_ok (c.t.d.fact 1 (f := .cls "Few") rfl)⟩, He.noat_ok (c.t.d.fact 58 (f := .noat "Few" "marks") rfl)⟩
  k_Few := ⟨_, He.glo_ok KX GX (c.t.d.fact 0 (f := .glo "Few") rfl), isaB_ok (show isaB K "Few" = true from (Bool.and_eq_true_iff.mp c.more).2) (He.cls_ok (c.t.d.fact 1 (f := .cls "Few") rfl))⟩
theorem at_Few___init__ (KX : K.In h) (GX : h.Ns mainGlobals mg) (c : He.SaysX fa fn [] tf exK w h K) : AtI (zz P w K mg base) "Few" "Few.__init__" (inClass (top 28) 0) ["self", "marks", "heights"] := by
  obtain ⟨fd, F⟩ := c.t.d.def_ 0 (d := d0) rfl
  exact ⟨_, _, fd, ⟨He.glo_ok KX GX (c.t.d.fact 0 (f := .glo "Few") rfl), He.cls_ok (c.t.d.fact 1 (f := .cls "Few") rfl)⟩, He.mkr_ok (c.t.d.fact 2 (f := .mkr "Few") rfl), ⟨F, F.bindsN fun _ _ _ _ _ _ us hl => match us, hl with | [_, _, _], _ => rfl⟩⟩
theorem at_rank (KX : K.In h) (GX : h.Ns mainGlobals mg) (c : He.SaysX fa fn [] tf exK w h K) : At (zz P w K mg base) "rank" (top 10) ["name"] := by
  obtain ⟨fd, F⟩ := c.t.d.def_ 1 (d := d1) rfl
  exact ⟨_, fd, He.glo_ok KX GX (c.t.d.fact 3 (f := .glo "rank") rfl), ⟨F, F.bindsN fun _ _ _ _ _ _ us hl => match us, hl with | [_], _ => rfl⟩⟩
theorem at_place_rank (KX : K.In h) (GX : h.Ns mainGlobals mg) (c : He.SaysX fa fn [] tf exK w h K) : At (zz P w K mg base) "place_rank" (top 12) ["place"] := by
  obtain ⟨fd, F⟩ := c.t.d.def_ 2 (d := d2) rfl
  exact ⟨_, fd, He.glo_ok KX GX (c.t.d.fact 4 (f := .glo "place_rank") rfl), ⟨F, F.bindsN fun _ _ _ _ _ _ us hl => match us, hl with | [_], _ => rfl⟩⟩
theorem at_is_folder (KX : K.In h) (GX : h.Ns mainGlobals mg) (c : He.SaysX fa fn [] tf exK w h K) : At (zz P w K mg base) "is_folder" (top 22) ["place"] := by
  obtain ⟨fd, F⟩ := c.t.d.def_ 3 (d := d3) rfl
  exact ⟨_, fd, He.glo_ok KX GX (c.t.d.fact 5 (f := .glo "is_folder") rfl), ⟨F, F.bindsN fun _ _ _ _ _ _ us hl => match us, hl with | [_], _ => rfl⟩⟩
theorem at_spread (KX : K.In h) (GX : h.Ns mainGlobals mg) (c : He.SaysX fa fn [] tf exK w h K) : At (zz P w K mg base) "spread" (top 25) ["place", "inside", "lot", "numbers", "hushed"] := by
  obtain ⟨fd, F⟩ := c.t.d.def_ 4 (d := d4) rfl
  exact ⟨_, fd, He.glo_ok KX GX (c.t.d.fact 6 (f := .glo "spread") rfl), ⟨F, F.bindsN fun _ _ _ _ _ _ us hl => match us, hl with | [_, _, _, _, _], _ => rfl⟩⟩
theorem at_needed (KX : K.In h) (GX : h.Ns mainGlobals mg) (c : He.SaysX fa fn [] tf exK w h K) : At (zz P w K mg base) "needed" (top 24) ["place", "inside", "lot"] := by
  obtain ⟨fd, F⟩ := c.t.d.def_ 5 (d := d5) rfl
  exact ⟨_, fd, He.glo_ok KX GX (c.t.d.fact 7 (f := .glo "needed") rfl), ⟨F, F.bindsN fun _ _ _ _ _ _ us hl => match us, hl with | [_, _, _], _ => rfl⟩⟩
theorem at_folder_of (KX : K.In h) (GX : h.Ns mainGlobals mg) (c : He.SaysX fa fn [] tf exK w h K) : At (zz P w K mg base) "folder_of" (top 13) ["path"] := by
  obtain ⟨fd, F⟩ := c.t.d.def_ 6 (d := d6) rfl
  exact ⟨_, fd, He.glo_ok KX GX (c.t.d.fact 8 (f := .glo "folder_of") rfl), ⟨F, F.bindsN fun _ _ _ _ _ _ us hl => match us, hl with | [_], _ => rfl⟩⟩
theorem at_around (KX : K.In h) (GX : h.Ns mainGlobals mg) (c : He.SaysX fa fn [] tf exK w h K) : At (zz P w K mg base) "around" (top 14) ["folder"] := by
  obtain ⟨fd, F⟩ := c.t.d.def_ 7 (d := d7) rfl
  exact ⟨_, fd, He.glo_ok KX GX (c.t.d.fact 9 (f := .glo "around") rfl), ⟨F, F.bindsN fun _ _ _ _ _ _ us hl => match us, hl with | [_], _ => rfl⟩⟩
theorem at_folders_up (KX : K.In h) (GX : h.Ns mainGlobals mg) (c : He.SaysX fa fn [] tf exK w h K) : At (zz P w K mg base) "folders_up" (top 15) ["folder"] := by
  obtain ⟨fd, F⟩ := c.t.d.def_ 8 (d := d8) rfl
  exact ⟨_, fd, He.glo_ok KX GX (c.t.d.fact 10 (f := .glo "folders_up") rfl), ⟨F, F.bindsN fun _ _ _ _ _ _ us hl => match us, hl with | [_], _ => rfl⟩⟩
theorem at_straight_in (KX : K.In h) (GX : h.Ns mainGlobals mg) (c : He.SaysX fa fn [] tf exK w h K) : At (zz P w K mg base) "straight_in" (top 21) ["paths"] := by
  obtain ⟨fd, F⟩ := c.t.d.def_ 9 (d := d9) rfl
  exact ⟨_, fd, He.glo_ok KX GX (c.t.d.fact 11 (f := .glo "straight_in") rfl), ⟨F, F.bindsN fun _ _ _ _ _ _ us hl => match us, hl with | [_], _ => rfl⟩⟩
theorem at_is_name (KX : K.In h) (GX : h.Ns mainGlobals mg) (c : He.SaysX fa fn [] tf exK w h K) : At (zz P w K mg base) "is_name" (top 9) ["thing"] := by
  obtain ⟨fd, F⟩ := c.t.d.def_ 10 (d := d10) rfl
  exact ⟨_, fd, He.glo_ok KX GX (c.t.d.fact 12 (f := .glo "is_name") rfl), ⟨F, F.bindsN fun _ _ _ _ _ _ us hl => match us, hl with | [_], _ => rfl⟩⟩
theorem at_is_path (KX : K.In h) (GX : h.Ns mainGlobals mg) (c : He.SaysX fa fn [] tf exK w h K) : At (zz P w K mg base) "is_path" (top 11) ["thing"] := by
  obtain ⟨fd, F⟩ := c.t.d.def_ 11 (d := d11) rfl
  exact ⟨_, fd, He.glo_ok KX GX (c.t.d.fact 13 (f := .glo "is_path") rfl), ⟨F, F.bindsN fun _ _ _ _ _ _ us hl => match us, hl with | [_], _ => rfl⟩⟩
theorem at_is_settings (KX : K.In h) (GX : h.Ns mainGlobals mg) (c : He.SaysX fa fn [] tf exK w h K) : At (zz P w K mg base) "is_settings" (top 16) ["path"] := by
  obtain ⟨fd, F⟩ := c.t.d.def_ 12 (d := d12) rfl
  exact ⟨_, fd, He.glo_ok KX GX (c.t.d.fact 14 (f := .glo "is_settings") rfl), ⟨F, F.bindsN fun _ _ _ _ _ _ us hl => match us, hl with | [_], _ => rfl⟩⟩
theorem at_are_paths (KX : K.In h) (GX : h.Ns mainGlobals mg) (c : He.SaysX fa fn [] tf exK w h K) : At (zz P w K mg base) "are_paths" (top 19) ["paths"] := by
  obtain ⟨fd, F⟩ := c.t.d.def_ 13 (d := d13) rfl
  exact ⟨_, fd, He.glo_ok KX GX (c.t.d.fact 15 (f := .glo "are_paths") rfl), ⟨F, F.bindsN fun _ _ _ _ _ _ us hl => match us, hl with | [_], _ => rfl⟩⟩
theorem at_is_lot (KX : K.In h) (GX : h.Ns mainGlobals mg) (c : He.SaysX fa fn [] tf exK w h K) : At (zz P w K mg base) "is_lot" (top 20) ["lot", "paths"] := by
  obtain ⟨fd, F⟩ := c.t.d.def_ 14 (d := d14) rfl
  exact ⟨_, fd, He.glo_ok KX GX (c.t.d.fact 16 (f := .glo "is_lot") rfl), ⟨F, F.bindsN fun _ _ _ _ _ _ us hl => match us, hl with | [_, _], _ => rfl⟩⟩
theorem at_fewest (KX : K.In h) (GX : h.Ns mainGlobals mg) (c : He.SaysX fa fn [] tf exK w h K) : AtC (zz P w K mg base) "fewest" (top 29) ["paths", "lot"] (He.cT K ("fewest", none)).1 := by
  obtain ⟨fd, F⟩ := c.t.d.def_ 15 (d := d15) rfl
  refine ⟨_, fd, He.glo_ok KX GX (c.t.d.fact 17 (f := .glo "fewest") rfl), ⟨F, F.bindsN fun _ _ _ _ _ _ us hl => match us, hl with | [_, _], _ => rfl⟩, ?_⟩
  obtain ⟨oc, od, dV, kV, doc, pm, an, cdv, ct, osl, rfl, lk, hcd, _, _⟩ := F.ex
  obtain ⟨cc, e⟩ := He.codeIn_ref hcd
  subst e
  have := He.codeOf_eq (p := ("fewest", none)) lk rfl
  rw [← this]
  rfl
theorem at_are_heights (KX : K.In h) (GX : h.Ns mainGlobals mg) (c : He.SaysX fa fn [] tf exK w h K) : At (zz P w K mg base) "are_heights" (top 27) ["heights", "inside", "lot"] := by
  obtain ⟨fd, F⟩ := c.t.d.def_ 16 (d := d16) rfl
  exact ⟨_, fd, He.glo_ok KX GX (c.t.d.fact 18 (f := .glo "are_heights") rfl), ⟨F, F.bindsN fun _ _ _ _ _ _ us hl => match us, hl with | [_, _, _], _ => rfl⟩⟩
theorem at_is_hushed (KX : K.In h) (GX : h.Ns mainGlobals mg) (c : He.SaysX fa fn [] tf exK w h K) : At (zz P w K mg base) "is_hushed" (top 26) ["path", "words"] := by
  obtain ⟨fd, F⟩ := c.t.d.def_ 17 (d := d17) rfl
  exact ⟨_, fd, He.glo_ok KX GX (c.t.d.fact 19 (f := .glo "is_hushed") rfl), ⟨F, F.bindsN fun _ _ _ _ _ _ us hl => match us, hl with | [_, _], _ => rfl⟩⟩
theorem at_is_folder_text (KX : K.In h) (GX : h.Ns mainGlobals mg) (c : He.SaysX fa fn [] tf exK w h K) : At (zz P w K mg base) "is_folder_text" (top 23) ["place"] := by
  obtain ⟨fd, F⟩ := c.t.d.def_ 18 (d := d18) rfl
  exact ⟨_, fd, He.glo_ok KX GX (c.t.d.fact 20 (f := .glo "is_folder_text") rfl), ⟨F, F.bindsN fun _ _ _ _ _ _ us hl => match us, hl with | [_], _ => rfl⟩⟩
theorem at_Few_shows (KX : K.In h) (GX : h.Ns mainGlobals mg) (c : He.SaysX fa fn [] tf exK w h K) : AtM (zz P w K mg base) "Few" "shows" "Few.shows" (inClass (top 28) 1) ["self", "paths", "lot"] := by
  obtain ⟨fd, F⟩ := c.t.d.def_ 19 (d := d19) rfl
  exact ⟨_, _, fd, ⟨He.glo_ok KX GX (c.t.d.fact 0 (f := .glo "Few") rfl), He.cls_ok (c.t.d.fact 1 (f := .cls "Few") rfl)⟩, He.meth_ok (c.t.d.fact 21 (f := .meth "Few" "shows") rfl), ⟨F, F.bindsN fun _ _ _ _ _ _ us hl => match us, hl with | [_, _, _], _ => rfl⟩⟩
theorem at__law_rank (KX : K.In h) (GX : h.Ns mainGlobals mg) (c : He.SaysX fa fn [] tf exK w h K) : At (zz P w K mg base) "_law_rank" (top 35) ["_law_name"] := by
  obtain ⟨fd, F⟩ := c.t.d.def_ 20 (d := d20) rfl
  exact ⟨_, fd, He.glo_ok KX GX (c.t.d.fact 22 (f := .glo "_law_rank") rfl), ⟨F, F.bindsN fun _ _ _ _ _ _ us hl => match us, hl with | [_], _ => rfl⟩⟩
theorem at__law_place_rank (KX : K.In h) (GX : h.Ns mainGlobals mg) (c : He.SaysX fa fn [] tf exK w h K) : At (zz P w K mg base) "_law_place_rank" (top 38) ["_law_place"] := by
  obtain ⟨fd, F⟩ := c.t.d.def_ 21 (d := d21) rfl
  exact ⟨_, fd, He.glo_ok KX GX (c.t.d.fact 23 (f := .glo "_law_place_rank") rfl), ⟨F, F.bindsN fun _ _ _ _ _ _ us hl => match us, hl with | [_], _ => rfl⟩⟩
theorem at__law_folders (KX : K.In h) (GX : h.Ns mainGlobals mg) (c : He.SaysX fa fn [] tf exK w h K) : At (zz P w K mg base) "_law_folders" (top 37) ["_law_path"] := by
  obtain ⟨fd, F⟩ := c.t.d.def_ 22 (d := d22) rfl
  exact ⟨_, fd, He.glo_ok KX GX (c.t.d.fact 24 (f := .glo "_law_folders") rfl), ⟨F, F.bindsN fun _ _ _ _ _ _ us hl => match us, hl with | [_], _ => rfl⟩⟩
theorem at__law_inside (KX : K.In h) (GX : h.Ns mainGlobals mg) (c : He.SaysX fa fn [] tf exK w h K) : At (zz P w K mg base) "_law_inside" (top 40) ["_law_paths_here"] := by
  obtain ⟨fd, F⟩ := c.t.d.def_ 23 (d := d23) rfl
  exact ⟨_, fd, He.glo_ok KX GX (c.t.d.fact 25 (f := .glo "_law_inside") rfl), ⟨F, F.bindsN fun _ _ _ _ _ _ us hl => match us, hl with | [_], _ => rfl⟩⟩
theorem at__law_are_heights (KX : K.In h) (GX : h.Ns mainGlobals mg) (c : He.SaysX fa fn [] tf exK w h K) : At (zz P w K mg base) "_law_are_heights" (top 41) ["_law_heights", "_law_paths_here", "_law_lot"] := by
  obtain ⟨fd, F⟩ := c.t.d.def_ 24 (d := d24) rfl
  exact ⟨_, fd, He.glo_ok KX GX (c.t.d.fact 26 (f := .glo "_law_are_heights") rfl), ⟨F, F.bindsN fun _ _ _ _ _ _ us hl => match us, hl with | [_, _, _], _ => rfl⟩⟩
theorem at__law_is_hushed (KX : K.In h) (GX : h.Ns mainGlobals mg) (c : He.SaysX fa fn [] tf exK w h K) : At (zz P w K mg base) "_law_is_hushed" (top 39) ["_law_path", "_law_words"] := by
  obtain ⟨fd, F⟩ := c.t.d.def_ 25 (d := d25) rfl
  exact ⟨_, fd, He.glo_ok KX GX (c.t.d.fact 27 (f := .glo "_law_is_hushed") rfl), ⟨F, F.bindsN fun _ _ _ _ _ _ us hl => match us, hl with | [_, _], _ => rfl⟩⟩
theorem at__law_are_sayings (KX : K.In h) (GX : h.Ns mainGlobals mg) (c : He.SaysX fa fn [] tf exK w h K) : At (zz P w K mg base) "_law_are_sayings" (top 42) ["_law_marks", "_law_paths_here", "_law_lot"] := by
  obtain ⟨fd, F⟩ := c.t.d.def_ 26 (d := d26) rfl
  exact ⟨_, fd, He.glo_ok KX GX (c.t.d.fact 28 (f := .glo "_law_are_sayings") rfl), ⟨F, F.bindsN fun _ _ _ _ _ _ us hl => match us, hl with | [_, _, _], _ => rfl⟩⟩
theorem at__law_few_right (KX : K.In h) (GX : h.Ns mainGlobals mg) (c : He.SaysX fa fn [] tf exK w h K) : At (zz P w K mg base) "_law_few_right" (top 43) ["_law_told", "_law_paths_here", "_law_lot"] := by
  obtain ⟨fd, F⟩ := c.t.d.def_ 27 (d := d27) rfl
  exact ⟨_, fd, He.glo_ok KX GX (c.t.d.fact 29 (f := .glo "_law_few_right") rfl), ⟨F, F.bindsN fun _ _ _ _ _ _ us hl => match us, hl with | [_, _, _], _ => rfl⟩⟩
theorem at__law_draw (KX : K.In h) (GX : h.Ns mainGlobals mg) (c : He.SaysX fa fn [] tf exK w h K) : At (zz P w K mg base) "_law_draw" (top 31) ["_law_cell", "_law_k", "_law_many"] := by
  obtain ⟨fd, F⟩ := c.t.d.def_ 28 (d := d28) rfl
  exact ⟨_, fd, He.glo_ok KX GX (c.t.d.fact 30 (f := .glo "_law_draw") rfl), ⟨F, F.bindsN fun _ _ _ _ _ _ us hl => match us, hl with | [_, _, _], _ => rfl⟩⟩
theorem at__law_cell_at (KX : K.In h) (GX : h.Ns mainGlobals mg) (c : He.SaysX fa fn [] tf exK w h K) : At (zz P w K mg base) "_law_cell_at" (top 32) ["_law_script", "_law_k"] := by
  obtain ⟨fd, F⟩ := c.t.d.def_ 29 (d := d29) rfl
  exact ⟨_, fd, He.glo_ok KX GX (c.t.d.fact 31 (f := .glo "_law_cell_at") rfl), ⟨F, F.bindsN fun _ _ _ _ _ _ us hl => match us, hl with | [_, _], _ => rfl⟩⟩
theorem at__law_digits (KX : K.In h) (GX : h.Ns mainGlobals mg) (c : He.SaysX fa fn [] tf exK w h K) : At (zz P w K mg base) "_law_digits" (top 33) ["_law_script", "_law_at", "_law_many", "_law_base"] := by
  obtain ⟨fd, F⟩ := c.t.d.def_ 30 (d := d30) rfl
  exact ⟨_, fd, He.glo_ok KX GX (c.t.d.fact 32 (f := .glo "_law_digits") rfl), ⟨F, F.bindsN fun _ _ _ _ _ _ us hl => match us, hl with | [_, _, _, _], _ => rfl⟩⟩
theorem at__law_paths (KX : K.In h) (GX : h.Ns mainGlobals mg) (c : He.SaysX fa fn [] tf exK w h K) : At (zz P w K mg base) "_law_paths" (top 36) ["_law_script", "_law_at", "_law_names_here", "_law_many"] := by
  obtain ⟨fd, F⟩ := c.t.d.def_ 31 (d := d31) rfl
  exact ⟨_, fd, He.glo_ok KX GX (c.t.d.fact 33 (f := .glo "_law_paths") rfl), ⟨F, F.bindsN fun _ _ _ _ _ _ us hl => match us, hl with | [_, _, _, _], _ => rfl⟩⟩
theorem at__law_names (KX : K.In h) (GX : h.Ns mainGlobals mg) (c : He.SaysX fa fn [] tf exK w h K) : At (zz P w K mg base) "_law_names" (top 34) ["_law_script", "_law_at"] := by
  obtain ⟨fd, F⟩ := c.t.d.def_ 32 (d := d32) rfl
  exact ⟨_, fd, He.glo_ok KX GX (c.t.d.fact 34 (f := .glo "_law_names") rfl), ⟨F, F.bindsN fun _ _ _ _ _ _ us hl => match us, hl with | [_, _], _ => rfl⟩⟩
def tabs (K : PySem.W.Frag) : List NTab := [((He.cT K ("fewest", none)).2, fun _ _ => (("fewest" : Str) ++ ".<locals>.") ++ "<lambda>")]
theorem does_law {f : Addr} (KX : K.In h) (GX : h.Ns mainGlobals mg) (c : He.SaysX fa fn [] tf exK w h K) (hfa : mg ("law" : Str) = some (.ref f)) : ∃ fd : FuncData, (∀ (s : Shared) (v : Value), BindsTo s fd ⟨[v], []⟩ [("_law_script", v)]) ∧
    ∀ base : Heap, (∀ p ∈ tf.map (He.cT K), LamX.TabB base mg p.1 p.2) → FnOk P w K mg base CX0 (19 + 1) f fd ["_law_script"] (spL (tabs K) (zz P w K mg base) 12 B_law) := by
  obtain ⟨fd, F⟩ := c.t.d.def_ 33 (d := d33) rfl
  have e := hfa.symm.trans (He.glo_ok KX GX (c.t.d.fact 35 (f := .glo "law") rfl))
  cases e
  have b := FunD.bindsA (ps := ["_law_script"]) F fun _ _ _ _ _ _ us hl => match us, hl with | [_], _ => rfl
  refine ⟨fd, fun s v => b s [v] rfl, fun base hT => ?_⟩
  have G : Gk (zz P w K mg base) := gk KX GX c
  have d_Few___init__ := ok_Few___init__ (T := tabs K) G (at_Few___init__ (P := P) (base := base) KX GX c)
  have d_rank := ok_rank (T := tabs K) G (at_rank (P := P) (base := base) KX GX c)
  have d_place_rank := ok_place_rank (T := tabs K) G (at_place_rank (P := P) (base := base) KX GX c) d_rank
  have d_is_folder := ok_is_folder (T := tabs K) G (at_is_folder (P := P) (base := base) KX GX c)
  have d_spread := ok_spread (T := tabs K) G (at_spread (P := P) (base := base) KX GX c) d_is_folder
  have d_needed := ok_needed (T := tabs K) G (at_needed (P := P) (base := base) KX GX c) d_is_folder
  have d_folder_of := ok_folder_of (T := tabs K) G (at_folder_of (P := P) (base := base) KX GX c)
  have d_around := ok_around (T := tabs K) G (at_around (P := P) (base := base) KX GX c) d_folder_of
  have d_folders_up := ok_folders_up (T := tabs K) G (at_folders_up (P := P) (base := base) KX GX c) d_around
  have d_straight_in := ok_straight_in (T := tabs K) G (at_straight_in (P := P) (base := base) KX GX c) d_folders_up d_folder_of
  have d_is_name := ok_is_name (T := tabs K) G (at_is_name (P := P) (base := base) KX GX c)
  have d_is_path := ok_is_path (T := tabs K) G (at_is_path (P := P) (base := base) KX GX c) d_is_name
  have d_is_settings := ok_is_settings (T := tabs K) G (at_is_settings (P := P) (base := base) KX GX c)
  have d_are_paths := ok_are_paths (T := tabs K) G (at_are_paths (P := P) (base := base) KX GX c) d_is_path d_is_settings
  have d_is_lot := ok_is_lot (T := tabs K) G (at_is_lot (P := P) (base := base) KX GX c)
  have d_fewest := ok_fewest (T := tabs K) G (hT _ (by simp [tf])) (by simp [tabs]) (fun _ _ => rfl) (by intro p hp _; simp [tabs] at hp; rw [hp]) (at_fewest (P := P) (base := base) KX GX c) d_Few___init__ d_place_rank d_spread d_needed d_straight_in d_are_paths d_is_lot
  have d_are_heights := ok_are_heights (T := tabs K) G (at_are_heights (P := P) (base := base) KX GX c) d_is_folder
  have d_is_hushed := ok_is_hushed (T := tabs K) G (at_is_hushed (P := P) (base := base) KX GX c) d_folders_up d_folder_of
  have d_is_folder_text := ok_is_folder_text (T := tabs K) G (at_is_folder_text (P := P) (base := base) KX GX c) d_is_path
  have d_Few_shows := ok_Few_shows (T := tabs K) G (at_Few_shows (P := P) (base := base) KX GX c) d_are_heights d_place_rank d_is_hushed d_is_folder_text d_straight_in
  have d__law_rank := ok__law_rank (T := tabs K) G (at__law_rank (P := P) (base := base) KX GX c)
  have d__law_place_rank := ok__law_place_rank (T := tabs K) G (at__law_place_rank (P := P) (base := base) KX GX c) d__law_rank
  have d__law_folders := ok__law_folders (T := tabs K) G (at__law_folders (P := P) (base := base) KX GX c)
  have d__law_inside := ok__law_inside (T := tabs K) G (at__law_inside (P := P) (base := base) KX GX c) d__law_folders
  have d__law_are_heights := ok__law_are_heights (T := tabs K) G (at__law_are_heights (P := P) (base := base) KX GX c) d__law_place_rank d__law_inside
  have d__law_is_hushed := ok__law_is_hushed (T := tabs K) G (at__law_is_hushed (P := P) (base := base) KX GX c) d__law_folders
  have d__law_are_sayings := ok__law_are_sayings (T := tabs K) G (at__law_are_sayings (P := P) (base := base) KX GX c) d__law_is_hushed d__law_place_rank
  have d__law_few_right := ok__law_few_right (T := tabs K) G (at__law_few_right (P := P) (base := base) KX GX c) d__law_are_heights d__law_are_sayings
  have d__law_draw := ok__law_draw (T := tabs K) G (at__law_draw (P := P) (base := base) KX GX c)
  have d__law_cell_at := ok__law_cell_at (T := tabs K) G (at__law_cell_at (P := P) (base := base) KX GX c) d__law_draw
  have d__law_digits := ok__law_digits (T := tabs K) G (at__law_digits (P := P) (base := base) KX GX c) d__law_draw d__law_cell_at
  have d__law_paths := ok__law_paths (T := tabs K) G (at__law_paths (P := P) (base := base) KX GX c) d__law_digits
  have d__law_names := ok__law_names (T := tabs K) G (at__law_names (P := P) (base := base) KX GX c) d__law_digits
  exact ok_law (T := tabs K) G ⟨F, F.bindsN fun _ _ _ _ _ _ us hl => match us, hl with | [_], _ => rfl⟩ d_fewest d_Few_shows d__law_few_right d__law_paths d__law_digits d__law_names
end
end Wk
open PySem PySem.W PySem.Calls PyProof.Rows Wk
theorem Wk.ends (plain : ∀ ns : List Int, ns.length ≤ 63 → ∃ h', B_law (some (.loc 0) :: List.replicate (12 - 1) none) ⟨[.lst (ns.map Mx.U.int)]⟩ = .rt (.bl true) h') : PySem.Challenge.rw_hushroll_k06_whole_few.Holds := by
  w_on; o_law
  refine HandSHeadRun.head_any (r := OpenLaw.row PySem.Challenge.rw_hushroll_k06_whole_few) (q := view (OpenLaw.row PySem.Challenge.rw_hushroll_k06_whole_few).prog [44]) (H := hk) (ob := ob) (M := 6000) (loose := names) (d := HandSHeadRun.topDef (OpenLaw.row PySem.Challenge.rw_hushroll_k06_whole_few).prog 44) (kwd := []) ob_eq
    (by kernel_rfl) (fun s => by kernel_rfl) run (by kernel_rfl) (by kernel_rfl) (by kernel_rfl) (by rfl) (by first | assumption | decide +kernel) (by decide +kernel) ⟨rfl, rfl, rfl, rfl, rfl, by decide +kernel⟩ ?hw ?hc
  case hw => w_witness2
  case hc =>
    refine LamX.walk_ofTsE (l := PySem.Challenge.rw_hushroll_k06_whole_few) (n := 63) (k := 19 + 1) (x := "_law_script") (CX := fun _ => L2.CX0) rfl (by decide) (by kernel_rfl) ⟨rfl, by decide, by decide⟩ ?F (fun _ _ _ _ _ z => z)
    intro w mg fa0 h Y G hmg0
    obtain ⟨K, KX, c⟩ := Y
    have hmg : mg ("law" : PySem.Str) = some (.ref fa0) := by
      have e : (HandSHeadRun.topDef (OpenLaw.row PySem.Challenge.rw_hushroll_k06_whole_few).prog 44).name = ("law" : PySem.Str) := by kernel_rfl
      rw [← e]
      exact hmg0
    obtain ⟨fd, hb, hF⟩ := Wk.does_law (P := (PySem.Challenge.rw_hushroll_k06_whole_few).prog) (w := w) KX G c hmg
    refine ⟨K, KX, fd, tf.map (He.cT K), Mx.spL (tabs K) (zz (PySem.Challenge.rw_hushroll_k06_whole_few).prog w K mg h) 12 B_law, fun p hp => ?_, fun p hp => ?_, fun p hp => ?_, hb, fun H a ns hl _ hT hS => ?_, fun base _ _ hTB => hF base hTB⟩
    · obtain ⟨d, hd, rfl⟩ := List.mem_map.mp hp
      exact c.empty d hd
    · obtain ⟨d, hd, rfl⟩ := List.mem_map.mp hp
      exact c.out d hd
    · obtain ⟨d, hd, rfl⟩ := List.mem_map.mp hp
      exact codeHd_of_K KX (c.hd d hd)
    · obtain ⟨h', e⟩ := plain ns hl
      refine ⟨a, ns, rfl, hS, fun p hp => ?_, .bl true, h', ?_, fun ρ v H' r => r⟩
      · have hp2 : ∃ d ∈ tf, p.1 = (He.cT K d).2 := by
          revert hp
          simp [tabs, tf] <;> (intro z; rw [z])
        obtain ⟨d, hd, e2⟩ := hp2
        rw [e2]
        exact NdefX.TabN.nil (hT _ (List.mem_map.mpr ⟨d, hd, rfl⟩))
      · rw [List.take_of_length_le hl]
        exact e
end
section
set_option maxHeartbeats 4000000
namespace P7
open PySem Mx My Wk L2
theorem szl : sizeLine = 16777216 := by first | exact sizeLine_eq | rfl
theorem sok_emp : Sok (Str.ofString "") := by decide +kernel
theorem rank_ok {s : Str} {h : Hh} {P : U → Hh → Prop} (hs : s.length ≤ 1000) (q : P (.loc h.size) (h.push (.tup [.int s.length, .str s]))) : ok (F_rank [.str s] h) P := by
  unfold F_rank B_rank
  simp
  exact ⟨by rw [szl]; omega, by rw [szl]; omega, q⟩
theorem folder_of_ok {s : Str} {h : Hh} {P : U → Hh → Prop} (hs : s.length ≤ 1000) (q : P (.str (cutS s none (some (Txt.rfind s ⟨#[47]⟩ + 1)))) h) : ok (F_folder_of [.str s] h) P := by
  unfold F_folder_of B_folder_of
  simp
  rw [slash]
  exact ⟨by rw [szl]; omega, q⟩
theorem around_ok {s : Str} {h : Hh} {P : U → Hh → Prop} (hs : s.length ≤ 1000) (q : P (.str (cutS (cutS s none (some (-1))) none (some (Txt.rfind (cutS s none (some (-1))) ⟨#[47]⟩ + 1)))) h) : ok (F_around [.str s] h) P := by
  unfold F_around B_around
  simp
  refine ⟨by rw [szl]; omega, folder_of_ok ?_ q⟩
  rw [len_sl, cut_last]
  rw [len_sl] at hs
  rw [List.length_dropLast]
  omega
theorem is_folder_ok {s : Str} {h : Hh} {P : U → Hh → Prop} (hs : Sok s) (q : P (.bl ((s == ⟨#[]⟩) || decide ((sl s).getLast? = some 47))) h) : ok (F_is_folder [.str s] h) P := by
  unfold F_is_folder B_is_folder
  simp [o_eqS hs sok_emp]
  rw [slash, empt, ends_iff]
  by_cases e : s = ⟨#[]⟩
  · right; simp [e] at q ⊢; exact q
  · left
    have e' : (s == (⟨#[]⟩ : Str)) = false := beq_eq_false_iff_ne.mpr e
    rw [e', Bool.false_or] at q
    exact ⟨e, q⟩
/-- the folders upward, down to the v-th -/
def upT (ds : List Str) (v : Nat) : List Str := (List.range' v (ds.length + 1 - v)).reverse.map fun k => dirS (ds.take k)
theorem upT_last {ds : List Str} : upT ds ds.length = [dirS ds] := by
  unfold upT
  have : ds.length + 1 - ds.length = 1 := by omega
  rw [this]
  simp
theorem upT_step {ds : List Str} {v : Nat} (h : v < ds.length + 1) : upT ds v = upT ds (v + 1) ++ [dirS (ds.take v)] := by
  unfold upT
  have : ds.length + 1 - v = (ds.length + 1 - (v + 1)) + 1 := by omega
  rw [this, List.range'_succ]
  simp
theorem atI_last {α : Type} (l : List α) (x : α) : atI (l ++ [x]) (-1) = some x := by
  have e : ixN (l ++ [x]).length (-1) = some l.length := by
    unfold ixN
    rw [if_neg (by decide), List.length_append]
    simp
    omega
  unfold atI
  rw [e]
  simp
theorem dirS_nil {ds : List Str} : dirS ds = ⟨#[]⟩ ↔ ds = [] := by
  constructor
  · intro h
    rcases dirS_end ds with ⟨_, e⟩ | ⟨a, e⟩
    · exact e
    · rw [h] at e
      simp at e
  · rintro rfl; rfl
theorem sok_of {s : Str} : Sok s ↔ ∀ c ∈ sl s, c < 1114112 := by
  show (s.cps.all fun x => decide (x < 1114112)) = true ↔ _
  rw [Array.all_eq_true']
  unfold sl
  simp
theorem dirS_mem {ds : List Str} {c : Nat} (h : c ∈ sl (dirS ds)) : c = 47 ∨ ∃ d ∈ ds, c ∈ sl d := by
  induction ds with
  | nil => simp [dirS] at h
  | cons n r ih =>
    have e : sl (dirS (n :: r)) = sl n ++ [47] ++ sl (dirS r) := by
      show sl (n ++ ⟨#[47]⟩ ++ dirS r) = _
      rw [sl_app, sl_app]
      rfl
    rw [e] at h
    rcases List.mem_append.mp h with h | h
    · rcases List.mem_append.mp h with h | h
      · exact .inr ⟨n, by simp, h⟩
      · exact .inl (List.mem_singleton.mp h)
    · rcases ih h with h | ⟨d, hd, h⟩
      · exact .inl h
      · exact .inr ⟨d, by simp [hd], h⟩
theorem dirS_sok {ds : List Str} (h : ∀ d ∈ ds, Sok d) : Sok (dirS ds) := by
  rw [sok_of]
  intro c hc
  rcases dirS_mem hc with rfl | ⟨d, hd, hc⟩
  · decide
  · exact sok_of.mp (h d hd) c hc
theorem dirS_take_len (ds : List Str) (k : Nat) : (sl (dirS (ds.take k))).length ≤ (sl (dirS ds)).length := by
  have e : sl (dirS ds) = sl (dirS (ds.take k)) ++ sl (dirS (ds.drop k)) := by
    rw [← dirS_app, List.take_append_drop]
  rw [e, List.length_append]
  omega
theorem folders_up_ok {ds : List Str} {h : Hh} {P : U → Hh → Prop} (hd : ∀ d ∈ ds, NoS d ∧ Sok d) (hs : (sl (dirS ds)).length ≤ 900) (hl : ds.length ≤ 100) (q : ∀ h' p, h.size ≤ p → Ext h h' → h'.get p = some (.lst ((upT ds 0).map U.str)) → P (.loc p) h') : ok (F_folders_up [.str (dirS ds)] h) P := by
  unfold F_folders_up B_folders_up
  simp
  refine ⟨by rw [szl]; omega, while0 ds.length (fun v us h' => v ≤ ds.length ∧ us = [some (.str (dirS ds)), some (.loc h.size)] ∧ Ext h h' ∧ h'.get h.size = some (.lst ((upT ds v).map U.str))) (by omega) ⟨Nat.le_refl _, rfl, .push, by rw [upT_last]; simp⟩ ?_⟩
  rintro v us h' ⟨hv, rfl, hx, hg⟩
  have sk : ∀ k, Sok (dirS (ds.take k)) := fun k => dirS_sok fun d hd' => (hd d (List.mem_of_mem_take hd')).2
  rw [upT_step (by omega)] at hg
  simp [o_ixL hg, atI_last]
  rw [o_neS (sk v) sok_emp, empt]
  by_cases hv0 : v = 0
  · subst hv0
    have e : ((dirS (ds.take 0)) == (⟨#[]⟩ : Str)) = true := by simp [dirS]
    refine .inl ⟨by rw [e]; rfl, q _ _ (Nat.le_refl _) hx ?_⟩
    rw [upT_step (by omega)]
    exact hg
  · have e : ((dirS (ds.take v)) == (⟨#[]⟩ : Str)) = false := by
      rw [beq_eq_false_iff_ne]
      intro z
      have := dirS_nil.mp z
      have l := congrArg List.length this
      rw [List.length_take, List.length_nil] at l
      omega
    refine .inr ⟨by rw [e]; rfl, okB_of ?_⟩
    simp [isL_get hg, o_ixL hg, atI_last]
    obtain ⟨w, rfl⟩ : ∃ w, v = w + 1 := ⟨v - 1, by omega⟩
    have et : ds.take (w + 1) = ds.take w ++ [ds[w]] := by rw [List.take_add_one]; simp [show w < ds.length by omega]
    have ns : NoS ds[w] := (hd _ (List.getElem_mem _)).1
    refine around_ok (by rw [len_sl]; exact Nat.le_trans (dirS_take_len ds (w + 1)) (by omega)) ?_
    rw [et, around_dir, folder_of_path ns]
    rw [o_append hg]
    refine ⟨by simp [upT, szl]; omega, w, by omega, by omega, hx.set (Nat.le_refl _), ?_⟩
    rw [get_set_same hg, upT_step (v := w) (by omega), upT_step (v := w + 1) (by omega)]
    simp

/-! ### names -/
def isLet (c : Nat) : Bool := decide (97 ≤ c) && decide (c ≤ 122)
def kept : List Str := [Str.ofString "until", Str.ofString "because"]
/-- what is_name says of a text -/
def isNm (s : Str) : Bool := (decide (1 ≤ s.length) && decide (s.length ≤ 12)) && (!decide (s ∈ kept) && (sl s).all isLet)
theorem letters : sl (Str.ofString "abcdefghijklmnopqrstuvwxyz") = (List.range 26).map (· + 97) := by decide +kernel
theorem in_letters (c : Nat) : inB (.str ⟨#[c]⟩) (.str (Str.ofString "abcdefghijklmnopqrstuvwxyz")) = fun _ => some (isLet c) := by
  funext h
  show some (!(Builtin.Str.occurrences _ ⟨#[c]⟩ 0 _ 1).isEmpty) = some (isLet c)
  rw [StrLaws.found_one]
  congr 1
  show decide (c ∈ sl (Str.ofString "abcdefghijklmnopqrstuvwxyz")) = _
  rw [letters, Bool.eq_iff_iff, decide_eq_true_eq]
  unfold isLet
  rw [Bool.and_eq_true, decide_eq_true_eq, decide_eq_true_eq, List.mem_map]
  constructor
  · rintro ⟨a, ha, rfl⟩
    rw [List.mem_range] at ha
    omega
  · intro ⟨h1, h2⟩
    exact ⟨c - 97, by rw [List.mem_range]; omega, by omega⟩
theorem is_name_ok {s : Str} {h : Hh} {P : U → Hh → Prop} (hs : s.length ≤ 100000) (q : ∀ h', Ext h h' → P (.bl (isNm s)) h') : ok (F_is_name [.str s] h) P := by
  unfold F_is_name B_is_name
  simp
  refine ⟨by rw [szl]; omega, ?_⟩
  by_cases h1 : s.length < 1
  · refine .inl ⟨by omega, ?_⟩
    have := q h Ext.refl
    rwa [show isNm s = false by unfold isNm; simp; omega] at this
  refine .inr ⟨by omega, ?_⟩
  by_cases h2 : 12 < s.length
  · refine .inl ⟨by omega, ?_⟩
    have := q h Ext.refl
    rwa [show isNm s = false by unfold isNm; simp; omega] at this
  refine .inr ⟨by omega, ?_⟩
  by_cases h3 : s ∈ kept
  · refine .inr ⟨?_, ?_⟩
    · simpa [kept] using h3
    · have := q h Ext.refl
      rwa [show isNm s = false by unfold isNm; simp [h3]] at this
  refine .inl ⟨?_, ?_⟩
  · simpa [kept] using h3
  refine lc_str (F := iB) (fun _ => true) isLet (by rw [← len_sl]; omega) (fun x h' hx he => ?_) fun ys h' he hp => ?_
  · simp [in_letters, -Bool.exists_bool]
  · rw [PiB hp, o_all (bs := ((sl s).filter fun _ => true).map isLet) (by simp)]
    have := q _ (he.pushR (o := .lst (List.map U.bl (List.map isLet (List.filter (fun _ => true) (sl s))))))
    have e : isNm s = (((sl s).filter fun _ => true).map isLet).all id := by
      have e1 : decide (1 ≤ s.length) = true := decide_eq_true (by omega)
      have e2 : decide (s.length ≤ 12) = true := decide_eq_true (by omega)
      unfold isNm
      rw [e1, e2, decide_eq_false h3]
      simp
    rw [← e]
    exact this
theorem filter_true {α : Type} (l : List α) : l.filter (fun _ => true) = l := List.filter_eq_self.mpr fun _ _ => rfl
/-- a comprehension over a list of texts, a bool each -/
theorem lc_SB {us : List U} {xs : List Str} {h : Hh} {p : Nat} {g : GM} {e : EM} {usw : Sl} {P : List U → Hh → Prop} (f : Str → Bool) (hp : h.get p = some (.lst (xs.map U.str))) (l : xs.length < 1000000)
    (hs : ∀ x h', x ∈ xs → Ext h h' → ok (g (.str x) usw h') fun us1 h2 => Ext h' h2 ∧ ok (e us1 h2) fun y h4 => Ext h2 h4 ∧ y = .bl (f x)) (q : ∀ h', Ext h h' → P ((xs.map f).map U.bl) h') : ok (lcL (.lst p) g Mx.tYes e usw fuel 0 [] h) P := by
  refine lc_list (A := iS) (F := iB) (fun _ => true) f hp (PS xs) l (fun x u h' hx he ha => ?_) fun ys h' he hy => ?_
  · have ha : u = .str x := ha
    subst ha
    refine ok_mono (hs x h' hx he) fun us1 h2 ⟨x1, k1⟩ => ⟨x1, ?_⟩
    show true = true ∧ Ext h2 h2 ∧ _
    exact ⟨rfl, Ext.refl, fun _ => k1⟩
  · rw [filter_true] at hy
    rw [PiB hy]
    exact q h' he
def isPt (parts : List Str) : Bool := decide (parts.length ≤ 5) && parts.all isNm
theorem is_path_ok {s : Str} {parts : List Str} {h : Hh} {P : U → Hh → Prop} (hs : s.length ≤ 100000) (hp : Txt.split s ⟨#[47]⟩ = parts) (hl : ∀ p ∈ parts, p.length ≤ 100000) (hn : parts.length ≤ 100000) (q : ∀ h', Ext h h' → P (.bl (isPt parts)) h') : ok (F_is_path [.str s] h) P := by
  unfold F_is_path B_is_path
  simp [-Bool.exists_bool]
  rw [slash, hp]
  refine ⟨⟨by decide, by rw [szl]; omega⟩, ?_⟩
  rw [o_lenL get_push_size]
  simp only [o_le, ok_eC, ok_eVar, okO_some]
  refine ⟨_, rfl, ?_⟩
  rw [List.length_map]
  by_cases h5 : parts.length ≤ 5
  · rw [if_pos (by simp; omega)]
    try simp [-Bool.exists_bool]
    rw [mkIt_lst get_push_size]
    refine lc_SB (xs := parts) (us := []) isNm get_push_size (by omega) (fun x h' hx he => ?_) fun h' he => ?_
    · simp
      exact is_name_ok (hl x hx) fun h' he' => ⟨he', rfl⟩
    · rw [o_all get_push_size]
      have := q _ ((Ext.push.trans he).pushR (o := .lst ((parts.map isNm).map U.bl)))
      rwa [show isPt parts = (parts.map isNm).all id by unfold isPt; rw [decide_eq_true h5]; simp] at this
  · rw [if_neg (by simp; omega)]
    have := q _ (Ext.push (o := .lst (parts.map U.str)))
    rwa [show isPt parts = false by unfold isPt; rw [decide_eq_false h5]; rfl] at this

/-! ### the rank of a place -/
def rkD (n : Str) : PyData := .tuple [.int n.length, .str n]
/-- names: those of the place; fl: 0 for a folder -/
def prD (names : List Str) (fl : Int) : PyData := .tuple [.int names.length, .list (names.map rkD), .int fl]
def flag (s : Str) : Int := if (s == ⟨#[]⟩) || decide ((sl s).getLast? = some 47) then 0 else 1
theorem place_rank_ok {h : Hh} {s : Str} {parts : List Str} (hs : s.length ≤ 1000) (hk : Sok s) (hp : Txt.split s ⟨#[47]⟩ = parts) (hl : ∀ p ∈ parts, p.length ≤ 1000 ∧ Sok p) (hn : parts.length ≤ 1000) : ok (F_place_rank [.str s] h) fun u h' => toD 8 h' u = some (prD (parts.filter fun n => !(n == ⟨#[]⟩)) (flag s)) := by
  unfold F_place_rank B_place_rank
  simp [-Bool.exists_bool]
  rw [slash, hp]
  refine ⟨⟨by decide, by rw [szl]; omega⟩, ?_⟩
  rw [mkIt_lst get_push_size]
  refine lc_list (A := iS) (F := iS) (fun n => !(n == ⟨#[]⟩)) id get_push_size (PS parts) (by omega) (fun x u h' hx he ha => ?_) fun ys h' he hy => ?_
  · have ha : u = .str x := ha
    subst ha
    simp [o_neS (hl x hx).2 sok_emp, -Bool.exists_bool]
    rw [empt]
  rw [List.map_id] at hy
  rw [PiS hy]
  rw [o_lenL get_push_size, mkIt_lst get_push_size]
  generalize hN : (parts.filter fun n => !(n == (⟨#[]⟩ : Str))) = names
  have hnl : ∀ n ∈ names, n.length ≤ 1000 := fun n hm => by
    rw [← hN] at hm
    exact (hl n (List.mem_filter.mp hm).1).1
  have hlen : names.length ≤ 1000 := by
    rw [← hN]
    exact Nat.le_trans (List.length_filter_le _ _) hn
  refine lc_list (A := iS) (F := iT2 iI iS) (fun _ => true) (fun n => ((n.length : Int), n)) get_push_size (PS names) (by omega) (fun x u h2 hx he2 ha => ?_) fun ys2 h2 he2 hy2 => ?_
  · have ha : u = .str x := ha
    subst ha
    simp
    exact rank_ok (hnl x hx) ⟨Ext.push, iT2_mk rfl rfl⟩
  rw [filter_true] at hy2
  have fin : ∀ fl : Int, toD 8 ((h2.push (.lst ys2)).push (.tup [.int (names.map U.str).length, .loc h2.size, .int fl])) (.loc (h2.push (.lst ys2)).size) = some (prD names fl) := fun fl => by
    have := (dT3 (dI 7) (dL (dT2 (dI 5) (dS 5))) (dI 7)).to (iT3_mk (P := iI) (Q := iL (iT2 iI iS)) (R := iI) (h := h2.push (.lst ys2)) (u := .int (names.map U.str).length) (v := .int fl) (a := (names.map U.str).length) (c := fl) rfl (iL_mk hy2) rfl)
    rw [this]
    simp [prD, rkD]
  rw [o_eqS hk sok_emp, empt]
  refine ⟨_, rfl, ?_⟩
  have sz : 3 ≤ sizeLine := by rw [szl]; omega
  rw [ends_iff]
  unfold flag
  by_cases h1 : s = ⟨#[]⟩
  · have e : (s == (⟨#[]⟩ : Str)) = true := by rw [h1]; rfl
    rw [e, if_pos rfl]
    exact ⟨sz, fin 0⟩
  · have e : (s == (⟨#[]⟩ : Str)) = false := beq_eq_false_iff_ne.mpr h1
    rw [e, if_neg (by decide), Bool.false_or]
    by_cases h2 : (sl s).getLast? = some 47
    · rw [decide_eq_true h2, if_pos rfl, if_pos rfl]
      exact ⟨sz, fin 0⟩
    · rw [decide_eq_false h2, if_neg (by decide), if_neg (by decide)]
      exact ⟨sz, fin 1⟩
theorem lrank_ok {s : Str} {h : Hh} {P : U → Hh → Prop} (hs : s.length ≤ 1000) (q : P (.loc h.size) (h.push (.tup [.int s.length, .str s]))) : ok (F__law_rank [.str s] h) P := by
  unfold F__law_rank B__law_rank
  simp
  exact ⟨by rw [szl]; omega, by rw [szl]; omega, q⟩
theorem lplace_rank_ok {s : Str} {parts : List Str} (hs : s.length ≤ 1000) (hk : Sok s) (hp : Txt.split s ⟨#[47]⟩ = parts) (hl : ∀ p ∈ parts, p.length ≤ 1000 ∧ Sok p) (hn : parts.length ≤ 1000) : ok (F__law_place_rank [.str s] ⟨[]⟩) fun u h' => toD 8 h' u = some (prD (parts.filter fun n => !(n == ⟨#[]⟩)) (flag s)) := by
  unfold F__law_place_rank B__law_place_rank
  simp [-Bool.exists_bool]
  rw [slash, hp]
  refine ⟨⟨by decide, by rw [szl]; omega⟩, ?_⟩
  rw [mkIt_lst get_push_size]
  refine lc_list (A := iS) (F := iS) (fun n => !(n == ⟨#[]⟩)) id get_push_size (PS parts) (by omega) (fun x u h' hx he ha => ?_) fun ys h' he hy => ?_
  · have ha : u = .str x := ha
    subst ha
    simp [o_neS (hl x hx).2 sok_emp, -Bool.exists_bool]
    rw [empt]
  rw [List.map_id] at hy
  rw [PiS hy]
  rw [o_lenL get_push_size, mkIt_lst get_push_size]
  generalize hN : (parts.filter fun n => !(n == (⟨#[]⟩ : Str))) = names
  have hnl : ∀ n ∈ names, n.length ≤ 1000 := fun n hm => by
    rw [← hN] at hm
    exact (hl n (List.mem_filter.mp hm).1).1
  have hlen : names.length ≤ 1000 := by
    rw [← hN]
    exact Nat.le_trans (List.length_filter_le _ _) hn
  refine lc_list (A := iS) (F := iT2 iI iS) (fun _ => true) (fun n => ((n.length : Int), n)) get_push_size (PS names) (by omega) (fun x u h2 hx he2 ha => ?_) fun ys2 h2 he2 hy2 => ?_
  · have ha : u = .str x := ha
    subst ha
    simp
    exact lrank_ok (hnl x hx) ⟨Ext.push, iT2_mk rfl rfl⟩
  rw [filter_true] at hy2
  have fin : ∀ fl : Int, toD 8 ((h2.push (.lst ys2)).push (.tup [.int (names.map U.str).length, .loc h2.size, .int fl])) (.loc (h2.push (.lst ys2)).size) = some (prD names fl) := fun fl => by
    have := (dT3 (dI 7) (dL (dT2 (dI 5) (dS 5))) (dI 7)).to (iT3_mk (P := iI) (Q := iL (iT2 iI iS)) (R := iI) (h := h2.push (.lst ys2)) (u := .int (names.map U.str).length) (v := .int fl) (a := (names.map U.str).length) (c := fl) rfl (iL_mk hy2) rfl)
    rw [this]
    simp [prD, rkD]
  rw [o_eqS hk sok_emp, empt]
  refine ⟨_, rfl, ?_⟩
  have sz : 3 ≤ sizeLine := by rw [szl]; omega
  unfold flag
  by_cases h1 : s = ⟨#[]⟩
  · have e : (s == (⟨#[]⟩ : Str)) = true := by rw [h1]; rfl
    rw [e, if_pos rfl]
    exact ⟨sz, fin 0⟩
  · have e : (s == (⟨#[]⟩ : Str)) = false := beq_eq_false_iff_ne.mpr h1
    rw [e, if_neg (by decide), Bool.false_or]
    obtain ⟨l, c, hc⟩ : ∃ l c, sl s = l ++ [c] := by
      rcases List.eq_nil_or_concat (sl s) with h0 | ⟨l, c, h0⟩
      · exact absurd (sl_inj (y := ⟨#[]⟩) (by rw [h0]; rfl)) h1
      · exact ⟨l, c, by rw [h0, List.concat_eq_append]⟩
    have kc : Sok ⟨#[c]⟩ := by
      rw [sok_of]
      intro z hz
      have hz : z ∈ [c] := hz
      rw [List.mem_singleton.mp hz]
      exact sok_of.mp hk c (by rw [hc]; simp)
    refine ⟨by rw [szl]; omega, c, by rw [hc]; exact atI_last l c, ?_⟩
    rw [o_eqS kc (by decide +kernel)]
    refine ⟨_, rfl, ?_⟩
    by_cases h2 : c = 47
    · have e2 : ((⟨#[c]⟩ : Str) == ⟨#[47]⟩) = true := by rw [h2]; rfl
      rw [e2, if_pos rfl, hc, List.getLast?_concat, h2]
      exact ⟨sz, fin 0⟩
    · have e2 : ((⟨#[c]⟩ : Str) == ⟨#[47]⟩) = false := beq_eq_false_iff_ne.mpr fun z => h2 (by injection z with z; injection z with z; injection z)
      rw [e2, if_neg (by decide), hc, List.getLast?_concat, decide_eq_false (fun z => h2 (Option.some.inj z)), if_neg (by decide)]
      exact ⟨sz, fin 1⟩

/-! ### the law's folders -/
theorem cutU_take {α : Type} (f : α → U) (l : List α) (n : Nat) : cutU (l.map f) none (some (n : Int)) = (l.take n).map f := by
  unfold cutU
  rw [HT.sIx_nat, HT.sIx_none, List.drop_zero, Nat.sub_zero, List.length_map, ← List.map_take]
  by_cases h : n ≤ l.length
  · rw [Nat.min_eq_left h]
  · rw [Nat.min_eq_right (by omega), List.take_of_length_le (Nat.le_refl _), List.take_of_length_le (by omega)]
theorem cutU_but (l : List U) (x : U) : cutU (l ++ [x]) none (some (-1)) = l := by
  unfold cutU
  have e : HT.sIx (l ++ [x]).length (l ++ [x]).length (some (-1)) = l.length := by
    show (if (-1 : Int) < 0 then ((-1 : Int) + ((l ++ [x]).length : Int)).toNat else min (-1 : Int).toNat (l ++ [x]).length) = _
    rw [if_pos (by decide), List.length_append, List.length_singleton]
    omega
  rw [HT.sIx_none, List.drop_zero, Nat.sub_zero, e, List.take_left']
  rfl
theorem join_dir (ds : List Str) : Txt.join ⟨#[]⟩ (ds.map fun d => d ++ ⟨#[47]⟩) = dirS ds := by
  rw [TL.join_eq]
  refine sl_inj ?_
  induction ds with
  | nil => rfl
  | cons n r ih =>
    cases r with
    | nil =>
      show sl (n ++ ⟨#[47]⟩) = sl (n ++ ⟨#[47]⟩ ++ ⟨#[]⟩)
      rw [sl_app (n ++ ⟨#[47]⟩)]
      simp
    | cons m r =>
      show sl ((n ++ ⟨#[47]⟩) ++ ⟨#[]⟩ ++ Str.join ⟨#[]⟩ ((m :: r).map fun d => d ++ ⟨#[47]⟩)) = sl (n ++ ⟨#[47]⟩ ++ dirS (m :: r))
      rw [sl_app, ih, sl_app, sl_app (n ++ ⟨#[47]⟩)]
      simp
theorem lens_dir (ds : List Str) : ((ds.map fun d => d ++ (⟨#[47]⟩ : Str)).map (·.length)).sum = (sl (dirS ds)).length := by
  induction ds with
  | nil => rfl
  | cons n r ih =>
    show (n ++ (⟨#[47]⟩ : Str)).length + ((r.map fun d => d ++ (⟨#[47]⟩ : Str)).map (·.length)).sum = (sl (n ++ ⟨#[47]⟩ ++ dirS r)).length
    rw [ih, sl_app (n ++ ⟨#[47]⟩), List.length_append, len_sl]
theorem o_join {ys : List Str} {h : Hh} {p : Nat} {P : U → Hh → Prop} {a : Str} (e : h.get p = some (.lst (ys.map U.str))) : okO (mJoin (.str a) [.loc p] h) P ↔ (ys.map (·.length)).sum + ys.length * a.length ≤ 16777216 ∧ P (.str (Txt.join a ys)) h := by
  have : mJoin (.str a) [.loc p] h = if (ys.map (·.length)).sum + ys.length * a.length ≤ 16777216 then some (.str (Txt.join a ys), h) else none := by
    show ((seqAt (.loc p) h).bind fun us => (allS us).bind fun ys => if (ys.map (·.length)).sum + ys.length * a.length ≤ 16777216 then some (U.str (Txt.join a ys), h) else none) = _
    unfold seqAt
    simp only [e, Option.bind_some, allS_map]
  rw [this, okO_if]
theorem le_sum {l : List Nat} {a : Nat} (h : a ∈ l) : a ≤ l.sum := by
  induction l with
  | nil => simp at h
  | cons b r ih =>
    rw [List.sum_cons]
    rcases List.mem_cons.mp h with rfl | h
    · omega
    · have := ih h
      omega
theorem lfolders_ok {ds : List Str} {x : Str} {h : Hh} {P : U → Hh → Prop} (hd : ∀ d ∈ ds, NoS d ∧ Sok d) (hx : NoS x) (hs : (sl (dirS ds)).length ≤ 900) (hxl : x.length ≤ 90) (hl : ds.length ≤ 100) (q : ∀ h' p, h.size ≤ p → Ext h h' → h'.get p = some (.lst ((upT ds 0).map U.str)) → P (.loc p) h') : ok (F__law_folders [.str (dirS ds ++ x)] h) P := by
  unfold F__law_folders B__law_folders
  simp [-Bool.exists_bool]
  rw [slash, split_path (fun d m => (hd d m).1) hx]
  refine ⟨⟨by decide, ?_⟩, ?_⟩
  · rw [len_sl, sl_app, List.length_append, szl, ← len_sl x]
    omega
  rw [o_slL get_push_size, List.map_append]
  show ∃ u, _
  rw [List.map_singleton, cutU_but]
  generalize hh1 : h.push (.lst (ds.map U.str ++ [.str x])) = h1
  have x1 : Ext h h1 := by rw [← hh1]; exact Ext.push
  generalize hp2 : h1.size = p2
  generalize hh2 : h1.push (.lst (ds.map U.str)) = h2
  have x2 : Ext h h2 := by rw [← hh2]; exact x1.pushR
  have g2 : h2.get p2 = some (.lst (ds.map U.str)) := by rw [← hh2, ← hp2]; exact get_push_size
  generalize hp3 : h2.size = p3
  have l2 : h.size ≤ p3 := by rw [← hp3]; exact x2.le
  simp [setAll]
  rw [o_lenL (Ext.push.get g2), List.length_map]
  have er : mkR3 [.int (ds.length : Nat), .int (-1), .int (-1)] (h2.push (.lst [])) = .ok (.rngC (ds.length : Nat) (-1) (ds.length + 1)) (h2.push (.lst [])) := by
    unfold mkR3
    have f1 : (fits ((ds.length : Nat) : Int) && fits (-1) && decide ((-1 : Int) = -1)) = true := by
      unfold fits
      simp
      omega
    dsimp only
    rw [if_pos f1]
    congr 2
  rw [er]
  show okS _ _ _
  refine for0 (ds.length + 1) (fun i us h' => (∃ w, us = [some (.str (dirS ds ++ x)), w, some (.loc p2), some (.loc p3), none]) ∧ Ext h2 h' ∧ h'.get p3 = some (.lst ((upT ds (ds.length + 1 - i)).map U.str))) (by omega) ⟨⟨_, rfl⟩, Ext.push, ?_⟩ ?_ ?_
  · rw [← hp3, get_push_size, Nat.sub_zero]
    simp [upT]
  · rintro us h' ⟨⟨w, rfl⟩, he, hg⟩
    refine ⟨by simp [nxt], _, rfl, ?_⟩
    rw [Nat.sub_self] at hg
    exact q _ _ l2 (x2.trans he) hg
  · rintro i us h' hi ⟨⟨w, rfl⟩, he, hg⟩
    refine ⟨.int ((ds.length : Nat) + (i : Nat) * (-1)), h', by simp [nxt, hi], ?_⟩
    obtain ⟨v, hv⟩ : ∃ v, v + i = ds.length := ⟨ds.length - i, by omega⟩
    have ev : ((ds.length : Nat) : Int) + -((i : Nat) : Int) = ((v : Nat) : Int) := by omega
    simp only [ok_gName]
    refine okB_of ?_
    have e1 : ((ds.length : Nat) : Int) + (i : Nat) * (-1) = ((v : Nat) : Int) := by omega
    rw [e1]
    have e2 : ds.length + 1 - i = v + 1 := by omega
    have e3 : ds.length + 1 - (i + 1) = v := by omega
    rw [e2] at hg
    simp [isL_get hg, -Bool.exists_bool]
    rw [o_slL (he.get g2), cutU_take, mkIt_lst get_push_size]
    refine lc_list (A := iS) (F := iS) (fun _ => true) (fun d => d ++ ⟨#[47]⟩) get_push_size (PS (ds.take v)) (by rw [List.length_take]; omega) (fun d u h3 hd' he3 ha => ?_) fun ys h3 he3 hy => ?_
    · have ha : u = .str d := ha
      subst ha
      simp
      have := dirS_take_len ds v
      have l1 : d.length ≤ (sl (dirS (ds.take v))).length := by
        rw [← lens_dir]
        have hm : (d ++ (⟨#[47]⟩ : Str)).length ∈ (((ds.take v).map fun d => d ++ (⟨#[47]⟩ : Str)).map (·.length)) := List.mem_map.mpr ⟨_, List.mem_map.mpr ⟨d, hd', rfl⟩, rfl⟩
        have := le_sum hm
        rw [len_sl, sl_app, List.length_append, ← len_sl] at this
        omega
      rw [szl, show (⟨#[47]⟩ : Str).length = 1 from rfl]
      omega
    rw [filter_true] at hy
    rw [PiS hy, empt, o_join get_push_size, join_dir, lens_dir]
    have := dirS_take_len ds v
    refine ⟨by rw [show (⟨#[]⟩ : Str).length = 0 from rfl]; omega, ?_⟩
    have hx4 : Ext h' (h3.push (.lst (((ds.take v).map fun d => d ++ (⟨#[47]⟩ : Str)).map U.str))) := (Ext.push.trans he3).pushR
    rw [o_append (hx4.get hg)]
    have e4 : ds.length - i = v := by omega
    refine ⟨by simp [upT, szl]; omega, ?_, ?_⟩
    · exact (he.trans hx4).set (by omega)
    · rw [get_set_same (hx4.get hg), e4, upT_step (v := v) (by omega)]
      simp

theorem sok_app {a b : Str} (ha : Sok a) (hb : Sok b) : Sok (a ++ b) := by
  rw [sok_of] at *
  intro c hc
  rw [sl_app] at hc
  rcases List.mem_append.mp hc with h | h
  · exact ha c h
  · exact hb c h
theorem is_settings_ok {ds : List Str} {x : Str} {h : Hh} {P : U → Hh → Prop} (hd : ∀ d ∈ ds, NoS d) (hx : NoS x) (kx : Sok x) (hs : (dirS ds ++ x).length ≤ 1000) (q : ∀ h', Ext h h' → P (.bl (x == Str.ofString "hush")) h') : ok (F_is_settings [.str (dirS ds ++ x)] h) P := by
  unfold F_is_settings B_is_settings
  simp [-Bool.exists_bool]
  rw [slash, split_path hd hx]
  refine ⟨⟨by decide, by rw [szl]; omega⟩, ?_⟩
  rw [o_ixL get_push_size]
  refine ⟨.str x, by rw [List.map_append]; exact atI_last _ _, ?_⟩
  rw [o_eqS kx (by decide +kernel)]
  exact q _ Ext.push
theorem is_folder_text_ok {s : Str} {parts : List Str} {h : Hh} {P : U → Hh → Prop} (ks : Sok s) (hs : s.length ≤ 1000) (hp : Txt.split (s ++ Str.ofString "a") ⟨#[47]⟩ = parts) (hl : ∀ p ∈ parts, p.length ≤ 100000) (hn : parts.length ≤ 100000)
    (q : ∀ h', Ext h h' → P (.bl ((s == ⟨#[]⟩) || (decide ((sl s).getLast? = some 47) && isPt parts))) h') : ok (F_is_folder_text [.str s] h) P := by
  unfold F_is_folder_text B_is_folder_text
  simp [-Bool.exists_bool]
  rw [o_eqS ks sok_emp, empt, slash, ends_iff]
  refine ⟨_, rfl, ?_⟩
  cases e1 : (s == (⟨#[]⟩ : Str)) with
  | true =>
    rw [if_pos rfl]
    have := q h Ext.refl
    rwa [e1] at this
  | false =>
    rw [if_neg (by decide)]
    by_cases h2 : (sl s).getLast? = some 47
    · rw [if_pos (by simpa using h2)]
      have la : (Str.ofString "a").length = 1 := by decide +kernel
      refine ⟨by rw [szl, la]; omega, is_path_ok (by rw [len_sl, sl_app, List.length_append, ← len_sl, ← len_sl, la]; omega) hp hl hn fun h' he => ?_⟩
      have := q h' he
      rwa [e1, decide_eq_true h2] at this
    · rw [if_neg (by simpa using h2)]
      have := q h Ext.refl
      rwa [e1, decide_eq_false h2] at this
end P7
end
section
set_option maxHeartbeats 4000000
namespace P7
open PySem Mx My Wk L2
/-! ### what lies straight in each folder -/
def addIn (m : Tb (List Str)) (fo inner : Str) : Tb (List Str) := tput m fo ((tget m fo).getD [] ++ if inner ∈ (tget m fo).getD [] then [] else [inner])
def inP (m : Tb (List Str)) (path : Str) (ups : List Str) : Tb (List Str) := ((path :: ups).zip ups).foldl (fun m p => addIn m p.2 p.1) m
/-- a dict at pf whose values are lists of its own -/
structure Own (X : List Nat) (h0 h : Hh) (pf : Nat) (m : Tb (List Str)) : Prop where
  ex : ∃ qs : List Nat, h.get pf = some (.dic false (m.zip qs |>.map fun x => (Sum.inr x.1.1, .loc x.2))) ∧ qs.length = m.length ∧ qs.Nodup ∧ (∀ q ∈ qs, (h0.size ≤ q ∧ q ∉ X) ∧ q ≠ pf) ∧ ∀ (i : Nat) k xs q, m[i]? = some (k, xs) → qs[i]? = some q → h.get q = some (.lst (xs.map U.str))
  nd : (m.map (·.1)).Nodup
  fresh : h0.size ≤ pf
theorem tput_same {α : Type} {m : Tb α} {k : Str} {v : α} (nd : (m.map (·.1)).Nodup) (e : tget m k = some v) : tput m k v = m := by
  unfold tput
  rw [thas_get, e]
  show m.map _ = m
  induction m with
  | nil => rfl
  | cons x r ih =>
    rw [List.map_cons, List.nodup_cons] at nd
    rw [List.map_cons]
    by_cases h : x.1 = k
    · have e2 : tget (x :: r) k = some x.2 := by unfold tget; rw [List.find?_cons_of_pos (by simpa using h)]; rfl
      rw [e2] at e
      cases e
      rw [if_pos h]
      congr 1
      refine List.map_congr_left (g := id) (fun y hy => ?_) |>.trans (List.map_id _)
      have : y.1 ≠ k := fun z => nd.1 (by rw [h, ← z]; exact List.mem_map.mpr ⟨y, hy, rfl⟩)
      rw [if_neg this]
      rfl
    · have e2 : tget (x :: r) k = tget r k := by unfold tget; rw [List.find?_cons_of_neg (by simpa using h)]
      rw [e2] at e
      rw [if_neg h, ih nd.2 e]
theorem tput_keys {α : Type} {m : Tb α} {k : Str} {v : α} (nd : (m.map (·.1)).Nodup) : ((tput m k v).map (·.1)).Nodup := by
  unfold tput
  split
  · have : (m.map fun x => if x.1 = k then (x.1, v) else x).map (·.1) = m.map (·.1) := by
      rw [List.map_map]
      refine List.map_congr_left fun x _ => ?_
      show (if x.1 = k then (x.1, v) else x).1 = x.1
      split <;> rfl
    rw [this]
    exact nd
  · rename_i h
    rw [List.map_append, List.nodup_append]
    refine ⟨nd, by simp, fun a ha b hb => ?_⟩
    have hb : b ∈ [k] := hb
    rw [List.mem_singleton.mp hb]
    rintro rfl
    obtain ⟨x, hx, e⟩ := List.mem_map.mp ha
    exact h (List.any_eq_true.mpr ⟨x, hx, decide_eq_true e⟩)

theorem own_kvs {h0 h : Hh} {pf : Nat} {X : List Nat} {m : Tb (List Str)} (o : Own X h0 h pf m) : ∃ kvs, h.get pf = some (.dic false kvs) ∧ kvs.length = m.length ∧ TR (fun u xs => ∃ q, u = .loc q ∧ h.get q = some (.lst (xs.map U.str))) kvs m := by
  obtain ⟨⟨qs, h1, h2, h3, h4, h5⟩, n1, n2⟩ := o
  refine ⟨_, h1, by simp [h2], ?_⟩
  clear h1 h3 h4 n1 n2
  induction m generalizing qs with
  | nil => cases qs <;> exact .nil
  | cons x r ih =>
    cases qs with
    | nil => cases h2
    | cons q qs =>
      refine .cons ⟨rfl, q, rfl, h5 0 x.1 x.2 q rfl rfl⟩ (ih qs (by simpa using h2) fun i k xs q e1 e2 => h5 (i + 1) k xs q (by simpa using e1) (by simpa using e2))
abbrev zk (m : Tb (List Str)) (qs : List Nat) : List (Key × U) := (m.zip qs).map fun x => (Sum.inr x.1.1, .loc x.2)
theorem zk_get {k : Str} : ∀ {m : Tb (List Str)} {qs : List Nat} {xs : List Str}, qs.length = m.length → tget m k = some xs → ∃ (i : Nat) (q : Nat), m[i]? = some (k, xs) ∧ qs[i]? = some q ∧ getK (zk m qs) (.inr k) = some (.loc q)
  | [], _, _, _, e => by cases e
  | x :: r, [], _, l, _ => by cases l
  | x :: r, q :: qs, xs, l, e => by
    by_cases h : x.1 = k
    · have e2 : tget (x :: r) k = some x.2 := by unfold tget; rw [List.find?_cons_of_pos (by simpa using h)]; rfl
      rw [e2] at e
      cases e
      refine ⟨0, q, by rw [← h]; rfl, rfl, ?_⟩
      show getK ((Sum.inr x.1, .loc q) :: zk r qs) _ = _
      unfold getK
      rw [List.find?_cons_of_pos (by simp [h])]
      rfl
    · have e2 : tget (x :: r) k = tget r k := by unfold tget; rw [List.find?_cons_of_neg (by simpa using h)]
      rw [e2] at e
      obtain ⟨i, q', h1, h2, h3⟩ := zk_get (qs := qs) (by simpa using l) e
      refine ⟨i + 1, q', by simpa using h1, by simpa using h2, ?_⟩
      show getK ((Sum.inr x.1, .loc q) :: zk r qs) _ = _
      unfold getK at h3 ⊢
      rw [List.find?_cons_of_neg (by simp [h])]
      exact h3
theorem zk_map {f : Str × List Str → Str × List Str} (hf : ∀ x, (f x).1 = x.1) : ∀ {m : Tb (List Str)} {qs : List Nat}, zk (m.map f) qs = zk m qs
  | [], _ => rfl
  | x :: r, [] => rfl
  | x :: r, q :: qs => by
    show (Sum.inr (f x).1, U.loc q) :: zk (r.map f) qs = (Sum.inr x.1, U.loc q) :: zk r qs
    rw [hf, zk_map hf]
theorem own_set {h0 h : Hh} {pf : Nat} {X : List Nat} {m : Tb (List Str)} {k : Str} {xs : List Str} (o : Own X h0 h pf m) (e : tget m k = some xs) : ∃ kvs q, h.get pf = some (.dic false kvs) ∧ kvs.length = m.length ∧ getK kvs (.inr k) = some (.loc q) ∧ h.get q = some (.lst (xs.map U.str)) ∧ (h0.size ≤ q ∧ q ∉ X) ∧ q ≠ pf ∧ ∀ ys : List Str, Own X h0 (h.set q (.lst (ys.map U.str))) pf (tput m k ys) := by
  obtain ⟨⟨qs, h1, h2, h3, h4, h5⟩, n1, n2⟩ := o
  obtain ⟨i, q, e1, e2, e3⟩ := zk_get h2 e
  have hq := h4 q (List.mem_of_getElem? e2)
  have hgq := h5 i k xs q e1 e2
  refine ⟨zk m qs, q, h1, by simp [h2], e3, hgq, hq.1, hq.2, fun ys => ?_⟩
  have et : tput m k ys = m.map (fun x => if x.1 = k then (x.1, ys) else x) := by
    unfold tput
    rw [thas_get, e]
    rfl
  refine ⟨⟨qs, ?_, by rw [et, List.length_map]; exact h2, h3, h4, fun j k' zs q' e4 e5 => ?_⟩, tput_keys n1, n2⟩
  · rw [Hh.get_set_ne (Ne.symm hq.2)]
    show _ = some (Ob.dic false (zk (tput m k ys) qs))
    rw [et, zk_map (f := fun x => if x.1 = k then (x.1, ys) else x) (fun x => by split <;> rfl)]
    exact h1
  · rw [et, List.getElem?_map] at e4
    obtain ⟨x, ex, e4⟩ := map_some' e4
    by_cases hx : x.1 = k
    · rw [if_pos hx] at e4
      cases e4
      have ij : i = j := by
        have a1 : (m.map (·.1))[i]? = some k := by rw [List.getElem?_map, e1]; rfl
        have a2 : (m.map (·.1))[j]? = some k := by rw [List.getElem?_map, ex, ← hx]; rfl
        obtain ⟨l1, b1⟩ := List.getElem?_eq_some_iff.mp a1
        obtain ⟨l2, b2⟩ := List.getElem?_eq_some_iff.mp a2
        exact (List.getElem_inj n1).mp (b1.trans b2.symm)
      subst ij
      rw [e2] at e5
      cases e5
      exact get_set_same hgq
    · rw [if_neg hx] at e4
      subst e4
      have nq : q' ≠ q := fun z => by
        subst z
        obtain ⟨l1, b1⟩ := List.getElem?_eq_some_iff.mp e2
        obtain ⟨l2, b2⟩ := List.getElem?_eq_some_iff.mp e5
        have : i = j := (List.getElem_inj h3).mp (b1.trans b2.symm)
        subst this
        rw [e1] at ex
        cases ex
        exact hx rfl
      rw [Hh.get_set_ne nq]
      exact h5 j k' zs q' ex e5
theorem Own.ext {h0 h h' : Hh} {pf : Nat} {X : List Nat} {m : Tb (List Str)} (o : Own X h0 h pf m) (x : Ext h h') : Own X h0 h' pf m := by
  obtain ⟨⟨qs, h1, h2, h3, h4, h5⟩, n1, n2⟩ := o
  exact ⟨⟨qs, x.get h1, h2, h3, h4, fun i k xs q e1 e2 => x.get (h5 i k xs q e1 e2)⟩, n1, n2⟩
theorem zk_snoc {k : Str} {xs : List Str} {q : Nat} : ∀ {m : Tb (List Str)} {qs : List Nat}, qs.length = m.length → zk (m ++ [(k, xs)]) (qs ++ [q]) = zk m qs ++ [(Sum.inr k, .loc q)]
  | [], [], _ => rfl
  | [], _ :: _, l => by cases l
  | _ :: _, [], l => by cases l
  | x :: r, q' :: qs, l => by
    show (Sum.inr x.1, U.loc q') :: zk (r ++ [(k, xs)]) (qs ++ [q]) = (Sum.inr x.1, U.loc q') :: (zk r qs ++ _)
    rw [zk_snoc (by simpa using l)]
theorem own_new {h0 h : Hh} {pf : Nat} {X : List Nat} {m : Tb (List Str)} {k : Str} (o : Own X h0 h pf m) (hX : ∀ n ∈ X, n < h.size) (x0 : Ext h0 h) (e : tget m k = none) : ∃ kvs, h.get pf = some (.dic false kvs) ∧ kvs.length = m.length ∧ getK kvs (.inr k) = none ∧
    Own X h0 ((h.push (.lst [])).set pf (.dic false (putU kvs (.inr k) (.loc h.size)))) pf (tput m k []) := by
  obtain ⟨kvs0, a1, a2, a3⟩ := own_kvs o
  have a4 := (tr_get (k := k) a3).1 e
  obtain ⟨⟨qs, h1, h2, h3, h4, h5⟩, n1, n2⟩ := o
  rw [h1] at a1
  cases a1
  have ht : thas m k = false := by rw [thas_get, e]; rfl
  have hk : hasK (zk m qs) (.inr k) = false := by rw [tr_has a3, ht]
  have hp : putU (zk m qs) (.inr k) (.loc h.size) = zk (m ++ [(k, [])]) (qs ++ [h.size]) := by
    rw [zk_snoc h2]
    unfold putU
    rw [hk]
    rfl
  have et : tput m k [] = m ++ [(k, [])] := by
    unfold tput
    rw [ht]
    rfl
  have lt : ∀ q ∈ qs, q < h.size := fun q hq => by
    obtain ⟨i, hi⟩ := List.mem_iff_getElem?.mp hq
    have l1 : i < m.length := by rw [← h2]; exact (List.getElem?_eq_some_iff.mp hi).1
    exact Hh.get_lt (h5 i m[i].1 m[i].2 q (by simp [l1]) hi)
  have lp : pf < h.size := Hh.get_lt h1
  refine ⟨zk m qs, h1, a2, a4, ?_⟩
  have hp' : putU (zk m qs) (.inr k) (.loc h.size) = zk (m ++ [(k, [])]) (qs ++ [h.size]) := hp
  rw [hp', et]
  refine ⟨⟨qs ++ [h.size], get_set_same (Hh.get_push_old h1), by simp [h2], ?_, fun q hq => ?_, fun i k' xs q e1 e2 => ?_⟩, ?_, n2⟩
  · rw [List.nodup_append]
    refine ⟨h3, by simp, fun a ha b hb => ?_⟩
    rw [List.mem_singleton.mp hb]
    exact Nat.ne_of_lt (lt a ha)
  · rcases List.mem_append.mp hq with hq | hq
    · exact h4 q hq
    · rw [List.mem_singleton.mp hq]
      exact ⟨⟨x0.le, fun z => Nat.lt_irrefl _ (hX _ z)⟩, Nat.ne_of_gt lp⟩
  · by_cases hi : i < m.length
    · rw [List.getElem?_append_left hi] at e1
      rw [List.getElem?_append_left (by rw [h2]; exact hi)] at e2
      have hq := List.mem_of_getElem? e2
      rw [Hh.get_set_ne (h4 q hq).2, Hh.get_push_lt (lt q hq)]
      exact h5 i k' xs q e1 e2
    · rw [List.getElem?_append_right (by omega)] at e1
      rw [List.getElem?_append_right (by omega), h2] at e2
      cases hj : i - m.length with
      | zero =>
        rw [hj] at e1 e2
        cases e1
        cases e2
        rw [Hh.get_set_ne (Nat.ne_of_gt lp)]
        exact get_push_size
      | succ j => rw [hj] at e1; cases e1
  · rw [← et]
    exact tput_keys n1
/-- one more place kept apart -/
theorem Own.more {X : List Nat} {h0 h : Hh} {pf r : Nat} {m : Tb (List Str)} (o : Own X h0 h pf m) (hr : h.size ≤ r) : Own (r :: X) h0 h pf m := by
  obtain ⟨⟨qs, h1, h2, h3, h4, h5⟩, n1, n2⟩ := o
  refine ⟨⟨qs, h1, h2, h3, fun q hq => ?_, h5⟩, n1, n2⟩
  obtain ⟨⟨a, b⟩, c⟩ := h4 q hq
  obtain ⟨i, hi⟩ := List.mem_iff_getElem?.mp hq
  have l1 : i < m.length := by rw [← h2]; exact (List.getElem?_eq_some_iff.mp hi).1
  have lq := Hh.get_lt (h5 i m[i].1 m[i].2 q (by simp [l1]) hi)
  refine ⟨⟨a, fun z => ?_⟩, c⟩
  rcases List.mem_cons.mp z with z | z
  · omega
  · exact b z
theorem Own.less {X : List Nat} {h0 h : Hh} {pf : Nat} {m : Tb (List Str)} (o : Own X h0 h pf m) : Own [] h0 h pf m := by
  obtain ⟨⟨qs, h1, h2, h3, h4, h5⟩, n1, n2⟩ := o
  exact ⟨⟨qs, h1, h2, h3, fun q hq => ⟨⟨(h4 q hq).1.1, by simp⟩, (h4 q hq).2⟩, h5⟩, n1, n2⟩
theorem own_nil {h : Hh} : Own [] h (h.push (.dic false [])) h.size [] := ⟨⟨[], get_push_size, rfl, List.nodup_nil, fun q hq => absurd hq (by simp), fun i k xs q e => by simp at e⟩, List.nodup_nil, Nat.le_refl _⟩
end P7
end
section
set_option maxHeartbeats 4000000
namespace P7
open PySem Mx My Wk L2
/-- the inner row of straight_in: some = found.setdefault(folder, []); if inner not in some: some.append(inner) -/
theorem own_add {X : List Nat} {h0 h : Hh} {pf : Nat} {m : Tb (List Str)} {k inner : Str} (o : Own X h0 h pf m) (hX : ∀ n ∈ X, n < h.size ∧ n ≠ pf) (x0 : Ext h0 h) (l : m.length < 1000) (lx : ∀ xs, tget m k = some xs → xs.length < 1000) :
    okO (mSetd (.loc pf) (.str k) (.loc h.size) (h.push (.lst []))) fun v h1 => ∃ q zs, v = .loc q ∧ h1.get q = some (.lst (zs.map U.str)) ∧ zs = (tget m k).getD [] ∧ (∀ n o, n ∈ X → h.get n = some o → h1.get n = some o) ∧ Ext h0 h1 ∧ Own X h0 h1 pf (tput m k zs) ∧
      (∀ n o, n ∈ X → h.get n = some o → (h1.set q (.lst ((zs ++ [inner]).map U.str))).get n = some o) ∧ Ext h0 (h1.set q (.lst ((zs ++ [inner]).map U.str))) ∧ Own X h0 (h1.set q (.lst ((zs ++ [inner]).map U.str))) pf (tput m k (zs ++ [inner])) := by
  cases e : tget m k with
  | some xs =>
    obtain ⟨kvs, q, a1, a2, a3, a4, a5, a6, a7⟩ := own_set o e
    have xp : Ext h (h.push (.lst [])) := Ext.push
    rw [o_setd (xp.get a1) (by rw [a2, szl]; omega), a3]
    have es : tput m k xs = m := tput_same o.nd e
    have o2 : Own X h0 (h.push (.lst [])) pf m := o.ext xp
    obtain ⟨kvs', q', b1, b2, b3, b4, b5, b6, b7⟩ := own_set o2 e
    rw [xp.get a1] at b1
    cases b1
    rw [a3] at b3
    cases b3
    refine ⟨q, xs, rfl, xp.get a4, rfl, fun n o _ g => xp.get g, x0.pushR, by rw [es]; exact o2, fun n o hn g => ?_, x0.pushR.set a5.1, b7 _⟩
    rw [Hh.get_set_ne (fun z => a5.2 (by rw [← z]; exact hn))]
    exact xp.get g
  | none =>
    obtain ⟨kvs, a1, a2, a3, a4⟩ := own_new o (fun n hn => (hX n hn).1) x0 e
    have xp : Ext h (h.push (.lst [])) := Ext.push
    rw [o_setd (xp.get a1) (by rw [a2, szl]; omega), a3]
    have lp : pf < h.size := Hh.get_lt a1
    have g0 : ((h.push (.lst [])).set pf (.dic false (putU kvs (.inr k) (.loc h.size)))).get h.size = some (.lst (([] : List Str).map U.str)) := by
      rw [Hh.get_set_ne (Nat.ne_of_gt lp)]
      exact get_push_size
    have et : tget (tput m k []) k = some [] := by
      have ht : thas m k = false := by rw [thas_get, e]; rfl
      have : tput m k [] = m ++ [(k, ([] : List Str))] := by unfold tput; rw [ht]; rfl
      rw [this]
      unfold tget at e ⊢
      rw [List.find?_append]
      cases hf : m.find? (fun x => decide (x.1 = k)) with
      | none => simp
      | some x => rw [hf] at e; cases e
    obtain ⟨kvs', q', b1, b2, b3, b4, b5, b6, b7⟩ := own_set a4 et
    rw [get_set_same (xp.get a1)] at b1
    cases b1
    have hk : hasK kvs (.inr k) = false := by rw [has_get, a3]; rfl
    have eg : getK (putU kvs (.inr k) (.loc h.size)) (.inr k) = some (.loc h.size) := by
      unfold putU
      rw [hk]
      show getK (kvs ++ [(Sum.inr k, U.loc h.size)]) (.inr k) = _
      unfold getK at a3 ⊢
      rw [List.find?_append]
      cases hf : kvs.find? (fun kv => decide (kv.1 = Sum.inr k)) with
      | none => simp
      | some x => rw [hf] at a3; cases a3
    rw [eg] at b3
    cases b3
    have keep : ∀ n o, n ∈ X → h.get n = some o → ((h.push (.lst [])).set pf (.dic false (putU kvs (.inr k) (.loc h.size)))).get n = some o := fun n o hn g => by
      rw [Hh.get_set_ne (hX n hn).2]
      exact xp.get g
    have x1 : Ext h0 ((h.push (.lst [])).set pf (.dic false (putU kvs (.inr k) (.loc h.size)))) := x0.pushR.set o.fresh
    refine ⟨h.size, [], rfl, g0, rfl, keep, x1, a4, fun n o hn g => ?_, x1.set x0.le, ?_⟩
    · rw [Hh.get_set_ne (Nat.ne_of_lt (hX n hn).1)]
      exact keep n o hn g
    · have := b7 [inner]
      have e2 : tput (tput m k []) k [inner] = tput m k [inner] := by
        have ht : thas m k = false := by rw [thas_get, e]; rfl
        have h1 : tput m k [] = m ++ [(k, ([] : List Str))] := by unfold tput; rw [ht]; rfl
        have h2 : tput m k [inner] = m ++ [(k, [inner])] := by unfold tput; rw [ht]; rfl
        rw [h2]
        unfold tput
        rw [thas_get, show (if thas m k = true then m.map (fun x => if x.1 = k then (x.1, ([] : List Str)) else x) else m ++ [(k, [])]) = m ++ [(k, [])] by rw [ht]; rfl, ← h1, et]
        rw [h1]
        show (m ++ [(k, ([] : List Str))]).map _ = _
        rw [List.map_append]
        congr 1
        · refine List.map_congr_left (g := id) (fun y hy => ?_) |>.trans (List.map_id _)
          have : y.1 ≠ k := fun z => by
            have : thas m k = true := List.any_eq_true.mpr ⟨y, hy, decide_eq_true z⟩
            rw [ht] at this
            cases this
          rw [if_neg this]
          rfl
        · simp
      rw [e2] at this
      exact this
end P7
end
section
set_option maxHeartbeats 4000000
namespace P7
open PySem Mx My Wk L2
/-! ### names and paths -/
theorem nm_len {s : Str} (h : isNm s = true) : 1 ≤ s.length ∧ s.length ≤ 12 := by
  unfold isNm at h
  simp at h
  exact h.1
theorem nm_let {s : Str} (h : isNm s = true) {c : Nat} (hc : c ∈ sl s) : 97 ≤ c ∧ c ≤ 122 := by
  unfold isNm at h
  simp only [Bool.and_eq_true, List.all_eq_true] at h
  have := h.2.2 c hc
  unfold isLet at this
  simpa using this
theorem nm_nos {s : Str} (h : isNm s = true) : NoS s := fun hc => by
  have := nm_let h hc
  omega
theorem nm_sok {s : Str} (h : isNm s = true) : Sok s := by
  rw [sok_of]
  intro c hc
  have := nm_let h hc
  omega
/-- the text of a path: folders ds, name x -/
structure GP (s : Str) (ds : List Str) (x : Str) : Prop where
  eq : s = dirS ds ++ x
  nm : ∀ d ∈ ds, isNm d = true
  nx : isNm x = true
  len : ds.length ≤ 4
theorem dirS_len {ds : List Str} (h : ∀ d ∈ ds, isNm d = true) : (sl (dirS ds)).length ≤ 13 * ds.length := by
  induction ds with
  | nil => simp [dirS]
  | cons n r ih =>
    have e : sl (dirS (n :: r)) = sl n ++ [47] ++ sl (dirS r) := by
      show sl (n ++ ⟨#[47]⟩ ++ dirS r) = _
      rw [sl_app, sl_app]
      rfl
    have h1 := ih fun d hd => h d (by simp [hd])
    have h2 := (nm_len (h n (by simp))).2
    rw [len_sl] at h2
    rw [e]
    simp
    omega
section
variable {s x : Str} {ds : List Str}
theorem GP.split (g : GP s ds x) : Txt.split s ⟨#[47]⟩ = ds ++ [x] := by
  rw [g.eq]
  exact split_path (fun d hd => nm_nos (g.nm d hd)) (nm_nos g.nx)
theorem GP.dlen (g : GP s ds x) : (sl (dirS ds)).length ≤ 52 := by
  have := dirS_len g.nm
  have := g.len
  omega
theorem GP.slen (g : GP s ds x) : s.length ≤ 64 := by
  have h1 := g.dlen
  have h2 := (nm_len g.nx).2
  rw [g.eq, len_sl, sl_app, List.length_append, ← len_sl x]
  omega
theorem GP.sok (g : GP s ds x) : Sok s := by
  rw [g.eq]
  exact sok_app (dirS_sok fun d hd => nm_sok (g.nm d hd)) (nm_sok g.nx)
theorem GP.nosok (g : GP s ds x) : ∀ d ∈ ds, NoS d ∧ Sok d := fun d hd => ⟨nm_nos (g.nm d hd), nm_sok (g.nm d hd)⟩
end
/-- the folders above a path -/
def dsOf (s : Str) : List Str := (Txt.split s ⟨#[47]⟩).dropLast
def ups (s : Str) : List Str := upT (dsOf s) 0
theorem GP.dsOf {s x : Str} {ds : List Str} (g : GP s ds x) : dsOf s = ds := by
  unfold P7.dsOf
  rw [g.split, List.dropLast_concat]
theorem upT_len {ds : List Str} : (upT ds 0).length = ds.length + 1 := by unfold upT; simp
theorem GP.ups_len {s x : Str} {ds : List Str} (g : GP s ds x) : (ups s).length ≤ 5 := by
  unfold ups
  rw [g.dsOf, upT_len]
  have := g.len
  omega
def insT (paths : List Str) : Tb (List Str) := paths.foldl (fun m p => inP m p (ups p)) []
/-! ### dicts of lists: how large -/
theorem tput_len {α : Type} (m : Tb α) (k : Str) (v : α) : (tput m k v).length ≤ m.length + 1 := by
  unfold tput
  split <;> simp
theorem tget_tput {α : Type} (m : Tb α) (k k' : Str) (v : α) : tget (tput m k v) k' = if k = k' then some v else tget m k' := by
  unfold tput
  by_cases h : thas m k = true
  · rw [if_pos h]
    induction m with
    | nil => cases h
    | cons x r ih =>
      have step : ∀ (y : Str × α) (l : Tb α), tget (y :: l) k' = if y.1 = k' then some y.2 else tget l k' := fun y l => by
        unfold tget
        by_cases e : y.1 = k'
        · rw [List.find?_cons_of_pos (by simpa using e), if_pos e]; rfl
        · rw [List.find?_cons_of_neg (by simpa using e), if_neg e]
      rw [List.map_cons, step, step]
      by_cases e : x.1 = k
      · rw [if_pos e]
        dsimp only
        by_cases e2 : k = k'
        · rw [if_pos (by rw [e, e2]), if_pos e2]
        · rw [if_neg (by rw [e]; exact e2), if_neg e2, if_neg (by rw [e]; exact e2)]
          clear ih step h
          induction r with
          | nil => rfl
          | cons z r ih =>
            have step : ∀ (y : Str × α) (l : Tb α), tget (y :: l) k' = if y.1 = k' then some y.2 else tget l k' := fun y l => by
              unfold tget
              by_cases e : y.1 = k'
              · rw [List.find?_cons_of_pos (by simpa using e), if_pos e]; rfl
              · rw [List.find?_cons_of_neg (by simpa using e), if_neg e]
            rw [List.map_cons, step, step, ih]
            by_cases e3 : z.1 = k
            · rw [if_pos e3]
              dsimp only
              rw [if_neg (by rw [e3]; exact e2), if_neg (by rw [e3]; exact e2)]
            · rw [if_neg e3]
      · rw [if_neg e]
        have h' : thas r k = true := by
          unfold thas at h ⊢
          rw [List.any_cons, decide_eq_false e, Bool.false_or] at h
          exact h
        rw [ih h']
        by_cases e2 : k = k'
        · rw [if_pos e2, if_neg (by rw [← e2]; exact e), if_pos e2]
        · rw [if_neg e2, if_neg e2]
  · rw [if_neg h]
    have h0 : thas m k = false := by simpa using h
    have hn : tget m k = none := by
      rw [thas_get] at h0
      simpa using h0
    unfold tget at hn ⊢
    rw [List.find?_append]
    cases hf : m.find? (fun x => decide (x.1 = k')) with
    | some y =>
      by_cases e : k = k'
      · rw [← e] at hf
        rw [hf] at hn
        cases hn
      · rw [if_neg e]
        rfl
    | none =>
      by_cases e : k = k'
      · rw [if_pos e]
        simp [e]
      · rw [if_neg e]
        simp [e]
def bnd (m : Tb (List Str)) (n : Nat) : Prop := m.length ≤ n ∧ ∀ k xs, tget m k = some xs → xs.length ≤ n
theorem bnd_add {m : Tb (List Str)} {n : Nat} {fo inner : Str} (b : bnd m n) : bnd (addIn m fo inner) (n + 1) := by
  unfold addIn
  refine ⟨Nat.le_trans (tput_len _ _ _) (Nat.succ_le_succ b.1), fun k xs e => ?_⟩
  rw [tget_tput] at e
  split at e
  · cases e
    cases h : tget m fo with
    | none => simp
    | some zs =>
      have := b.2 fo zs h
      rw [Option.getD_some, List.length_append]
      split <;> simp <;> omega
  · have := b.2 k xs e
    omega
theorem bnd_mono {m : Tb (List Str)} {n n' : Nat} (b : bnd m n) (l : n ≤ n') : bnd m n' := ⟨Nat.le_trans b.1 l, fun k xs e => Nat.le_trans (b.2 k xs e) l⟩
theorem bnd_fold {l : List (Str × Str)} : ∀ {m : Tb (List Str)} {n : Nat}, bnd m n → bnd (l.foldl (fun m p => addIn m p.2 p.1) m) (n + l.length) := by
  induction l with
  | nil => exact fun b => b
  | cons p r ih =>
    intro m n b
    rw [List.foldl_cons, List.length_cons]
    exact bnd_mono (ih (bnd_add b)) (by omega)
theorem bnd_ins {paths : List Str} (g : ∀ s ∈ paths, ∃ ds x, GP s ds x) : bnd (insT paths) (5 * paths.length) := by
  unfold insT
  have key : ∀ (l : List Str) (m : Tb (List Str)) (n : Nat), (∀ s ∈ l, ∃ ds x, GP s ds x) → bnd m n → bnd (l.foldl (fun m p => inP m p (ups p)) m) (n + 5 * l.length) := by
    intro l
    induction l with
    | nil => exact fun m n _ b => b
    | cons p r ih =>
      intro m n g b
      obtain ⟨ds, x, gp⟩ := g p (by simp)
      have h1 := gp.ups_len
      rw [List.foldl_cons]
      refine bnd_mono (ih _ (n + ((p :: ups p).zip (ups p)).length) (fun s hs => g s (by simp [hs])) (bnd_fold b)) ?_
      rw [List.length_zip, List.length_cons, List.length_cons]
      omega
  have := key paths [] 0 g ⟨Nat.le_refl _, fun k xs e => by cases e⟩
  simpa using this
end P7
end
section
set_option maxHeartbeats 4000000
namespace P7
open PySem Mx My Wk L2
abbrev GPs (paths : List Str) : Prop := ∀ s ∈ paths, ∃ ds x, GP s ds x
theorem own_iD {X : List Nat} {h0 h : Hh} {pf : Nat} {m : Tb (List Str)} (o : Own X h0 h pf m) : iD (iL iS) h (.loc pf) m := by
  obtain ⟨kvs, h1, h2, h3⟩ := own_kvs o
  exact ⟨pf, kvs, rfl, h1, Pm h3 fun a b ⟨e, q, e1, e2⟩ => ⟨e, q, _, e1, e2, PS _⟩⟩
theorem insT_take {paths : List Str} {i : Nat} {s : Str} (e : paths[i]? = some s) : insT (paths.take (i + 1)) = inP (insT (paths.take i)) s (ups s) := by
  unfold insT
  rw [List.take_add_one, e, List.foldl_append]
  rfl
theorem fold_take {α β : Type} {l : List α} {f : β → α → β} {m : β} {i : Nat} {a : α} (e : l[i]? = some a) : (l.take (i + 1)).foldl f m = f ((l.take i).foldl f m) a := by
  rw [List.take_add_one, e, List.foldl_append]
  rfl
theorem zip_at {path : Str} {us : List Str} {j : Nat} {fo : Str} (e : us[j]? = some fo) : ∃ inner, (path :: us)[j]? = some inner ∧ ((path :: us).zip us)[j]? = some (inner, fo) ∧ (path :: us)[j + 1]? = some fo := by
  have l := (List.getElem?_eq_some_iff.mp e).1
  refine ⟨(path :: us)[j]'(by simp; omega), by simp, ?_, by simpa using e⟩
  rw [List.getElem?_zip_eq_some]
  exact ⟨by simp, e⟩
theorem straight_in_ok {h0 : Hh} {u : U} {paths : List Str} {P : U → Hh → Prop} (r : iL iS h0 u paths) (g : GPs paths) (l : paths.length ≤ 40) (q : ∀ p h', h0.size ≤ p → Ext h0 h' → iD (iL iS) h' (.loc p) (insT paths) → ((insT paths).map (·.1)).Nodup → P (.loc p) h') : ok (F_straight_in [u] h0) P := by
  unfold F_straight_in B_straight_in
  simp [-Bool.exists_bool]
  obtain ⟨pp, us0, rfl, hp, rp⟩ := r
  rw [mkIt_lst (Hh.get_push_old hp)]
  refine for_list (fun i us h' => (∃ w2 w3 w4 w5, us = [some (.loc pp), some (.loc h0.size), w2, w3, w4, w5]) ∧ Ext h0 h' ∧ Own [] h0 h' h0.size (insT (paths.take i))) rp (by omega) ⟨⟨_, _, _, _, rfl⟩, Ext.push, own_nil⟩ (fun i us h' j => j.2.1.get hp) ?_ ?_
  · rintro us h' ⟨⟨w2, w3, w4, w5, rfl⟩, x, o⟩
    rw [List.take_length] at o
    exact ⟨_, rfl, q _ h' (Nat.le_refl _) x (own_iD o) o.nd⟩
  · rintro i s w us h' es rfl ⟨⟨w2, w3, w4, w5, rfl⟩, x, o⟩
    obtain ⟨ds, n, gp⟩ := g s (List.mem_of_getElem? es)
    have hil : i < paths.length := (List.getElem?_eq_some_iff.mp es).1
    have b0 : bnd (insT (paths.take i)) (5 * (paths.take i).length) := bnd_ins fun s hs => g s (List.mem_of_mem_take hs)
    have l0 : (paths.take i).length ≤ 40 := by rw [List.length_take]; omega
    simp only [ok_gName]
    refine okB_of ?_
    simp [-Bool.exists_bool]
    refine folder_of_ok (by have := gp.slen; omega) ?_
    rw [gp.eq, folder_of_path (nm_nos gp.nx), ← gp.eq]
    refine folders_up_ok gp.nosok (by have := gp.dlen; omega) (by have := gp.len; omega) fun h1 rr lr x1 hr => ?_
    rw [mkIt_lst hr]
    have eu : upT ds 0 = ups s := by unfold ups; rw [gp.dsOf]
    rw [eu] at hr
    have lu := gp.ups_len
    rw [insT_take es]
    refine for_list (fun j us h2 => (∃ inner w4 w5, us = [some (.loc pp), some (.loc h0.size), some (.str s), some (.str inner), w4, w5] ∧ (s :: ups s)[j]? = some inner) ∧ Ext h0 h2 ∧ h2.get rr = some (.lst ((ups s).map U.str)) ∧ rr < h2.size ∧ Own [rr] h0 h2 h0.size ((((s :: ups s).zip (ups s)).take j).foldl (fun m p => addIn m p.2 p.1) (insT (paths.take i)))) (PS (h := h1) (ups s)) (by omega) ⟨⟨_, _, _, rfl, rfl⟩, x.trans x1, hr, Hh.get_lt hr, ((o.more lr).ext x1)⟩ (fun j us h2 k => k.2.2.1) ?_ ?_
    · rintro us h2 ⟨⟨inner, w4, w5, rfl, _⟩, x2, hr2, _, o2⟩
      refine ⟨⟨_, _, _, _, rfl⟩, x2, ?_⟩
      have e : ((s :: ups s).zip (ups s)).take (ups s).length = (s :: ups s).zip (ups s) := List.take_of_length_le (by rw [List.length_zip]; simp)
      rw [e] at o2
      exact o2.less
    · rintro j fo w us h2 ef rfl ⟨⟨inner, w4, w5, rfl, ei⟩, x2, hr2, lr2, o2⟩
      obtain ⟨inner', e1, e2, e3⟩ := zip_at (path := s) ef
      rw [ei] at e1
      cases e1
      simp only [ok_gName]
      refine okB_of ?_
      have hjl : j < (ups s).length := (List.getElem?_eq_some_iff.mp ef).1
      generalize hm : (((s :: ups s).zip (ups s)).take j).foldl (fun m p => addIn m p.2 p.1) (insT (paths.take i)) = m at o2
      have bm : bnd m 240 := by
        rw [← hm]
        refine bnd_mono (bnd_fold b0) ?_
        have : (List.take j ((s :: ups s).zip (ups s))).length ≤ j := by rw [List.length_take]; omega
        omega
      obtain ⟨kvs, hk, _, _⟩ := own_kvs o2
      simp [-Bool.exists_bool, isDc_get hk]
      have hpf : rr ≠ h0.size := fun z => by
        rw [z, hk] at hr2
        cases hr2
      refine okO_mono (own_add (inner := inner) (k := fo) o2 (fun n hn => by rw [List.mem_singleton.mp hn]; exact ⟨lr2, hpf⟩) x2 (by have := bm.1; omega) (fun xs e => by have := bm.2 fo xs e; omega)) ?_
      rintro v h3 ⟨qq, zs, rfl, gz, ez, k1, x3, o3, k2, x4, o4⟩
      refine ⟨_, in_lst gz, !(decide (inner ∈ zs)), by simp, ?_⟩
      rw [fold_take e2, hm]
      by_cases hin : inner ∈ zs
      · rw [decide_eq_true hin]
        simp only [Bool.not_true, Bool.false_eq_true, if_false]
        refine ⟨ef, x3, k1 _ _ (by simp) hr2, Hh.get_lt (k1 _ _ (by simp) hr2), ?_⟩
        have ea : addIn m fo inner = tput m fo zs := by unfold addIn; rw [← ez, if_pos hin, List.append_nil]
        rw [ea]
        exact o3
      · rw [decide_eq_false hin]
        simp only [Bool.not_false, if_true]
        refine ⟨isL_get gz, ?_⟩
        rw [o_append gz]
        have ez2 : List.map U.str zs ++ [U.str inner] = (zs ++ [inner]).map U.str := by simp
        rw [ez2]
        have lz : zs.length < 1000 := by
          rw [ez]
          cases h : tget m fo with
          | none => simp
          | some ys => have := bm.2 fo ys h; simp; omega
        refine ⟨by rw [List.length_map, szl]; omega, ef, x4, k2 _ _ (by simp) hr2, Hh.get_lt (k2 _ _ (by simp) hr2), ?_⟩
        have ea : addIn m fo inner = tput m fo (zs ++ [inner]) := by unfold addIn; rw [← ez, if_neg hin]
        rw [ea]
        exact o4
end P7
end
section
set_option maxHeartbeats 4000000
namespace P7
open PySem Mx My Wk L2
theorem ups_fold {s : Str} {ds : List Str} {x : Str} (gp : GP s ds x) {h : Hh} {P : U → Hh → Prop} (q : ∀ h' p, h.size ≤ p → Ext h h' → h'.get p = some (.lst ((ups s).map U.str)) → P (.loc p) h') : ok (F__law_folders [.str s] h) P := by
  have eu : upT ds 0 = ups s := by unfold ups; rw [gp.dsOf]
  rw [gp.eq]
  refine lfolders_ok gp.nosok (nm_nos gp.nx) (by have := gp.dlen; omega) (by have := (nm_len gp.nx).2; omega) (by have := gp.len; omega) fun h' p l x hp => ?_
  rw [eu] at hp
  exact q h' p l x hp
theorem law_inside_ok {h0 : Hh} {u : U} {paths : List Str} {P : U → Hh → Prop} (r : iL iS h0 u paths) (g : GPs paths) (l : paths.length ≤ 40) (q : ∀ w h', Ext h0 h' → iD (iL iS) h' w (insT paths) → P w h') : ok (F__law_inside [u] h0) P := by
  unfold F__law_inside B__law_inside
  simp [-Bool.exists_bool]
  obtain ⟨pp, us0, rfl, hp, rp⟩ := r
  rw [mkIt_lst (Hh.get_push_old hp)]
  refine for_list (fun i us h' => (∃ w2 w3 w4 w5, us = [some (.loc pp), some (.loc h0.size), w2, w3, w4, w5]) ∧ Ext h0 h' ∧ atD (iL iS) h' h0.size (insT (paths.take i))) rp (by omega) ⟨⟨_, _, _, _, rfl⟩, Ext.push, atD_nil⟩ (fun i us h' j => j.2.1.get hp) ?_ ?_
  · rintro us h' ⟨⟨w2, w3, w4, w5, rfl⟩, x, o⟩
    rw [List.take_length] at o
    exact ⟨_, rfl, q _ h' x o.iD⟩
  · rintro i s w us h' es rfl ⟨⟨w2, w3, w4, w5, rfl⟩, x, o⟩
    obtain ⟨ds, n, gp⟩ := g s (List.mem_of_getElem? es)
    have hil : i < paths.length := (List.getElem?_eq_some_iff.mp es).1
    have b0 : bnd (insT (paths.take i)) (5 * (paths.take i).length) := bnd_ins fun s hs => g s (List.mem_of_mem_take hs)
    have l0 : (paths.take i).length ≤ 40 := by rw [List.length_take]; omega
    have lu := gp.ups_len
    simp only [ok_gName]
    refine okB_of ?_
    simp [-Bool.exists_bool]
    refine ⟨by rw [szl]; omega, ups_fold gp fun h1 p1 l1 x1 hp1 => ?_⟩
    rw [o_addL (x1.get get_push_size) hp1]
    refine ⟨by rw [szl]; simp; omega, ups_fold gp fun h2 p2 l2 x2 hp2 => ?_⟩
    have hp3 := x2.get (get_push_size (h := h1) (o := .lst ([U.str s] ++ (ups s).map U.str)))
    rw [mkZp_lst hp3 hp2]
    rw [insT_take es]
    have xx : Ext h' h2 := Ext.push.trans (x1.trans (Ext.push.trans x2))
    have hf : h0.size < h'.size := by
      obtain ⟨us, e, _⟩ := o
      exact Hh.get_lt e
    have n1 : h1.size ≠ h0.size := by
      have := x1.le
      rw [Hh.size_push] at this
      omega
    have n2 : p2 ≠ h0.size := by
      have := x1.le
      rw [Hh.size_push] at this
      rw [Hh.size_push] at l2
      omega
    refine for_zip (A := iS h2) (B := iS h2) (xs := s :: ups s) (ys := ups s) (fun j us h3 => (∃ w3 w4 w5, us = [some (.loc pp), some (.loc h0.size), some (.str s), w3, w4, w5]) ∧ Ext h0 h3 ∧ (h3.get h1.size = some (.lst ([U.str s] ++ (ups s).map U.str)) ∧ h3.get p2 = some (.lst ((ups s).map U.str))) ∧ atD (iL iS) h3 h0.size ((((s :: ups s).zip (ups s)).take j).foldl (fun m p => addIn m p.2 p.1) (insT (paths.take i)))) (PS (s :: ups s)) (PS (ups s)) (by simp) (by omega) ⟨⟨_, _, _, rfl⟩, x.trans xx, ⟨hp3, hp2⟩, o.up xx⟩ (fun j us h3 k => k.2.2.1) ?_ ?_
    · rintro us h3 ⟨⟨w3, w4, w5, rfl⟩, x3, _, o3⟩
      refine ⟨⟨_, _, _, _, rfl⟩, x3, ?_⟩
      have e : ((s :: ups s).zip (ups s)).take (ups s).length = (s :: ups s).zip (ups s) := List.take_of_length_le (by rw [List.length_zip]; simp)
      rw [e] at o3
      exact o3
    · rintro j inner fo w w' us h3 ei ef rfl rfl ⟨⟨w3, w4, w5, rfl⟩, x3, ⟨k1, k2⟩, o3⟩
      rw [ok_gTup2 get_push_size]
      refine okB_of ?_
      have hjl : j < (ups s).length := (List.getElem?_eq_some_iff.mp ef).1
      have e2 : ((s :: ups s).zip (ups s))[j]? = some (inner, fo) := by
        rw [List.getElem?_zip_eq_some]
        exact ⟨ei, ef⟩
      rw [fold_take e2]
      generalize hm : (((s :: ups s).zip (ups s)).take j).foldl (fun m p => addIn m p.2 p.1) (insT (paths.take i)) = m at o3
      have bm : bnd m 240 := by
        rw [← hm]
        refine bnd_mono (bnd_fold b0) ?_
        have : (List.take j ((s :: ups s).zip (ups s))).length ≤ j := by rw [List.length_take]; omega
        omega
      have xa : Ext h3 (h3.push (.tup [.str inner, .str fo])) := Ext.push
      generalize h3.push (.tup [.str inner, .str fo]) = h4 at xa
      have o4 := o3.up xa
      simp [-Bool.exists_bool]
      refine ⟨t_dc o4.iD, ?_⟩
      have xb : Ext h4 (h4.push (.lst [])) := Ext.push
      have o5 := o4.up xb
      obtain ⟨kvs, e5, r5⟩ := id o5
      rw [o_get e5]
      have hz : iL iS (h4.push (.lst [])) ((getK kvs (.inr fo)).getD (.loc h4.size)) ((tget m fo).getD []) := by
        cases hg : tget m fo with
        | none =>
          rw [(tr_get (k := fo) r5).1 hg]
          exact atL_nil.iL
        | some zs =>
          obtain ⟨w, e6, r6⟩ := (tr_get (k := fo) r5).2 zs hg
          rw [e6]
          exact r6
      have lz : ((tget m fo).getD []).length ≤ 240 := by
        cases hg : tget m fo with
        | none => simp
        | some zs => exact bm.2 fo zs hg
      generalize (getK kvs (.inr fo)).getD (.loc h4.size) = z at hz
      generalize hzs : (tget m fo).getD [] = zs at hz lz
      generalize h4.push (.lst []) = h5 at *
      refine ⟨_, t_in hz, !(decide (inner ∈ zs)), by simp, ?_⟩
      have fin : ∀ (more : List Str), (zs ++ more = zs ++ if inner ∈ zs then [] else [inner]) → ∀ v h6, Ext h5 h6 → iL iS h6 v more → more.length ≤ 1 → okO (opAdd z v h6) fun x h6 => ∃ h7, mPut (.loc h0.size) (.str fo) x h6 = some h7 ∧ Ext h0 h7 ∧ (h7.get h1.size = some (.lst (U.str s :: (ups s).map U.str)) ∧ h7.get p2 = some (.lst ((ups s).map U.str))) ∧ atD (iL iS) h7 h0.size (addIn m fo inner) := by
        intro more em v h6 x6 r6 lm
        refine t_add (up x6 hz) r6 (by omega) fun w h7 x7 r7 => ?_
        have x37 := xa.trans (xb.trans (x6.trans x7))
        refine atD_putN (o5.up (x6.trans x7)) r7 (by have := bm.1; omega) fun h8 y1 y2 y3 y4 o8 => ⟨y1 _ (x3.trans x37) (Nat.le_refl _), ⟨?_, ?_⟩, ?_⟩
        · rw [y2 _ n1]; exact x37.get k1
        · rw [y2 _ n2]; exact x37.get k2
        · have ea : addIn m fo inner = tput m fo (zs ++ more) := by unfold addIn; rw [hzs, em]
          rw [ea]
          exact o8
      by_cases hin : inner ∈ zs
      · rw [decide_eq_true hin]
        simp only [Bool.not_true, Bool.false_eq_true, if_false]
        exact fin [] (by rw [if_pos hin]) _ _ Ext.push atL_nil.iL (by simp)
      · rw [decide_eq_false hin]
        simp only [Bool.not_false, if_true]
        exact ⟨by rw [szl]; omega, fin [inner] (by rw [if_neg hin]) _ _ Ext.push (iL_mk (P := iS) (.cons rfl .nil)) (by simp)⟩
end P7
end
section
set_option maxHeartbeats 4000000
namespace P7
open PySem Mx My Wk L2
/-! ### hushed or not -/
def hushT (m : Tb Str) (l : List Str) : Bool := match l.find? (thas m) with | some p => decide (tget m p = some (Str.ofString "off")) | none => false
theorem sok_off : Sok (Str.ofString "off") := by decide +kernel
theorem hush_loop {h : Hh} {p : Nat} {l : List Str} {uw : U} {m : Tb Str} {K : Sl → Hh → Prop} {R : U → Hh → Prop} {a : Option U} (hp : h.get p = some (.lst (l.map U.str))) (rw' : iD iS h uw m) (ll : l.length < 1000) (kw : ∀ k v, tget m k = some v → Sok v) (q : R (.bl (hushT m l)) h) (qk : ∀ us h, R (.bl false) h → K us h) :
    okS (forL (.lst p) (gName 2) (sSeq (sIf (tB' (eBin opIn (eVar 2) (eVar 1))) (sSeq (sRet (eBin opEq (eBin opIx (eVar 1) (eVar 2)) (eC (.str "off")))) (sNil)) (sNil)) (sNil)) fuel 0 [a, some uw, none] h) K R := by
  refine for_list (fun i us h' => h' = h ∧ (∃ w, us = [a, some uw, w]) ∧ ∀ x ∈ l.take i, thas m x = false) (PS (h := h) l) (by omega) ⟨rfl, ⟨_, rfl⟩, by simp⟩ (fun i us h' j => by rw [j.1]; exact hp) ?_ ?_
  · rintro us h' ⟨rfl, ⟨w, rfl⟩, hl⟩
    rw [List.take_length] at hl
    have : hushT m l = false := by
      unfold hushT
      rw [List.find?_eq_none.mpr fun x hx => by rw [hl x hx]; simp]
    rw [this] at q
    exact qk _ _ q
  · rintro i s w us h' es rfl ⟨rfl, ⟨w', rfl⟩, hl⟩
    simp only [ok_gName]
    refine okB_of ?_
    simp [-Bool.exists_bool]
    refine ⟨_, t_din rw', ?_⟩
    cases ht : thas m s with
    | false =>
      rw [if_neg (by simp)]
      intro x hx
      rw [List.take_add_one, es] at hx
      rcases List.mem_append.mp hx with hx | hx
      · exact hl x hx
      · have : x = s := by simpa using hx
        rw [this]
        exact ht
    | true =>
      rw [if_pos rfl]
      rw [thas_get] at ht
      obtain ⟨v, hv⟩ := Option.isSome_iff_exists.mp ht
      refine t_dget rw' hv fun w rw2 => ?_
      cases rw2
      rw [o_eqS (kw _ _ hv) sok_off]
      have : hushT m l = (v == Str.ofString "off") := by
        have hs : l.find? (thas m) = some s := by
          obtain ⟨hi, e⟩ := List.getElem?_eq_some_iff.mp es
          rw [← List.take_append_drop i l, List.find?_append, List.find?_eq_none.mpr fun x hx => by rw [hl x hx]; simp, Option.none_or, List.drop_eq_getElem_cons hi, e, List.find?_cons_of_pos]
          rw [thas_get]
          exact ht
        unfold hushT
        rw [hs]
        dsimp only
        rw [hv, bqd, Bool.eq_iff_iff]
        simp
      rw [this] at q
      exact q
theorem is_hushed_ok {s x : Str} {ds : List Str} (gp : GP s ds x) {h : Hh} {uw : U} {m : Tb Str} {P : U → Hh → Prop} (r : iD iS h uw m) (kw : ∀ k v, tget m k = some v → Sok v) (q : ∀ h', Ext h h' → P (.bl (hushT m (s :: ups s))) h') : ok (F_is_hushed [.str s, uw] h) P := by
  unfold F_is_hushed B_is_hushed
  simp [-Bool.exists_bool]
  refine ⟨by rw [szl]; omega, folder_of_ok (by have := gp.slen; omega) ?_⟩
  rw [gp.eq, folder_of_path (nm_nos gp.nx), ← gp.eq]
  have lu := gp.ups_len
  refine folders_up_ok gp.nosok (by have := gp.dlen; omega) (by have := gp.len; omega) fun h1 rr lr x1 hr => ?_
  have eu : upT ds 0 = ups s := by unfold ups; rw [gp.dsOf]
  rw [eu] at hr
  rw [o_addL (x1.get get_push_size) hr]
  refine ⟨by rw [szl]; simp; omega, ?_⟩
  rw [mkIt_lst get_push_size]
  have xx : Ext h (h1.push (.lst ([U.str s] ++ (ups s).map U.str))) := Ext.push.trans (x1.trans Ext.push)
  exact hush_loop (l := s :: ups s) get_push_size (up xx r) (by simp; omega) kw (q _ xx) fun us h k => k
theorem law_is_hushed_ok {s x : Str} {ds : List Str} (gp : GP s ds x) {h : Hh} {uw : U} {m : Tb Str} {P : U → Hh → Prop} (r : iD iS h uw m) (kw : ∀ k v, tget m k = some v → Sok v) (q : ∀ h', Ext h h' → P (.bl (hushT m (s :: ups s))) h') : ok (F__law_is_hushed [.str s, uw] h) P := by
  unfold F__law_is_hushed B__law_is_hushed
  simp [-Bool.exists_bool]
  have lu := gp.ups_len
  refine ⟨by rw [szl]; omega, ups_fold gp fun h1 rr lr x1 hr => ?_⟩
  rw [o_addL (x1.get get_push_size) hr]
  refine ⟨by rw [szl]; simp; omega, ?_⟩
  rw [mkIt_lst get_push_size]
  have xx : Ext h (h1.push (.lst ([U.str s] ++ (ups s).map U.str))) := Ext.push.trans (x1.trans Ext.push)
  exact hush_loop (l := s :: ups s) get_push_size (up xx r) (by simp; omega) kw (q _ xx) fun us h k => k
/-! ### places in order -/
structure GL (s : Str) (ds : List Str) (x : Str) : Prop where
  eq : s = dirS ds ++ x
  nm : ∀ d ∈ ds, isNm d = true
  nx : isNm x = true ∨ x = ⟨#[]⟩
  len : ds.length ≤ 4
theorem GP.gl {s x : Str} {ds : List Str} (g : GP s ds x) : GL s ds x := ⟨g.eq, g.nm, .inl g.nx, g.len⟩
section
variable {s x : Str} {ds : List Str}
theorem GL.xl (g : GL s ds x) : x.length ≤ 12 ∧ Sok x ∧ NoS x := by
  rcases g.nx with h | rfl
  · exact ⟨(nm_len h).2, nm_sok h, nm_nos h⟩
  · exact ⟨by decide, by decide +kernel, by unfold NoS; simp⟩
theorem GL.split (g : GL s ds x) : Txt.split s ⟨#[47]⟩ = ds ++ [x] := by
  rw [g.eq]
  exact split_path (fun d hd => nm_nos (g.nm d hd)) g.xl.2.2
theorem GL.slen (g : GL s ds x) : s.length ≤ 64 := by
  have h1 := dirS_len g.nm
  have h2 := g.xl.1
  have h3 := g.len
  rw [g.eq, len_sl, sl_app, List.length_append, ← len_sl x]
  omega
theorem GL.sok (g : GL s ds x) : Sok s := by
  rw [g.eq]
  exact sok_app (dirS_sok fun d hd => nm_sok (g.nm d hd)) g.xl.2.1
end
abbrev GLs (xs : List Str) : Prop := ∀ s ∈ xs, ∃ ds x, GL s ds x
def keyP (s : Str) : PyData := prD ((Txt.split s ⟨#[47]⟩).filter fun n => !(n == ⟨#[]⟩)) (flag s)
def leP (a b : Str) : Bool := !PySem.W.dataLt (keyP b) (keyP a)
/-- places in order -/
def srtT (xs : List Str) : List Str := insS leP xs
theorem insB_map {α β : Type} {le : α → α → Bool} {le' : β → β → Bool} (f : α → β) (h : ∀ a b, le' (f a) (f b) = le a b) (x : α) : ∀ l : List α, insB le' (f x) (l.map f) = (insB le x l).map f
  | [] => rfl
  | y :: l => by
    rw [List.map_cons, insB, insB, h]
    split
    · rfl
    · rw [insB_map f h x l]; rfl
theorem insS_map {α β : Type} {le : α → α → Bool} {le' : β → β → Bool} (f : α → β) (h : ∀ a b, le' (f a) (f b) = le a b) : ∀ l : List α, insS le' (l.map f) = (insS le l).map f
  | [] => rfl
  | y :: l => by
    rw [List.map_cons, insS, insS, insS_map f h l, insB_map f h]
theorem alike_rk : ∀ xs ys : List Str, PySem.W.alikeAll (xs.map rkD) (ys.map rkD) = true
  | [], _ => by simp [PySem.W.alikeAll]
  | _ :: _, [] => by simp [PySem.W.alikeAll]
  | x :: xs, y :: ys => by
    rw [List.map_cons, List.map_cons, PySem.W.alikeAll, alike_rk xs ys]
    simp [rkD, PySem.W.alike, PySem.W.alikeAll]
theorem alike_pr (a b : List Str) (f g : Int) : PySem.W.alike (prD a f) (prD b g) = true := by
  simp [prD, PySem.W.alike, PySem.W.alikeAll, alike_rk]
theorem depth_rk (n : Str) : (rkD n).depth ≤ 1 := by simp [rkD, PyData.depth, PyData.depthAll]
theorem depth_pr (a : List Str) (f : Int) : (prD a f).depth ≤ 60 := by
  have : PyData.depthAll (a.map rkD) ≤ 1 := dep_map a depth_rk
  simp [prD, PyData.depth, PyData.depthAll]
  omega
theorem keys_ok (xs : List Str) : sortOk (xs.map keyP) = true := by
  unfold sortOk
  simp only [Bool.and_eq_true, List.all_eq_true, Bool.or_eq_true, decide_eq_true_eq]
  refine ⟨⟨fun d hd d' hd' => ?_, .inl fun d hd => ?_⟩, fun d hd => ?_⟩
  · obtain ⟨a, _, rfl⟩ := List.mem_map.mp hd
    obtain ⟨b, _, rfl⟩ := List.mem_map.mp hd'
    exact alike_pr _ _ _ _
  · obtain ⟨a, _, rfl⟩ := List.mem_map.mp hd
    rfl
  · obtain ⟨a, _, rfl⟩ := List.mem_map.mp hd
    exact depth_pr _ _
theorem mapM_keys {F : FM} {h : Hh} (hF : ∀ s ds x, GL s ds x → keyOf F h (.str s) = some (keyP s)) : ∀ {xs : List Str}, GLs xs → (xs.map U.str).mapM (keyOf F h) = some (xs.map keyP)
  | [], _ => rfl
  | s :: xs, g => by
    obtain ⟨ds, x, gl⟩ := g s (by simp)
    rw [List.map_cons, List.mapM_cons, hF s ds x gl, mapM_keys hF fun s hs => g s (by simp [hs])]
    rfl
theorem zip_map2 {α β γ : Type} (f : α → β) (g : α → γ) : ∀ l : List α, (l.map f).zip (l.map g) = l.map fun a => (f a, g a)
  | [] => rfl
  | a :: l => by rw [List.map_cons, List.map_cons, List.zip_cons_cons, zip_map2 f g l]; rfl
theorem sort_gen {F : FM} {h : Hh} (hF : ∀ s ds x, GL s ds x → keyOf F h (.str s) = some (keyP s)) {xs : List Str} (g : GLs xs) (l : xs.length ≤ 10000) : sortU F h (xs.map U.str) = some ((srtT xs).map U.str) := by
  unfold sortU
  rw [mapM_keys hF g]
  dsimp only
  rw [keys_ok, if_pos (by simp [szl]; omega), zip_map2, insS_map (le := leP) (fun s => (U.str s, keyP s)) (fun a b => rfl), List.map_map]
  rfl
theorem key_pr {h : Hh} {s x : Str} {ds : List Str} (gl : GL s ds x) : keyOf F_place_rank h (.str s) = some (keyP s) := by
  refine keyOf_str (place_rank_ok (parts := Txt.split s ⟨#[47]⟩) (by have := gl.slen; omega) gl.sok rfl (fun p hp => ?_) ?_)
  · rw [gl.split] at hp
    rcases List.mem_append.mp hp with hp | hp
    · exact ⟨by have := (nm_len (gl.nm p hp)).2; omega, nm_sok (gl.nm p hp)⟩
    · rw [List.mem_singleton.mp hp]
      exact ⟨by have := gl.xl.1; omega, gl.xl.2.1⟩
  · rw [gl.split]
    have := gl.len
    simp
    omega
theorem key_lpr {h : Hh} {s x : Str} {ds : List Str} (gl : GL s ds x) : keyOf F__law_place_rank h (.str s) = some (keyP s) := by
  refine keyOf_str (lplace_rank_ok (parts := Txt.split s ⟨#[47]⟩) (by have := gl.slen; omega) gl.sok rfl (fun p hp => ?_) ?_)
  · rw [gl.split] at hp
    rcases List.mem_append.mp hp with hp | hp
    · exact ⟨by have := (nm_len (gl.nm p hp)).2; omega, nm_sok (gl.nm p hp)⟩
    · rw [List.mem_singleton.mp hp]
      exact ⟨by have := gl.xl.1; omega, gl.xl.2.1⟩
  · rw [gl.split]
    have := gl.len
    simp
    omega
theorem srt_perm (xs : List Str) : (srtT xs).Perm xs := insS_perm _ _
theorem srt_mem {xs : List Str} {s : Str} : s ∈ srtT xs ↔ s ∈ xs := (srt_perm xs).mem_iff
theorem srt_len (xs : List Str) : (srtT xs).length = xs.length := (srt_perm xs).length_eq
/-- sorted(a dict or a list of places, key=..) -/
theorem itemsL {h : Hh} {u : U} {xs : List Str} (r : iL iS h u xs) : itemsU u h = some (xs.map U.str) := by
  obtain ⟨p, us, rfl, hp, r⟩ := r
  unfold itemsU
  simp only [hp, PiS r]
theorem itemsD {α : Type} {P : Pd α} {h : Hh} {u : U} {m : Tb α} (r : iD P h u m) : itemsU u h = some ((m.map (·.1)).map U.str) := by
  obtain ⟨p, us, rfl, hp, r⟩ := r
  unfold itemsU
  simp only [hp]
  congr 1
  clear hp
  induction r with
  | nil => rfl
  | cons r _ ih => rw [List.map_cons, List.map_cons, List.map_cons, ih, r.1]; rfl
/-! ### values of a dict that is locked meanwhile -/
theorem in_tup {h : Hh} {p : Nat} {xs : List Str} {s : Str} (e : h.get p = some (.tup (xs.map U.str))) : inB (.str s) (.loc p) h = some (decide (s ∈ xs)) := by
  unfold inB
  simp only [e]
  rw [if_pos (by rw [My.flat_strs]; rfl)]
  congr 1
  rw [Bool.eq_iff_iff, decide_eq_true_eq, List.any_eq_true]
  constructor
  · rintro ⟨u, hu, e⟩
    obtain ⟨t, ht, rfl⟩ := List.mem_map.mp hu
    rw [eqU_str, beq_iff_eq] at e
    rwa [← e]
  · intro hm
    exact ⟨.str s, List.mem_map.mpr ⟨s, hm, rfl⟩, by rw [eqU_str, beq_self_eq_true]⟩
theorem lock_vals {us : Sl} {i : Nat} {h : Hh} {uw : U} {m : Tb Str} {K : U → Hh → Prop} {g : GM} {e : EM} {vs : List Nat} (f : Str → Bool) (hus : us[i]? = some (some uw)) (r : iD iS h uw m) (l : m.length < 1000000)
    (hs : ∀ v h', ok (g (.str v) (wipeU us vs) h') fun us1 h2 => Ext h' h2 ∧ ok (e us1 h2) fun y h4 => Ext h2 h4 ∧ y = .bl (f v)) (q : ∀ w h', Ext h h' → iL iB h' w (m.map fun x => f x.2) → K w h') : ok (eLock (pSlot i) (eLc (iView .vals (eVar i)) g tYes e vs) us h) K := by
  obtain ⟨p, kvs, rfl, hp, r⟩ := r
  have e1 : lockAt (pSlot i) us h = some (p, kvs) := by
    unfold lockAt pSlot
    rw [hus]
    simp only [hp]
  unfold eLock
  rw [e1]
  dsimp only
  generalize hL : h.set p (.dic true kvs) = hl
  have hpl : hl.get p = some (.dic true kvs) := by rw [← hL]; exact get_set_same hp
  have key : ok (eLc (iView .vals (eVar i)) g tYes e vs us hl) fun w h' => Ext hl h' ∧ iL iB h' w (m.map fun x => f x.2) := by
    rw [ok_eLc]
    unfold iView
    rw [ok_bind, ok_eVar]
    refine ⟨_, hus, ?_⟩
    have e2 : mkV .vals (.loc p) hl = .ok (.vals p kvs) hl := by unfold mkV; simp only [hpl]
    rw [e2, ok_ok]
    refine lc_map (F := iB) (xs := m) (fun _ => true) (fun x => f x.2) l (fun h' hx => ?_) (fun j x h' ex hx => ?_) fun ys h' hx hy => ?_
    · unfold nxt
      simp only [hx.get hpl]
      rw [← Plen r]
      simp
    · obtain ⟨kv, ek, rk⟩ := Pnth r ex
      refine ⟨.str x.2, h', ?_, Ext.refl, ok_mono (hs x.2 h') fun us1 h2 k => ⟨k.1, rfl, Ext.refl, fun _ => k.2⟩⟩
      unfold nxt
      simp only [hx.get hpl, ek]
      have : kv.2 = .str x.2 := rk.2
      rw [← this]
      rfl
    · rw [List.filter_eq_self.mpr fun _ _ => rfl] at hy
      exact ⟨hx.pushR, iL_mk hy⟩
  obtain ⟨w, h', ew, xw, rw'⟩ := ok_get key
  rw [ew]
  dsimp only
  have e3 : unlk p h' = some (h'.set p (.dic false kvs)) := by unfold unlk; simp only [xw.get hpl]
  rw [e3]
  refine q w _ ⟨fun {n o} en => ?_, ?_⟩ (NoD.nod (ExtN.set (xw.get hpl)) rw')
  · by_cases hn : n = p
    · subst hn
      rw [hp] at en
      cases en
      exact get_set_same (xw.get hpl)
    · rw [Hh.get_set_ne hn]
      refine xw.get ?_
      rw [← hL, Hh.get_set_ne hn]
      exact en
  · rw [Hh.size_set]
    have := xw.le
    rw [← hL, Hh.size_set] at this
    exact this
end P7
end
section
set_option maxHeartbeats 4000000
namespace P7
open PySem Mx My Wk L2
abbrev Ht := Str × Int × Int
abbrev iH : Pd Ht := iT3 iS iI iI
def isFo (s : Str) : Bool := (s == ⟨#[]⟩) || decide ((sl s).getLast? = some 47)
def knT (hs : List Ht) : Tb (Int × Int) := hs.foldl (fun m x => tput m x.1 x.2) []
def mn (a b : Int) : Int := if b < a then b else a
def sumW (kn : Tb (Int × Int)) (inn : List Str) (w : Int) : Int := (inn.map fun i => if w = 0 then ((tget kn i).getD (0, 0)).1 else ((tget kn i).getD (0, 0)).2).sum
def bndH (fo : Bool) (kn : Tb (Int × Int)) (inn : List Str) (lot : List Str) (s : Str) : Int × Int :=
  if fo then (mn (sumW kn inn 0) (1 + sumW kn inn 1), mn (sumW kn inn 1) (1 + sumW kn inn 0)) else (if decide (s ∈ lot) then 1 else 0, if !decide (s ∈ lot) then 1 else 0)
def okH (fo : Str → Bool) (kn : Tb (Int × Int)) (ins : Tb (List Str)) (lot : List Str) (x : Ht) : Bool :=
  !(decide ((bndH (fo x.1) kn ((tget ins x.1).getD []) lot x.1).1 < x.2.1) || decide ((bndH (fo x.1) kn ((tget ins x.1).getD []) lot x.1).2 < x.2.2))
def htsT (fo : Str → Bool) (hs : List Ht) (ins : Tb (List Str)) (lot : List Str) : Bool := hs.all (okH fo (knT hs) ins lot)
theorem lc_tup {α β : Type} {A : Pd α} {F : Pd β} [Mono A] [Mono F] {h : Hh} {g : GM} {e : EM} {usw : Sl} {p : Nat} {us : List U} {xs : List α} (f : α → β) (hp : h.get p = some (.tup us)) (hr : Paired (A h) us xs) (l : xs.length < 1000000)
    (hs : ∀ x u h', x ∈ xs → Ext h h' → A h' u x → ok (g u usw h') fun us1 h2 => Ext h' h2 ∧ ok (e us1 h2) fun y h4 => Ext h2 h4 ∧ F h4 y (f x))
    {PK : List U → Hh → Prop} (q : ∀ ys h', Ext h (h'.push (.lst ys)) → iL F (h'.push (.lst ys)) (.loc h'.size) (xs.map f) → PK ys h') : ok (mkIt (.loc p) h) fun m h1 => ok (lcL m g tYes e usw fuel 0 [] h1) PK := by
  rw [mkIt_tup hp]
  refine lc_map (F := F) (fun _ => true) f l (fun h' hx => ?_) (fun i x h' ex hx => ?_) fun ys h' he hy => ?_
  · rw [nx_tup (hx.get hp), ← Paired.length hr]
    simp
  · obtain ⟨u, eu, ru⟩ := Pnth hr ex
    exact ⟨u, h', by rw [nx_tup (hx.get hp), eu]; rfl, Ext.refl, ok_mono (hs x u h' (List.mem_of_getElem? ex) hx (Mono.mono hx ru)) fun us1 h2 k => ⟨k.1, rfl, Ext.refl, fun _ => k.2⟩⟩
  · rw [List.filter_eq_self.mpr fun _ _ => rfl] at hy
    exact q _ _ he.pushR (iL_mk hy)
theorem kn_take {hs : List Ht} {i : Nat} {x : Ht} (e : hs[i]? = some x) : knT (hs.take (i + 1)) = tput (knT (hs.take i)) x.1 x.2 := fold_take e
theorem kn_len (hs : List Ht) : (knT hs).length ≤ hs.length := by
  have key : ∀ (l : List Ht) (m : Tb (Int × Int)), (l.foldl (fun m x => tput m x.1 x.2) m).length ≤ m.length + l.length := by
    intro l
    induction l with
    | nil => exact fun m => Nat.le_refl _
    | cons x r ih =>
      intro m
      rw [List.foldl_cons, List.length_cons]
      have := ih (tput m x.1 x.2)
      have := tput_len m x.1 x.2
      omega
  have := key hs []
  unfold knT
  simpa using this
/-- what may be looked up -/
structure HtOk (fo : Str → Bool) (hs : List Ht) (ins : Tb (List Str)) : Prop where
  sok : ∀ x ∈ hs, Sok x.1
  inn : ∀ x ∈ hs, fo x.1 = true → ∃ inn, tget ins x.1 = some inn ∧ inn.length ≤ 10000 ∧ ∀ i ∈ inn, ∃ v, tget (knT hs) i = some v
/-- sum([known[inner][which] for inner in inside[place]]) -/
theorem sum_in {h : Hh} {ui uk : U} {ins : Tb (List Str)} {kn : Tb (Int × Int)} {s : Str} {inn : List Str} {w : Int} {us : Sl} {a b c d : Nat} {K : U → Hh → Prop} {ew : EM} (ri : iD (iL iS) h ui ins) (rk : iD (iT2 iI iI) h uk kn) (e : tget ins s = some inn) (li : inn.length ≤ 10000) (hk : ∀ i ∈ inn, ∃ v, tget kn i = some v)
    (hw2 : w = 0 ∨ w = 1)
    (ha : us[a]? = some (some ui)) (hb : us[b]? = some (some (.str s))) (hc : us[c]? = some (some uk)) (hd : d < us.length) (ac : a ≠ d) (bd : b ≠ d) (cd : c ≠ d) (hwd : ∀ us' h', (∀ j, j ≠ d → us'[j]? = us[j]?) → ok (ew us' h') fun x h2 => x = .int w ∧ h2 = h') (q : ∀ h', Ext h h' → K (.int (sumW kn inn w)) h') :
    ok (eCb mSum (aCons (eLc (iSeq (eBin opIx (eVar a) (eVar b))) (gName d) tYes (eBin opIx (eBin opIx (eVar c) (eVar d)) ew) [d]) aNil) us h) K := by
  simp only [ok_eCb, ok_aCons, ok_aNil, ok_eLc, ok_iSeq, ok_eBin, ok_eVar, wipeU_cons, wipeU_nil]
  refine ⟨_, ha, _, hb, ?_⟩
  refine t_dget ri e fun v rv => ?_
  refine t_lc1 (P := iS) (Q := iI) (fun i => if w = 0 then ((tget kn i).getD (0, 0)).1 else ((tget kn i).getD (0, 0)).2) rv (by omega) (fun i u h' hi he hu => ?_) fun ys h' he hz => ?_
  · cases hu
    simp only [ok_gName, ok_eBin, ok_eVar]
    refine ⟨Ext.refl, uk, ?_, .str i, ?_, ?_⟩
    · rw [List.getElem?_set_ne (by omega), List.getElem?_set_ne (by omega)]; exact hc
    · rw [List.getElem?_set_self (by simpa using hd)]
    obtain ⟨v, hv⟩ := hk i hi
    refine t_dget (up he rk) hv fun z rz => ?_
    obtain ⟨x, y, rx, ry, t0, t1, _⟩ := t_2 rz
    refine ok_mono (hwd _ h' fun j hj => ?_) ?_
    · rw [List.getElem?_set_ne (by omega), List.getElem?_set_ne (by omega)]
    rintro _ _ ⟨rfl, rfl⟩
    rw [hv]
    rcases hw2 with rfl | rfl
    · exact t0 ⟨Ext.refl, rx⟩
    · exact t1 ⟨Ext.refl, ry⟩
  · exact iI_sum hz (q _ he)
theorem are_heights_ok {h : Hh} {uh ui ul : U} {hs : List Ht} {ins : Tb (List Str)} {lot : List Str} {P : U → Hh → Prop} (rh : iL iH h uh hs) (ri : iD (iL iS) h ui ins) (rl : iL iS h ul lot) (g : HtOk isFo hs ins) (l : hs.length ≤ 10000) (q : ∀ h', Ext h h' → P (.bl (htsT isFo hs ins lot)) h') : ok (F_are_heights [uh, ui, ul] h) P := by
  unfold F_are_heights B_are_heights
  simp [-Bool.exists_bool]
  obtain ⟨pp, us0, rfl, hp, rp⟩ := rh
  rw [mkIt_lst (Hh.get_push_old hp)]
  refine for_list (fun i us h' => (∃ w4 w5 w6, us = [some (.loc pp), some ui, some ul, some (.loc h.size), w4, w5, w6, none, none, none, none]) ∧ Ext h h' ∧ atD (iT2 iI iI) h' h.size (knT (hs.take i))) rp (by omega) ⟨⟨_, _, _, rfl⟩, Ext.push, atD_nil⟩ (fun i us h' j => j.2.1.get hp) ?_ ?_
  rotate_left
  · rintro i x w us h' ex rx ⟨⟨w4, w5, w6, rfl⟩, x1, o⟩
    obtain ⟨a, b, c, ra, rb, rc, _, _, _, tg⟩ := t_3 (up x1 rx)
    refine tg ?_
    refine okB_of ?_
    have ra : a = .str x.1 := ra
    subst ra
    simp [-Bool.exists_bool]
    refine ⟨by rw [szl]; omega, ?_⟩
    rw [kn_take ex]
    have hl := kn_len (hs.take i)
    rw [List.length_take] at hl
    refine atD_put (P := iT2 iI iI) (a := x.2) (o.up Ext.push) (iT2_mk rb rc) (by omega) fun h2 y1 y2 y3 y4 o2 => ⟨y1 _ (x1.pushR) (Nat.le_refl _), o2⟩
  · rintro us h1 ⟨⟨w4, w5, w6, rfl⟩, x1, o1⟩
    rw [List.take_length] at o1
    simp [-Bool.exists_bool]
    rw [mkIt_lst (x1.get hp)]
    refine for_list (fun i us h' => (∃ w4 w5 w6 w7 w8, us = [some (.loc pp), some ui, some ul, some (.loc h.size), w4, w5, w6, w7, w8, none, none]) ∧ Ext h1 h' ∧ (hs.take i).all (okH isFo (knT hs) ins lot) = true) rp (by omega) ⟨⟨_, _, _, _, _, rfl⟩, Ext.refl, by simp⟩ (fun i us h' j => j.2.1.get (x1.get hp)) ?_ ?_
    · rintro us h2 ⟨⟨w4, w5, w6, w7, w8, rfl⟩, x2, ha⟩
      rw [List.take_length] at ha
      have := q h2 (x1.trans x2)
      rw [show htsT isFo hs ins lot = true from ha] at this
      exact this
    · rintro i x w us h2 ex rx ⟨⟨w4, w5, w6, w7, w8, rfl⟩, x2, ha⟩
      have x12 := x1.trans x2
      have hx : x ∈ hs := List.mem_of_getElem? ex
      obtain ⟨a, b, c, ra, rb, rc, _, _, _, tg⟩ := t_3 (up x12 rx)
      refine tg ?_
      refine okB_of ?_
      have ra : a = .str x.1 := ra
      have rb : b = .int x.2.1 := rb
      have rc : c = .int x.2.2 := rc
      subst ra rb rc
      have fin : ∀ (B : Int × Int) (h3 : Hh) (w8 : Option U), Ext h1 h3 → B = bndH (isFo x.1) (knT hs) ((tget ins x.1).getD []) lot x.1 → okS (sSeq (sIf (tOr (tB' (eBin opGt (eVar 5) (eBin opIx (eVar 7) (eC (.int 0))))) (tB' (eBin opGt (eVar 6) (eBin opIx (eVar 7) (eC (.int 1)))))) (sSeq (sRet (eC (.bl false))) (sNil)) (sNil)) (sNil) [some (.loc pp), some ui, some ul, some (.loc h.size), some (.str x.1), some (.int x.2.1), some (.int x.2.2), some (.loc h3.size), w8, none, none] (h3.push (.tup [.int B.1, .int B.2]))) (fun us h' => (∃ w4 w5 w6 w7 w8, us = [some (.loc pp), some ui, some ul, some (.loc h.size), w4, w5, w6, w7, w8, none, none]) ∧ Ext h1 h' ∧ (hs.take (i + 1)).all (okH isFo (knT hs) ins lot) = true) P := by
        intro B h3 w8 x3 eB
        obtain ⟨_, _, r0, r1, t0, t1, _⟩ := t_2 (iT2_mk (P := iI) (Q := iI) (h := h3) (u := .int B.1) (w := .int B.2) (a := B.1) (b := B.2) rfl rfl)
        cases r0
        cases r1
        simp [-Bool.exists_bool]
        refine t0 ?_
        simp only [o_gt]
        refine ⟨_, rfl, ?_⟩
        have hb : ∀ b, okH isFo (knT hs) ins lot x = b → (b = true → (hs.take (i + 1)).all (okH isFo (knT hs) ins lot) = true) ∧ (b = false → htsT isFo hs ins lot = false) := by
          rintro _ rfl
          refine ⟨fun hb => ?_, fun hb => ?_⟩
          · rw [List.take_add_one, ex, List.all_append, ha]
            simp [hb]
          · unfold htsT
            rw [List.all_eq_false]
            exact ⟨x, hx, by rw [hb]; simp⟩
        have hy : okH isFo (knT hs) ins lot x = !(decide (B.1 < x.2.1) || decide (B.2 < x.2.2)) := by unfold okH; rw [← eB]
        have qf := q _ (x1.trans (x3.pushR (o := .tup [.int B.1, .int B.2])))
        by_cases h1 : B.1 < x.2.1
        · rw [if_pos (by simpa using h1)]
          have := (hb _ hy).2 (by simp [h1])
          rw [this] at qf
          exact qf
        · rw [if_neg (by simpa using h1)]
          refine t1 ?_
          simp only [o_gt]
          refine ⟨_, rfl, ?_⟩
          by_cases h2 : B.2 < x.2.2
          · rw [if_pos (by simpa using h2)]
            have := (hb _ hy).2 (by simp [h2])
            rw [this] at qf
            exact qf
          · rw [if_neg (by simpa using h2)]
            have := (hb _ hy).1 (by simp; omega)
            refine ⟨x3.pushR, fun a b c m => ?_⟩
            have := List.all_eq_true.mp this (a, b, c) m
            exact this
      refine okS_cut (fun us h' => ∃ B h3 w8, us = [some (.loc pp), some ui, some ul, some (.loc h.size), some (.str x.1), some (.int x.2.1), some (.int x.2.2), some (.loc h3.size), w8, none, none] ∧ h' = h3.push (.tup [.int B.1, .int B.2]) ∧ Ext h1 h3 ∧ B = bndH (isFo x.1) (knT hs) ((tget ins x.1).getD []) lot x.1) ?_ ?_
      rotate_left
      · rintro _ _ ⟨B, h3, w8, rfl, rfl, x3, eB⟩
        exact fin B h3 w8 x3 eB
      simp [-Bool.exists_bool]
      refine is_folder_ok (g.sok x hx) ?_
      refine ⟨_, rfl, ?_⟩
      show if isFo x.1 = true then _ else _
      cases hf : isFo x.1 with
      | false =>
        simp only [Bool.false_eq_true, if_false]
        refine ⟨_, t_in (up x12 rl), _, t_in (up x12 rl), by rw [szl]; omega, _, _, h2, rfl, rfl, x2, ?_⟩
        simp [bndH]
      | true =>
        simp only [if_true]
        obtain ⟨inn, ei, li, hi⟩ := g.inn x hx hf
        refine ⟨by rw [szl]; omega, ?_⟩
        refine lc_tup (A := iI) (F := iI) (xs := [(0 : Int), 1]) (fun w => sumW (knT hs) inn w) get_push_size (.cons rfl (.cons rfl .nil)) (by simp) (fun w u h3 hw he hu => ?_) fun ys h3 he hz => ?_
        · cases hu
          simp only [ok_gName]
          refine ⟨Ext.refl, ?_⟩
          have y3 := x2.trans (Ext.push.trans he)
          have hw2 : w = 0 ∨ w = 1 := by simpa using hw
          refine sum_in (a := 1) (b := 4) (c := 3) (d := 10) (w := w) (up (x1.trans y3) ri) (up y3 o1.iD) ei li hi hw2 rfl rfl rfl (by simp) (by decide) (by decide) (by decide) (fun us' h' e => ?_) fun h' x' => ⟨x', rfl⟩
          rw [ok_eVar, e 9 (by decide)]
          exact ⟨_, rfl, rfl, rfl⟩
        · have y3 := x2.trans (Ext.push.trans he)
          generalize U.loc h3.size = z at *
          generalize h3.push (.lst ys) = h4 at *
          refine t_ix hz (i := 0) rfl fun _ e => ?_
          cases e
          refine t_ix hz (i := 1) rfl fun _ e => ?_
          cases e
          simp only [o_addI, o_min]
          refine t_ix hz (i := 1) rfl fun _ e => ?_
          cases e
          refine t_ix hz (i := 0) rfl fun _ e => ?_
          cases e
          simp only [o_addI, o_min]
          refine ⟨by rw [szl]; omega, _, _, h4, rfl, rfl, y3, ?_⟩
          simp [bndH, ei, mn]
end P7
end
section
set_option maxHeartbeats 4000000
namespace P7
open PySem Mx My Wk L2
/-! ### what lies in what: the table -/
theorem thas_tput {α : Type} (m : Tb α) (k k' : Str) (v : α) : thas (tput m k v) k' = (decide (k = k') || thas m k') := by
  rw [thas_get, thas_get, tget_tput]
  by_cases h : k = k'
  · rw [if_pos h, decide_eq_true h]; rfl
  · rw [if_neg h, decide_eq_false h]; rfl
theorem thas_mem {α : Type} {m : Tb α} {k : Str} : thas m k = true ↔ k ∈ m.map (·.1) := by
  unfold thas
  rw [List.any_eq_true, List.mem_map]
  constructor
  · rintro ⟨x, hx, e⟩
    exact ⟨x, hx, by simpa using e⟩
  · rintro ⟨x, hx, e⟩
    exact ⟨x, hx, by simpa using e⟩
theorem thas_some {α : Type} {m : Tb α} {k : Str} : thas m k = true ↔ ∃ v, tget m k = some v := by
  rw [thas_get]
  exact Option.isSome_iff_exists
def clos (S : Str → Prop) (m : Tb (List Str)) : Prop := ∀ k inn, tget m k = some inn → ∀ i ∈ inn, S i ∨ thas m i = true
theorem clos_add {S : Str → Prop} {m : Tb (List Str)} {fo inner : Str} (c : clos S m) (h : S inner ∨ thas m inner = true) : clos S (addIn m fo inner) := by
  intro k inn e i hi
  have up : ∀ i, S i ∨ thas m i = true → S i ∨ thas (addIn m fo inner) i = true := fun i h => by
    rcases h with h | h
    · exact .inl h
    · right
      unfold addIn
      rw [thas_tput, h]
      simp
  refine up i ?_
  unfold addIn at e
  rw [tget_tput] at e
  split at e
  · cases e
    rcases List.mem_append.mp hi with hi | hi
    · cases hg : tget m fo with
      | none => rw [hg] at hi; simp at hi
      | some zs => rw [hg] at hi; exact c fo zs hg i hi
    · split at hi
      · simp at hi
      · rw [List.mem_singleton.mp hi]; exact h
  · exact c k inn e i hi
theorem clos_in {S : Str → Prop} : ∀ (l : List Str) (cur : Str) (m : Tb (List Str)), clos S m → (S cur ∨ thas m cur = true) → clos S (inP m cur l)
  | [], _, _, c, _ => c
  | u :: l, cur, m, c, h => by
    have : inP m cur (u :: l) = inP (addIn m u cur) u l := rfl
    rw [this]
    exact clos_in l u _ (clos_add c h) (.inr (by unfold addIn; rw [thas_tput]; simp))
theorem clos_ins (paths : List Str) : clos (· ∈ paths) (insT paths) := by
  have key : ∀ (l : List Str) (m : Tb (List Str)), (∀ s ∈ l, s ∈ paths) → clos (· ∈ paths) m → clos (· ∈ paths) (l.foldl (fun m p => inP m p (ups p)) m) := by
    intro l
    induction l with
    | nil => exact fun m _ c => c
    | cons s r ih => exact fun m g c => ih _ (fun s hs => g s (by simp [hs])) (clos_in _ _ _ c (.inl (g s (by simp))))
  exact key paths [] (fun _ h => h) (fun k inn e => by cases e)
theorem has_inP {k : Str} : ∀ (l : List Str) (cur : Str) (m : Tb (List Str)), thas (inP m cur l) k = (decide (k ∈ l) || thas m k)
  | [], _, _ => by simp [inP]
  | u :: l, cur, m => by
    have : inP m cur (u :: l) = inP (addIn m u cur) u l := rfl
    rw [this, has_inP l u]
    unfold addIn
    rw [thas_tput, ← Bool.or_assoc]
    congr 1
    rw [Bool.eq_iff_iff]
    simp
    constructor
    · rintro (h | h)
      · exact .inr h
      · exact .inl h.symm
    · rintro (h | h)
      · exact .inr h.symm
      · exact .inl h
theorem has_ins {k : Str} {paths : List Str} : thas (insT paths) k = true ↔ ∃ s ∈ paths, k ∈ ups s := by
  have key : ∀ (l : List Str) (m : Tb (List Str)), thas (l.foldl (fun m p => inP m p (ups p)) m) k = true ↔ (∃ s ∈ l, k ∈ ups s) ∨ thas m k = true := by
    intro l
    induction l with
    | nil => intro m; simp
    | cons s r ih =>
      intro m
      rw [List.foldl_cons, ih, has_inP]
      simp
      grind
  have := key paths []
  unfold insT
  rw [this]
  simp [thas]
theorem ups_gl {s x : Str} {ds : List Str} (gp : GP s ds x) {k : Str} (h : k ∈ ups s) : ∃ j, j ≤ ds.length ∧ k = dirS (ds.take j) := by
  unfold ups upT at h
  rw [gp.dsOf] at h
  obtain ⟨j, hj, e⟩ := List.mem_map.mp h
  rw [List.mem_reverse, List.mem_range'] at hj
  obtain ⟨i, hi, e2⟩ := hj
  exact ⟨j, by omega, e.symm⟩
theorem dir_gl {ds : List Str} (h : ∀ d ∈ ds, isNm d = true) (l : ds.length ≤ 4) : GL (dirS ds) ds ⟨#[]⟩ := ⟨sl_inj (by rw [sl_app]; simp), h, .inr rfl, l⟩
abbrev kIns (paths : List Str) : List Str := (insT paths).map (·.1)
theorem kIns_dir {paths : List Str} (g : GPs paths) {k : Str} (h : k ∈ kIns paths) : ∃ ds, k = dirS ds ∧ (∀ d ∈ ds, isNm d = true) ∧ ds.length ≤ 4 := by
  obtain ⟨s, hs, hk⟩ := has_ins.mp (thas_mem.mpr h)
  obtain ⟨ds, x, gp⟩ := g s hs
  obtain ⟨j, hj, rfl⟩ := ups_gl gp hk
  exact ⟨ds.take j, rfl, fun d hd => gp.nm d (List.mem_of_mem_take hd), by have := gp.len; rw [List.length_take]; omega⟩
theorem kIns_gl {paths : List Str} (g : GPs paths) : GLs (kIns paths) := fun k h => by
  obtain ⟨ds, rfl, h1, h2⟩ := kIns_dir g h
  exact ⟨_, _, dir_gl h1 h2⟩
theorem all_gl {paths : List Str} (g : GPs paths) : GLs (kIns paths ++ paths) := fun k h => by
  rcases List.mem_append.mp h with h | h
  · exact kIns_gl g k h
  · obtain ⟨ds, x, gp⟩ := g k h
    exact ⟨ds, x, gp.gl⟩
theorem isFo_dir (ds : List Str) : isFo (dirS ds) = true := by
  unfold isFo
  rcases dirS_end ds with ⟨_, rfl⟩ | ⟨a, e⟩
  · rfl
  · rw [e, List.getLast?_concat]
    simp
theorem isFo_path {s x : Str} {ds : List Str} (gp : GP s ds x) : isFo s = false := by
  have e : sl s = sl (dirS ds) ++ sl x := by rw [gp.eq, sl_app]
  have hx := (nm_len gp.nx).1
  rw [len_sl] at hx
  rcases List.eq_nil_or_concat (sl x) with h0 | ⟨l, c, h0⟩
  · rw [h0] at hx; simp at hx
  have hc := nm_let gp.nx (c := c) (by rw [h0]; simp)
  rw [h0, List.concat_eq_append, ← List.append_assoc] at e
  unfold isFo
  rw [e, List.getLast?_concat]
  have : s ≠ ⟨#[]⟩ := fun z => by rw [z] at e; simp at e
  simp [this]
  omega
theorem isFo_all {paths : List Str} (g : GPs paths) {s : Str} (h : s ∈ kIns paths ++ paths) : isFo s = !decide (s ∈ paths) := by
  by_cases hp : s ∈ paths
  · obtain ⟨ds, x, gp⟩ := g s hp
    rw [isFo_path gp, decide_eq_true hp]
    rfl
  · rcases List.mem_append.mp h with h | h
    · obtain ⟨ds, rfl, _, _⟩ := kIns_dir g h
      rw [isFo_dir, decide_eq_false hp]
      rfl
    · exact absurd h hp
theorem kn_has {hs : List Ht} {i : Str} (h : i ∈ hs.map (·.1)) : ∃ v, tget (knT hs) i = some v := by
  have key : ∀ (l : List Ht) (m : Tb (Int × Int)), (i ∈ l.map (·.1) ∨ thas m i = true) → thas (l.foldl (fun m x => tput m x.1 x.2) m) i = true := by
    intro l
    induction l with
    | nil => intro m h; simpa using h
    | cons x r ih =>
      intro m h
      rw [List.foldl_cons]
      refine ih _ ?_
      rw [thas_tput]
      simp at h ⊢
      grind
  exact thas_some.mp (key hs [] (.inl h))
/-- the heights are of the right places -/
theorem ht_ok {paths : List Str} (g : GPs paths) (l : paths.length ≤ 40) {hs : List Ht} (e : hs.map (·.1) = srtT (kIns paths ++ paths)) {fo : Str → Bool} (hf : ∀ s ∈ kIns paths ++ paths, fo s = !decide (s ∈ paths)) : HtOk fo hs (insT paths) := by
  have mem : ∀ x ∈ hs, x.1 ∈ kIns paths ++ paths := fun x hx => by
    rw [← srt_mem, ← e]
    exact List.mem_map.mpr ⟨x, hx, rfl⟩
  refine ⟨fun x hx => ?_, fun x hx hfo => ?_⟩
  · obtain ⟨ds, y, gl⟩ := all_gl g x.1 (mem x hx)
    exact gl.sok
  · have hm := mem x hx
    rw [hf _ hm] at hfo
    have hnp : x.1 ∉ paths := by simpa using hfo
    have hk : x.1 ∈ kIns paths := by
      rcases List.mem_append.mp hm with h | h
      · exact h
      · exact absurd h hnp
    obtain ⟨inn, hi⟩ := thas_some.mp (thas_mem.mpr hk)
    have b := bnd_ins g
    refine ⟨inn, hi, by have := b.2 _ _ hi; omega, fun i him => kn_has ?_⟩
    rw [e, srt_mem]
    rcases clos_ins paths _ _ hi i him with h | h
    · exact List.mem_append_right _ h
    · exact List.mem_append_left _ (thas_mem.mp h)
end P7
end
section
set_option maxHeartbeats 4000000
namespace P7
open PySem Mx My Wk L2
theorem eLS : Enc (iL iS) 8 (fun xs => .list (xs.map PyData.str)) (fun xs => ∀ x ∈ xs, Sok x) := eL (eS 7)
def lawHts (hs : List Ht) (paths lot : List Str) : Bool := decide (hs.map (·.1) = srtT (kIns paths ++ paths)) && htsT (fun s => !decide (s ∈ paths)) hs (insT paths) lot
theorem gl_sok {xs : List Str} (g : GLs xs) : ∀ x ∈ xs, Sok x := fun x hx => by
  obtain ⟨ds, y, gl⟩ := g x hx
  exact gl.sok
theorem ht_gl_srt {xs : List Str} (g : GLs xs) : GLs (srtT xs) := fun x hx => g x (srt_mem.mp hx)
theorem all_len {paths : List Str} (g : GPs paths) (l : paths.length ≤ 40) : (kIns paths ++ paths).length ≤ 240 := by
  have := (bnd_ins g).1
  simp
  omega
theorem law_are_heights_ok {h : Hh} {uh up' ul : U} {hs : List Ht} {paths lot : List Str} {P : U → Hh → Prop} (rh : iL iH h uh hs) (rp0 : iL iS h up' paths) (rl : iL iS h ul lot) (g : GPs paths) (lp : paths.length ≤ 40) (sk : ∀ x ∈ hs, Sok x.1) (l : hs.length ≤ 10000) (q : ∀ h', Ext h h' → P (.bl (lawHts hs paths lot)) h') : ok (F__law_are_heights [uh, up', ul] h) P := by
  unfold F__law_are_heights B__law_are_heights
  rw [ok_mkF]
  refine okS_cut (fun us h' => ∃ ui h1, us = [some uh, some up', some ul, some ui, some (.loc h1.size), none, none, none, none, none, none, none] ∧ Ext h h1 ∧ iD (iL iS) h1 ui (insT paths) ∧ Ext h1 h' ∧ atD (iT2 iI iI) h' h1.size []) ?_ ?_
  · rw [okS_asg]
    simp only [ok_eTup, ok_aCons, ok_aNil, ok_eCall, ok_eVar, ok_eD0]
    refine ⟨up', rfl, law_inside_ok rp0 g lp fun w h' x r => ?_⟩
    rw [o_tup]
    refine ⟨by rw [szl]; simp, ?_⟩
    rw [ok_gTup2 get_push_size]
    exact ⟨w, h', rfl, x, r, Ext.push.trans Ext.push, atD_nil.up Ext.push⟩
  rintro _ h2 ⟨ui, h1, rfl, x1, ri, x2, o2⟩
  have x12 := x1.trans x2
  refine okS_cut (fun us h' => hs.map (·.1) = srtT (kIns paths ++ paths) ∧ us = [some uh, some up', some ul, some ui, some (.loc h1.size), none, none, none, none, none, none, none] ∧ Ext h2 h') ?_ ?_
  · simp [-Bool.exists_bool]
    refine t_lc1 (P := iH) (Q := iS) (fun x => x.1) (up x12 rh) (by omega) (fun x w h' hx he hw => ?_) fun ys h3 x3 r3 => ?_
    · obtain ⟨a, b, c, ra, rb, rc, t0, _⟩ := t_3 hw
      simp
      exact t0 ⟨Ext.refl, ra⟩
    · generalize U.loc h3.size = z at *
      generalize h3.push (.lst ys) = h4 at *
      refine t_listD (up (x2.trans x3) ri) fun w h5 x5 r5 => ?_
      have la : ((insT paths).map (·.1) ++ paths).length ≤ 240 := all_len g lp
      refine t_add r5 (up (x12.trans (x3.trans x5)) rp0) (by rw [List.length_append] at la; omega) fun w2 h6 x6 r6 => ?_
      refine ⟨_, itemsL r6, _, sort_gen (fun s ds x gl => key_lpr gl) (all_gl g) (by omega), ?_⟩
      have r7 : iL iS (h6.push (.lst ((srtT (kIns paths ++ paths)).map U.str))) (.loc h6.size) (srtT (kIns paths ++ paths)) := iL_mk (P := iS) (PS _)
      refine t_ne eLS (up (x5.trans (x6.trans Ext.push)) r3) r7 (fun x hx => ?_) (gl_sok (ht_gl_srt (all_gl g))) ?_
      · obtain ⟨y, hy, rfl⟩ := List.mem_map.mp hx
        exact sk y hy
      have xx : Ext h2 (h6.push (.lst ((srtT (kIns paths ++ paths)).map U.str))) := x3.trans (x5.trans (x6.trans Ext.push))
      refine ⟨_, rfl, ?_⟩
      by_cases he : hs.map (·.1) = srtT (kIns paths ++ paths)
      · rw [decide_eq_true he]
        exact ⟨he, xx⟩
      · rw [decide_eq_false he]
        have := q _ (x12.trans xx)
        rw [show lawHts hs paths lot = false by unfold lawHts; rw [decide_eq_false he]; rfl] at this
        exact this
  rintro _ h3 ⟨eh, rfl, x3⟩
  have el : lawHts hs paths lot = htsT (fun s => !decide (s ∈ paths)) hs (insT paths) lot := by
    unfold lawHts
    rw [decide_eq_true eh]
    rfl
  rw [el] at q
  have go := ht_ok g lp eh (fo := fun s => !decide (s ∈ paths)) (fun s _ => rfl)
  have x13 := x12.trans x3
  have o3 := o2.up x3
  have ri3 := up (x2.trans x3) ri
  obtain ⟨pp, us0, rfl, hp, rp⟩ := rh
  clear eh el sk o2
  have l13 : Ext h1 h3 := x2.trans x3
  refine okS_cut (fun us h' => (∃ w4 w5 w6, us = [some (.loc pp), some up', some ul, some ui, some (.loc h1.size), w4, w5, w6, none, none, none, none]) ∧ Ext h1 h' ∧ atD (iT2 iI iI) h' h1.size (knT hs)) ?_ ?_
  · simp only [okS_for, ok_iSeq, ok_eVar]
    refine ⟨_, rfl, ?_⟩
    rw [mkIt_lst (x13.get hp)]
    refine for_list (fun i us h' => (∃ w4 w5 w6, us = [some (.loc pp), some up', some ul, some ui, some (.loc h1.size), w4, w5, w6, none, none, none, none]) ∧ Ext h1 h' ∧ atD (iT2 iI iI) h' h1.size (knT (hs.take i))) rp (by omega) ⟨⟨_, _, _, rfl⟩, l13, o3⟩ (fun i us h' j => j.2.1.get (x1.get hp)) ?_ ?_
    · rintro us h' ⟨e, x, o⟩
      rw [List.take_length] at o
      exact ⟨e, x, o⟩
    · rintro i x w us h' ex rx ⟨⟨w4, w5, w6, rfl⟩, x4, o⟩
      obtain ⟨a, b, c, ra, rb, rc, _, _, _, tg⟩ := t_3 (up (x1.trans x4) rx)
      refine tg ?_
      refine okB_of ?_
      have ra : a = .str x.1 := ra
      subst ra
      simp [-Bool.exists_bool]
      refine ⟨by rw [szl]; omega, ?_⟩
      rw [kn_take ex]
      have hl := kn_len (hs.take i)
      rw [List.length_take] at hl
      exact atD_put (P := iT2 iI iI) (a := x.2) (o.up Ext.push) (iT2_mk rb rc) (by omega) fun h2 y1 y2 y3 y4 o2 => ⟨y1 _ (x4.pushR) (Nat.le_refl _), o2⟩
  rintro _ h4 ⟨⟨w4, w5, w6, rfl⟩, x4, o4⟩
  have x14 := x1.trans x4
  simp only [okS_seq, okS_for, ok_iSeq, ok_eVar]
  refine ⟨_, rfl, ?_⟩
  rw [mkIt_lst (x14.get hp)]
  refine for_list (fun i us h' => (∃ w5 w6 w7 w8 w9 w10, us = [some (.loc pp), some up', some ul, some ui, some (.loc h1.size), w5, w6, w7, w8, w9, w10, none]) ∧ Ext h4 h' ∧ (hs.take i).all (okH (fun s => !decide (s ∈ paths)) (knT hs) (insT paths) lot) = true) rp (by omega) ⟨⟨_, _, _, _, _, _, rfl⟩, Ext.refl, by simp⟩ (fun i us h' j => j.2.1.get (x14.get hp)) ?_ ?_
  · rintro us h5 ⟨⟨w4, w5, w6, w7, w8, w9, rfl⟩, x5, ha⟩
    rw [List.take_length] at ha
    have := q h5 (x14.trans x5)
    rw [show htsT (fun s => !decide (s ∈ paths)) hs (insT paths) lot = true from ha] at this
    simpa using this
  · rintro i x w us h5 ex rx ⟨⟨w5, w6, w7, w8, w9, w10, rfl⟩, x5, ha⟩
    have x15 := x14.trans x5
    have hx : x ∈ hs := List.mem_of_getElem? ex
    obtain ⟨a, b, c, ra, rb, rc, _, _, _, tg⟩ := t_3 (up x15 rx)
    refine tg ?_
    refine okB_of ?_
    have ra : a = .str x.1 := ra
    have rb : b = .int x.2.1 := rb
    have rc : c = .int x.2.2 := rc
    subst ra rb rc
    refine okS_cut (fun us h' => ∃ (B : Int × Int) (h3 : Hh) (w9 w10 : Option U), us = [some (.loc pp), some up', some ul, some ui, some (.loc h1.size), some (.str x.1), some (.int x.2.1), some (.int x.2.2), some (.loc h3.size), w9, w10, none] ∧ h' = h3.push (.tup [.int B.1, .int B.2]) ∧ Ext h4 h3 ∧ B = bndH (!decide (x.1 ∈ paths)) (knT hs) ((tget (insT paths) x.1).getD []) lot x.1) ?_ ?_
    · rw [okS_if]
      simp only [ok_tB, ok_eBin, ok_eVar, o_in]
      refine ⟨_, rfl, _, rfl, _, t_in (up x15 rp0), _, rfl, ?_⟩
      by_cases hf : x.1 ∈ paths
      · rw [decide_eq_true hf]
        simp [-Bool.exists_bool]
        refine ⟨_, t_in (up x15 rl), ?_⟩
        by_cases hl : x.1 ∈ lot
        · rw [decide_eq_true hl]
          simp only [if_true]
          refine ⟨_, t_in (up x15 rl), ?_⟩
          rw [decide_eq_true hl]
          simp only [if_true]
          refine ⟨by rw [szl]; omega, 1, 0, h5, rfl, rfl, x5, ?_⟩
          simp [bndH, hl]
        · rw [decide_eq_false hl]
          simp only [Bool.false_eq_true, if_false]
          refine ⟨_, t_in (up x15 rl), ?_⟩
          rw [decide_eq_false hl]
          simp only [Bool.false_eq_true, if_false]
          refine ⟨by rw [szl]; omega, 0, 1, h5, rfl, rfl, x5, ?_⟩
          simp [bndH, hl]
      · rw [decide_eq_false hf, if_neg (by simp)]
        obtain ⟨inn, ei, li, hi⟩ := go.inn x hx (by simp [hf])
        have y5 := x4.trans x5
        refine okS_cut (fun us h' => us = [some (.loc pp), some up', some ul, some ui, some (.loc h1.size), some (.str x.1), some (.int x.2.1), some (.int x.2.2), w8, some (.int (sumW (knT hs) inn 0)), w10, none] ∧ Ext h5 h') ?_ ?_
        · rw [okS_set]
          exact sum_in (a := 3) (b := 5) (c := 4) (d := 11) (w := 0) (up y5 ri) (up x5 o4.iD) ei li hi (.inl rfl) rfl rfl rfl (by simp) (by decide) (by decide) (by decide) (fun us' h' e => ⟨rfl, rfl⟩) fun h' x' => ⟨rfl, x'⟩
        rintro _ h6 ⟨rfl, x6⟩
        refine okS_cut (fun us h' => us = [some (.loc pp), some up', some ul, some ui, some (.loc h1.size), some (.str x.1), some (.int x.2.1), some (.int x.2.2), w8, some (.int (sumW (knT hs) inn 0)), some (.int (sumW (knT hs) inn 1)), none] ∧ Ext h5 h') ?_ ?_
        · rw [okS_set]
          exact sum_in (a := 3) (b := 5) (c := 4) (d := 11) (w := 1) (up (y5.trans x6) ri) (up (x5.trans x6) o4.iD) ei li hi (.inr rfl) rfl rfl rfl (by simp) (by decide) (by decide) (by decide) (fun us' h' e => ⟨rfl, rfl⟩) fun h' x' => ⟨rfl, x6.trans x'⟩
        rintro _ h7 ⟨rfl, x7⟩
        simp [-Bool.exists_bool]
        refine ⟨by rw [szl]; omega, _, _, h7, rfl, rfl, x5.trans x7, ?_⟩
        simp [bndH, ei, mn]
    rintro _ _ ⟨B, h6, w9, w10, rfl, rfl, x6, eB⟩
    obtain ⟨_, _, r0, r1, t0, t1, _⟩ := t_2 (iT2_mk (P := iI) (Q := iI) (h := h6) (u := .int B.1) (w := .int B.2) (a := B.1) (b := B.2) rfl rfl)
    cases r0
    cases r1
    simp [-Bool.exists_bool]
    refine t0 ?_
    simp only [o_gt]
    refine ⟨_, rfl, ?_⟩
    have hb : ∀ b, okH (fun s => !decide (s ∈ paths)) (knT hs) (insT paths) lot x = b → (b = true → (hs.take (i + 1)).all (okH (fun s => !decide (s ∈ paths)) (knT hs) (insT paths) lot) = true) ∧ (b = false → htsT (fun s => !decide (s ∈ paths)) hs (insT paths) lot = false) := by
      rintro _ rfl
      refine ⟨fun hb => ?_, fun hb => ?_⟩
      · rw [List.take_add_one, ex, List.all_append, ha]
        simp [hb]
      · unfold htsT
        rw [List.all_eq_false]
        exact ⟨x, hx, by rw [hb]; simp⟩
    have hy : okH (fun s => !decide (s ∈ paths)) (knT hs) (insT paths) lot x = !(decide (B.1 < x.2.1) || decide (B.2 < x.2.2)) := by unfold okH; rw [← eB]
    have qf := q _ (x14.trans (x6.pushR (o := .tup [.int B.1, .int B.2])))
    by_cases h1 : B.1 < x.2.1
    · rw [if_pos (by simpa using h1)]
      have := (hb _ hy).2 (by simp [h1])
      rw [this] at qf
      exact qf
    · rw [if_neg (by simpa using h1)]
      refine t1 ?_
      simp only [o_gt]
      refine ⟨_, rfl, ?_⟩
      by_cases h2 : B.2 < x.2.2
      · rw [if_pos (by simpa using h2)]
        have := (hb _ hy).2 (by simp [h2])
        rw [this] at qf
        exact qf
      · rw [if_neg (by simpa using h2)]
        have := (hb _ hy).1 (by simp; omega)
        refine ⟨x6.pushR, fun a b c m => ?_⟩
        exact List.all_eq_true.mp this (a, b, c) m
end P7
end
section
set_option maxHeartbeats 4000000
namespace P7
open PySem Mx My Wk L2
abbrev Mk' := Str × Str
abbrev iM : Pd Mk' := iT2 iS iS
def wdT (ms : List Mk') : Tb Str := ms.foldl (fun m x => tput m x.1 x.2) []
theorem wd_take {ms : List Mk'} {i : Nat} {x : Mk'} (e : ms[i]? = some x) : wdT (ms.take (i + 1)) = tput (wdT (ms.take i)) x.1 x.2 := fold_take e
theorem tput_mem {α : Type} {m : Tb α} {k : Str} {v : α} {x : Str × α} (h : x ∈ tput m k v) : x = (k, v) ∨ x ∈ m := by
  unfold tput at h
  split at h
  · obtain ⟨y, hy, e⟩ := List.mem_map.mp h
    split at e
    · rename_i hk
      left
      rw [← e, hk]
    · right
      rw [← e]
      exact hy
  · rcases List.mem_append.mp h with h | h
    · exact .inr h
    · exact .inl (List.mem_singleton.mp h)
theorem wd_mem {ms : List Mk'} {x : Mk'} (h : x ∈ wdT ms) : x ∈ ms := by
  have key : ∀ (l : List Mk') (m : Tb Str), (∀ y ∈ l, y ∈ ms) → (∀ y ∈ m, y ∈ ms) → ∀ y ∈ l.foldl (fun m x => tput m x.1 x.2) m, y ∈ ms := by
    intro l
    induction l with
    | nil => exact fun m _ h => h
    | cons x r ih =>
      intro m h1 h2
      refine ih _ (fun y hy => h1 y (by simp [hy])) fun y hy => ?_
      rcases tput_mem hy with rfl | hy
      · exact h1 _ (by simp)
      · exact h2 y hy
  exact key ms [] (fun _ h => h) (by simp) x h
theorem wd_len (ms : List Mk') : (wdT ms).length ≤ ms.length := by
  have key : ∀ (l : List Mk') (m : Tb Str), (l.foldl (fun m x => tput m x.1 x.2) m).length ≤ m.length + l.length := by
    intro l
    induction l with
    | nil => exact fun m => Nat.le_refl _
    | cons x r ih =>
      intro m
      rw [List.foldl_cons, List.length_cons]
      have := ih (tput m x.1 x.2)
      have := tput_len m x.1 x.2
      omega
  have := key ms []
  unfold wdT
  simpa using this
theorem tget_mem {α : Type} {m : Tb α} {k : Str} {v : α} (e : tget m k = some v) : (k, v) ∈ m := by
  unfold tget at e
  cases h : m.find? (fun x => decide (x.1 = k)) with
  | none => rw [h] at e; cases e
  | some y =>
    rw [h] at e
    cases e
    have := List.find?_some h
    simp at this
    rw [← this]
    exact List.mem_of_find?_eq_some h
/-- marks whose places are places -/
structure MkOk (ms : List Mk') : Prop where
  gl : ∀ x ∈ ms, ∃ ds y, GL x.1 ds y
  sok : ∀ x ∈ ms, Sok x.2
  len : ms.length ≤ 10000
section
variable {ms : List Mk'}
theorem MkOk.gls (g : MkOk ms) : GLs (ms.map (·.1)) := fun s hs => by
  obtain ⟨x, hx, rfl⟩ := List.mem_map.mp hs
  exact g.gl x hx
theorem MkOk.wgl (g : MkOk ms) : GLs ((wdT ms).map (·.1)) := fun s hs => by
  obtain ⟨x, hx, rfl⟩ := List.mem_map.mp hs
  exact g.gl x (wd_mem hx)
theorem MkOk.wsok (g : MkOk ms) : ∀ k v, tget (wdT ms) k = some v → Sok v := fun k v e => g.sok _ (wd_mem (tget_mem e))
theorem MkOk.wlen (g : MkOk ms) : (wdT ms).length ≤ 10000 := Nat.le_trans (wd_len ms) g.len
end
def onOff : List Str := [Str.ofString "on", Str.ofString "off"]
def valsT (m : Tb Str) : Bool := (m.map fun x => decide (x.2 ∈ onOff)).all id
def hushAll (m : Tb Str) (paths lot : List Str) : Bool := (paths.map fun p => hushT m (p :: ups p) == decide (p ∈ lot)).all id
theorem all_vals {us : Sl} {i : Nat} {h : Hh} {uw : U} {m : Tb Str} {K : U → Hh → Prop} (hus : us[4]? = some (some uw)) (hi : i < us.length) (r : iD iS h uw m) (l : m.length ≤ 10000) (q : ∀ h', Ext h h' → K (.bl (valsT m)) h') :
    ok (eCb mAll (aCons (eLock (pSlot 4) (eLc (iView .vals (eVar 4)) (gName i) tYes (eBin opIn (eVar i) (eTup (aCons (eC (.str "on")) (aCons (eC (.str "off")) (aNil))))) [i])) aNil) us h) K := by
  simp only [ok_eCb, ok_aCons, ok_aNil]
  refine lock_vals (fun v => decide (v ∈ onOff)) hus r (by omega) (fun v h' => ?_) fun w h' x rw' => iB_all rw' (q h' x)
  simp only [ok_gName, ok_eBin, ok_eVar, ok_eTup, ok_aCons, ok_aNil, ok_eC, o_tup, o_in]
  refine ⟨Ext.refl, _, by rw [List.getElem?_set_self (by simpa using hi)], by rw [szl]; simp, _, in_tup (xs := onOff) get_push_size, Ext.push, rfl⟩
theorem all_hush {F : FM} {us : Sl} {h : Hh} {up' ul uw : U} {m : Tb Str} {paths lot : List Str} {K : U → Hh → Prop} (hF : ∀ {s x : Str} {ds : List Str}, GP s ds x → ∀ {h : Hh} {uw : U} {m : Tb Str} {P : U → Hh → Prop}, iD iS h uw m → (∀ k v, tget m k = some v → Sok v) → (∀ h', Ext h h' → P (.bl (hushT m (s :: ups s))) h') → ok (F [.str s, uw] h) P)
    (e1 : us[1]? = some (some up')) (e2 : us[2]? = some (some ul)) (e4 : us[4]? = some (some uw)) (hl : 8 < us.length) (g : GPs paths) (lp : paths.length ≤ 40) (rp : iL iS h up' paths) (rl : iL iS h ul lot) (rw' : iD iS h uw m) (kw : ∀ k v, tget m k = some v → Sok v) (q : ∀ h', Ext h h' → K (.bl (hushAll m paths lot)) h') :
    ok (eCb mAll (aCons (eLc (iSeq (eVar 1)) (gName 8) tYes (eBin opEq (eCall F (aCons (eVar 8) (aCons (eVar 4) (aNil)))) (eBin opIn (eVar 8) (eVar 2))) [8]) aNil) us h) K := by
  simp only [ok_eCb, ok_aCons, ok_aNil, ok_eLc, ok_iSeq, ok_eVar, wipeU_cons, wipeU_nil]
  refine ⟨_, e1, ?_⟩
  refine t_lc1 (P := iS) (Q := iB) (fun p => hushT m (p :: ups p) == decide (p ∈ lot)) rp (by omega) (fun s u h' hs he hu => ?_) fun ys h' he hz => iB_all hz (q _ he)
  cases hu
  obtain ⟨ds, x, gp⟩ := g s hs
  simp only [ok_gName, ok_eBin, ok_eVar, ok_eCall, ok_aCons, ok_aNil, o_in]
  have e8 : ((us.set 8 none).set 8 (some (.str s)))[8]? = some (some (.str s)) := List.getElem?_set_self (by simpa using hl)
  refine ⟨Ext.refl, _, e8, _, by rw [List.getElem?_set_ne (by decide), List.getElem?_set_ne (by decide)]; exact e4, ?_⟩
  refine hF gp (up he rw') kw fun h2 x2 => ⟨_, e8, _, by rw [List.getElem?_set_ne (by decide), List.getElem?_set_ne (by decide)]; exact e2, _, t_in (up (he.trans x2) rl), ?_⟩
  rw [o_eqB]
  exact ⟨x2, rfl⟩
/-- for place, word in marks: words[place] = word -/
theorem words_loop {h0 h : Hh} {pm pw : Nat} {us0 : List U} {ms : List Mk'} {us : Sl} {i j k : Nat} {R : U → Hh → Prop} (x0 : Ext h0 h) (hp : h0.get pm = some (.lst us0)) (rp : Paired (iM h0) us0 ms) (l : ms.length ≤ 10000) (lpw : h0.size ≤ pw) (o : atD iS h pw []) (hk : us[k]? = some (some (.loc pw))) (hi : i < us.length) (hj : j < us.length) (ij : i ≠ j) (ik : i ≠ k) (jk : j ≠ k) {Q : Sl → Hh → Prop}
    (q : ∀ us' h', us'.length = us.length → (∀ n, n ≠ i → n ≠ j → us'[n]? = us[n]?) → Ext h0 h' → (∀ n o, n ≠ pw → h.get n = some o → h'.get n = some o) → atD iS h' pw (wdT ms) → Q us' h') : okS (forL (.lst pm) (gTup [gName i, gName j]) (sSeq (sPut (eVar j) (eVar k) (eVar i)) sNil) fuel 0 us h) Q R := by
  refine for_list (fun n us' h' => us'.length = us.length ∧ (∀ n, n ≠ i → n ≠ j → us'[n]? = us[n]?) ∧ Ext h0 h' ∧ (∀ n o, n ≠ pw → h.get n = some o → h'.get n = some o) ∧ atD iS h' pw (wdT (ms.take n))) rp (by omega) ⟨rfl, fun _ _ _ => rfl, x0, fun _ _ _ e => e, o⟩ (fun n us' h' k => k.2.2.1.get hp) ?_ ?_
  · rintro us' h' ⟨el, ek, x, fr, o⟩
    rw [List.take_length] at o
    exact q us' h' el ek x fr o
  · rintro n x w us' h' ex rx ⟨el, ek, xx, fr, o⟩
    obtain ⟨a, b, ra, rb, _, _, tg⟩ := t_2 (up xx rx)
    refine tg ?_
    refine okB_of ?_
    have ra : a = .str x.1 := ra
    subst ra
    simp only [okS_seq, okS_put, ok_eVar, okS_nil]
    refine ⟨b, by rw [List.getElem?_set_self (by simp; omega)], .loc pw, ?_, .str x.1, ?_, ?_⟩
    · rw [List.getElem?_set_ne (by omega), List.getElem?_set_ne (by omega), ek k (Ne.symm ik) (Ne.symm jk)]; exact hk
    · rw [List.getElem?_set_ne (by omega), List.getElem?_set_self (by omega)]
    rw [wd_take ex]
    have hl := wd_len (ms.take n)
    rw [List.length_take] at hl
    refine atD_put (P := iS) (a := x.2) o rb (by omega) fun h2 y1 y2 y3 y4 o2 => ⟨by simp [el], fun m h1 h2 => ?_, y1 _ xx lpw, fun n o ne e => by rw [y2 n ne]; exact fr n o ne e, o2⟩
    rw [List.getElem?_set_ne (by omega), List.getElem?_set_ne (by omega)]
    exact ek m h1 h2
def sayT (ms : List Mk') (paths lot : List Str) : Bool := decide (ms.map (·.1) = srtT ((wdT ms).map (·.1))) && valsT (wdT ms) && hushAll (wdT ms) paths lot
theorem law_are_sayings_ok {h : Hh} {um up' ul : U} {ms : List Mk'} {paths lot : List Str} {P : U → Hh → Prop} (rm : iL iM h um ms) (rp : iL iS h up' paths) (rl : iL iS h ul lot) (g : GPs paths) (lp : paths.length ≤ 40) (gm : MkOk ms) (q : ∀ h', Ext h h' → P (.bl (sayT ms paths lot)) h') : ok (F__law_are_sayings [um, up', ul] h) P := by
  unfold F__law_are_sayings B__law_are_sayings
  rw [ok_mkF]
  have lm := gm.len
  refine okS_cut (fun us h' => ∃ ux h1, us = [some um, some up', some ul, some ux, some (.loc h1.size), none, none, none, none] ∧ Ext h h1 ∧ iL iS h1 ux (ms.map (·.1)) ∧ Ext h1 h' ∧ atD iS h' h1.size []) ?_ ?_
  · rw [okS_asg]
    simp only [ok_eTup, ok_aCons, ok_aNil, ok_eLc, ok_iSeq, ok_eVar, ok_eD0]
    refine ⟨um, rfl, t_lc1 (P := iM) (Q := iS) (fun x => x.1) rm (by omega) (fun x w h' hx he hw => ?_) fun ys h3 x3 r3 => ?_⟩
    · obtain ⟨a, b, ra, rb, t0, _⟩ := t_2 hw
      simp
      exact t0 ⟨Ext.refl, ra⟩
    · rw [o_tup]
      refine ⟨by rw [szl]; simp, ?_⟩
      rw [ok_gTup2 get_push_size]
      exact ⟨_, _, rfl, x3, r3, Ext.push.trans Ext.push, atD_nil.up Ext.push⟩
  rintro _ h2 ⟨ux, h1, rfl, x1, rx, x2, o2⟩
  have x12 := x1.trans x2
  obtain ⟨pm, us0, rfl, hp, rpm⟩ := rm
  refine okS_cut (fun us h' => us.length = 9 ∧ us[1]? = some (some up') ∧ us[2]? = some (some ul) ∧ us[3]? = some (some ux) ∧ us[4]? = some (some (.loc h1.size)) ∧ Ext h1 h' ∧ atD iS h' h1.size (wdT ms)) ?_ ?_
  · simp only [okS_for, ok_iSeq, ok_eVar]
    refine ⟨_, rfl, ?_⟩
    rw [mkIt_lst (x12.get hp)]
    refine words_loop (h0 := h1) x2 (x1.get hp) (Pm rpm fun _ _ r => up x1 r) lm (Nat.le_refl _) o2 rfl (by simp) (by simp) (by decide) (by decide) (by decide) fun us' h' el ek x fr o => ?_
    exact ⟨el, by rw [ek 1 (by decide) (by decide)]; rfl, by rw [ek 2 (by decide) (by decide)]; rfl, by rw [ek 3 (by decide) (by decide)]; rfl, by rw [ek 4 (by decide) (by decide)]; rfl, x, o⟩
  rintro us h3 ⟨el, e1, e2, e3, e4, x3, o3⟩
  have x13 := x1.trans x3
  refine okS_cut (fun us' h' => us' = us ∧ Ext h3 h' ∧ ms.map (·.1) = srtT ((wdT ms).map (·.1)) ∧ valsT (wdT ms) = true) ?_ ?_
  · rw [okS_if]
    simp only [ok_tOr, ok_tB, ok_eBin, ok_eVar, ok_eSort]
    refine ⟨_, e3, _, e4, _, itemsD o3.iD, _, sort_gen (fun s ds x gl => key_lpr gl) gm.wgl (by have := gm.wlen; simpa using this), ?_⟩
    have r7 : iL iS (h3.push (.lst ((srtT ((wdT ms).map (·.1))).map U.str))) (.loc h3.size) (srtT ((wdT ms).map (·.1))) := iL_mk (P := iS) (PS _)
    refine t_ne eLS (up (x3.trans Ext.push) rx) r7 (gl_sok gm.gls) (gl_sok (ht_gl_srt gm.wgl)) ?_
    refine ⟨_, rfl, ?_⟩
    by_cases he : ms.map (·.1) = srtT ((wdT ms).map (·.1))
    · rw [decide_eq_true he, if_neg (by simp)]
      simp only [ok_tNot, ok_tB]
      refine all_vals e4 (by omega) (o3.up Ext.push).iD gm.wlen fun h' x' => ⟨_, rfl, ?_⟩
      cases hv : valsT (wdT ms) with
      | true =>
        rw [if_neg (by simp), okS_nil]
        exact ⟨rfl, Ext.push.trans x', he, rfl⟩
      | false =>
        rw [if_pos (by simp)]
        have := q h' (x13.trans (Ext.push.trans x'))
        rw [show sayT ms paths lot = false by unfold sayT; rw [hv]; simp] at this
        simpa using this
    · rw [decide_eq_false he, if_pos (by simp)]
      have := q _ (x13.trans (Ext.push (o := .lst ((srtT ((wdT ms).map (·.1))).map U.str))))
      rw [show sayT ms paths lot = false by unfold sayT; rw [decide_eq_false he]; simp] at this
      simpa using this
  rintro _ h4 ⟨rfl, x4, he, hv⟩
  have x14 := x13.trans x4
  simp only [okS_seq, okS_ret]
  refine all_hush @law_is_hushed_ok e1 e2 e4 (by omega) g lp (up x14 rp) (up x14 rl) (o3.up x4).iD gm.wsok fun h' x' => ?_
  have := q h' (x14.trans x')
  rw [show sayT ms paths lot = hushAll (wdT ms) paths lot by unfold sayT; rw [hv, decide_eq_true he]; rfl] at this
  exact this
end P7
end
section
set_option maxHeartbeats 4000000
namespace P7
open PySem Mx My Wk L2
def lenT (ms : List Mk') (hs : List Ht) (paths : List Str) : Bool := decide ((ms.length : Int) = if paths = [] then 0 else (hs.headD (⟨#[]⟩, 0, 0)).2.1)
def plT (ms : List Mk') (paths : List Str) : Bool := ((ms.map (·.1)).map fun p => decide (p ∈ paths) || isFo p).all id
def dueT (ms : List Mk') (hs : List Ht) (paths lot : List Str) : Bool := plT ms paths && (sayT ms paths lot && lawHts hs paths lot) && lenT ms hs paths
/-- place == "" or place[-1] == "/" -/
theorem last_slash {us : Sl} {i : Nat} {s : Str} {h : Hh} {K : U → Hh → Prop} (e : us[i]? = some (some (.str s))) (ks : Sok s) (ls : s.length ≤ 1000) (q : K (.bl (isFo s)) h) : ok (eOr (eBin opEq (eVar i) (eC (.str ""))) (eBin opEq (eBin opIx (eVar i) (eUn opNeg (eC (.int 1)))) (eC (.str "/"))) us h) K := by
  simp only [ok_eOr, ok_eBin, ok_eVar, ok_eC, ok_eUn, o_neg]
  refine ⟨_, e, ?_⟩
  rw [o_eqS ks sok_emp, empt]
  refine ⟨_, rfl, ?_⟩
  unfold isFo at q
  by_cases h1 : s = ⟨#[]⟩
  · have e1 : (s == (⟨#[]⟩ : Str)) = true := by rw [h1]; rfl
    rw [e1] at q ⊢
    exact q
  · have e1 : (s == (⟨#[]⟩ : Str)) = false := beq_eq_false_iff_ne.mpr h1
    rw [e1] at q ⊢
    rw [if_neg (by simp)]
    refine ⟨_, e, ?_⟩
    obtain ⟨l, c, hc⟩ : ∃ l c, sl s = l ++ [c] := by
      rcases List.eq_nil_or_concat (sl s) with h0 | ⟨l, c, h0⟩
      · exact absurd (sl_inj (y := ⟨#[]⟩) (by rw [h0]; rfl)) h1
      · exact ⟨l, c, by rw [h0, List.concat_eq_append]⟩
    have kc : Sok ⟨#[c]⟩ := by
      rw [sok_of]
      intro z hz
      have hz : z ∈ [c] := hz
      rw [List.mem_singleton.mp hz]
      exact sok_of.mp ks c (by rw [hc]; simp)
    rw [o_ixS]
    refine ⟨by rw [szl]; omega, c, by rw [hc]; exact atI_last l c, ?_⟩
    rw [o_eqS kc (by decide +kernel), slash]
    have e2 : ((⟨#[c]⟩ : Str) == ⟨#[47]⟩) = (false || decide ((sl s).getLast? = some 47)) := by
      rw [hc, List.getLast?_concat, Bool.false_or]
      by_cases h2 : c = 47
      · rw [h2]; rfl
      · rw [decide_eq_false (fun z => h2 (Option.some.inj z))]
        exact beq_eq_false_iff_ne.mpr fun z => h2 (by injection z with z; injection z with z; injection z)
    rw [e2]
    exact q
theorem eLS0 {h : Hh} {u : U} {paths : List Str} {K : U → Hh → Prop} (r : iL iS h u paths) (g : GPs paths) (q : K (.bl (!decide (paths = []))) (h.push (.lst []))) : okO (opNe u (.loc h.size) (h.push (.lst []))) K := by
  refine t_ne eLS (up Ext.push r) (atL_nil (P := iS)).iL (fun x hx => ?_) (by simp) q
  obtain ⟨ds, y, gp⟩ := g x hx
  exact gp.sok
/-- heights[0][1] if paths != [] else 0 -/
theorem head_ix {h : Hh} {uh : U} {hs : List Ht} {K : U → Hh → Prop} (rh : iL iH h uh hs) (ne : hs ≠ []) (q : K (.int (hs.headD (⟨#[]⟩, 0, 0)).2.1) h) : okO (opIx uh (.int 0) h) fun x h1 => okO (opIx x (.int 1) h1) K := by
  cases hs with
  | nil => exact absurd rfl ne
  | cons x r =>
    have e0 : atI (x :: r) 0 = some x := by
      unfold atI ixN
      simp
    refine t_ix rh e0 fun w rw' => ?_
    obtain ⟨a, b, c, ra, rb, rc, t0, t1, _⟩ := t_3 rw'
    refine t1 ?_
    cases rb
    exact q
theorem hs_ne {hs : List Ht} {paths : List Str} (e : hs.map (·.1) = srtT (kIns paths ++ paths)) (ne : paths ≠ []) : hs ≠ [] := fun z => by
  rw [z] at e
  have := congrArg List.length e
  rw [srt_len, List.length_append] at this
  cases paths with
  | nil => exact ne rfl
  | cons a b => simp at this
/-! ### Few -/
def iFew (h : Hh) (u : U) (ms : List Mk') (hs : List Ht) : Prop := ∃ p um uh, u = .loc p ∧ h.get p = some (.ins "Few" [("marks", um), ("heights", uh)]) ∧ iL iM h um ms ∧ iL iH h uh hs
theorem iFew.up {h h' : Hh} {u : U} {ms : List Mk'} {hs : List Ht} (x : Ext h h') (r : iFew h u ms hs) : iFew h' u ms hs := by
  obtain ⟨p, um, uh, e, hp, r1, r2⟩ := r
  exact ⟨p, um, uh, e, x.get hp, My.up x r1, My.up x r2⟩
theorem fl_m {um uh : U} : ([((Str.ofString "marks"), um), (Str.ofString "heights", uh)] : List (Str × U)).lookup (Str.ofString "marks") = some um := by
  rw [List.lookup_cons]
  simp
theorem fl_h {um uh : U} : ([((Str.ofString "marks"), um), (Str.ofString "heights", uh)] : List (Str × U)).lookup (Str.ofString "heights") = some uh := by
  have e : ((Str.ofString "heights") == (Str.ofString "marks")) = false := by decide +kernel
  rw [List.lookup_cons, e]
  simp [List.lookup_cons]
theorem fld_m {h : Hh} {p : Nat} {um uh : U} {K : U → Hh → Prop} (hp : h.get p = some (.ins "Few" [("marks", um), ("heights", uh)])) (q : K um h) : okO (mFld "Few" "marks" (.loc p) h) K := by
  have : mFld "Few" "marks" (.loc p) h = some (um, h) := by
    unfold mFld
    simp only [hp]
    rw [if_pos trivial, fl_m]
    rfl
  rw [this]
  exact q
theorem fld_h {h : Hh} {p : Nat} {um uh : U} {K : U → Hh → Prop} (hp : h.get p = some (.ins "Few" [("marks", um), ("heights", uh)])) (q : K uh h) : okO (mFld "Few" "heights" (.loc p) h) K := by
  have : mFld "Few" "heights" (.loc p) h = some (uh, h) := by
    unfold mFld
    simp only [hp]
    rw [if_pos trivial, fl_h]
    rfl
  rw [this]
  exact q
end P7
end
section
set_option maxHeartbeats 4000000
namespace P7
open PySem Mx My Wk L2
theorem isPt_a {ds : List Str} (h : ∀ d ∈ ds, isNm d = true) (l : ds.length ≤ 4) : isPt (ds ++ [Str.ofString "a"]) = true := by
  unfold isPt
  have : isNm (Str.ofString "a") = true := by decide +kernel
  simp [this]
  exact ⟨by omega, h⟩
/-- is_folder_text of a place -/
theorem ift_gl {s x : Str} {ds : List Str} (gl : GL s ds x) {h : Hh} {P : U → Hh → Prop} (q : ∀ h', Ext h h' → P (.bl (isFo s)) h') : ok (F_is_folder_text [.str s] h) P := by
  have nsa : NoS (Str.ofString "a") := by unfold NoS; decide +kernel
  rcases gl.nx with hx | rfl
  · have gp : GP s ds x := ⟨gl.eq, gl.nm, hx, gl.len⟩
    have la : (Str.ofString "a").length = 1 := by decide +kernel
    have e : Txt.split (s ++ Str.ofString "a") ⟨#[47]⟩ = ds ++ [x ++ Str.ofString "a"] := by
      have : s ++ Str.ofString "a" = dirS ds ++ (x ++ Str.ofString "a") := by
        refine sl_inj ?_
        rw [gl.eq, sl_app, sl_app, sl_app, sl_app, List.append_assoc]
      rw [this]
      refine split_path (fun d hd => nm_nos (gl.nm d hd)) ?_
      unfold NoS
      rw [sl_app, List.mem_append]
      rintro (h | h)
      · exact nm_nos hx h
      · exact nsa h
    refine is_folder_text_ok gl.sok (by have := gl.slen; omega) e (fun p hp => ?_) (by have := gl.len; simp; omega) fun h' x' => ?_
    · rcases List.mem_append.mp hp with hp | hp
      · have := (nm_len (gl.nm p hp)).2; omega
      · rw [List.mem_singleton.mp hp, len_sl, sl_app, List.length_append, ← len_sl, ← len_sl, la]
        have := (nm_len hx).2
        omega
    · have h1 := isFo_path gp
      have := q h' x'
      rw [h1] at this
      unfold isFo at h1
      rw [Bool.or_eq_false_iff] at h1
      rw [h1.1, h1.2]
      exact this
  · have es : s = dirS ds := by rw [gl.eq]; exact sl_inj (by rw [sl_app]; simp)
    have e : Txt.split (s ++ Str.ofString "a") ⟨#[47]⟩ = ds ++ [Str.ofString "a"] := by
      rw [es]
      exact split_path (fun d hd => nm_nos (gl.nm d hd)) nsa
    have la : (Str.ofString "a").length = 1 := by decide +kernel
    refine is_folder_text_ok gl.sok (by have := gl.slen; omega) e (fun p hp => ?_) (by have := gl.len; simp; omega) fun h' x' => ?_
    · rcases List.mem_append.mp hp with hp | hp
      · have := (nm_len (gl.nm p hp)).2; omega
      · rw [List.mem_singleton.mp hp, la]; omega
    · have := q h' x'
      unfold isFo at this
      rw [isPt_a gl.nm gl.len, Bool.and_true]
      exact this
def plS (xs : List Str) (paths : List Str) : Bool := (xs.map fun p => decide (p ∈ paths) || isFo p).all id
def shT (ms : List Mk') (hs : List Ht) (paths lot : List Str) : Bool :=
  decide (ms.map (·.1) = srtT ((wdT ms).map (·.1))) && (valsT (wdT ms) && (plS (srtT ((wdT ms).map (·.1))) paths && (hushAll (wdT ms) paths lot && (decide (hs.map (·.1) = srtT (kIns paths ++ paths)) && (htsT isFo hs (insT paths) lot && lenT ms hs paths)))))
theorem shows_ok {h : Hh} {u up' ul : U} {ms : List Mk'} {hs : List Ht} {paths lot : List Str} {P : U → Hh → Prop} (rf : iFew h u ms hs) (rp : iL iS h up' paths) (rl : iL iS h ul lot) (g : GPs paths) (lp : paths.length ≤ 40) (gm : MkOk ms) (sk : ∀ x ∈ hs, Sok x.1) (l : hs.length ≤ 10000) (q : ∀ h', Ext h h' → P (.bl (shT ms hs paths lot)) h') : ok (F_Few_shows [u, up', ul] h) P := by
  unfold F_Few_shows B_Few_shows
  rw [ok_mkF]
  have lm := gm.len
  obtain ⟨pf, um, uh, rfl, hf, rm, rh⟩ := rf
  refine okS_cut (fun us h' => ∃ pi, us = [some (.loc pf), some up', some ul, none, some (.loc h.size), some (.loc pi), none, none, none, none, none] ∧ Ext h h' ∧ iD (iL iS) h' (.loc pi) (insT paths) ∧ pi ≠ h.size ∧ atD iS h' h.size []) ?_ ?_
  · rw [okS_asg]
    simp only [ok_eTup, ok_aCons, ok_aNil, ok_eCall, ok_eVar, ok_eD0]
    refine ⟨up', rfl, straight_in_ok (up Ext.push rp) g lp fun w h' lw x r nd => ?_⟩
    rw [o_tup]
    refine ⟨by rw [szl]; simp, ?_⟩
    rw [ok_gTup2 get_push_size]
    rw [Hh.size_push] at lw
    exact ⟨w, rfl, Ext.push.trans (x.trans Ext.push), up Ext.push r, by omega, (atD_nil.up x).up Ext.push⟩
  rintro _ h1 ⟨pi, rfl, x1, ri, npi, o1⟩
  obtain ⟨pm, us0, rfl, hp, rpm⟩ := id rm
  refine okS_cut (fun us h' => us.length = 11 ∧ us[0]? = some (some (.loc pf)) ∧ us[1]? = some (some up') ∧ us[2]? = some (some ul) ∧ us[4]? = some (some (.loc h.size)) ∧ us[5]? = some (some (.loc pi)) ∧ Ext h h' ∧ iD (iL iS) h' (.loc pi) (insT paths) ∧ atD iS h' h.size (wdT ms)) ?_ ?_
  · simp only [okS_for, ok_iSeq, ok_eUn, ok_eVar]
    refine ⟨_, rfl, fld_m (x1.get hf) ?_⟩
    rw [mkIt_lst (x1.get hp)]
    refine words_loop (h0 := h) x1 hp rpm lm (Nat.le_refl _) o1 rfl (by simp) (by simp) (by decide) (by decide) (by decide) fun us' h' el ek x fr o => ?_
    refine ⟨el, by rw [ek 0 (by decide) (by decide)]; rfl, by rw [ek 1 (by decide) (by decide)]; rfl, by rw [ek 2 (by decide) (by decide)]; rfl, by rw [ek 4 (by decide) (by decide)]; rfl, by rw [ek 5 (by decide) (by decide)]; rfl, x, ?_, o⟩
    obtain ⟨p, kvs, e, e2, r⟩ := ri
    cases e
    have en : ExtN h1 h' := fun n o e ne => by
      refine fr n o (fun z => ?_) e
      obtain ⟨ws, e3, _⟩ := o1
      rw [z, e3] at e
      exact ne _ _ (Option.some.inj e).symm
    exact ⟨_, kvs, rfl, fr _ _ npi e2, Pm r fun _ _ q => ⟨q.1, NoD.nod en q.2⟩⟩
  rintro us h2 ⟨el, e0, e1, e2, e4, e5, x2, ri2, o2⟩
  clear o1 ri
  have hwl := gm.wlen
  generalize hS : srtT ((wdT ms).map (·.1)) = S
  have gS : GLs S := by rw [← hS]; exact ht_gl_srt gm.wgl
  have lS : S.length ≤ 10000 := by rw [← hS, srt_len]; simpa using hwl
  refine okS_cut (fun us' h' => ∃ ux, us' = us.set 3 (some ux) ∧ Ext h2 h' ∧ iL iS h' ux S) ?_ ?_
  · rw [okS_set]
    simp only [ok_eSort, ok_eVar]
    refine ⟨_, e4, _, itemsD o2.iD, _, sort_gen (fun s ds x gl => key_pr gl) gm.wgl (by simpa using hwl), ?_⟩
    rw [hS]
    exact ⟨_, rfl, Ext.push, iL_mk (P := iS) (PS _)⟩
  rintro _ h3 ⟨ux, rfl, x3, rx⟩
  have e3 : (us.set 3 (some ux))[3]? = some (some ux) := List.getElem?_set_self (by omega)
  have n0 : (us.set 3 (some ux))[0]? = some (some (.loc pf)) := by rw [List.getElem?_set_ne (by decide)]; exact e0
  have n1 : (us.set 3 (some ux))[1]? = some (some up') := by rw [List.getElem?_set_ne (by decide)]; exact e1
  have n2 : (us.set 3 (some ux))[2]? = some (some ul) := by rw [List.getElem?_set_ne (by decide)]; exact e2
  have n4 : (us.set 3 (some ux))[4]? = some (some (.loc h.size)) := by rw [List.getElem?_set_ne (by decide)]; exact e4
  have n5 : (us.set 3 (some ux))[5]? = some (some (.loc pi)) := by rw [List.getElem?_set_ne (by decide)]; exact e5
  have nl : (us.set 3 (some ux)).length = 11 := by simpa using el
  generalize us.set 3 (some ux) = vs at *
  clear e0 e1 e2 e4 e5 el us
  have x23 := x2.trans x3
  -- [place for place, word in self.marks] != places
  refine okS_cut (fun us' h' => vs = us' ∧ Ext h3 h' ∧ ms.map (·.1) = S) ?_ ?_
  · rw [okS_if]
    simp only [ok_tB, ok_eBin, ok_eLc, ok_iSeq, ok_eUn, ok_eVar]
    refine ⟨_, n0, fld_m (x23.get hf) ?_⟩
    refine t_lc1 (P := iM) (Q := iS) (fun x => x.1) (up x23 rm) (by omega) (fun x w h' hx he hw => ?_) fun ys h4 x4 r4 => ⟨_, e3, ?_⟩
    · obtain ⟨a, b, ra, rb, _, _, tg⟩ := t_2 hw
      refine tg ⟨Ext.refl, ?_⟩
      simp only [ok_eVar]
      refine ⟨a, ?_, Ext.refl, ra⟩
      rw [List.getElem?_set_ne (by decide), List.getElem?_set_self]
      simp [nl]
    · refine t_ne eLS r4 (up x4 rx) (gl_sok gm.gls) (gl_sok gS) ⟨_, rfl, ?_⟩
      by_cases he : ms.map (·.1) = S
      · rw [decide_eq_true he, if_neg (by simp), okS_nil]
        exact ⟨rfl, x4, he⟩
      · rw [decide_eq_false he, if_pos (by simp)]
        have := q _ (x23.trans x4)
        rw [show shT ms hs paths lot = false by unfold shT; rw [hS, decide_eq_false he]; rfl] at this
        simpa using this
  rintro _ h4 ⟨rfl, x4, hA⟩
  have x24 := x23.trans x4
  refine okS_cut (fun us' h' => vs = us' ∧ Ext h4 h' ∧ valsT (wdT ms) = true) ?_ ?_
  · rw [okS_if]
    simp only [ok_tNot, ok_tB]
    refine all_vals n4 (by omega) ((o2.up x3).up x4).iD gm.wlen fun h' x' => ⟨_, rfl, ?_⟩
    cases hv : valsT (wdT ms) with
    | true => rw [if_neg (by simp), okS_nil]; exact ⟨rfl, x', rfl⟩
    | false =>
      rw [if_pos (by simp)]
      have := q _ (x24.trans x')
      rw [show shT ms hs paths lot = false by unfold shT; rw [hv]; simp] at this
      simpa using this
  rintro _ h5 ⟨rfl, x5, hB⟩
  have x25 := x24.trans x5
  refine okS_cut (fun us' h' => vs = us' ∧ Ext h5 h' ∧ plS S paths = true) ?_ ?_
  · rw [okS_if]
    simp only [ok_tNot, ok_tB, ok_eCb, ok_aCons, ok_aNil, ok_eLc, ok_iSeq, ok_eVar]
    refine ⟨_, e3, t_lc1 (P := iS) (Q := iB) (fun p => decide (p ∈ paths) || isFo p) (up (x4.trans x5) rx) (by omega) (fun s u h' hs' he hu => ?_) fun ys h3 x3 r3 => iB_all r3 ⟨_, rfl, ?_⟩⟩
    · cases hu
      obtain ⟨ds, x, gl⟩ := gS s hs'
      simp only [ok_gName]
      refine ⟨Ext.refl, ?_⟩
      rw [ok_eOr]
      simp only [ok_eBin, ok_eVar, o_in, ok_eCall, ok_aCons, ok_aNil]
      have e6 : ((wipeU vs [6]).set 6 (some (.str s)))[6]? = some (some (.str s)) := List.getElem?_set_self (by simp [nl])
      refine ⟨_, e6, _, by simp only [wipeU_cons, wipeU_nil]; rw [List.getElem?_set_ne (by decide), List.getElem?_set_ne (by decide)]; exact n1, _, t_in (up (x25.trans he) rp), _, rfl, ?_⟩
      by_cases hp : s ∈ paths
      · rw [decide_eq_true hp]
        exact ⟨Ext.refl, rfl⟩
      · rw [decide_eq_false hp, if_neg (by simp)]
        exact ⟨_, e6, ift_gl gl fun h' x' => ⟨x', rfl⟩⟩
    · show if (!plS S paths) = true then _ else _
      cases hv : plS S paths with
      | true => rw [if_neg (by simp), okS_nil]; exact ⟨rfl, x3, rfl⟩
      | false =>
        rw [if_pos (by simp)]
        have := q _ (x25.trans x3)
        rw [show shT ms hs paths lot = false by unfold shT; rw [hS, hv]; simp] at this
        simpa using this
  rintro _ h6 ⟨rfl, x6, hC⟩
  have x26 := x25.trans x6
  have y26 := x4.trans (x5.trans x6)
  refine okS_cut (fun us' h' => vs = us' ∧ Ext h6 h' ∧ hushAll (wdT ms) paths lot = true) ?_ ?_
  · rw [okS_if]
    simp only [ok_tNot, ok_tB]
    refine all_hush @is_hushed_ok n1 n2 n4 (by omega) g lp (up x26 rp) (up x26 rl) (((o2.up x3).up y26)).iD gm.wsok fun h' x' => ⟨_, rfl, ?_⟩
    cases hv : hushAll (wdT ms) paths lot with
    | true => rw [if_neg (by simp), okS_nil]; exact ⟨rfl, x', rfl⟩
    | false =>
      rw [if_pos (by simp)]
      have := q _ (x26.trans x')
      rw [show shT ms hs paths lot = false by unfold shT; rw [hv]; simp] at this
      simpa using this
  rintro _ h7 ⟨rfl, x7, hD⟩
  have x27 := x26.trans x7
  have y27 := x3.trans (y26.trans x7)
  refine okS_cut (fun us' h' => vs = us' ∧ Ext h7 h' ∧ hs.map (·.1) = srtT (kIns paths ++ paths)) ?_ ?_
  · rw [okS_if]
    simp only [ok_tB, ok_eBin, ok_eLc, ok_iSeq, ok_eUn, ok_eVar, ok_eSort, ok_eCb, ok_aCons, ok_aNil]
    refine ⟨_, n0, fld_h (x27.get hf) ?_⟩
    refine t_lc1 (P := iH) (Q := iS) (fun x => x.1) (up x27 rh) (by omega) (fun x w h' hx he hw => ?_) fun ys h8 x8 r8 => ⟨_, n5, ?_⟩
    · obtain ⟨a, b, c, ra, rb, rc, _, _, _, tg⟩ := t_3 hw
      refine tg ⟨Ext.refl, ?_⟩
      simp only [ok_eVar]
      refine ⟨a, ?_, Ext.refl, ra⟩
      rw [List.getElem?_set_ne (by decide), List.getElem?_set_ne (by decide), List.getElem?_set_self]
      simp [nl]
    · generalize U.loc h8.size = z at *
      generalize h8.push (.lst ys) = h9 at *
      refine t_listD (up (y27.trans x8) ri2) fun w h10 x10 r10 => ⟨_, n1, ?_⟩
      have la : ((insT paths).map (·.1) ++ paths).length ≤ 240 := all_len g lp
      refine t_add r10 (up (x27.trans (x8.trans x10)) rp) (by rw [List.length_append] at la; omega) fun w2 h11 x11 r11 => ?_
      refine ⟨_, itemsL r11, _, sort_gen (fun s ds x gl => key_pr gl) (all_gl g) (by omega), ?_⟩
      have r12 : iL iS (h11.push (.lst ((srtT (kIns paths ++ paths)).map U.str))) (.loc h11.size) (srtT (kIns paths ++ paths)) := iL_mk (P := iS) (PS _)
      refine t_ne eLS (up (x10.trans (x11.trans Ext.push)) r8) r12 (fun x hx => ?_) (gl_sok (ht_gl_srt (all_gl g))) ⟨_, rfl, ?_⟩
      · obtain ⟨y, hy, rfl⟩ := List.mem_map.mp hx
        exact sk y hy
      have xx : Ext h7 (h11.push (.lst ((srtT (kIns paths ++ paths)).map U.str))) := x8.trans (x10.trans (x11.trans Ext.push))
      by_cases he : hs.map (·.1) = srtT (kIns paths ++ paths)
      · rw [decide_eq_true he, if_neg (by simp), okS_nil]
        exact ⟨rfl, xx, he⟩
      · rw [decide_eq_false he, if_pos (by simp)]
        have := q _ (x27.trans xx)
        rw [show shT ms hs paths lot = false by unfold shT; rw [decide_eq_false he]; simp] at this
        simpa using this
  rintro _ h8 ⟨rfl, x8, hE⟩
  have x28 := x27.trans x8
  refine okS_cut (fun us' h' => vs = us' ∧ Ext h8 h' ∧ htsT isFo hs (insT paths) lot = true) ?_ ?_
  · rw [okS_if]
    simp only [ok_tNot, ok_tB, ok_eCall, ok_aCons, ok_aNil, ok_eUn, ok_eVar]
    refine ⟨_, n0, fld_h (x28.get hf) ⟨_, n5, _, n2, are_heights_ok (up x28 rh) (up (y27.trans x8) ri2) (up x28 rl) (ht_ok g lp hE fun s hs => isFo_all g hs) l fun h' x' => ⟨_, rfl, ?_⟩⟩⟩
    cases hv : htsT isFo hs (insT paths) lot with
    | true => rw [if_neg (by simp), okS_nil]; exact ⟨rfl, x', rfl⟩
    | false =>
      rw [if_pos (by simp)]
      have := q _ (x28.trans x')
      rw [show shT ms hs paths lot = false by unfold shT; rw [hv]; simp] at this
      simpa using this
  rintro _ h9 ⟨rfl, x9, hG⟩
  have x29 := x28.trans x9
  have ed : shT ms hs paths lot = lenT ms hs paths := by unfold shT; rw [hS, hA, hB, hC, hD, hE, hG]; simp
  rw [ed] at q
  simp only [okS_seq, okS_ret, ok_eBin, ok_eCb, ok_aCons, ok_aNil, ok_eVar, ok_eUn, ok_eIf, ok_tB, ok_eLst, o_lst]
  refine ⟨_, n0, fld_m (x29.get hf) (t_len (up x29 rm) ⟨_, n1, by rw [szl]; simp, eLS0 (up x29 rp) g ⟨_, rfl, ?_⟩⟩)⟩
  have qq := q _ (x29.trans (Ext.push (o := .lst [])))
  unfold lenT at qq
  by_cases hp : paths = []
  · rw [decide_eq_true hp, if_neg (by simp)]
    simp only [ok_eC, o_eqI]
    rw [if_pos hp] at qq
    rw [bqd]
    exact qq
  · rw [decide_eq_false hp, if_pos (by simp)]
    simp only [ok_eC, ok_eBin, ok_eVar, ok_eUn]
    refine ⟨_, n0, fld_h ((x29.trans Ext.push).get hf) (head_ix (up (x29.trans Ext.push) rh) (hs_ne hE hp) ?_)⟩
    rw [o_eqI, bqd]
    rw [if_neg hp] at qq
    exact qq
/-- what shows says is what is due -/
theorem sh_due {ms : List Mk'} {hs : List Ht} {paths lot : List Str} (g : GPs paths) : shT ms hs paths lot = dueT ms hs paths lot := by
  unfold shT dueT sayT lawHts
  by_cases hA : ms.map (·.1) = srtT ((wdT ms).map (·.1))
  · rw [← hA]
    by_cases hE : hs.map (·.1) = srtT (kIns paths ++ paths)
    · have e : htsT isFo hs (insT paths) lot = htsT (fun s => !decide (s ∈ paths)) hs (insT paths) lot := by
        unfold htsT
        rw [Bool.eq_iff_iff, List.all_eq_true, List.all_eq_true]
        have : ∀ x ∈ hs, okH isFo (knT hs) (insT paths) lot x = okH (fun s => !decide (s ∈ paths)) (knT hs) (insT paths) lot x := fun x hx => by
          have hm : x.1 ∈ kIns paths ++ paths := by
            rw [← srt_mem, ← hE]
            exact List.mem_map.mpr ⟨x, hx, rfl⟩
          unfold okH
          rw [isFo_all g hm]
        constructor
        · intro h x hx
          rw [← this x hx]
          exact h x hx
        · intro h x hx
          rw [this x hx]
          exact h x hx
      rw [e, decide_eq_true hE]
      have e2 : plS (ms.map (·.1)) paths = plT ms paths := rfl
      rw [e2]
      cases plT ms paths <;> cases valsT (wdT ms) <;> cases hushAll (wdT ms) paths lot <;> simp
    · rw [decide_eq_false hE]
      simp
  · rw [decide_eq_false hA]
    simp
end P7
end
section
set_option maxHeartbeats 4000000
namespace P7
open PySem Mx My Wk L2
/-! ### the tree of places -/
def innT (ins : Tb (List Str)) (s : Str) : List Str := (tget ins s).getD []
/-- all within a place, itself last -/
def trav (ins : Tb (List Str)) : Nat → Str → List Str
  | 0, _ => []
  | n + 1, s => if isFo s then ((innT ins s).flatMap (trav ins n)) ++ [s] else [s]
def numN (ins : Tb (List Str)) (lot : List Str) : Nat → Str → Int × Int
  | 0, _ => (0, 0)
  | n + 1, s => if isFo s then (mn ((innT ins s).map fun i => (numN ins lot n i).1).sum (1 + ((innT ins s).map fun i => (numN ins lot n i).2).sum), mn ((innT ins s).map fun i => (numN ins lot n i).2).sum (1 + ((innT ins s).map fun i => (numN ins lot n i).1).sum))
    else (if decide (s ∈ lot) then 1 else 0, if !decide (s ∈ lot) then 1 else 0)
def wfT (ins : Tb (List Str)) : Nat → Str → Prop
  | 0, _ => False
  | n + 1, s => (Sok s ∧ s.length ≤ 1000) ∧ (isFo s = true → ∃ inn, tget ins s = some inn ∧ inn.length ≤ 10000 ∧ ∀ i ∈ inn, wfT ins n i)
def word (hu : Bool) : Str := if hu then Str.ofString "on" else Str.ofString "off"
def sm0 (num : Str → Int × Int) (inn : List Str) : Int := (inn.map fun i => (num i).1).sum
def sm1 (num : Str → Int × Int) (inn : List Str) : Int := (inn.map fun i => (num i).2).sum
/-- is a word put at the place itself -/
def turn (num : Str → Int × Int) (inn : List Str) (hu : Bool) : Bool := if hu then decide (1 + sm0 num inn < sm1 num inn) else decide (1 + sm1 num inn < sm0 num inn)
def sprN (ins : Tb (List Str)) (lot : List Str) (num : Str → Int × Int) : Nat → Str → Bool → List Mk'
  | 0, _, _ => []
  | n + 1, s, hu => if isFo s then (if turn num (innT ins s) hu then [(s, word hu)] else []) ++ (innT ins s).flatMap (fun i => sprN ins lot num n i (if turn num (innT ins s) hu then !hu else hu))
    else if decide (s ∈ lot) = hu then [] else [(s, word hu)]
section
variable {ins : Tb (List Str)} {lot : List Str}
theorem num_stable : ∀ {n m : Nat} {s : Str}, wfT ins n s → n ≤ m → numN ins lot m s = numN ins lot n s
  | 0, _, _, h, _ => absurd h id
  | n + 1, 0, _, _, l => by omega
  | n + 1, m + 1, s, h, l => by
    unfold numN
    by_cases hf : isFo s = true
    · rw [if_pos hf, if_pos hf]
      obtain ⟨inn, e, _, hi⟩ := h.2 hf
      have ei : innT ins s = inn := by unfold innT; rw [e]; rfl
      rw [ei]
      have e1 : (inn.map fun i => (numN ins lot m i).1) = inn.map fun i => (numN ins lot n i).1 := List.map_congr_left fun i hm => by rw [num_stable (hi i hm) (by omega)]
      have e2 : (inn.map fun i => (numN ins lot m i).2) = inn.map fun i => (numN ins lot n i).2 := List.map_congr_left fun i hm => by rw [num_stable (hi i hm) (by omega)]
      rw [e1, e2]
    · rw [if_neg hf, if_neg hf]
theorem trav_stable : ∀ {n m : Nat} {s : Str}, wfT ins n s → n ≤ m → trav ins m s = trav ins n s
  | 0, _, _, h, _ => absurd h id
  | n + 1, 0, _, _, l => by omega
  | n + 1, m + 1, s, h, l => by
    unfold trav
    by_cases hf : isFo s = true
    · rw [if_pos hf, if_pos hf]
      obtain ⟨inn, e, _, hi⟩ := h.2 hf
      have ei : innT ins s = inn := by unfold innT; rw [e]; rfl
      rw [ei]
      congr 1
      rw [List.flatMap_def, List.flatMap_def]
      congr 1
      exact List.map_congr_left fun i hm => trav_stable (hi i hm) (by omega)
    · rw [if_neg hf, if_neg hf]
theorem spr_stable {num : Str → Int × Int} : ∀ {n m : Nat} {s : Str} {hu : Bool}, wfT ins n s → n ≤ m → sprN ins lot num m s hu = sprN ins lot num n s hu
  | 0, _, _, _, h, _ => absurd h id
  | n + 1, 0, _, _, _, l => by omega
  | n + 1, m + 1, s, hu, h, l => by
    unfold sprN
    by_cases hf : isFo s = true
    · rw [if_pos hf, if_pos hf]
      obtain ⟨inn, e, _, hi⟩ := h.2 hf
      have ei : innT ins s = inn := by unfold innT; rw [e]; rfl
      rw [ei]
      congr 1
      rw [List.flatMap_def, List.flatMap_def]
      congr 1
      exact List.map_congr_left fun i hm => spr_stable (hi i hm) (by omega)
    · rw [if_neg hf, if_neg hf]
theorem wf_up : ∀ {n m : Nat} {s : Str}, wfT ins n s → n ≤ m → wfT ins m s
  | 0, _, _, h, _ => absurd h id
  | n + 1, 0, _, _, l => by omega
  | n + 1, m + 1, s, h, l => ⟨h.1, fun hf => by
    obtain ⟨inn, e, l1, hi⟩ := h.2 hf
    exact ⟨inn, e, l1, fun i hm => wf_up (hi i hm) (by omega)⟩⟩
/-- no more sayings than places -/
theorem spr_len {num : Str → Int × Int} : ∀ {n : Nat} {s : Str} {hu : Bool}, (sprN ins lot num n s hu).length ≤ (trav ins n s).length
  | 0, _, _ => by simp [sprN]
  | n + 1, s, hu => by
    unfold sprN trav
    by_cases hf : isFo s = true
    · rw [if_pos hf, if_pos hf, List.length_append, List.length_append]
      have key : ∀ (l : List Str) (b : Bool), (l.flatMap fun i => sprN ins lot num n i b).length ≤ (l.flatMap (trav ins n)).length := by
        intro l b
        induction l with
        | nil => simp
        | cons i r ih =>
          rw [List.flatMap_cons, List.flatMap_cons, List.length_append, List.length_append]
          have := spr_len (num := num) (n := n) (s := i) (hu := b)
          omega
      have := key (innT ins s) (if turn num (innT ins s) hu then !hu else hu)
      have h2 : (if turn num (innT ins s) hu then [(s, word hu)] else ([] : List Mk')).length ≤ 1 := by split <;> simp
      simp only [List.length_singleton]
      omega
    · rw [if_neg hf, if_neg hf]
      split <;> simp
/-- sayings are at places within -/
theorem spr_mem {num : Str → Int × Int} : ∀ {n : Nat} {s : Str} {hu : Bool} {x : Mk'}, x ∈ sprN ins lot num n s hu → x.1 ∈ trav ins n s ∧ (x.2 = Str.ofString "on" ∨ x.2 = Str.ofString "off")
  | 0, _, _, _, h => by simp [sprN] at h
  | n + 1, s, hu, x, h => by
    have hw : ∀ b, word b = Str.ofString "on" ∨ word b = Str.ofString "off" := fun b => by cases b; exact .inr rfl; exact .inl rfl
    unfold sprN at h
    unfold trav
    by_cases hf : isFo s = true
    · rw [if_pos hf] at h ⊢
      rcases List.mem_append.mp h with h | h
      · split at h
        · rw [List.mem_singleton.mp h]
          exact ⟨by simp, hw _⟩
        · simp at h
      · obtain ⟨i, hi, h⟩ := List.mem_flatMap.mp h
        have := spr_mem h
        exact ⟨List.mem_append_left _ (List.mem_flatMap.mpr ⟨i, hi, this.1⟩), this.2⟩
    · rw [if_neg hf] at h ⊢
      split at h
      · simp at h
      · rw [List.mem_singleton.mp h]
        exact ⟨by simp, hw _⟩
end
/-! ### merging dicts -/
def mergeT {α : Type} (m m2 : Tb α) : Tb α := m2.foldl (fun acc kv => tput acc kv.1 kv.2) m
theorem tr_merge {α : Type} {R : U → α → Prop} : ∀ {more : List (Key × U)} {m2 : Tb α} {kvs : List (Key × U)} {m : Tb α}, TR R more m2 → TR R kvs m → TR R (mergeU kvs more) (mergeT m m2)
  | _, _, _, _, .nil, t => t
  | _, _, _, _, .cons (a := a) (b := b) r t2, t => by
    unfold mergeU mergeT
    rw [List.foldl_cons, List.foldl_cons, r.1]
    exact tr_merge t2 (tr_put r.2 t)
theorem merge_app {α : Type} : ∀ {m2 m : Tb α}, ((m ++ m2).map (·.1)).Nodup → mergeT m m2 = m ++ m2
  | [], m, _ => by simp [mergeT]
  | x :: r, m, nd => by
    unfold mergeT
    rw [List.foldl_cons]
    have h : thas m x.1 = false := by
      cases e : thas m x.1 with
      | false => rfl
      | true =>
        have := thas_mem.mp e
        rw [List.map_append, List.map_cons, List.nodup_append] at nd
        exact absurd rfl (nd.2.2 _ this _ (by simp))
    have e : tput m x.1 x.2 = m ++ [x] := by unfold tput; rw [h]; rfl
    rw [e]
    have := merge_app (m2 := r) (m := m ++ [x]) (by simpa using nd)
    unfold mergeT at this
    rw [this]
    simp
theorem tget_map {α : Type} {f : Str → α} {l : List Str} {k : Str} : tget (l.map fun t => (t, f t)) k = if k ∈ l then some (f k) else none := by
  induction l with
  | nil => rfl
  | cons x r ih =>
    unfold tget at ih ⊢
    rw [List.map_cons]
    by_cases h : x = k
    · rw [List.find?_cons_of_pos (by simpa using h), if_pos (by simp [h])]
      rw [← h]
      rfl
    · rw [List.find?_cons_of_neg (by simpa using h), ih]
      have : k ≠ x := Ne.symm h
      simp [this]
theorem keys_map {α : Type} {f : Str → α} {l : List Str} : (l.map fun t => (t, f t)).map (·.1) = l := by
  rw [List.map_map]
  exact (List.map_congr_left fun _ _ => rfl).trans (List.map_id _)
theorem atD_upd {α : Type} {P : Pd α} [Flat P] {h : Hh} {p q : Nat} {m m2 : Tb α} {K : U → Hh → Prop} (r : atD P h p m) (r2 : iD P h (.loc q) m2) (ne : p ≠ q) (l : m.length + m2.length ≤ 16777216) (k : ∀ h', (∀ h0, Ext h0 h → h0.size ≤ p → Ext h0 h') → (∀ n, n ≠ p → h'.get n = h.get n) → h'.size = h.size → ExtT h h' → atD P h' p (mergeT m m2) → K .non h') : okO (mUpdate (.loc p) [.loc q] h) K := by
  obtain ⟨us, e, b⟩ := r
  obtain ⟨q', ws, eq, e2, c⟩ := r2
  cases eq
  have t : ExtT h (h.set p (.dic false (mergeU us ws))) := ExtT.setD e
  have : mUpdate (.loc p) [.loc q] h = some (.non, h.set p (.dic false (mergeU us ws))) := by
    unfold mUpdate
    simp only [e, e2]
    rw [if_pos (by rw [Plen b, Plen c, szl]; simp [ne, l])]
  rw [this]
  exact k _ (fun h0 x l => x.set l) (fun n ne => Hh.get_set_ne ne) Hh.size_set t ⟨_, get_set_same e, tr_merge (R := P (h.set p (.dic false (mergeU us ws)))) (Pm c fun _ _ q => ⟨q.1, Flat.flat t q.2⟩) (Pm b fun _ _ q => ⟨q.1, Flat.flat t q.2⟩)⟩
end P7
end
section
set_option maxHeartbeats 4000000
namespace P7
open PySem Mx My Wk L2
abbrev numT (ins : Tb (List Str)) (lot : List Str) (s : Str) : Int × Int := numN ins lot 10 s
theorem num_eq {ins : Tb (List Str)} {lot : List Str} {n : Nat} {s : Str} (w : wfT ins (n + 1) s) (l : n + 1 ≤ 10) : numT ins lot s = if isFo s then (mn (sm0 (numT ins lot) (innT ins s)) (1 + sm1 (numT ins lot) (innT ins s)), mn (sm1 (numT ins lot) (innT ins s)) (1 + sm0 (numT ins lot) (innT ins s))) else (if decide (s ∈ lot) then 1 else 0, if !decide (s ∈ lot) then 1 else 0) := by
  have e0 : numT ins lot s = numN ins lot (n + 1) s := num_stable w l
  rw [e0]
  unfold numN sm0 sm1
  by_cases hf : isFo s = true
  · rw [if_pos hf, if_pos hf]
    obtain ⟨inn, e, _, hi⟩ := w.2 hf
    have ei : innT ins s = inn := by unfold innT; rw [e]; rfl
    rw [ei]
    have e1 : (inn.map fun i => (numN ins lot n i).1) = inn.map fun i => (numT ins lot i).1 := List.map_congr_left fun i hm => by rw [← num_stable (lot := lot) (hi i hm) (by omega : n ≤ 10)]
    have e2 : (inn.map fun i => (numN ins lot n i).2) = inn.map fun i => (numT ins lot i).2 := List.map_congr_left fun i hm => by rw [← num_stable (lot := lot) (hi i hm) (by omega : n ≤ 10)]
    rw [e1, e2]
  · rw [if_neg hf, if_neg hf]
theorem sum_take {α : Type} {l : List α} {f : α → Int} {i : Nat} {a : α} (e : l[i]? = some a) : ((l.take (i + 1)).map f).sum = ((l.take i).map f).sum + f a := by
  rw [List.take_add_one, e, List.map_append, List.sum_append]
  simp
theorem flat_take {α β : Type} {l : List α} {f : α → List β} {i : Nat} {a : α} (e : l[i]? = some a) : (l.take (i + 1)).flatMap f = (l.take i).flatMap f ++ f a := by
  rw [List.take_add_one, e, List.flatMap_append]
  simp
theorem flat_sub {α β : Type} {l : List α} {f : α → List β} {i : Nat} : ((l.take i).flatMap f).Sublist (l.flatMap f) := by
  have : l.flatMap f = (l.take i).flatMap f ++ (l.drop i).flatMap f := by rw [← List.flatMap_append, List.take_append_drop]
  rw [this]
  exact List.sublist_append_left _ _
theorem needed_ok {ins : Tb (List Str)} {lot : List Str} : ∀ (n : Nat) {s : Str} {h : Hh} {ui ul : U} {P : U → Hh → Prop}, n ≤ 10 → iD (iL iS) h ui ins → iL iS h ul lot → wfT ins n s → (trav ins n s).Nodup → (trav ins n s).length ≤ 10000 → (∀ p h', h.size ≤ p → Ext h h' → iD (iT2 iI iI) h' (.loc p) ((trav ins n s).map fun t => (t, numT ins lot t)) → P (.loc p) h') → ok (R_needed n [.str s, ui, ul] h) P
  | 0, _, _, _, _, _, _, _, _, w, _, _, _ => absurd w id
  | n + 1, s, h, ui, ul, P, ln, ri, rl, w, nd, lt, q => by
    have hnum := num_eq (lot := lot) w ln
    unfold R_needed B_needed
    rw [ok_mkF]
    cases hf : isFo s with
    | false =>
      have et : trav ins (n + 1) s = [s] := by unfold trav; rw [hf]; rfl
      rw [et] at q
      rw [hf] at hnum
      rw [okS_seq, okS_if]
      simp only [ok_tNot, ok_tB, ok_eCall, ok_aCons, ok_aNil, ok_eVar]
      refine ⟨_, rfl, is_folder_ok w.1.1 ⟨_, rfl, ?_⟩⟩
      show if (!isFo s) = true then _ else _
      rw [hf, if_pos (by simp)]
      simp only [okS_seq, okS_ret]
      unfold eDisp pCons pNil
      simp only [ok_bind, ok_eVar, ok_eTup, ok_aCons, ok_aNil, ok_eCb, ok_eBin, o_in, o_nin, o_tup, ok_lft, ok_ok]
      refine ⟨_, rfl, _, rfl, _, rfl, _, t_in (up Ext.push rl), ?_⟩
      rw [o_intB]
      refine ⟨_, rfl, _, rfl, _, t_in (up Ext.push rl), ?_⟩
      rw [o_intB]
      refine ⟨by rw [szl]; simp, ?_⟩
      generalize hh1 : h.push (.dic false []) = h1
      have hg : (h1.push (.tup [.int (if decide (s ∈ lot) = true then 1 else 0), .int (if (!decide (s ∈ lot)) = true then 1 else 0)])).get h.size = some (.dic false []) := Ext.push.get (by rw [← hh1]; exact get_push_size)
      unfold mDisp
      simp only [hg]
      rw [show List.mapM Mx.keyP [(U.str s, U.loc h1.size)] = some [(Sum.inr s, U.loc h1.size)] from rfl]
      dsimp only
      rw [if_pos (by simp), okO_some]
      refine q _ _ (Nat.le_refl _) ((Ext.push.trans (by rw [hh1]; exact Ext.push)).set (Nat.le_refl _)) ⟨_, _, rfl, get_set_same hg, ?_⟩
      refine .cons ⟨rfl, ?_⟩ .nil
      show iT2 iI iI _ (.loc h1.size) (numT ins lot s)
      rw [hnum]
      exact Flat.flat (ExtT.setD hg) (iT2_mk (P := iI) (Q := iI) rfl rfl)
    | true =>
      have et : trav ins (n + 1) s = (innT ins s).flatMap (trav ins n) ++ [s] := by unfold trav; rw [hf]; rfl
      obtain ⟨inn, ei, li, wi⟩ := w.2 hf
      have eI : innT ins s = inn := by unfold innT; rw [ei]; rfl
      rw [eI] at et
      rw [et] at nd lt q
      rw [hf, eI] at hnum
      refine okS_cut (fun us h' => us = [some (.str s), some ui, some ul, none, none, none, none] ∧ h = h') ?_ ?_
      · rw [okS_if]
        simp only [ok_tNot, ok_tB, ok_eCall, ok_aCons, ok_aNil, ok_eVar]
        refine ⟨_, rfl, is_folder_ok w.1.1 ⟨_, rfl, ?_⟩⟩
        show if (!isFo s) = true then _ else _
        rw [hf, if_neg (by simp), okS_nil]
        exact ⟨rfl, rfl⟩
      rintro _ _ ⟨rfl, rfl⟩
      refine okS_cut (fun us h' => us = [some (.str s), some ui, some ul, none, some (.loc h.size), some (.int 0), some (.int 0)] ∧ h' = h.push (.dic false [])) ?_ ?_
      · simp only [okS_par, ok_aCons, ok_aNil, ok_eD0, ok_eC]
        refine ⟨rfl, rfl, ?_⟩
        first | rfl | trivial
      rintro _ _ ⟨rfl, rfl⟩
      refine okS_cut (fun us h' => (∃ w3, us = [some (.str s), some ui, some ul, w3, some (.loc h.size), some (.int (sm0 (numT ins lot) inn)), some (.int (sm1 (numT ins lot) inn))]) ∧ Ext h h' ∧ atD (iT2 iI iI) h' h.size ((inn.flatMap (trav ins n)).map fun t => (t, numT ins lot t))) ?_ ?_
      · simp only [okS_for, ok_iSeq, ok_eBin, ok_eVar]
        refine ⟨_, rfl, _, rfl, t_dget (up Ext.push ri) ei fun v rv => ?_⟩
        obtain ⟨pv, us0, rfl, hv, rp⟩ := rv
        rw [mkIt_lst hv]
        have npv : pv ≠ h.size := fun z => by
          rw [z, get_push_size] at hv
          cases hv
        refine for_list (fun j us h' => (∃ w3, us = [some (.str s), some ui, some ul, w3, some (.loc h.size), some (.int (sm0 (numT ins lot) (inn.take j))), some (.int (sm1 (numT ins lot) (inn.take j)))]) ∧ Ext h h' ∧ h'.get pv = some (.lst us0) ∧ atD (iT2 iI iI) h' h.size (((inn.take j).flatMap (trav ins n)).map fun t => (t, numT ins lot t))) rp (by omega) ⟨⟨_, rfl⟩, Ext.push, hv, atD_nil⟩ (fun j us h' k => k.2.2.1) ?_ ?_
        · rintro us h' ⟨e, x, _, o⟩
          rw [List.take_length] at e o
          exact ⟨e, x, o⟩
        · rintro j i u us h' ej ru ⟨⟨w3, rfl⟩, x, hv', o⟩
          cases ru
          have him : i ∈ inn := List.mem_of_getElem? ej
          have hsub : (trav ins n i).Sublist (inn.flatMap (trav ins n)) := by
            refine List.Sublist.trans ?_ (flat_sub (l := inn) (f := trav ins n) (i := j + 1))
            rw [flat_take ej]
            exact List.sublist_append_right _ _
          have nd1 : (inn.flatMap (trav ins n)).Nodup := (List.nodup_append.mp nd).1
          have lt1 : (inn.flatMap (trav ins n)).length ≤ 10000 := by rw [List.length_append] at lt; omega
          have hl2 : ((inn.take (j + 1)).flatMap (trav ins n)).length ≤ 10000 := Nat.le_trans (flat_sub (l := inn) (f := trav ins n) (i := j + 1)).length_le lt1
          rw [flat_take ej, List.length_append] at hl2
          have nd2 : ((inn.take (j + 1)).flatMap (trav ins n)).Nodup := nd1.sublist flat_sub
          rw [flat_take ej] at nd2
          simp only [ok_gName]
          refine okB_of ?_
          refine okS_cut (fun us h2 => us = [some (.str s), some ui, some ul, some (.str i), some (.loc h.size), some (.int (sm0 (numT ins lot) (inn.take j))), some (.int (sm1 (numT ins lot) (inn.take j)))] ∧ Ext h h2 ∧ h2.get pv = some (.lst us0) ∧ atD (iT2 iI iI) h2 h.size (((inn.take (j + 1)).flatMap (trav ins n)).map fun t => (t, numT ins lot t))) ?_ ?_
          · simp only [okS_expr, ok_eMt, ok_eVar, ok_aCons, ok_aNil, ok_eCall]
            refine ⟨_, rfl, ?_, _, rfl, _, rfl, _, rfl, ?_⟩
            · obtain ⟨ws, e, _⟩ := o
              unfold isDu
              simp only [e]
            refine needed_ok n (by omega) (up x ri) (up x rl) (wi i him) (nd1.sublist hsub) (Nat.le_trans hsub.length_le lt1) fun p2 h2 l2 x2 r2 => ?_
            have np : h.size ≠ p2 := by
              obtain ⟨ws, e, _⟩ := o
              have := Hh.get_lt e
              omega
            refine atD_upd (P := iT2 iI iI) (o.up x2) r2 np (by rw [List.length_map, List.length_map]; omega) fun h3 y1 y2 y3 y4 o3 => ⟨rfl, y1 _ (x.trans x2) (Nat.le_refl _), ?_, ?_⟩
            · rw [y2 _ npv]
              exact x2.get hv'
            · rw [merge_app] at o3
              · rw [flat_take ej, List.map_append]
                exact o3
              · rw [← List.map_append, keys_map]
                exact nd2
          rintro _ h2 ⟨rfl, x2, hv2, o2⟩
          have hti : i ∈ trav ins n i := by
            cases n with
            | zero => exact absurd (wi i him) id
            | succ n =>
              unfold trav
              split <;> simp
          have hg : tget (((inn.take (j + 1)).flatMap (trav ins n)).map fun t => (t, numT ins lot t)) i = some (numT ins lot i) := by
            rw [tget_map, if_pos]
            rw [flat_take ej]
            exact List.mem_append_right _ hti
          simp only [okS_seq, okS_aug, ok_eBin, ok_eVar, ok_eC, okS_nil]
          refine ⟨_, rfl, _, rfl, _, rfl, t_dget o2.iD hg fun v rv => ?_⟩
          obtain ⟨a, b, ra, rb, t0, t1, _⟩ := t_2 rv
          cases ra
          cases rb
          refine t0 ?_
          rw [o_addII]
          refine ⟨_, rfl, _, rfl, _, rfl, t_dget o2.iD hg fun v rv => ?_⟩
          obtain ⟨a, b, ra, rb, t0, t1, _⟩ := t_2 rv
          cases ra
          cases rb
          refine t1 ?_
          rw [o_addII]
          refine ⟨⟨some (.str i), ?_⟩, x2, hv2, o2⟩
          unfold sm0 sm1
          rw [sum_take ej, sum_take ej]
          rfl
      rintro _ h2 ⟨⟨w3, rfl⟩, x2, o2⟩
      simp only [okS_seq, okS_put, ok_eTup, ok_aCons, ok_aNil, ok_eCb, ok_eVar, ok_eBin, ok_eC, okS_ret]
      refine ⟨_, rfl, _, rfl, ?_⟩
      rw [o_addI, o_min]
      refine ⟨_, rfl, _, rfl, ?_⟩
      rw [o_addI, o_min, o_tup]
      refine ⟨by rw [szl]; simp, _, rfl, _, rfl, ?_⟩
      have lt1 : (inn.flatMap (trav ins n)).length ≤ 10000 := by rw [List.length_append] at lt; omega
      refine atD_put (P := iT2 iI iI) (a := numT ins lot s) (o2.up Ext.push) (by rw [hnum]; exact iT2_mk (P := iI) (Q := iI) rfl rfl) (by rw [List.length_map]; omega) fun h3 y1 y2 y3 y4 o3 => ⟨_, rfl, q _ _ (Nat.le_refl _) (y1 _ x2.pushR (Nat.le_refl _)) ?_⟩
      have hs : thas ((inn.flatMap (trav ins n)).map fun t => (t, numT ins lot t)) s = false := by
        cases e : thas ((inn.flatMap (trav ins n)).map fun t => (t, numT ins lot t)) s with
        | false => rfl
        | true =>
          have := thas_mem.mp e
          rw [keys_map] at this
          exact absurd rfl ((List.nodup_append.mp nd).2.2 _ this _ (by simp))
      have ep : tput ((inn.flatMap (trav ins n)).map fun t => (t, numT ins lot t)) s (numT ins lot s) = ((inn.flatMap (trav ins n)) ++ [s]).map fun t => (t, numT ins lot t) := by
        unfold tput
        rw [hs, List.map_append]
        rfl
      rw [ep] at o3
      exact o3.iD
end P7
end
section
set_option maxHeartbeats 4000000
namespace P7
open PySem Mx My Wk L2
theorem word_e {us : Sl} {h : Hh} {i : Nat} {hu : Bool} {K : U → Hh → Prop} (e : us[i]? = some (some (.bl hu))) (q : K (.str (word hu)) h) : ok (eIf (tB' (eVar i)) (eC (.str "on")) (eC (.str "off")) us h) K := by
  simp only [ok_eIf, ok_tB, ok_eVar, ok_eC]
  refine ⟨_, e, _, rfl, ?_⟩
  cases hu
  · exact q
  · exact q
theorem sumW_sm {num : Str → Int × Int} {inn : List Str} {kn : Tb (Int × Int)} (hk : ∀ i ∈ inn, tget kn i = some (num i)) : sumW kn inn 0 = sm0 num inn ∧ sumW kn inn 1 = sm1 num inn := by
  unfold sumW sm0 sm1
  constructor
  · congr 1
    refine List.map_congr_left fun i hi => ?_
    rw [hk i hi]
    simp
  · congr 1
    refine List.map_congr_left fun i hi => ?_
    rw [hk i hi]
    simp
theorem trav_self {ins : Tb (List Str)} {n : Nat} {s : Str} (w : wfT ins n s) : s ∈ trav ins n s := by
  cases n with
  | zero => exact absurd w id
  | succ n =>
    unfold trav
    split <;> simp
theorem t_dget0 {α : Type} {P : Pd α} {h0 h : Hh} {u : U} {m : Tb α} {k : Str} {v : α} {K : U → Hh → Prop} (r : iD P h0 u m) (x : Ext h0 h) (e : tget m k = some v) (kk : ∀ w, P h0 w v → K w h) : okO (opIx u (.str k) h) K := by
  obtain ⟨p, us, rfl, hp, r⟩ := r
  obtain ⟨w, e1, e2⟩ := (tr_get (k := k) r).2 v e
  rw [o_ixD (x.get hp)]
  exact ⟨w, e1, kk w e2⟩
theorem spread_ok {ins : Tb (List Str)} {lot : List Str} {kn : Tb (Int × Int)} {num : Str → Int × Int} : ∀ (n : Nat) {s : Str} {h : Hh} {ui ul uk : U} {hu : Bool} {P : U → Hh → Prop}, iD (iL iS) h ui ins → iL iS h ul lot → iD (iT2 iI iI) h uk kn → wfT ins n s → (∀ t ∈ trav ins n s, tget kn t = some (num t)) → (trav ins n s).length ≤ 10000 → (∀ p h', h.size ≤ p → Ext h h' → iL iM h' (.loc p) (sprN ins lot num n s hu) → P (.loc p) h') → ok (R_spread n [.str s, ui, ul, uk, .bl hu] h) P
  | 0, _, _, _, _, _, _, _, _, _, _, w, _, _, _ => absurd w id
  | n + 1, s, h, ui, ul, uk, hu, P, ri, rl, rk, w, hk, lt, q => by
    unfold R_spread B_spread
    rw [ok_mkF]
    cases hf : isFo s with
    | false =>
      have et : sprN ins lot num (n + 1) s hu = if decide (s ∈ lot) = hu then [] else [(s, word hu)] := by unfold sprN; rw [hf]; rfl
      rw [et] at q
      rw [okS_seq, okS_if]
      simp only [ok_tNot, ok_tB, ok_eCall, ok_aCons, ok_aNil, ok_eVar]
      refine ⟨_, rfl, is_folder_ok w.1.1 ⟨_, rfl, ?_⟩⟩
      show if (!isFo s) = true then _ else _
      rw [hf, if_pos (by simp)]
      rw [okS_seq, okS_if]
      simp only [ok_tB, ok_eBin, ok_eVar, o_in]
      refine ⟨_, rfl, _, rfl, _, t_in rl, _, rfl, ?_⟩
      rw [o_eqB]
      refine ⟨_, rfl, ?_⟩
      by_cases he : decide (s ∈ lot) = hu
      · rw [if_pos he] at q
        rw [if_pos (by rw [beq_iff_eq]; exact he)]
        simp only [okS_seq, okS_ret, ok_eLst, ok_aNil, o_lst]
        exact ⟨by rw [szl]; simp, q _ _ (Nat.le_refl _) Ext.push (atL_nil (P := iM)).iL⟩
      · rw [if_neg he] at q
        rw [if_neg (by rw [beq_iff_eq]; exact he)]
        simp only [okS_seq, okS_nil, okS_ret, ok_eLst, ok_aCons, ok_aNil, ok_eTup, ok_eVar]
        refine ⟨_, rfl, word_e rfl ?_⟩
        rw [o_tup]
        refine ⟨by rw [szl]; simp, ?_⟩
        rw [o_lst]
        refine ⟨by rw [szl]; simp, q _ _ (by rw [Hh.size_push]; omega) (Ext.push.trans Ext.push) (iL_mk (P := iM) (.cons (iT2_mk (P := iS) (Q := iS) rfl rfl) .nil))⟩
    | true =>
      obtain ⟨inn, ei, li, wi⟩ := w.2 hf
      have eI : innT ins s = inn := by unfold innT; rw [ei]; rfl
      have et : trav ins (n + 1) s = inn.flatMap (trav ins n) ++ [s] := by unfold trav; rw [hf, eI]; rfl
      have es : sprN ins lot num (n + 1) s hu = (if turn num inn hu then [(s, word hu)] else []) ++ inn.flatMap (fun i => sprN ins lot num n i (if turn num inn hu then !hu else hu)) := by rw [sprN, if_pos hf, eI]
      rw [et] at lt hk
      rw [es] at q
      have hki : ∀ i ∈ inn, tget kn i = some (num i) := fun i hi => hk i (List.mem_append_left _ (List.mem_flatMap.mpr ⟨i, hi, trav_self (wi i hi)⟩))
      have hsm := sumW_sm hki
      refine okS_cut (fun us h' => us = [some (.str s), some ui, some ul, some uk, some (.bl hu), none, none, none, none] ∧ h = h') ?_ ?_
      · rw [okS_if]
        simp only [ok_tNot, ok_tB, ok_eCall, ok_aCons, ok_aNil, ok_eVar]
        refine ⟨_, rfl, is_folder_ok w.1.1 ⟨_, rfl, ?_⟩⟩
        show if (!isFo s) = true then _ else _
        rw [hf, if_neg (by simp), okS_nil]
        exact ⟨rfl, rfl⟩
      rintro _ _ ⟨rfl, rfl⟩
      refine okS_cut (fun us h' => ∃ uz, us = [some (.str s), some ui, some ul, some uk, some (.bl hu), some uz, none, none, none] ∧ Ext h h' ∧ iL iI h' uz [sm0 num inn, sm1 num inn]) ?_ ?_
      · rw [okS_set, ok_eLc]
        simp only [ok_iSeq, ok_eTup, ok_aCons, ok_aNil, ok_eC, o_tup]
        refine ⟨by rw [szl]; simp, ?_⟩
        refine lc_tup (A := iI) (F := iI) (xs := [(0 : Int), 1]) (fun w => sumW kn inn w) get_push_size (.cons rfl (.cons rfl .nil)) (by simp) (fun w u h3 hw he hu' => ?_) fun ys h3 he hz => ?_
        · cases hu'
          simp only [ok_gName]
          refine ⟨Ext.refl, ?_⟩
          have hw2 : w = 0 ∨ w = 1 := by simpa using hw
          have x3 : Ext h h3 := Ext.push.trans he
          refine sum_in (a := 1) (b := 0) (c := 3) (d := 7) (w := w) (up x3 ri) (up x3 rk) ei li (fun i hi => ⟨_, hki i hi⟩) hw2 rfl rfl rfl (by simp) (by decide) (by decide) (by decide) (fun us' h' e => ?_) fun h' x' => ⟨x', rfl⟩
          rw [ok_eVar, e 8 (by decide)]
          exact ⟨_, rfl, rfl, rfl⟩
        · refine ⟨_, rfl, Ext.push.trans he, ?_⟩
          have : [(0 : Int), 1].map (fun w => sumW kn inn w) = [sm0 num inn, sm1 num inn] := by rw [List.map_cons, List.map_cons, hsm.1, hsm.2]; rfl
          rw [this] at hz
          exact hz
      rintro _ h2 ⟨uz, rfl, x2, rz⟩
      refine okS_cut (fun us h' => us = [some (.str s), some ui, some ul, some uk, some (.bl hu), some uz, some (.loc h2.size), none, none] ∧ h' = h2.push (.lst [])) ?_ ?_
      · simp only [okS_set, ok_eLst, ok_aNil, o_lst]
        refine ⟨by rw [szl]; simp, rfl, ?_⟩
        first | rfl | trivial
      rintro _ _ ⟨rfl, rfl⟩
      refine okS_cut (fun us h' => us = [some (.str s), some ui, some ul, some uk, some (.bl (if turn num inn hu then !hu else hu)), some uz, some (.loc h2.size), none, none] ∧ Ext h2 h' ∧ atL iM h' h2.size (if turn num inn hu then [(s, word hu)] else [])) ?_ ?_
      · rw [okS_if]
        simp only [ok_tB, ok_eBin, ok_eVar, ok_eCb, ok_aCons, ok_aNil, ok_eC, o_intB, o_sub]
        refine ⟨_, rfl, _, rfl, ?_⟩
        have rz' := up (Ext.push (o := .lst [])) rz
        have tt : okO (opIx uz (.int (if hu then 1 else 0)) (h2.push (.lst []))) fun x h' => ∃ u, some (some (U.bl hu)) = some (some u) ∧ True := by
          cases hu
          · exact t_ix rz' (i := 0) rfl fun _ _ => ⟨_, rfl, trivial⟩
          · exact t_ix rz' (i := 1) rfl fun _ _ => ⟨_, rfl, trivial⟩
        clear tt
        have fin : ∀ b, b = turn num inn hu → if b = true then okS (sSeq (sExpr (eMt isL mAppend (eVar 6) (aCons (eTup (aCons (eVar 0) (aCons (eIf (tB' (eVar 4)) (eC (.str "on")) (eC (.str "off"))) (aNil)))) (aNil)))) (sSeq (sAsg (eNot (eVar 4)) (gName 4)) (sNil)) [some (.str s), some ui, some ul, some uk, some (.bl hu), some uz, some (.loc h2.size), none, none] (h2.push (.lst []))) (fun us h' => us = [some (.str s), some ui, some ul, some uk, some (.bl (if turn num inn hu then !hu else hu)), some uz, some (.loc h2.size), none, none] ∧ Ext h2 h' ∧ atL iM h' h2.size (if turn num inn hu then [(s, word hu)] else [])) P
            else okS (sNil [some (.str s), some ui, some ul, some uk, some (.bl hu), some uz, some (.loc h2.size), none, none] (h2.push (.lst []))) (fun us h' => us = [some (.str s), some ui, some ul, some uk, some (.bl (if turn num inn hu then !hu else hu)), some uz, some (.loc h2.size), none, none] ∧ Ext h2 h' ∧ atL iM h' h2.size (if turn num inn hu then [(s, word hu)] else [])) P := by
          rintro _ rfl
          cases ht : turn num inn hu with
          | false =>
            rw [if_neg (by simp), okS_nil]
            exact ⟨rfl, Ext.push, atL_nil⟩
          | true =>
            rw [if_pos rfl]
            simp only [okS_seq, okS_expr, ok_eMt, ok_eVar, ok_aCons, ok_aNil, ok_eTup, okS_set, ok_eNot, okS_nil]
            refine ⟨_, rfl, t_isL (atL_nil (P := iM)).iL, _, rfl, word_e rfl ?_⟩
            rw [o_tup]
            refine ⟨by rw [szl]; simp, ?_⟩
            refine atL_app (P := iM) (a := (s, word hu)) ((atL_nil (P := iM)).up Ext.push) (iT2_mk (P := iS) (Q := iS) rfl rfl) (by simp) fun h3 y1 y2 y3 y4 o3 => ⟨_, rfl, _, rfl, rfl, y1 _ (Ext.push.trans Ext.push) (Nat.le_refl _), o3⟩
        cases hu
        · refine t_ix rz' (i := 0) rfl fun _ e => ?_
          cases e
          refine ⟨_, rfl, _, rfl, ?_⟩
          rw [o_intB, o_sub]
          refine t_ix rz' (i := 1) rfl fun _ e => ?_
          cases e
          rw [o_addI, o_gt]
          exact ⟨_, rfl, fin _ rfl⟩
        · refine t_ix rz' (i := 1) rfl fun _ e => ?_
          cases e
          refine ⟨_, rfl, _, rfl, ?_⟩
          rw [o_intB, o_sub]
          refine t_ix rz' (i := 0) rfl fun _ e => ?_
          cases e
          rw [o_addI, o_gt]
          exact ⟨_, rfl, fin _ rfl⟩
      rintro _ h3 ⟨rfl, x3, o3⟩
      generalize (if turn num inn hu then !hu else hu) = hv at *
      generalize hpre : (if turn num inn hu then [(s, word hu)] else []) = pre at *
      have lpre : pre.length ≤ 1 := by rw [← hpre]; split <;> simp
      have x23 := x2.trans x3
      have lt1 : (inn.flatMap (trav ins n)).length ≤ 10000 := by rw [List.length_append] at lt; omega
      have hl : ∀ j, ((inn.take j).flatMap fun i => sprN ins lot num n i hv).length ≤ 10000 := fun j => by
        have key : ∀ (l : List Str), (l.flatMap fun i => sprN ins lot num n i hv).length ≤ (l.flatMap (trav ins n)).length := by
          intro l
          induction l with
          | nil => simp
          | cons i r ih =>
            rw [List.flatMap_cons, List.flatMap_cons, List.length_append, List.length_append]
            have := spr_len (ins := ins) (lot := lot) (num := num) (n := n) (s := i) (hu := hv)
            omega
        exact Nat.le_trans (key _) (Nat.le_trans (flat_sub (l := inn) (f := trav ins n) (i := j)).length_le lt1)
      rw [okS_seq]
      simp only [okS_for, ok_iSeq, ok_eBin, ok_eVar]
      refine ⟨_, rfl, _, rfl, t_dget0 ri x23 ei fun v rv => ?_⟩
      obtain ⟨pv, us0, rfl, hv', rp⟩ := rv
      rw [mkIt_lst (x23.get hv')]
      have npv : pv ≠ h2.size := by
        have := Hh.get_lt hv'
        have := x2.le
        omega
      refine for_list (fun j us h' => (∃ w7, us = [some (.str s), some ui, some ul, some uk, some (.bl hv), some uz, some (.loc h2.size), w7, none]) ∧ Ext h2 h' ∧ h'.get pv = some (.lst us0) ∧ atL iM h' h2.size (pre ++ (inn.take j).flatMap fun i => sprN ins lot num n i hv)) rp (by omega) ⟨⟨_, rfl⟩, x3, x23.get hv', by simpa using o3⟩ (fun j us h' k => k.2.2.1) ?_ ?_
      · rintro us h' ⟨⟨w7, rfl⟩, x, _, o⟩
        rw [List.take_length] at o
        simp only [okS_seq, okS_ret, ok_eVar]
        exact ⟨_, rfl, q _ _ (by have := x2.le; omega) (x2.trans x) o.iL⟩
      · rintro j i u us h' ej ru ⟨⟨w7, rfl⟩, x, hv2, o⟩
        cases ru
        have him : i ∈ inn := List.mem_of_getElem? ej
        have hsub : (trav ins n i).Sublist (inn.flatMap (trav ins n)) := by
          refine List.Sublist.trans ?_ (flat_sub (l := inn) (f := trav ins n) (i := j + 1))
          rw [flat_take ej]
          exact List.sublist_append_right _ _
        have hl1 := hl (j + 1)
        rw [flat_take ej, List.length_append] at hl1
        simp only [ok_gName]
        refine okB_of ?_
        simp only [okS_seq, okS_expr, ok_eMt, ok_eVar, ok_aCons, ok_aNil, ok_eCall, okS_nil]
        have xx := x2.trans x
        refine ⟨_, rfl, t_isL o.iL, _, rfl, _, rfl, _, rfl, _, rfl, _, rfl, ?_⟩
        refine spread_ok n (up xx ri) (up xx rl) (up xx rk) (wi i him) (fun t ht => hk t (List.mem_append_left _ (hsub.subset ht))) (Nat.le_trans hsub.length_le lt1) fun p4 h4 l4 x4 r4 => ?_
        refine atL_ext (P := iM) (o.up x4) r4 (by rw [List.length_append]; omega) fun h5 y1 y2 y3 y4 o5 => ⟨⟨_, rfl⟩, y1 _ (x.trans x4) (Nat.le_refl _), ?_, ?_⟩
        · rw [y2 _ npv]
          exact x4.get hv2
        · rw [flat_take ej, ← List.append_assoc]
          exact o5
end P7
end
section
set_option maxHeartbeats 4000000
namespace P7
open PySem Mx My Wk L2
/-! ### the tree of the paths -/
def upK (ds : List Str) : Nat → List Str
  | 0 => [dirS (ds.take 0)]
  | v + 1 => dirS (ds.take (v + 1)) :: upK ds v
theorem upK_eq (ds : List Str) : ∀ v, upK ds v = (List.range (v + 1)).reverse.map fun k => dirS (ds.take k)
  | 0 => rfl
  | v + 1 => by
    rw [upK, upK_eq ds v, List.range_succ (n := v + 1), List.reverse_append]
    rfl
theorem ups_upK {s x : Str} {ds : List Str} (gp : GP s ds x) : ups s = upK ds ds.length := by
  unfold ups upT
  rw [gp.dsOf, upK_eq, List.range_eq_range']
  rfl
def Gds (ds : List Str) : Prop := (∀ d ∈ ds, isNm d = true) ∧ ds.length ≤ 4
theorem Gds.take {ds : List Str} (g : Gds ds) (k : Nat) : Gds (ds.take k) := ⟨fun d hd => g.1 d (List.mem_of_mem_take hd), by have := g.2; rw [List.length_take]; omega⟩
/-- i lies straight in fo -/
def Ch (paths : List Str) (fo i : Str) : Prop := ∃ ds, fo = dirS ds ∧ Gds ds ∧ ((∃ x, GP i ds x ∧ i ∈ paths) ∨ ∃ d, i = dirS (ds ++ [d]) ∧ Gds (ds ++ [d]))
def chi (paths : List Str) (m : Tb (List Str)) : Prop := ∀ fo inn, tget m fo = some inn → inn.Nodup ∧ ∀ i ∈ inn, Ch paths fo i
theorem chi_add {paths : List Str} {m : Tb (List Str)} {fo inner : Str} (c : chi paths m) (h : Ch paths fo inner) : chi paths (addIn m fo inner) := by
  intro k inn e
  unfold addIn at e
  rw [tget_tput] at e
  split at e
  · rename_i hk
    subst hk
    cases e
    have c0 : ((tget m fo).getD []).Nodup ∧ ∀ i ∈ (tget m fo).getD [], Ch paths fo i := by
      cases hg : tget m fo with
      | none => simp
      | some zs => exact c fo zs hg
    split
    · rw [List.append_nil]; exact c0
    · rename_i hn
      refine ⟨List.nodup_append.mpr ⟨c0.1, by simp, fun a ha b hb => ?_⟩, fun i hi => ?_⟩
      · rw [List.mem_singleton.mp hb]
        rintro rfl
        exact hn ha
      · rcases List.mem_append.mp hi with hi | hi
        · exact c0.2 i hi
        · rw [List.mem_singleton.mp hi]; exact h
  · exact c k inn e
theorem chi_in {paths : List Str} {ds : List Str} (g : Gds ds) : ∀ (v : Nat) {cur : Str} {m : Tb (List Str)}, v ≤ ds.length → chi paths m → Ch paths (dirS (ds.take v)) cur → chi paths (inP m cur (upK ds v))
  | 0, cur, m, _, c, h => chi_add c h
  | v + 1, cur, m, l, c, h => by
    have : inP m cur (upK ds (v + 1)) = inP (addIn m (dirS (ds.take (v + 1))) cur) (dirS (ds.take (v + 1))) (upK ds v) := by
      cases v <;> rfl
    rw [this]
    refine chi_in g v (by omega) (chi_add c h) ⟨ds.take v, rfl, g.take v, .inr ⟨ds[v], ?_, ?_⟩⟩
    · rw [List.take_add_one]; simp [show v < ds.length by omega]
    · have : ds.take (v + 1) = ds.take v ++ [ds[v]] := by rw [List.take_add_one]; simp [show v < ds.length by omega]
      rw [← this]
      exact g.take (v + 1)
theorem chi_ins {paths : List Str} (g : GPs paths) : chi paths (insT paths) := by
  have key : ∀ (l : List Str) (m : Tb (List Str)), (∀ s ∈ l, s ∈ paths) → chi paths m → chi paths (l.foldl (fun m p => inP m p (ups p)) m) := by
    intro l
    induction l with
    | nil => exact fun m _ c => c
    | cons s r ih =>
      intro m h c
      rw [List.foldl_cons]
      refine ih _ (fun s hs => h s (by simp [hs])) ?_
      obtain ⟨ds, x, gp⟩ := g s (h s (by simp))
      rw [ups_upK gp]
      refine chi_in ⟨gp.nm, gp.len⟩ _ (Nat.le_refl _) c ⟨ds, by rw [List.take_length], ⟨gp.nm, gp.len⟩, .inl ⟨x, gp, h s (by simp)⟩⟩
  exact key paths [] (fun _ h => h) (fun k inn e => by cases e)
def nms (t : Str) : List Str := Txt.split t ⟨#[47]⟩
theorem nms_dir {ds : List Str} (g : Gds ds) : nms (dirS ds) = ds ++ [⟨#[]⟩] := (dir_gl g.1 g.2).split
theorem nms_path {s x : Str} {ds : List Str} (gp : GP s ds x) : nms s = ds ++ [x] := gp.split
theorem dir_inj {ds es : List Str} (g : Gds ds) (g' : Gds es) (e : dirS ds = dirS es) : ds = es := by
  have h1 := nms_dir g
  rw [e, nms_dir g'] at h1
  exact (List.append_cancel_right h1).symm
/-- what is told of a folder's list -/
theorem ins_ch {paths : List Str} (g : GPs paths) {ds : List Str} (gd : Gds ds) {inn : List Str} (e : tget (insT paths) (dirS ds) = some inn) : inn.Nodup ∧ ∀ i ∈ inn, (∃ x, GP i ds x ∧ i ∈ paths) ∨ ∃ d, i = dirS (ds ++ [d]) ∧ Gds (ds ++ [d]) ∧ i ∈ kIns paths := by
  obtain ⟨nd, h⟩ := chi_ins g _ _ e
  refine ⟨nd, fun i hi => ?_⟩
  obtain ⟨es, e1, ge, h1⟩ := h i hi
  have := dir_inj gd ge e1
  subst this
  rcases h1 with h1 | ⟨d, h1, h2⟩
  · exact .inl h1
  · refine .inr ⟨d, h1, h2, ?_⟩
    rcases clos_ins paths _ _ e i hi with h3 | h3
    · obtain ⟨ds', x, gp⟩ := g i h3
      have := isFo_path gp
      rw [h1, isFo_dir] at this
      cases this
    · exact thas_mem.mp h3
theorem wf_path {ins : Tb (List Str)} {s x : Str} {ds : List Str} (gp : GP s ds x) (n : Nat) : wfT ins (n + 1) s := ⟨⟨gp.sok, by have := gp.slen; omega⟩, fun hf => by rw [isFo_path gp] at hf; cases hf⟩
theorem wf_dir {paths : List Str} (g : GPs paths) (lp : paths.length ≤ 40) : ∀ (k : Nat) {ds : List Str}, Gds ds → ds.length + k = 4 → dirS ds ∈ kIns paths → wfT (insT paths) (k + 2) (dirS ds) := by
  intro k
  induction k with
  | zero =>
    intro ds gd lk hk
    refine ⟨⟨(dir_gl gd.1 gd.2).sok, by have := (dir_gl gd.1 gd.2).slen; omega⟩, fun _ => ?_⟩
    obtain ⟨inn, hi⟩ := thas_some.mp (thas_mem.mpr hk)
    have b := (bnd_ins g).2 _ _ hi
    refine ⟨inn, hi, by omega, fun i him => ?_⟩
    rcases (ins_ch g gd hi).2 i him with ⟨x, gp, _⟩ | ⟨d, _, h2, _⟩
    · exact wf_path gp 0
    · have := h2.2
      simp at this
      omega
  | succ k ih =>
    intro ds gd lk hk
    refine ⟨⟨(dir_gl gd.1 gd.2).sok, by have := (dir_gl gd.1 gd.2).slen; omega⟩, fun _ => ?_⟩
    obtain ⟨inn, hi⟩ := thas_some.mp (thas_mem.mpr hk)
    have b := (bnd_ins g).2 _ _ hi
    refine ⟨inn, hi, by omega, fun i him => ?_⟩
    rcases (ins_ch g gd hi).2 i him with ⟨x, gp, _⟩ | ⟨d, h1, h2, h3⟩
    · exact wf_path gp _
    · rw [h1] at h3 ⊢
      exact ih h2 (by simp; omega) h3
theorem root_in {paths : List Str} (g : GPs paths) (ne : paths ≠ []) : dirS [] ∈ kIns paths := by
  cases paths with
  | nil => exact absurd rfl ne
  | cons s r =>
    obtain ⟨ds, x, gp⟩ := g s (by simp)
    refine thas_mem.mp (has_ins.mpr ⟨s, by simp, ?_⟩)
    unfold ups upT
    rw [gp.dsOf]
    refine List.mem_map.mpr ⟨0, ?_, by simp⟩
    rw [List.mem_reverse, List.mem_range']
    exact ⟨0, by omega, by omega⟩
theorem wf_root {paths : List Str} (g : GPs paths) (lp : paths.length ≤ 40) (ne : paths ≠ []) : wfT (insT paths) 10 (Str.ofString "") := by
  rw [empt]
  exact wf_up (wf_dir g lp 4 (ds := []) ⟨by simp, by simp⟩ (by simp) (root_in g ne)) (by omega)
theorem innT_some {ins : Tb (List Str)} {s i : Str} (h : i ∈ innT ins s) : ∃ inn, tget ins s = some inn ∧ innT ins s = inn := by
  unfold innT at h ⊢
  cases e : tget ins s with
  | none => rw [e] at h; simp at h
  | some inn => exact ⟨inn, rfl, rfl⟩
theorem trav_path {ins : Tb (List Str)} {s x : Str} {ds : List Str} (gp : GP s ds x) {n : Nat} {t : Str} (h : t ∈ trav ins n s) : t = s := by
  cases n with
  | zero => simp [trav] at h
  | succ n =>
    unfold trav at h
    rw [isFo_path gp] at h
    simpa using h
theorem trav_nms {paths : List Str} (g : GPs paths) : ∀ (n : Nat) {ds : List Str} {t : Str}, Gds ds → t ∈ trav (insT paths) n (dirS ds) → ∃ rest, rest ≠ [] ∧ nms t = ds ++ rest
  | 0, _, _, _, h => by simp [trav] at h
  | n + 1, ds, t, gd, h => by
    unfold trav at h
    rw [isFo_dir, if_pos rfl] at h
    rcases List.mem_append.mp h with h | h
    · obtain ⟨i, hi, ht⟩ := List.mem_flatMap.mp h
      obtain ⟨inn, e, e2⟩ := innT_some hi
      rw [e2] at hi
      rcases (ins_ch g gd e).2 i hi with ⟨x, gp, _⟩ | ⟨d, h1, h2, h3⟩
      · rw [trav_path gp ht]
        exact ⟨[x], by simp, nms_path gp⟩
      · rw [h1] at ht
        obtain ⟨rest, hr, e3⟩ := trav_nms g n h2 ht
        exact ⟨d :: rest, by simp, by rw [e3]; simp⟩
    · rw [List.mem_singleton.mp h]
      exact ⟨[⟨#[]⟩], by simp, nms_dir gd⟩
theorem trav_nodup {paths : List Str} (g : GPs paths) : ∀ (n : Nat) {ds : List Str}, Gds ds → (trav (insT paths) n (dirS ds)).Nodup
  | 0, _, _ => by simp [trav]
  | n + 1, ds, gd => by
    unfold trav
    rw [isFo_dir, if_pos rfl]
    cases e : tget (insT paths) (dirS ds) with
    | none =>
      have : innT (insT paths) (dirS ds) = [] := by unfold innT; rw [e]; rfl
      rw [this]
      simp
    | some inn =>
      have e2 : innT (insT paths) (dirS ds) = inn := by unfold innT; rw [e]; rfl
      rw [e2]
      obtain ⟨nd, hc⟩ := ins_ch g gd e
      refine List.nodup_append.mpr ⟨?_, by simp, fun a ha b hb => ?_⟩
      · unfold List.Nodup
        rw [List.pairwise_flatMap]
        refine ⟨fun i hi => ?_, ?_⟩
        · rcases hc i hi with ⟨x, gp, _⟩ | ⟨d, h1, h2, h3⟩
          · cases n with
            | zero => simp [trav]
            | succ n =>
              unfold trav
              rw [isFo_path gp]
              simp
          · rw [h1]
            exact trav_nodup g n h2
        · refine List.Pairwise.imp_of_mem (fun {i j} hi hj ne x hx y hy => ?_) nd
          rintro rfl
          rcases hc i hi with ⟨z, gp, _⟩ | ⟨d, h1, h2, h3⟩
          · have ex := trav_path gp hx
            rcases hc j hj with ⟨z', gp', _⟩ | ⟨d', h1', h2', h3'⟩
            · exact ne (by rw [← ex, trav_path gp' hy])
            · rw [h1'] at hy
              obtain ⟨rest, hr, e3⟩ := trav_nms g n h2' hy
              rw [ex, nms_path gp] at e3
              have := congrArg List.length e3
              simp at this
              cases rest with
              | nil => exact hr rfl
              | cons a b => simp at this <;> omega
          · rw [h1] at hx
            obtain ⟨rest, hr, e3⟩ := trav_nms g n h2 hx
            rcases hc j hj with ⟨z', gp', _⟩ | ⟨d', h1', h2', h3'⟩
            · have ey := trav_path gp' hy
              rw [ey, nms_path gp'] at e3
              have := congrArg List.length e3
              simp at this
              cases rest with
              | nil => exact hr rfl
              | cons a b => simp at this <;> omega
            · rw [h1'] at hy
              obtain ⟨rest', hr', e4⟩ := trav_nms g n h2' hy
              rw [e3, List.append_assoc, List.append_assoc] at e4
              have := List.append_cancel_left e4
              have hd : d = d' := by simpa using congrArg List.head? this
              exact ne (by rw [h1, h1', hd])
      · rw [List.mem_singleton.mp hb]
        rintro rfl
        obtain ⟨i, hi, ht⟩ := List.mem_flatMap.mp ha
        rcases hc i hi with ⟨x, gp, _⟩ | ⟨d, h1, h2, h3⟩
        · have := isFo_path gp
          rw [← trav_path gp ht, isFo_dir] at this
          cases this
        · rw [h1] at ht
          obtain ⟨rest, hr, e3⟩ := trav_nms g n h2 ht
          rw [nms_dir gd] at e3
          have := congrArg List.length e3
          simp at this
          cases rest with
          | nil => exact hr rfl
          | cons a b => simp at this <;> omega
theorem trav_sub {paths : List Str} : ∀ (n : Nat) {s t : Str}, s ∈ kIns paths ++ paths → t ∈ trav (insT paths) n s → t ∈ kIns paths ++ paths
  | 0, _, _, _, h => by simp [trav] at h
  | n + 1, s, t, hs, h => by
    unfold trav at h
    split at h
    · rcases List.mem_append.mp h with h | h
      · obtain ⟨i, hi, ht⟩ := List.mem_flatMap.mp h
        obtain ⟨inn, e, e2⟩ := innT_some hi
        rw [e2] at hi
        refine trav_sub n ?_ ht
        rcases clos_ins paths _ _ e i hi with h3 | h3
        · exact List.mem_append_right _ h3
        · exact List.mem_append_left _ (thas_mem.mp h3)
      · rw [List.mem_singleton.mp h]; exact hs
    · rw [List.mem_singleton.mp h]; exact hs
theorem nodup_len {α : Type} [DecidableEq α] : ∀ {l m : List α}, l.Nodup → (∀ x ∈ l, x ∈ m) → l.length ≤ m.length
  | [], _, _, _ => Nat.zero_le _
  | a :: l, m, nd, h => by
    rw [List.nodup_cons] at nd
    have ha := h a (by simp)
    have := nodup_len (l := l) (m := m.erase a) nd.2 fun x hx => (List.mem_erase_of_ne (fun z => nd.1 (by rw [← z]; exact hx))).mpr (h x (by simp [hx]))
    rw [List.length_erase_of_mem ha] at this
    have : 0 < m.length := List.length_pos_of_mem ha
    simp
    omega
theorem trav_len {paths : List Str} (g : GPs paths) (lp : paths.length ≤ 40) (ne : paths ≠ []) : (trav (insT paths) 10 (Str.ofString "")).length ≤ 240 ∧ (trav (insT paths) 10 (Str.ofString "")).Nodup := by
  rw [empt]
  have nd := trav_nodup g 10 (ds := []) ⟨by simp, by simp⟩
  exact ⟨Nat.le_trans (nodup_len nd fun x hx => trav_sub 10 (List.mem_append_left _ (root_in g ne)) hx) (all_len g lp), nd⟩
end P7
end
section
set_option maxHeartbeats 4000000
namespace P7
open PySem Mx My Wk L2
theorem isi_list {α : Type} {P : Pd α} {h : Hh} {u : U} {xs : List α} {K : U → Hh → Prop} (r : iL P h u xs) (q : K (.bl true) h) : okO (mIsi "list" u h) K := by
  obtain ⟨p, us, rfl, hp, _⟩ := r
  have e : isaT "list" "list" = some true := by decide +kernel
  have : mIsi "list" (.loc p) h = some (.bl true, h) := by
    unfold mIsi tyU
    simp only [hp]
    rw [Option.bind_some, e]
    rfl
  rw [this]
  exact q
theorem ded_nodup {xs : List Str} (nd : xs.Nodup) : dedS xs = xs := by
  have key : ∀ (l d : List Str), (d ++ l).Nodup → l.foldl stepD d = d ++ l := by
    intro l
    induction l with
    | nil => intro d _; simp
    | cons x r ih =>
      intro d nd
      rw [List.foldl_cons]
      have hn : d.any (· == x) = false := by
        rw [List.any_eq_false]
        intro y hy e
        rw [beq_iff_eq] at e
        rw [List.nodup_append] at nd
        exact nd.2.2 y hy x (by simp) e
      have : stepD d x = d ++ [x] := by unfold stepD; rw [hn]; rfl
      rw [this, ih (d ++ [x]) (by simpa using nd)]
      simp
  have := key xs [] (by simpa using nd)
  unfold dedS
  simpa using this
theorem len_set {h : Hh} {u : U} {xs : List Str} {K : U → Hh → Prop} (r : iL iS h u xs) (l : xs.length ≤ 1000) (nd : xs.Nodup) (q : K (.int xs.length) h) : okO (mLenSet u h) K := by
  obtain ⟨p, us, rfl, hp, r⟩ := r
  rw [PiS r] at hp
  have : mLenSet (.loc p) h = some (.int xs.length, h) := by
    unfold mLenSet
    simp only [hp, allS_map, Option.bind_some]
    rw [if_pos (by omega), ded_nodup nd]
  rw [this]
  exact q
/-- paths that may be handed in -/
structure PsOk (paths : List Str) : Prop where
  gp : ∀ s ∈ paths, ∃ ds x, GP s ds x ∧ x ≠ Str.ofString "hush"
  nd : paths.Nodup
  len : paths.length ≤ 30
theorem PsOk.gps {paths : List Str} (g : PsOk paths) : GPs paths := fun s hs => by
  obtain ⟨ds, x, gp, _⟩ := g.gp s hs
  exact ⟨ds, x, gp⟩
theorem isPt_gp {s x : Str} {ds : List Str} (gp : GP s ds x) : isPt (ds ++ [x]) = true := by
  unfold isPt
  have := gp.len
  simp [gp.nx]
  exact ⟨by omega, gp.nm⟩
theorem are_paths_ok {h : Hh} {u : U} {paths : List Str} {P : U → Hh → Prop} (r : iL iS h u paths) (g : PsOk paths) (q : ∀ h', Ext h h' → P (.bl true) h') : ok (F_are_paths [u] h) P := by
  unfold F_are_paths B_are_paths
  rw [ok_mkF]
  have lp := g.len
  refine okS_cut (fun us h' => us = [some u, none] ∧ h = h') ?_ ?_
  · rw [okS_if]
    simp only [ok_tOr, ok_tNot, ok_tB, ok_eUn, ok_eVar]
    refine ⟨_, rfl, isi_list r ⟨_, rfl, ?_⟩⟩
    rw [if_neg (by simp)]
    simp only [ok_eBin, ok_eCb, ok_aCons, ok_aNil, ok_eVar, ok_eC]
    refine ⟨_, rfl, t_len r ?_⟩
    rw [o_gt]
    refine ⟨_, rfl, ?_⟩
    rw [if_neg (by simp; omega), okS_nil]
    exact ⟨rfl, rfl⟩
  rintro _ _ ⟨rfl, rfl⟩
  refine okS_cut (fun us h' => us = [some u, none] ∧ Ext h h') ?_ ?_
  · rw [okS_if]
    simp only [ok_tNot, ok_tB, ok_eCb, ok_aCons, ok_aNil, ok_eLc, ok_iSeq, ok_eVar]
    refine ⟨_, rfl, t_lc1 (P := iS) (Q := iB) (fun _ => true) r (by omega) (fun s w h' hs he hw => ?_) fun ys h3 x3 r3 => iB_all r3 ⟨_, rfl, ?_⟩⟩
    · cases hw
      obtain ⟨ds, x, gp, hx⟩ := g.gp s hs
      simp only [ok_gName, ok_eAnd, ok_eCall, ok_aCons, ok_aNil, ok_eVar]
      refine ⟨Ext.refl, _, rfl, is_path_ok (by have := gp.slen; omega) gp.split (fun p hp => ?_) (by have := gp.len; simp; omega) fun h2 x2 => ⟨_, rfl, ?_⟩⟩
      · rcases List.mem_append.mp hp with hp | hp
        · have := (nm_len (gp.nm p hp)).2; omega
        · rw [List.mem_singleton.mp hp]; have := (nm_len gp.nx).2; omega
      · rw [isPt_gp gp, if_pos rfl]
        simp only [ok_eNot, ok_eCall, ok_aCons, ok_aNil, ok_eVar]
        refine ⟨_, rfl, ?_⟩
        have hsl := gp.slen
        rw [gp.eq] at hsl ⊢
        refine is_settings_ok (fun d hd => nm_nos (gp.nm d hd)) (nm_nos gp.nx) (nm_sok gp.nx) (by omega) fun h3 x3 => ⟨_, rfl, x2.trans x3, ?_⟩
        rw [beq_eq_false_iff_ne.mpr hx]
        rfl
    · have : ((paths.map fun _ => true).all id) = true := by simp
      rw [this, if_neg (by simp), okS_nil]
      exact ⟨rfl, x3⟩
  rintro _ h2 ⟨rfl, x2⟩
  simp only [okS_seq, okS_ret, ok_eBin, ok_e1, ok_eVar, ok_eCb, ok_aCons, ok_aNil]
  refine ⟨_, rfl, len_set (up x2 r) (by omega) g.nd ⟨_, rfl, t_len (up x2 r) ?_⟩⟩
  rw [o_eqI, beq_self_eq_true]
  exact q _ x2
/-- a lot of paths -/
structure LtOk (lot paths : List Str) : Prop where
  sub : ∀ s ∈ lot, s ∈ paths
  nd : lot.Nodup
theorem is_lot_ok {h : Hh} {u up' : U} {paths lot : List Str} {P : U → Hh → Prop} (r : iL iS h u lot) (rp : iL iS h up' paths) (g : LtOk lot paths) (ll : lot.length ≤ 1000) (q : ∀ h', Ext h h' → P (.bl true) h') : ok (F_is_lot [u, up'] h) P := by
  unfold F_is_lot B_is_lot
  rw [ok_mkF]
  refine okS_cut (fun us h' => us = [some u, some up', none] ∧ Ext h h') ?_ ?_
  · rw [okS_if]
    simp only [ok_tOr, ok_tNot, ok_tB, ok_eUn, ok_eVar]
    refine ⟨_, rfl, isi_list r ⟨_, rfl, ?_⟩⟩
    rw [if_neg (by simp)]
    simp only [ok_eCb, ok_aCons, ok_aNil, ok_eLc, ok_iSeq, ok_eVar]
    refine ⟨_, rfl, t_lc1 (P := iS) (Q := iB) (fun _ => true) r (by omega) (fun s w h' hs he hw => ?_) fun ys h3 x3 r3 => iB_all r3 ⟨_, rfl, ?_⟩⟩
    · cases hw
      simp only [ok_gName, ok_eAnd, ok_eUn, ok_eBin, ok_eVar, o_isiS, o_in]
      refine ⟨Ext.refl, _, rfl, ?_⟩
      rw [o_isiS]
      refine ⟨_, rfl, ?_⟩
      rw [if_pos rfl]
      refine ⟨_, rfl, _, rfl, _, t_in (up he rp), Ext.refl, ?_⟩
      rw [decide_eq_true (g.sub s hs)]
      rfl
    · have : ((lot.map fun _ => true).all id) = true := by simp
      rw [this, if_neg (by simp), okS_nil]
      exact ⟨rfl, x3⟩
  rintro _ h2 ⟨rfl, x2⟩
  simp only [okS_seq, okS_ret, ok_eBin, ok_e1, ok_eVar, ok_eCb, ok_aCons, ok_aNil]
  refine ⟨_, rfl, len_set (up x2 r) (by omega) g.nd ⟨_, rfl, t_len (up x2 r) ?_⟩⟩
  rw [o_eqI, beq_self_eq_true]
  exact q _ x2
/-- Few(marks, heights): lists of its own -/
theorem init_ok {h : Hh} {um uh : U} {ms : List Mk'} {hs : List Ht} {K : U → Hh → Prop} (rm : iL iM h um ms) (rh : iL iH h uh hs)
    (q : ∀ h' a b, Ext h h' → h.size < a → h.size < b → a ≠ b → h'.get h.size = some (.ins "Few" [("marks", .loc a), ("heights", .loc b)]) → atL iM h' a ms → atL iH h' b hs → K .non h') : ok (F_Few___init__ [.loc h.size, um, uh] (h.push (.ins "Few" []))) K := by
  unfold F_Few___init__ B_Few___init__
  rw [ok_mkF]
  simp only [okS_seq, okS_putF, ok_eCb, ok_aCons, ok_aNil, ok_eVar, okS_nil]
  obtain ⟨pm, us, rfl, hm, rm⟩ := rm
  obtain ⟨ph, ws, rfl, hh, rh⟩ := rh
  have x0 : Ext h (h.push (.ins "Few" [])) := Ext.push
  generalize hh0 : h.push (.ins "Few" []) = h0 at x0
  have g0 : h0.get h.size = some (.ins "Few" []) := by rw [← hh0]; exact get_push_size
  have s0 : h0.size = h.size + 1 := by rw [← hh0]; exact Hh.size_push
  have e1 : mList [.loc pm] h0 = some (.loc h0.size, h0.push (.lst us)) := by unfold mList; simp only [x0.get hm]
  refine ⟨_, rfl, ?_⟩
  rw [e1]
  refine ⟨_, rfl, (h0.push (.lst us)).set h.size (.ins "Few" [("marks", .loc h0.size)]), ?_, _, rfl, ?_⟩
  · unfold mPutF
    simp only [Ext.push.get g0]
    rw [if_pos (by simp)]
    rfl
  generalize hh1 : h0.push (.lst us) = h1
  have x1 : Ext h0 h1 := by rw [← hh1]; exact Ext.push
  have g1 : h1.get h.size = some (.ins "Few" []) := x1.get g0
  have l1 : h1.get h0.size = some (.lst us) := by rw [← hh1]; exact get_push_size
  have s1 : h1.size = h.size + 2 := by rw [← hh1, Hh.size_push, s0]
  generalize hh2 : h1.set h.size (.ins "Few" [("marks", .loc h0.size)]) = h2
  have t2 : ExtT h1 h2 := by rw [← hh2]; exact ExtT.set g1 (by intro _ z; cases z)
  have x2 : Ext h h2 := by rw [← hh2]; exact (x0.trans x1).set (Nat.le_refl _)
  have g2 : h2.get h.size = some (.ins "Few" [("marks", .loc h0.size)]) := by rw [← hh2]; exact get_set_same g1
  have l2 : h2.get h0.size = some (.lst us) := by rw [← hh2, Hh.get_set_ne (by omega)]; exact l1
  have s2 : h2.size = h.size + 2 := by rw [← hh2, Hh.size_set, s1]
  have e2 : mList [.loc ph] h2 = some (.loc h2.size, h2.push (.lst ws)) := by unfold mList; simp only [x2.get hh]
  rw [e2]
  refine ⟨_, rfl, (h2.push (.lst ws)).set h.size (.ins "Few" [("marks", .loc h0.size), ("heights", .loc h2.size)]), ?_, ?_⟩
  · have ne : ((Str.ofString "marks") = (Str.ofString "heights")) = False := by
      rw [eq_iff_iff, iff_false]
      decide +kernel
    unfold mPutF
    simp only [Ext.push.get g2]
    rw [if_pos (by simp)]
    unfold putA
    rw [if_neg (by rw [ne]; exact id)]
    rfl
  have g3 : (h2.push (.lst ws)).get h.size = some (.ins "Few" [("marks", .loc h0.size)]) := Ext.push.get g2
  have x3 : Ext h ((h2.push (.lst ws)).set h.size (.ins "Few" [("marks", .loc h0.size), ("heights", .loc h2.size)])) := x2.pushR.set (Nat.le_refl _)
  refine q _ h0.size h2.size x3 (by omega) (by omega) (by omega) (get_set_same g3) ⟨us, ?_, Pm rm fun _ _ r => up x3 r⟩ ⟨ws, ?_, Pm rh fun _ _ r => up x3 r⟩
  · rw [Hh.get_set_ne (by omega)]
    exact Ext.push.get l2
  · rw [Hh.get_set_ne (by omega)]
    exact get_push_size
end P7
end
section
set_option maxHeartbeats 4000000
namespace P7
open PySem Mx My Wk L2
def leM (a b : Mk') : Bool := leP a.1 b.1
def srtM (ms : List Mk') : List Mk' := insS leM ms
def fewM (paths lot : List Str) : List Mk' := if paths = [] then [] else srtM (sprN (insT paths) lot (numT (insT paths) lot) 10 (Str.ofString "") false)
def fewH (paths lot : List Str) : List Ht := if paths = [] then [] else (srtT (trav (insT paths) 10 (Str.ofString ""))).map fun t => (t, numT (insT paths) lot t)
section
variable {α β : Type} {R : α → β → Prop} {le : α → α → Bool} {le' : β → β → Bool}
theorem Pins (hle : ∀ a b c d, R a c → R b d → le a b = le' c d) {x : α} {y : β} (r : R x y) : ∀ {l : List α} {m : List β}, Paired R l m → Paired R (insB le x l) (insB le' y m)
  | _, _, .nil => .cons r .nil
  | _, _, .cons r2 t => by
    rw [insB, insB, hle _ _ _ _ r r2]
    split
    · exact .cons r (.cons r2 t)
    · exact .cons r2 (Pins hle r t)
theorem PinsS (hle : ∀ a b c d, R a c → R b d → le a b = le' c d) : ∀ {l : List α} {m : List β}, Paired R l m → Paired R (insS le l) (insS le' m)
  | _, _, .nil => .nil
  | _, _, .cons r t => by
    rw [insS, insS]
    exact Pins hle r (PinsS hle t)
end
theorem key_lam {h : Hh} {u : U} {x : Mk'} {ds : List Str} {y : Str} (r : iM h u x) (gl : GL x.1 ds y) : keyOf (lamF (eCall F_place_rank (aCons (eBin opIx (eVar 0) (eC (.int 0))) (aNil)))) h u = some (keyP x.1) := by
  obtain ⟨p, a, b, rfl, hp, ra, rb⟩ := r
  cases ra
  cases rb
  unfold Mx.keyOf
  simp only [hp]
  rw [if_pos (by rfl)]
  have : ok (lamF (eCall F_place_rank (aCons (eBin opIx (eVar 0) (eC (.int 0))) (aNil))) [.loc 0] ⟨[.tup [.str x.1, .str x.2]]⟩) fun u h' => toD 8 h' u = some (keyP x.1) := by
    unfold lamF
    simp only [ok_eCall, ok_aCons, ok_aNil, ok_eBin, ok_eVar, ok_eC]
    refine ⟨_, rfl, ?_⟩
    rw [o_ixT (xs := [.str x.1, .str x.2]) rfl]
    refine ⟨.str x.1, rfl, place_rank_ok (parts := Txt.split x.1 ⟨#[47]⟩) (by have := gl.slen; omega) gl.sok rfl (fun p hp => ?_) ?_⟩
    · rw [gl.split] at hp
      rcases List.mem_append.mp hp with hp | hp
      · exact ⟨by have := (nm_len (gl.nm p hp)).2; omega, nm_sok (gl.nm p hp)⟩
      · rw [List.mem_singleton.mp hp]
        exact ⟨by have := gl.xl.1; omega, gl.xl.2.1⟩
    · rw [gl.split]
      have := gl.len
      simp
      omega
  obtain ⟨v, h', e, q⟩ := ok_get this
  unfold Mx.runKey
  rw [e]
  exact q
theorem mapM_lam {h : Hh} : ∀ {us : List U} {ms : List Mk'}, Paired (iM h) us ms → (∀ x ∈ ms, ∃ ds y, GL x.1 ds y) → us.mapM (keyOf (lamF (eCall F_place_rank (aCons (eBin opIx (eVar 0) (eC (.int 0))) (aNil)))) h) = some (ms.map fun x => keyP x.1)
  | _, _, .nil, _ => rfl
  | _, _, .cons r t, g => by
    obtain ⟨ds, y, gl⟩ := g _ List.mem_cons_self
    rw [List.mapM_cons, key_lam r gl, mapM_lam t fun x hx => g x (by simp [hx])]
    rfl
theorem Pzip {h : Hh} : ∀ {us : List U} {ms : List Mk'}, Paired (iM h) us ms → Paired (fun (z : U × PyData) m => iM h z.1 m ∧ z.2 = keyP m.1) (us.zip (ms.map fun x => keyP x.1)) ms
  | _, _, .nil => .nil
  | _, _, .cons r t => .cons ⟨r, rfl⟩ (Pzip t)
theorem sort_lam {h : Hh} {us : List U} {ms : List Mk'} (p : Paired (iM h) us ms) (g : ∀ x ∈ ms, ∃ ds y, GL x.1 ds y) (l : ms.length ≤ 10000) : ∃ ys, sortU (lamF (eCall F_place_rank (aCons (eBin opIx (eVar 0) (eC (.int 0))) (aNil)))) h us = some ys ∧ Paired (iM h) ys (srtM ms) := by
  have e : (ms.map fun x => keyP x.1) = (ms.map (·.1)).map keyP := by rw [List.map_map]; rfl
  refine ⟨_, by
    unfold sortU
    rw [mapM_lam p g]
    dsimp only
    rw [e, keys_ok, if_pos (by rw [Plen p]; simp [szl]; omega)], ?_⟩
  rw [← e]
  have := PinsS (le := le2) (le' := leM) (R := fun (z : U × PyData) m => iM h z.1 m ∧ z.2 = keyP m.1) (fun a b c d r1 r2 => by unfold le2 leM leP; rw [r1.2, r2.2]) (Pzip p)
  exact PmapL _ (fun a b r => r.1) this
theorem fewest_ok {h : Hh} {up' ul : U} {paths lot : List Str} {P : U → Hh → Prop} (rp : iL iS h up' paths) (rl : iL iS h ul lot) (g : PsOk paths) (gl : LtOk lot paths)
    (q : ∀ h' p a b, Ext h h' → h.size ≤ p → h.size ≤ a → h.size ≤ b → a ≠ b → h'.get p = some (.ins "Few" [("marks", .loc a), ("heights", .loc b)]) → atL iM h' a (fewM paths lot) → atL iH h' b (fewH paths lot) → P (.loc p) h') : ok (F_fewest [up', ul] h) P := by
  have lp := g.len
  have ll : lot.length ≤ 30 := Nat.le_trans (nodup_len gl.nd gl.sub) lp
  unfold F_fewest B_fewest
  rw [ok_mkF]
  refine okS_cut (fun us h' => us = [some up', some ul, none, none, none, none, none] ∧ Ext h h') ?_ ?_
  · rw [okS_if]
    simp only [ok_tOr, ok_tNot, ok_tB, ok_eCall, ok_aCons, ok_aNil, ok_eVar]
    refine ⟨_, rfl, are_paths_ok rp g fun h1 x1 => ⟨_, rfl, ?_⟩⟩
    rw [if_neg (by simp)]
    refine ⟨_, rfl, _, rfl, is_lot_ok (up x1 rl) (up x1 rp) gl (by omega) fun h2 x2 => ⟨_, rfl, ?_⟩⟩
    rw [if_neg (by simp), okS_nil]
    exact ⟨rfl, x1.trans x2⟩
  rintro _ h1 ⟨rfl, x1⟩
  refine okS_cut (fun us h' => ∃ pi, us = [some up', some ul, some (.loc pi), none, none, none, none] ∧ Ext h h' ∧ iD (iL iS) h' (.loc pi) (insT paths)) ?_ ?_
  · rw [okS_set]
    simp only [ok_eCall, ok_aCons, ok_aNil, ok_eVar]
    exact ⟨_, rfl, straight_in_ok (up x1 rp) g.gps (by omega) fun p h' l x r _ => ⟨p, rfl, x1.trans x, r⟩⟩
  rintro _ h2 ⟨pi, rfl, x2, ri⟩
  refine okS_cut (fun us h' => us = [some up', some ul, some (.loc pi), none, none, none, none] ∧ Ext h2 h' ∧ paths ≠ []) ?_ ?_
  · rw [okS_if]
    simp only [ok_tB, ok_eBin, ok_eVar, ok_eLst, ok_aNil, o_lst]
    refine ⟨_, rfl, by rw [szl]; simp, ?_⟩
    refine t_eq eLS (up (x2.trans Ext.push) rp) (atL_nil (P := iS)).iL (gl_sok fun s hs => by obtain ⟨ds, x, gp⟩ := g.gps s hs; exact ⟨ds, x, gp.gl⟩) (by simp) ⟨_, rfl, ?_⟩
    by_cases he : paths = []
    · rw [decide_eq_true he, if_pos rfl]
      simp only [okS_seq, okS_ret, ok_eMake, ok_aCons, ok_aNil, ok_eLst, o_lst]
      refine ⟨by rw [szl]; simp, by rw [szl]; simp, ?_⟩
      generalize hh3 : h2.push (.lst []) = h3
      have x3 : Ext h2 h3 := by rw [← hh3]; exact Ext.push
      have y3 : Ext h ((h3.push (.lst [])).push (.lst [])) := (x2.trans x3).trans (Ext.push.trans Ext.push)
      refine init_ok (ms := []) (hs := []) (up Ext.push (atL_nil (P := iM)).iL) (atL_nil (P := iH)).iL fun h' a b x la lb ab e1 e2 e3 => ⟨rfl, ?_⟩
      have := y3.le
      refine q h' _ a b (y3.trans x) this (by omega) (by omega) ab e1 ?_ ?_
      · unfold fewM
        rw [if_pos he]
        exact e2
      · unfold fewH
        rw [if_pos he]
        exact e3
    · rw [decide_eq_false he, if_neg (by simp), okS_nil]
      exact ⟨rfl, Ext.push, he⟩
  rintro _ h3 ⟨rfl, x3, ne⟩
  have y3 := x2.trans x3
  obtain ⟨lt, nt⟩ := trav_len g.gps (by omega : paths.length ≤ 40) ne
  have wr := wf_root g.gps (by omega : paths.length ≤ 40) ne
  refine okS_cut (fun us h' => ∃ pn, us = [some up', some ul, some (.loc pi), some (.loc pn), none, none, none] ∧ Ext h3 h' ∧ iD (iT2 iI iI) h' (.loc pn) ((trav (insT paths) 10 (Str.ofString "")).map fun t => (t, numT (insT paths) lot t))) ?_ ?_
  · rw [okS_set]
    simp only [ok_eCall, ok_aCons, ok_aNil, ok_eVar, ok_eC]
    exact ⟨_, rfl, _, rfl, needed_ok 10 (Nat.le_refl _) (up x3 ri) (up y3 rl) wr nt (by omega) fun p h' l x r => ⟨p, rfl, x, r⟩⟩
  rintro _ h4 ⟨pn, rfl, x4, rn⟩
  have y4 := y3.trans x4
  have hgl : GLs (trav (insT paths) 10 (Str.ofString "")) := fun t ht => by
    refine all_gl g.gps t (trav_sub 10 ?_ ht)
    have := root_in g.gps ne
    rw [empt]
    exact List.mem_append_left _ this
  refine okS_cut (fun us h' => ∃ ps, us = [some up', some ul, some (.loc pi), some (.loc pn), some (.loc ps), none, none] ∧ Ext h4 h' ∧ iL iM h' (.loc ps) (sprN (insT paths) lot (numT (insT paths) lot) 10 (Str.ofString "") false)) ?_ ?_
  · rw [okS_set]
    simp only [ok_eCall, ok_aCons, ok_aNil, ok_eVar, ok_eC]
    refine ⟨_, rfl, _, rfl, _, rfl, spread_ok 10 (up (x3.trans x4) ri) (up y4 rl) rn wr (fun t ht => ?_) (by omega) fun p h' l x r => ⟨p, rfl, x, r⟩⟩
    rw [tget_map, if_pos ht]
  rintro _ h5 ⟨ps, rfl, x5, rs⟩
  have y5 := y4.trans x5
  refine okS_cut (fun us h' => ∃ uh, us = [some up', some ul, some (.loc pi), some (.loc pn), some (.loc ps), some uh, none] ∧ Ext h5 h' ∧ iL iH h' uh (fewH paths lot)) ?_ ?_
  · rw [okS_set]
    simp only [ok_eLc, ok_iSeq, ok_eSort, ok_eVar]
    refine ⟨_, rfl, _, itemsD (up x5 rn), ?_⟩
    rw [keys_map]
    refine ⟨_, sort_gen (fun s ds x gl => key_pr gl) hgl (by omega), ?_⟩
    have r7 : iL iS (h5.push (.lst ((srtT (trav (insT paths) 10 (Str.ofString ""))).map U.str))) (.loc h5.size) (srtT (trav (insT paths) 10 (Str.ofString ""))) := iL_mk (P := iS) (PS _)
    refine t_lc1 (P := iS) (Q := iH) (fun t => (t, numT (insT paths) lot t)) r7 (by rw [srt_len]; omega) (fun t w h' ht he hw => ?_) fun ys h6 x6 r6 => ⟨_, rfl, Ext.push.trans x6, by unfold fewH; rw [if_neg ne]; exact r6⟩
    cases hw
    have hg : tget ((trav (insT paths) 10 (Str.ofString "")).map fun t => (t, numT (insT paths) lot t)) t = some (numT (insT paths) lot t) := by
      rw [tget_map, if_pos (srt_mem.mp ht)]
    have rn' := up (x5.trans (Ext.push.trans he)) rn
    simp only [ok_gName, ok_eTup, ok_aCons, ok_aNil, ok_eBin, ok_eVar, ok_eC]
    refine ⟨Ext.refl, _, rfl, _, rfl, _, rfl, t_dget rn' hg fun v rv => ?_⟩
    obtain ⟨a, b, ra, rb, t0, t1, _⟩ := t_2 rv
    refine t0 ⟨_, rfl, _, rfl, t_dget rn' hg fun v rv => ?_⟩
    obtain ⟨a', b', ra', rb', t0', t1', _⟩ := t_2 rv
    refine t1' ?_
    rw [o_tup]
    exact ⟨by rw [szl]; simp, Ext.push, iT3_mk (P := iS) (Q := iI) (R := iI) rfl ra rb'⟩
  rintro _ h6 ⟨uh, rfl, x6, rh⟩
  have y6 := y5.trans x6
  simp only [okS_seq, okS_ret, ok_eMake, ok_aCons, ok_aNil, ok_eSort, ok_eVar]
  obtain ⟨pp, us, ee, hp, r⟩ := up x6 rs
  cases ee
  have hi : itemsU (.loc ps) h6 = some us := by unfold itemsU; simp only [hp]
  have hsl : (sprN (insT paths) lot (numT (insT paths) lot) 10 (Str.ofString "") false).length ≤ 240 := Nat.le_trans spr_len lt
  obtain ⟨ys, e1, e2⟩ := sort_lam r (fun x hx => hgl x.1 (spr_mem hx).1) (by omega)
  refine ⟨_, rfl, _, hi, _, e1, _, rfl, ?_⟩
  refine init_ok (iL_mk e2) (up Ext.push rh) fun h' a b x la lb ab e1 e2 e3 => ⟨rfl, ?_⟩
  have z6 : Ext h (h6.push (.lst ys)) := y6.trans Ext.push
  have := z6.le
  refine q h' _ a b (z6.trans x) this (by omega) (by omega) ab e1 ?_ e3
  unfold fewM
  rw [if_neg ne]
  exact e2
end P7
end
section
set_option maxHeartbeats 4000000
namespace P7
open PySem Mx My Wk L2
/-! ### numbers drawn from the script -/
theorem atI_nat {α : Type} {xs : List α} {i : Int} (h0 : 0 ≤ i) (h1 : i < xs.length) : atI xs i = xs[i.toNat]? := by
  unfold atI ixN
  rw [if_pos h0, if_pos h1]
  rfl
theorem atI_some {α : Type} {xs : List α} {i : Int} (h0 : 0 ≤ i) (h1 : i < xs.length) : ∃ x, atI xs i = some x ∧ x ∈ xs := by
  rw [atI_nat h0 h1]
  have : i.toNat < xs.length := by omega
  exact ⟨xs[i.toNat], by simp [this], List.getElem_mem _⟩
theorem cmul_r {i j : Int} (h : -(2 ^ 64) < j ∧ j < 2 ^ 64) : cMul i j = true := by
  unfold cMul
  simp only [Bool.or_eq_true, Bool.and_eq_true, decide_eq_true_eq]
  exact .inr h
theorem cmul_l {i j : Int} (h : -(2 ^ 64) < i ∧ i < 2 ^ 64) : cMul i j = true := by
  unfold cMul
  simp only [Bool.or_eq_true, Bool.and_eq_true, decide_eq_true_eq]
  exact .inl h
def primes : List Int := [1000003, 1000033, 1000037, 1000039, 1000081, 1000099, 1000117, 1000121, 1000133, 1000151, 1000159, 1000171, 1000183, 1000187, 1000193, 1000199]
theorem draw_ok {c k m : Int} {h : Hh} {P : U → Hh → Prop} (hm : 0 < m) (q : ∀ r h', 0 ≤ r → r < m → Ext h h' → P (.int r) h') : ok (F__law_draw [.int c, .int k, .int m] h) P := by
  unfold F__law_draw B__law_draw
  rw [ok_mkF]
  refine okS_cut (fun us h' => us = [some (.int c), some (.int k), some (.int m), some (.loc h.size)] ∧ h' = h.push (.tup (primes.map U.int))) ?_ ?_
  · simp only [okS_set, ok_eTup, ok_aCons, ok_aNil, ok_eC, o_tup]
    refine ⟨by rw [szl]; simp, rfl, ?_⟩
    first | rfl | trivial
  rintro _ _ ⟨rfl, rfl⟩
  simp only [okS_seq, okS_ret, ok_eBin, ok_eVar, ok_eC]
  refine ⟨_, rfl, ?_⟩
  rw [o_mul]
  refine ⟨cmul_r (by decide), _, rfl, ?_⟩
  rw [o_mul]
  refine ⟨cmul_r (by decide), ?_⟩
  rw [o_addI]
  refine ⟨_, rfl, _, rfl, ?_⟩
  rw [o_mod]
  refine ⟨by decide, ?_⟩
  rw [o_ixT get_push_size]
  have h1 : 0 ≤ k % 16 := Int.emod_nonneg _ (by decide)
  have h2 : k % 16 < 16 := Int.emod_lt_of_pos _ (by decide)
  obtain ⟨x, e, hx⟩ := atI_some (xs := primes.map U.int) h1 (by simpa [primes] using h2)
  obtain ⟨p, hp, rfl⟩ := List.mem_map.mp hx
  have hpp : 0 < p := by
    have : ∀ p ∈ primes, 0 < p := by decide
    exact this p hp
  refine ⟨_, e, ?_⟩
  rw [o_mod]
  refine ⟨hpp, _, rfl, ?_⟩
  rw [o_mod]
  exact ⟨hm, q _ _ (Int.emod_nonneg _ (by omega)) (Int.emod_lt_of_pos _ hm) Ext.push⟩
theorem cell_ok {us : U} {ns : List Int} {k : Int} {h : Hh} {P : U → Hh → Prop} (r : iL iI h us ns) (hk : 0 ≤ k) (q : ∀ c h', 0 ≤ c → Ext h h' → P (.int c) h') : ok (F__law_cell_at [us, .int k] h) P := by
  unfold F__law_cell_at B__law_cell_at
  rw [ok_mkF, okS_seq, okS_if]
  simp only [ok_tB, ok_eBin, ok_eVar, ok_eCb, ok_aCons, ok_aNil]
  refine ⟨_, rfl, _, rfl, t_len r ?_⟩
  rw [o_lt]
  refine ⟨_, rfl, ?_⟩
  by_cases hl : k < ns.length
  · rw [if_pos (by simpa using hl)]
    simp only [okS_seq, okS_ret, ok_eBin, ok_eVar, ok_eCb, ok_aCons, ok_aNil]
    obtain ⟨x, e, _⟩ := atI_some hk hl
    refine ⟨_, rfl, _, rfl, t_ix r e fun w hw => ?_⟩
    cases hw
    rw [o_abs]
    exact q _ _ (by split <;> omega) Ext.refl
  · rw [if_neg (by simpa using hl)]
    simp only [okS_nil, okS_seq, okS_ret, ok_eBin, ok_eVar, ok_eCb, ok_eC, ok_eCall, ok_aCons, ok_aNil]
    refine ⟨_, rfl, iI_sum r ?_⟩
    rw [o_abs]
    refine ⟨_, rfl, ?_⟩
    rw [o_mul]
    refine ⟨cmul_l (by decide), ?_⟩
    rw [o_addI]
    exact ⟨_, rfl, draw_ok (by decide) fun r h' h1 h2 x => q r h' h1 x⟩
/-- for i in range(n) -/
theorem for_rng {lo : Int} {n : Nat} {g : GM} {b : SM} {us : Sl} {h : Hh} {K : Sl → Hh → Prop} {R : U → Hh → Prop} (J : Nat → Sl → Hh → Prop) (l : n < 1000000) (hJ : J 0 us h) (hn : ∀ us h', J n us h' → K us h')
    (hs : ∀ i us h', i < n → J i us h' → ok (g (.int (lo + i)) us h') fun us1 h2 => okB (b us1 h2) (J (i + 1)) K R) : okS (forL (.rng lo n) g b fuel 0 us h) K R := by
  refine for0 n J l hJ (fun us h' j => ⟨by simp [nxt], hn us h' j⟩) fun i us h' hi j => ⟨_, h', by simp [nxt, hi], hs i us h' hi j⟩
theorem digits_ok {us : U} {ns : List Int} {at' many base : Int} {h : Hh} {P : U → Hh → Prop} (r : iL iI h us ns) (ha : 0 ≤ at') (hm : 0 ≤ many) (hm2 : many ≤ 1000) (hb : 0 < base) (hb2 : base < 1073741824)
    (q : ∀ ds w h', ds.length = many.toNat → (∀ d ∈ ds, 0 ≤ d ∧ d < base) → Ext h h' → iL iI h' w ds → P w h') : ok (F__law_digits [us, .int at', .int many, .int base] h) P := by
  unfold F__law_digits B__law_digits
  rw [ok_mkF]
  refine okS_cut (fun us' h' => ∃ c h1, 0 ≤ c ∧ us' = [some us, some (.int at'), some (.int many), some (.int base), none, none, some (.int c), some (.loc h1.size), none, none] ∧ Ext h h1 ∧ h' = h1.push (.lst [])) ?_ ?_
  · simp only [okS_par, ok_aCons, ok_aNil, ok_eCall, ok_eVar, ok_eLst, o_lst]
    refine ⟨_, rfl, _, rfl, cell_ok r ha fun c h' hc x => ⟨by rw [szl]; simp, rfl, c, h', hc, rfl, x, ?_⟩⟩
    first | rfl | trivial
  rintro _ _ ⟨c, h1, hc, rfl, x1, rfl⟩
  have p18 : (10 : Int) ^ (18 : Int).toNat = 1000000000000000000 := by decide
  refine okS_cut (fun us' h' => ∃ lf, us' = [some us, some (.int at'), some (.int many), some (.int base), some (.int lf), none, some (.int c), some (.loc h1.size), none, none] ∧ h' = h1.push (.lst [])) ?_ ?_
  · simp only [okS_set, ok_eBin, ok_eVar, ok_eC]
    refine ⟨_, rfl, ?_⟩
    rw [o_pow]
    refine ⟨by decide, ?_⟩
    rw [o_sub]
    refine ⟨_, rfl, ?_⟩
    first | rfl | trivial
  rintro _ _ ⟨lf, rfl, rfl⟩
  rw [okS_seq]
  simp only [okS_for, ok_iCall, ok_aCons, ok_aNil, ok_eVar]
  refine ⟨_, rfl, ?_⟩
  have er : mkR1 [.int many] (h1.push (.lst [])) = .ok (.rng 0 many.toNat) (h1.push (.lst [])) := by
    unfold mkR1
    dsimp only
    rw [if_pos (by unfold fits; simp; omega)]
  rw [er, ok_ok]
  refine for_rng (fun i us' h' => ∃ lf w5 w8 w9 ds, us' = [some us, some (.int at'), some (.int many), some (.int base), some (.int lf), w5, some (.int c), some (.loc h1.size), w8, w9] ∧ ds.length = i ∧ (∀ d ∈ ds, 0 ≤ d ∧ d < base) ∧ Ext h1 h' ∧ atL iI h' h1.size ds) (by omega) ⟨_, _, _, _, [], rfl, rfl, by simp, Ext.push, atL_nil⟩ ?_ ?_
  · rintro _ h' ⟨lf, w5, w8, w9, ds, rfl, l1, hd, x, o⟩
    simp only [okS_seq, okS_ret, ok_eVar]
    exact ⟨_, rfl, q ds _ h' l1 hd (x1.trans x) o.iL⟩
  · rintro i _ h' hi ⟨lf, w5, w8, w9, ds, rfl, l1, hd, x, o⟩
    simp only [ok_gName]
    refine okB_of ?_
    have hmod : ∀ z : Int, 0 ≤ z % base ∧ z % base < base := fun z => ⟨Int.emod_nonneg _ (by omega), Int.emod_lt_of_pos _ hb⟩
    rw [okS_seq, okS_if]
    simp only [ok_tB, ok_eBin, ok_eVar, ok_eC]
    refine ⟨_, rfl, ?_⟩
    rw [o_pow]
    refine ⟨by decide, ?_⟩
    rw [o_ge, p18]
    refine ⟨_, rfl, ?_⟩
    by_cases hbig : (1000000000000000000 : Int) ≤ c
    · rw [if_pos (by simpa using hbig)]
      simp only [okS_seq, okS_expr, ok_eMt, ok_eVar, ok_aCons, ok_aNil, ok_eBin]
      refine ⟨_, rfl, t_isL o.iL, _, rfl, _, rfl, ?_⟩
      rw [o_mod]
      refine ⟨hb, ?_⟩
      refine atL_app (P := iI) (a := lf % base) o rfl (by omega) fun h3 y1 y2 y3 y4 o3 => ?_
      simp only [okS_set, ok_eBin, ok_eVar, okS_nil]
      refine ⟨_, rfl, _, rfl, ?_⟩
      rw [o_div]
      refine ⟨⟨hb, hb2⟩, _, _, _, _, ds ++ [lf % base], rfl, by simp [l1], ?_, y1 _ x (Nat.le_refl _), o3⟩
      intro d hd'
      rcases List.mem_append.mp hd' with h | h
      · exact hd d h
      · rw [List.mem_singleton.mp h]; exact hmod _
    · rw [if_neg (by simpa using hbig)]
      refine okS_cut (fun us' h2 => ∃ b, us' = [some us, some (.int at'), some (.int many), some (.int base), some (.int lf), some (.int (0 + (i : Int))), some (.int c), some (.loc h1.size), some (.int b), w9] ∧ Ext h' h2) ?_ ?_
      · simp only [okS_set, ok_eCall, ok_aCons, ok_aNil, ok_eBin, ok_eVar, ok_eC]
        refine ⟨_, rfl, _, rfl, ?_⟩
        rw [o_mul]
        refine ⟨cmul_l (by decide), ?_⟩
        rw [o_addI]
        refine ⟨_, rfl, _, rfl, ?_⟩
        rw [o_mul]
        refine ⟨cmul_l (by decide), ?_⟩
        rw [o_addI, o_addI, o_mul]
        refine ⟨cmul_l (by omega), _, rfl, ?_⟩
        rw [o_mod]
        refine ⟨by decide, ?_⟩
        rw [o_addI]
        exact draw_ok (by decide) fun r h2 _ _ x2 => ⟨r, rfl, x2⟩
      rintro _ h2 ⟨b, rfl, x2⟩
      refine okS_cut (fun us' h3 => ∃ m, us' = [some us, some (.int at'), some (.int many), some (.int base), some (.int lf), some (.int (0 + (i : Int))), some (.int c), some (.loc h1.size), some (.int b), some (.int m)] ∧ Ext h' h3) ?_ ?_
      · simp only [okS_set, ok_eCall, ok_aCons, ok_aNil, ok_eBin, ok_eVar, ok_eC]
        refine ⟨_, rfl, _, rfl, ?_⟩
        rw [o_mul]
        refine ⟨cmul_l (by decide), ?_⟩
        rw [o_addI]
        refine ⟨_, rfl, ?_⟩
        rw [o_addI, o_mul]
        refine ⟨cmul_l (by omega), _, rfl, ?_⟩
        rw [o_mul]
        refine ⟨cmul_l (by decide), ?_⟩
        rw [o_addI]
        refine ⟨_, rfl, ?_⟩
        rw [o_mod]
        refine ⟨by decide, ?_⟩
        rw [o_addI]
        exact draw_ok (by decide) fun r h3 _ _ x3 => ⟨r, rfl, x2.trans x3⟩
      rintro _ h3 ⟨m, rfl, x3⟩
      simp only [okS_seq, okS_expr, ok_eMt, ok_eVar, ok_aCons, ok_aNil, ok_eBin, ok_eC, okS_nil]
      have o3 := o.up x3
      refine ⟨_, rfl, t_isL o3.iL, _, rfl, ?_⟩
      rw [o_mul]
      refine ⟨cmul_r (by decide), _, rfl, ?_⟩
      rw [o_addI]
      refine ⟨_, rfl, ?_⟩
      rw [o_mod]
      refine ⟨hb, ?_⟩
      refine atL_app (P := iI) (a := (b * 1000003 + m) % base) o3 rfl (by omega) fun h4 y1 y2 y3 y4 o4 => ⟨_, _, _, _, ds ++ [(b * 1000003 + m) % base], rfl, by simp [l1], ?_, y1 _ (x.trans x3) (Nat.le_refl _), o4⟩
      intro d hd'
      rcases List.mem_append.mp hd' with h | h
      · exact hd d h
      · rw [List.mem_singleton.mp h]; exact hmod _
end P7
end
section
set_option maxHeartbeats 4000000
namespace P7
open PySem Mx My Wk L2
/-! ### names drawn -/
theorem isNm_of {s : Str} (h1 : 1 ≤ (sl s).length) (h2 : (sl s).length ≤ 12) (hl : ∀ c ∈ sl s, 97 ≤ c ∧ c ≤ 122) (hk : (sl s).length < 5 ∨ (sl s)[0]? = (sl s)[2]?) : isNm s = true := by
  have k : s ∉ kept := by
    intro hm
    have hm : s = Str.ofString "until" ∨ s = Str.ofString "because" := by simpa [kept] using hm
    have e1 : sl (Str.ofString "until") = [117, 110, 116, 105, 108] := by decide +kernel
    have e2 : sl (Str.ofString "because") = [98, 101, 99, 97, 117, 115, 101] := by decide +kernel
    rcases hm with rfl | rfl
    · rw [e1] at hk; simp at hk
    · rw [e2] at hk; simp at hk
  unfold isNm
  rw [len_sl, decide_eq_true h1, decide_eq_true h2, decide_eq_false k]
  simp
  intro c hc
  unfold isLet
  have := hl c hc
  simp [this]
theorem fold_arr (x : Array Nat) : ∀ (n : Nat) (acc : Array Nat), ((List.replicate n x).foldl (· ++ ·) acc).toList = acc.toList ++ (List.replicate n x.toList).flatten
  | 0, acc => by simp
  | n + 1, acc => by
    rw [List.replicate_succ, List.foldl_cons, fold_arr x n, List.replicate_succ, List.flatten_cons]
    simp
theorem sl_mul {s : Str} (h : s.length ≠ 0) : sl (Txt.mul s 12) = (List.replicate 12 (sl s)).flatten := by
  unfold Txt.mul
  rw [if_neg (by decide), if_neg (by simpa using h)]
  have := fold_arr s.cps 12 #[]
  simpa [sl] using this
theorem sl_mul1 (a : Nat) : sl (Txt.mul ⟨#[a]⟩ 12) = [a, a, a, a, a, a, a, a, a, a, a, a] := by
  rw [sl_mul (by rw [len_sl]; simp)]
  rfl
theorem sl_mul2 (a b : Nat) : sl (Txt.mul ⟨#[a, b]⟩ 12) = [a, b, a, b, a, b, a, b, a, b, a, b, a, b, a, b, a, b, a, b, a, b, a, b] := by
  rw [sl_mul (by rw [len_sl]; simp)]
  rfl
theorem sl_mul3 (a b : Nat) : sl (Txt.mul ⟨#[a, b, a]⟩ 12) = [a, b, a, a, b, a, a, b, a, a, b, a, a, b, a, a, b, a, a, b, a, a, b, a, a, b, a, a, b, a, a, b, a, a, b, a] := by
  rw [sl_mul (by rw [len_sl]; simp)]
  rfl
theorem take_cases {a b q : Nat} : [a, b, a].take (1 + q) = [a] ∨ [a, b, a].take (1 + q) = [a, b] ∨ [a, b, a].take (1 + q) = [a, b, a] := by
  match q with
  | 0 => exact .inl rfl
  | 1 => exact .inr (.inl rfl)
  | q + 2 => exact .inr (.inr (by rw [List.take_of_length_le]; simp; omega))
theorem nm_short {a b q : Nat} {s : Str} (ha : 97 ≤ a ∧ a ≤ 122) (hb : 97 ≤ b ∧ b ≤ 122) (e : sl s = [a, b, a].take (1 + q)) : isNm s = true := by
  rcases take_cases (a := a) (b := b) (q := q) with h | h | h <;> rw [h] at e
  · exact isNm_of (by rw [e]; simp) (by rw [e]; simp) (by rw [e]; simpa using ha) (by rw [e]; simp)
  · exact isNm_of (by rw [e]; simp) (by rw [e]; simp) (by rw [e]; simpa using ⟨ha, hb⟩) (by rw [e]; simp)
  · exact isNm_of (by rw [e]; simp) (by rw [e]; simp) (by rw [e]; simp; exact ⟨ha, hb, ha⟩) (by rw [e]; simp)
theorem nm_take {l : List Nat} {a b : Nat} {s : Str} {n : Nat} (ha : 97 ≤ a ∧ a ≤ 122) (hb : 97 ≤ b ∧ b ≤ 122) (h12 : 12 ≤ l.length) (hl : ∀ c ∈ l, c = a ∨ c = b) (h0 : l[0]? = l[2]?) (n5 : 5 ≤ n) (n12 : n ≤ 12) (e : sl s = l.take n) : isNm s = true := by
  have hlen : (sl s).length = n := by rw [e, List.length_take]; omega
  refine isNm_of (by omega) (by omega) (fun c hc => ?_) (.inr ?_)
  · rw [e] at hc
    rcases hl c (List.mem_of_mem_take hc) with rfl | rfl
    · exact ha
    · exact hb
  · rw [e, List.getElem?_take_of_lt (by omega), List.getElem?_take_of_lt (by omega)]
    exact h0
theorem nm_long {a b q n : Nat} {s t : Str} (ha : 97 ≤ a ∧ a ≤ 122) (hb : 97 ≤ b ∧ b ≤ 122) (e : sl s = [a, b, a].take (1 + q)) (n5 : 5 ≤ n) (n12 : n ≤ 12) (e2 : sl t = (sl (Txt.mul s 12)).take n) : isNm t = true := by
  rcases take_cases (a := a) (b := b) (q := q) with h | h | h <;> rw [h] at e
  · have : s = ⟨#[a]⟩ := sl_inj e
    rw [this, sl_mul1] at e2
    exact nm_take ha hb (by simp) (by simp) (by rfl) n5 n12 e2
  · have : s = ⟨#[a, b]⟩ := sl_inj e
    rw [this, sl_mul2] at e2
    exact nm_take ha hb (by simp) (by simp) (by rfl) n5 n12 e2
  · have : s = ⟨#[a, b, a]⟩ := sl_inj e
    rw [this, sl_mul3] at e2
    exact nm_take ha hb (by simp) (by simp) (by rfl) n5 n12 e2
theorem letter {i : Int} (h0 : 0 ≤ i) (h1 : i < 26) : ∃ c, atI (sl (Str.ofString "abcdefghijklmnopqrstuvwxyz")) i = some c ∧ 97 ≤ c ∧ c ≤ 122 := by
  rw [letters]
  obtain ⟨c, e, hc⟩ := atI_some (xs := (List.range 26).map (· + 97)) h0 (by simpa using h1)
  refine ⟨c, e, ?_⟩
  obtain ⟨j, hj, rfl⟩ := List.mem_map.mp hc
  rw [List.mem_range] at hj
  omega
theorem put_at {h : Hh} {p : Nat} {xs : List Str} {i : Int} {s : Str} {K : Hh → Prop} (o : atL iS h p xs) (h0 : 0 ≤ i) (h1 : i < xs.length) (k : ∀ h', (∀ h0, Ext h0 h → h0.size ≤ p → Ext h0 h') → (∀ n, n ≠ p → h'.get n = h.get n) → atL iS h' p (xs.set i.toNat s) → K h') : ∃ h4, mPut (.loc p) (.int i) (.str s) h = some h4 ∧ K h4 := by
  obtain ⟨us, e, r⟩ := o
  have hr := PiS r
  have ei : ixN us.length i = some i.toNat := by
    unfold ixN
    rw [if_pos h0, if_pos (by rw [Plen r]; exact h1)]
  refine ⟨_, by unfold mPut; simp only [e, ei]; rfl, k _ (fun h0 x l => x.set l) (fun n ne => Hh.get_set_ne ne) ⟨_, get_set_same e, ?_⟩⟩
  rw [hr, ← List.map_set]
  exact PS _
def wl : List Str := [Str.ofString "on", Str.ofString "off", Str.ofString "row", Str.ofString "file", Str.ofString "hush"]
theorem wl_nm : ∀ w ∈ wl, isNm w = true := by decide +kernel
theorem names_ok {us : U} {ns : List Int} {at' : Int} {h : Hh} {P : U → Hh → Prop} (r : iL iI h us ns) (ha : 0 ≤ at') (q : ∀ names w h', names.length = 10 → (∀ n ∈ names, isNm n = true) → Ext h h' → iL iS h' w names → P w h') : ok (F__law_names [us, .int at'] h) P := by
  unfold F__law_names B__law_names
  rw [ok_mkF]
  refine okS_cut (fun us' h' => ∃ ds ud h1, us' = [some us, some (.int at'), none, none, some ud, some (.loc h1.size), none, none, none, none] ∧ ds.length = 11 ∧ (∀ d ∈ ds, 0 ≤ d ∧ d < 2704) ∧ Ext h h1 ∧ iL iI h1 ud ds ∧ Ext h1 h' ∧ atL iS h' h1.size []) ?_ ?_
  · rw [okS_asg]
    simp only [ok_eTup, ok_aCons, ok_aNil, ok_eCall, ok_eVar, ok_eC, ok_eBin, ok_eLst]
    refine ⟨_, rfl, _, rfl, ?_⟩
    rw [o_mul]
    refine ⟨by decide, ?_⟩
    rw [o_mul]
    refine ⟨by decide, digits_ok r ha (by decide) (by decide) (by decide) (by decide) fun ds w h' l1 hd x rd => ?_⟩
    rw [o_lst]
    refine ⟨by rw [szl]; simp, ?_⟩
    rw [o_tup]
    refine ⟨by rw [szl]; simp, ?_⟩
    rw [ok_gTup2 get_push_size]
    exact ⟨ds, w, h', rfl, l1, hd, x, rd, Ext.push.trans Ext.push, atL_nil.up Ext.push⟩
  rintro _ h2 ⟨ds, ud, h1, rfl, l1, hd, x1, rd, x2, o2⟩
  have at_ds : ∀ i : Int, 0 ≤ i → i < 11 → ∃ d, atI ds i = some d ∧ 0 ≤ d ∧ d < 2704 := fun i h0 h1 => by
    obtain ⟨d, e, hm⟩ := atI_some (xs := ds) h0 (by omega)
    exact ⟨d, e, hd d hm⟩
  obtain ⟨d10, e10, h10, h10'⟩ := at_ds 10 (by decide) (by decide)
  have dx : ∀ {h' : Hh} {i : Int} {d : Int} {K : U → Hh → Prop}, Ext h1 h' → atI ds i = some d → K (.int d) h' → okO (opIx ud (.int i) h') K := fun x e k => t_ix (up x rd) e fun w hw => by cases hw; exact k
  refine okS_cut (fun us' h' => ∃ w2 w6 w7 w8 names, us' = [some us, some (.int at'), w2, none, some ud, some (.loc h1.size), w6, w7, w8, none] ∧ names.length = 10 ∧ (∀ n ∈ names, isNm n = true) ∧ Ext h1 h' ∧ atL iS h' h1.size names) ?_ ?_
  · simp only [okS_for, ok_iCall, ok_aCons, ok_aNil, ok_eC]
    have er : mkR1 [.int 10] h2 = .ok (.rng 0 10) h2 := rfl
    rw [er, ok_ok]
    refine for_rng (fun i us' h' => ∃ w2 w6 w7 w8 names, us' = [some us, some (.int at'), w2, none, some ud, some (.loc h1.size), w6, w7, w8, none] ∧ names.length = i ∧ (∀ n ∈ names, isNm n = true) ∧ Ext h1 h' ∧ atL iS h' h1.size names) (by decide) ⟨_, _, _, _, [], rfl, rfl, by simp, x2, o2⟩ (fun us' h' j => j) ?_
    rintro i _ h' hi ⟨w2, w6, w7, w8, names, rfl, ln, hn, x, o⟩
    simp only [ok_gName]
    refine okB_of ?_
    obtain ⟨di, ei, hi1, hi2⟩ := at_ds (0 + (i : Int)) (by omega) (by omega)
    obtain ⟨a, ea, ha⟩ := letter (i := (d10 + 2 * (0 + (i : Int))) % 26) (Int.emod_nonneg _ (by decide)) (Int.emod_lt_of_pos _ (by decide))
    obtain ⟨b, eb, hb⟩ := letter (i := di % 26) (Int.emod_nonneg _ (by decide)) (Int.emod_lt_of_pos _ (by decide))
    have l26 : (Str.ofString "abcdefghijklmnopqrstuvwxyz").length ≤ sizeLine := by
      rw [szl, len_sl, letters]
      simp
    simp only [okS_seq, okS_set, ok_eBin, ok_eVar, ok_eC, ok_eSl, ok_pN, ok_pS, okS_expr, ok_eMt, ok_aCons, ok_aNil]
    refine ⟨_, rfl, dx x e10 ?_⟩
    refine ⟨_, rfl, ?_⟩
    rw [o_mul]
    refine ⟨cmul_l (by decide), ?_⟩
    rw [o_addI, o_mod]
    refine ⟨by decide, ?_⟩
    rw [o_ixS]
    refine ⟨l26, a, ea, _, rfl, _, rfl, dx x ei ?_⟩
    rw [o_mod]
    refine ⟨by decide, ?_⟩
    rw [o_ixS]
    refine ⟨l26, b, eb, _, rfl, _, rfl, ?_⟩
    rw [o_addS]
    refine ⟨by rw [szl, len_sl, len_sl]; simp, _, rfl, ?_⟩
    rw [o_addS]
    refine ⟨by rw [szl, len_sl, len_sl, sl_app]; simp, _, rfl, _, rfl, dx x ei ?_⟩
    rw [o_div]
    refine ⟨by decide, ?_⟩
    rw [o_addI]
    refine ⟨_, rfl, ?_⟩
    rw [o_slS]
    refine ⟨by rw [szl, len_sl, sl_app, sl_app]; simp, ?_⟩
    generalize hnm : cutS ((⟨#[a]⟩ : Str) ++ (⟨#[b]⟩ : Str) ++ (⟨#[a]⟩ : Str)) none (some (1 + di / 676)) = nm
    have enm : sl nm = [a, b, a].take (1 + (di / 676).toNat) := by
      rw [← hnm]
      have e1 : (1 + di / 676 : Int) = ((1 + (di / 676).toNat : Nat) : Int) := by omega
      rw [e1, cut_to]
      rfl
    refine ⟨_, rfl, t_isL o.iL, ?_⟩
    have fin : ∀ s : Str, isNm s = true → okO (mAppend (.loc h1.size) [.str s] h') fun x h => ∃ w2 w6 w7 w8 names, [some us, some (.int at'), some (.int (0 + (i : Int))), none, some ud, some (.loc h1.size), some (.str ⟨#[a]⟩), some (.str ⟨#[b]⟩), some (.str nm), none] = [some us, some (.int at'), w2, none, some ud, some (.loc h1.size), w6, w7, w8, none] ∧ names.length = i + 1 ∧ (∀ n ∈ names, isNm n = true) ∧ Ext h1 h ∧ atL iS h h1.size names := fun s hs => by
      refine atL_app (P := iS) (a := s) o rfl (by omega) fun h3 y1 y2 y3 y4 o3 => ⟨_, _, _, _, names ++ [s], rfl, by simp [ln], ?_, y1 _ x (Nat.le_refl _), o3⟩
      intro n hm
      rcases List.mem_append.mp hm with h | h
      · exact hn n h
      · rw [List.mem_singleton.mp h]; exact hs
    simp only [ok_eIf, ok_tB, ok_eBin, ok_eVar, ok_eC]
    refine ⟨_, rfl, dx x e10 ?_⟩
    rw [o_div]
    refine ⟨by decide, ?_⟩
    rw [o_mod]
    refine ⟨by decide, ?_⟩
    rw [o_eqI]
    refine ⟨_, rfl, ?_⟩
    split
    · simp only [ok_eSl, ok_pN, ok_pS, ok_eBin, ok_eVar, ok_eC]
      refine ⟨_, rfl, ?_⟩
      have hlen : nm.length ≤ 3 := by
        rw [len_sl, enm, List.length_take]
        simp
        omega
      rw [o_mulS]
      refine ⟨?_, _, rfl, _, rfl, dx x ei ?_⟩
      · unfold mulOk
        simp
        rw [szl]
        omega
      rw [o_mod]
      refine ⟨by decide, ?_⟩
      rw [o_addI]
      refine ⟨_, rfl, ?_⟩
      rw [o_slS]
      have hm0 : 0 ≤ di % 8 := Int.emod_nonneg _ (by decide)
      have hm8 : di % 8 < 8 := Int.emod_lt_of_pos _ (by decide)
      refine ⟨?_, fin _ ?_⟩
      · have := PyProof.Rows.len_mul nm 12
        rw [szl]
        simp at this
        omega
      · refine nm_long (n := 5 + (di % 8).toNat) ha hb enm (by omega) (by omega) ?_
        have e1 : (5 + di % 8 : Int) = ((5 + (di % 8).toNat : Nat) : Int) := by omega
        rw [e1, cut_to]
    · exact ⟨_, rfl, fin _ (nm_short ha hb enm)⟩
  rintro _ h3 ⟨w2, w6, w7, w8, names, rfl, ln, hn, x3, o3⟩
  refine okS_cut (fun us' h' => ∃ ux, us' = [some us, some (.int at'), w2, some ux, some ud, some (.loc h1.size), w6, w7, w8, none] ∧ Ext h3 h' ∧ iL iS h' ux wl ∧ ∀ px, ux = .loc px → px ≠ h1.size) ?_ ?_
  · simp only [okS_set, ok_eLst, ok_aCons, ok_aNil, ok_eC, o_lst]
    refine ⟨by rw [szl]; simp, _, rfl, Ext.push, iL_mk (P := iS) (PS wl), ?_⟩
    rintro px ⟨⟩
    obtain ⟨vs, e, _⟩ := o3
    have := Hh.get_lt e
    omega
  rintro _ h4 ⟨ux, rfl, x4, r4, npx⟩
  have o4 := o3.up x4
  have x14 := x3.trans x4
  refine okS_cut (fun us' h' => ∃ w9 names, us' = [some us, some (.int at'), w2, some ux, some ud, some (.loc h1.size), w6, w7, w8, w9] ∧ names.length = 10 ∧ (∀ n ∈ names, isNm n = true) ∧ Ext h1 h' ∧ atL iS h' h1.size names) ?_ ?_
  · rw [okS_if]
    simp only [ok_tAnd, ok_tB, ok_eBin, ok_eVar, ok_eC]
    refine ⟨_, rfl, dx x14 e10 ?_⟩
    rw [o_div]
    refine ⟨by decide, ?_⟩
    rw [o_mod]
    refine ⟨by decide, ?_⟩
    rw [o_eqI]
    refine ⟨_, rfl, ?_⟩
    have stay : okS (sNil [some us, some (.int at'), w2, some ux, some ud, some (.loc h1.size), w6, w7, w8, none] h4) (fun us' h' => ∃ w9 names, us' = [some us, some (.int at'), w2, some ux, some ud, some (.loc h1.size), w6, w7, w8, w9] ∧ names.length = 10 ∧ (∀ n ∈ names, isNm n = true) ∧ Ext h1 h' ∧ atL iS h' h1.size names) P := ⟨_, names, rfl, ln, hn, x14, o4⟩
    split
    · simp only [ok_eCb, ok_aCons, ok_aNil, ok_eLc, ok_iSeq, ok_eVar]
      refine ⟨_, rfl, t_lc1 (P := iS) (Q := iB) (fun w => !decide (w ∈ names)) r4 (by decide) (fun w u h' hw he hu => ?_) fun ys h5 x5 r5 => iB_all r5 ⟨_, rfl, ?_⟩⟩
      · cases hu
        simp only [ok_gName, ok_eBin, ok_eVar, o_nin]
        exact ⟨Ext.refl, _, rfl, _, rfl, _, t_in (up he o4.iL), Ext.refl, rfl⟩
      · generalize h5.push (.lst ys) = h6 at *
        have o6 := o4.up x5
        have x16 := x14.trans x5
        split
        · simp only [okS_seq, okS_put, ok_eBin, ok_eVar, ok_eC]
          have m5 : ∀ z : Int, 0 ≤ z % 5 ∧ z % 5 < 5 := fun z => ⟨Int.emod_nonneg _ (by decide), Int.emod_lt_of_pos _ (by decide)⟩
          have wl_at : ∀ z : Int, ∃ w, atI wl (z % 5) = some w ∧ isNm w = true := fun z => by
            obtain ⟨w, e, hm⟩ := atI_some (xs := wl) (m5 z).1 (by simpa [wl] using (m5 z).2)
            exact ⟨w, e, wl_nm w hm⟩
          obtain ⟨s1, es1, hs1⟩ := wl_at d10
          obtain ⟨s2, es2, hs2⟩ := wl_at (d10 + 1)
          refine ⟨_, rfl, _, rfl, dx x16 e10 ?_⟩
          rw [o_mod]
          refine ⟨by decide, t_ix (up x5 r4) es1 fun w hw => ?_⟩
          cases hw
          refine ⟨_, rfl, _, rfl, dx x16 e10 ?_⟩
          rw [o_mod]
          refine ⟨by decide, ?_⟩
          have h3a : 0 ≤ d10 % 3 := Int.emod_nonneg _ (by decide)
          have h3b : d10 % 3 < 3 := Int.emod_lt_of_pos _ (by decide)
          refine put_at o6 h3a (by omega) fun h7 y1 y2 o7 => ?_
          have x17 : Ext h1 h7 := y1 _ x16 (Nat.le_refl _)
          have r7 : iL iS h7 ux wl := by
            obtain ⟨px, vs, ee, e6, r6⟩ := up x5 r4
            subst ee
            refine ⟨px, vs, rfl, ?_, r6⟩
            rw [y2 _ (fun z => npx px rfl z)]
            exact e6
          refine ⟨_, rfl, _, rfl, dx x17 e10 ?_⟩
          rw [o_addI, o_mod]
          refine ⟨by decide, t_ix r7 es2 fun w hw => ?_⟩
          cases hw
          refine ⟨_, rfl, _, rfl, dx x17 e10 ?_⟩
          rw [o_mod]
          refine ⟨by decide, ?_⟩
          rw [o_addI]
          have h4a : 0 ≤ d10 % 4 := Int.emod_nonneg _ (by decide)
          have h4b : d10 % 4 < 4 := Int.emod_lt_of_pos _ (by decide)
          refine put_at o7 (by omega) (by rw [List.length_set]; omega) fun h8 z1 z2 o8 => ?_
          refine ⟨_, _, rfl, ?_, ?_, z1 _ x17 (Nat.le_refl _), o8⟩
          · simp [ln]
          · intro n hm
            rcases List.mem_or_eq_of_mem_set hm with hm | rfl
            · rcases List.mem_or_eq_of_mem_set hm with hm | rfl
              · exact hn n hm
              · exact hs1
            · exact hs2
        · exact ⟨_, names, rfl, ln, hn, x16, o6⟩
    · exact stay
  rintro _ h5 ⟨w9, names, rfl, ln, hn, x5, o5⟩
  simp only [okS_seq, okS_ret, ok_eVar]
  exact ⟨_, rfl, q names _ h5 ln hn (x1.trans x5) o5.iL⟩
end P7
end
section
set_option maxHeartbeats 4000000
namespace P7
open PySem Mx My Wk L2
theorem lc_rng {β : Type} {F : Pd β} [Mono F] {h : Hh} {n : Nat} {g : GM} {e : EM} {usw : Sl} {PK : List U → Hh → Prop} (f : Nat → β) (l : n < 1000000)
    (hs : ∀ i h', i < n → Ext h h' → ok (g (.int (0 + (i : Int))) usw h') fun us1 h2 => Ext h' h2 ∧ ok (e us1 h2) fun y h4 => Ext h2 h4 ∧ F h4 y (f i))
    (q : ∀ ys h', Ext h (h'.push (.lst ys)) → iL F (h'.push (.lst ys)) (.loc h'.size) ((List.range n).map f) → PK ys h') : ok (lcL (.rng 0 n) g tYes e usw fuel 0 [] h) PK := by
  refine lc_map (F := F) (xs := List.range n) (fun _ => true) f (by simpa using l) (fun h' hx => ?_) (fun i x h' ex hx => ?_) fun ys h' he hy => ?_
  · simp [nxt]
  · have hi : i < n := by
      have := (List.getElem?_eq_some_iff.mp ex).1
      simpa using this
    have : x = i := by
      rw [List.getElem?_range hi] at ex
      exact (Option.some.inj ex).symm
    subst this
    exact ⟨_, h', by simp [nxt, hi], Ext.refl, ok_mono (hs x h' hi hx) fun us1 h2 k => ⟨k.1, rfl, Ext.refl, fun _ => k.2⟩⟩
  · rw [List.filter_eq_self.mpr fun _ _ => rfl] at hy
    exact q _ _ he.pushR (iL_mk hy)
theorem ps_snoc {paths : List Str} {s x : Str} {ds : List Str} (g : PsOk paths) (l : paths.length < 30) (gp : GP s ds x) (hx : x ≠ Str.ofString "hush") (hn : s ∉ paths) : PsOk (paths ++ [s]) := by
  refine ⟨fun t ht => ?_, ?_, by simp; omega⟩
  · rcases List.mem_append.mp ht with ht | ht
    · exact g.gp t ht
    · rw [List.mem_singleton.mp ht]
      exact ⟨ds, x, gp, hx⟩
  · refine List.nodup_append.mpr ⟨g.nd, by simp, fun a ha b hb => ?_⟩
    rw [List.mem_singleton.mp hb]
    rintro rfl
    exact hn ha
theorem ps_nil : PsOk [] := ⟨by simp, by simp, by simp⟩
theorem paths_ok {us un : U} {ns : List Int} {names : List Str} {at' many : Int} {h : Hh} {P : U → Hh → Prop} (r : iL iI h us ns) (rn : iL iS h un names) (ln : names.length = 10) (hn : ∀ n ∈ names, isNm n = true) (ha : 0 ≤ at') (hm : 0 ≤ many) (hm2 : many ≤ 30)
    (q : ∀ paths w h', PsOk paths → paths.length ≤ many.toNat → Ext h h' → iL iS h' w paths → P w h') : ok (F__law_paths [us, .int at', un, .int many] h) P := by
  unfold F__law_paths B__law_paths
  rw [ok_mkF]
  refine okS_cut (fun us' h' => us' = [some us, some (.int at'), some un, some (.int many), some (.loc h.size), none, none, none, none] ∧ h' = h.push (.lst [])) ?_ ?_
  · simp only [okS_set, ok_eLst, ok_aNil, o_lst]
    refine ⟨by rw [szl]; simp, rfl, ?_⟩
    first | rfl | trivial
  rintro _ _ ⟨rfl, rfl⟩
  rw [okS_seq]
  simp only [okS_for, ok_iSeq, ok_eCall, ok_aCons, ok_aNil, ok_eVar, ok_eBin, ok_eC]
  refine ⟨_, rfl, _, rfl, _, rfl, ?_⟩
  rw [o_pow]
  refine ⟨by decide, ?_⟩
  rw [o_addI]
  have e6 : ((10 : Int) ^ (6 : Int).toNat + 3) = 1000003 := by decide
  rw [e6]
  refine digits_ok (up Ext.push r) ha hm (by omega) (by decide) (by decide) fun dg w h2 ld hd x2 rd => ?_
  obtain ⟨pd, us0, rfl, hp, rp⟩ := rd
  rw [mkIt_lst hp]
  have g0 : h2.get h.size = some (.lst []) := x2.get get_push_size
  have hx : Ext h h2 := Ext.push.trans x2
  by_cases hdg : dg = []
  · -- no turn
    subst hdg
    have hus : us0 = [] := by
      cases rp
      rfl
    subst hus
    refine for_list (A := iI h2) (xs := []) (us0 := []) (fun i us' h' => i = 0 ∧ us' = [some us, some (.int at'), some un, some (.int many), some (.loc h.size), none, none, none, none] ∧ h' = h2) .nil (by simp) ⟨rfl, rfl, rfl⟩ (fun i us' h' j => by rw [j.2.2]; exact hp) ?_ ?_
    · rintro _ _ ⟨_, rfl, rfl⟩
      simp only [okS_seq, okS_ret, ok_eVar]
      exact ⟨_, rfl, q [] _ _ ps_nil (by simp) hx ⟨_, [], rfl, g0, .nil⟩⟩
    · intro i x u us' h' e
      simp at e
  have npd : pd ≠ h.size := fun z => by
    rw [z, g0] at hp
    cases hp
    cases rp
    exact hdg rfl
  refine for_list (fun i us' h' => (∃ w5 w6 w7, us' = [some us, some (.int at'), some un, some (.int many), some (.loc h.size), w5, w6, w7, none]) ∧ Ext h h' ∧ h'.get pd = some (.lst us0) ∧ ∃ paths, PsOk paths ∧ paths.length ≤ i ∧ atL iS h' h.size paths) rp (by omega) ⟨⟨_, _, _, rfl⟩, hx, hp, [], ps_nil, by simp, [], g0, .nil⟩ (fun i us' h' j => j.2.2.1) ?_ ?_
  · rintro _ h' ⟨⟨w5, w6, w7, rfl⟩, x, _, paths, g, l, o⟩
    simp only [okS_seq, okS_ret, ok_eVar]
    exact ⟨_, rfl, q paths _ h' g (by omega) x o.iL⟩
  · rintro i d u us' h' ei ru ⟨⟨w5, w6, w7, rfl⟩, x, hp', paths, g, l, o⟩
    cases ru
    have hil : i < dg.length := (List.getElem?_eq_some_iff.mp ei).1
    have hdd := hd d (List.mem_of_getElem? ei)
    simp only [ok_gName]
    refine okB_of ?_
    have nm_at : ∀ z : Int, 0 ≤ z → z < 10 → ∃ n, atI names z = some n ∧ isNm n = true := fun z h0 h1 => by
      obtain ⟨n, e, hmn⟩ := atI_some (xs := names) h0 (by omega)
      exact ⟨n, e, hn n hmn⟩
    refine okS_cut (fun us' h3 => ∃ uf ds, us' = [some us, some (.int at'), some un, some (.int many), some (.loc h.size), some (.int d), some uf, w7, none] ∧ Ext h' h3 ∧ iL iS h3 uf ds ∧ (∀ n ∈ ds, isNm n = true) ∧ ds.length ≤ 3) ?_ ?_
    · rw [okS_set, ok_eLc]
      simp only [ok_iCall, ok_aCons, ok_aNil, ok_eBin, ok_eVar, ok_eC]
      refine ⟨_, rfl, ?_⟩
      rw [o_div]
      refine ⟨by decide, ?_⟩
      rw [o_mod]
      refine ⟨by decide, ?_⟩
      have m4a : 0 ≤ d / 256 % 4 := Int.emod_nonneg _ (by decide)
      have m4b : d / 256 % 4 < 4 := Int.emod_lt_of_pos _ (by decide)
      have er : mkR1 [.int (d / 256 % 4)] h' = .ok (.rng 0 (d / 256 % 4).toNat) h' := by
        unfold mkR1
        dsimp only
        rw [if_pos (by unfold fits; simp; omega)]
      rw [er, ok_ok]
      have fx : ∀ i : Nat, i < 3 → ∃ n, atI names (d / ([(1 : Int), 4, 16].getD i 1) % 3) = some n ∧ isNm n = true := fun i hi => nm_at _ (Int.emod_nonneg _ (by decide)) (by have := Int.emod_lt_of_pos (d / ([(1 : Int), 4, 16].getD i 1)) (b := 3) (by decide); omega)
      refine lc_rng (F := iS) (fun i => (atI names (d / ([(1 : Int), 4, 16].getD i 1) % 3)).getD ⟨#[]⟩) (by omega) (fun i h3 hi x3 => ?_) fun ys h3 x3 r3 => ⟨_, _, rfl, x3, r3, ?_, ?_⟩
      · simp only [ok_gName, ok_eBin, ok_eVar, ok_eC, ok_eTup, ok_aCons, ok_aNil, o_tup]
        refine ⟨Ext.refl, _, rfl, _, rfl, by rw [szl]; simp, _, rfl, ?_⟩
        obtain ⟨n, en, hnn⟩ := fx i (by omega)
        have e16 : atI [U.int 1, .int 4, .int 16] (0 + (i : Int)) = some (.int ([(1 : Int), 4, 16].getD i 1)) ∧ 0 < [(1 : Int), 4, 16].getD i 1 ∧ [(1 : Int), 4, 16].getD i 1 < 1073741824 := by
          have : i = 0 ∨ i = 1 ∨ i = 2 := by omega
          rcases this with rfl | rfl | rfl <;> decide
        rw [o_ixT get_push_size]
        refine ⟨_, e16.1, ?_⟩
        rw [o_div]
        refine ⟨e16.2, ?_⟩
        rw [o_mod]
        refine ⟨by decide, t_ix (up (x.trans (x3.trans Ext.push)) rn) en fun w hw => ⟨Ext.push, ?_⟩⟩
        rw [en]
        exact hw
      · intro n hmn
        obtain ⟨j, hj, rfl⟩ := List.mem_map.mp hmn
        rw [List.mem_range] at hj
        obtain ⟨n, en, hnn⟩ := fx j (by omega)
        rw [en]
        exact hnn
      · simp
        omega
    rintro _ h3 ⟨uf, ds, rfl, x3, r3, hds, lds⟩
    have xx3 := x.trans x3
    obtain ⟨xn, exn, hxn⟩ := nm_at (d / 1024 % 4) (Int.emod_nonneg _ (by decide)) (by have := Int.emod_lt_of_pos (d / 1024) (b := 4) (by decide); omega)
    have gp : GP (dirS ds ++ xn) ds xn := ⟨rfl, hds, hxn, by omega⟩
    refine okS_cut (fun us' h4 => us' = [some us, some (.int at'), some un, some (.int many), some (.loc h.size), some (.int d), some uf, some (.str (dirS ds ++ xn)), none] ∧ Ext h3 h4) ?_ ?_
    · simp only [okS_set, ok_eMt, ok_eC, ok_aCons, ok_aNil, ok_eBin, ok_eVar, ok_eLst]
      refine ⟨rfl, _, rfl, _, rfl, _, rfl, ?_⟩
      rw [o_div]
      refine ⟨by decide, ?_⟩
      rw [o_mod]
      refine ⟨by decide, t_ix (up xx3 rn) exn fun w hw => ?_⟩
      cases hw
      rw [o_lst]
      refine ⟨by rw [szl]; simp, ?_⟩
      refine t_add (up Ext.push r3) (iL_mk (P := iS) (.cons rfl .nil)) (by simp; omega) fun w h5 x5 r5 => ?_
      obtain ⟨p5, us5, rfl, hp5, rp5⟩ := r5
      rw [PiS rp5] at hp5
      rw [o_join hp5, slash]
      have ej : Txt.join ⟨#[47]⟩ (ds ++ [xn]) = dirS ds ++ xn := by rw [TL.join_eq, join_path]
      rw [ej]
      refine ⟨?_, rfl, Ext.push.trans x5⟩
      have hsum : ∀ l : List Str, (∀ n ∈ l, isNm n = true) → (l.map (·.length)).sum ≤ 12 * l.length := by
        intro l
        induction l with
        | nil => intro _; simp
        | cons a b ih =>
          intro hl
          have h1 := ih fun n hn => hl n (by simp [hn])
          have h2 := (nm_len (hl a (by simp))).2
          rw [List.map_cons, List.sum_cons, List.length_cons]
          omega
      have := hsum (ds ++ [xn]) (fun n hmn => by
        rcases List.mem_append.mp hmn with h | h
        · exact hds n h
        · rw [List.mem_singleton.mp h]; exact hxn)
      have l1 : (ds ++ [xn]).length ≤ 4 := by simp; omega
      have l2 : (⟨#[47]⟩ : Str).length = 1 := rfl
      rw [l2]
      omega
    rintro _ h4 ⟨rfl, x4⟩
    have o4 := (o.up x3).up x4
    have hp4 := x4.get (x3.get hp')
    have xx4 := xx3.trans x4
    rw [okS_seq, okS_if]
    simp only [ok_tAnd, ok_tB, ok_eBin, ok_eVar, o_nin]
    refine ⟨_, rfl, _, rfl, _, t_in o4.iL, _, rfl, ?_⟩
    have stay : ∀ h5, Ext h4 h5 → okS (sNil [some us, some (.int at'), some un, some (.int many), some (.loc h.size), some (.int d), some uf, some (.str (dirS ds ++ xn)), none] h5) (fun us' h' => okS (sNil us' h') (fun us' h' => (∃ w5 w6 w7, us' = [some us, some (.int at'), some un, some (.int many), some (.loc h.size), w5, w6, w7, none]) ∧ Ext h h' ∧ h'.get pd = some (.lst us0) ∧ ∃ paths, PsOk paths ∧ paths.length ≤ i + 1 ∧ atL iS h' h.size paths) P) P := fun h5 x5 => ⟨⟨_, _, _, rfl⟩, xx4.trans x5, x5.get hp4, paths, g, by omega, o4.up x5⟩
    by_cases hin : dirS ds ++ xn ∈ paths
    · rw [decide_eq_true hin]
      exact stay h4 Ext.refl
    · rw [decide_eq_false hin]
      rw [if_pos (by simp)]
      simp only [ok_tB, ok_eBin, ok_eMt, ok_eVar, ok_aCons, ok_aNil, ok_eC, ok_eUn, o_neg]
      refine ⟨_, rfl, rfl, ?_⟩
      rw [o_split, slash, gp.split]
      refine ⟨⟨by decide, by have := gp.slen; rw [szl]; omega⟩, ?_⟩
      rw [o_ixL get_push_size]
      refine ⟨.str xn, by rw [List.map_append]; exact atI_last _ _, ?_⟩
      rw [o_neS (nm_sok hxn) (by decide +kernel)]
      refine ⟨_, rfl, ?_⟩
      by_cases hh : xn = Str.ofString "hush"
      · rw [if_neg (by simp [hh])]
        exact stay _ Ext.push
      · rw [if_pos (by simp [hh])]
        simp only [okS_seq, okS_expr, ok_eMt, ok_eVar, ok_aCons, ok_aNil]
        have o5 := o4.up (Ext.push (o := .lst ((ds ++ [xn]).map U.str)))
        refine ⟨_, rfl, t_isL o5.iL, _, rfl, ?_⟩
        refine atL_app (P := iS) (a := dirS ds ++ xn) o5 rfl (by have := g.len; omega) fun h6 y1 y2 y3 y4 o6 => ⟨⟨_, _, _, rfl⟩, y1 _ (xx4.trans Ext.push) (Nat.le_refl _), ?_, paths ++ [dirS ds ++ xn], ps_snoc g (by omega) gp hh hin, by simp; omega, o6⟩
        rw [y2 _ npd]
        exact Ext.push.get hp4
end P7
end
section
set_option maxHeartbeats 4000000
namespace P7
open PySem Mx My Wk L2
/-! ### expressions over old data -/
def Ev {α : Type} (P : Pd α) (h0 : Hh) (us : Sl) (e : EM) (a : α) : Prop := ∀ h, Ext h0 h → ∀ K : U → Hh → Prop, (∀ w h', Ext h h' → P h' w a → K w h') → ok (e us h) K
def EvA {α : Type} (P : Pd α) (h0 : Hh) (us : Sl) (e : AM) (a : List α) : Prop := ∀ h, Ext h0 h → ∀ K : List U → Hh → Prop, (∀ w h', Ext h h' → Paired (P h') w a → K w h') → ok (e us h) K
section
variable {α β γ : Type} {P : Pd α} {Q : Pd β} {R : Pd γ} [Mono P] [Mono Q] [Mono R] {h0 : Hh} {us : Sl} {e e1 e2 e3 en : EM} {cs : AM}
theorem ev_var {i : Nat} {u : U} {a : α} (hu : us[i]? = some (some u)) (r : P h0 u a) : Ev P h0 us (eVar i) a := fun h x K k => by
  rw [ok_eVar]
  exact ⟨u, hu, k u h Ext.refl (up x r)⟩
theorem ev_int {i : Int} : Ev iI h0 us (eC (.int i)) i := fun h x K k => k _ _ Ext.refl rfl
theorem ev_str {s : Str} : Ev iS h0 us (eC (.str s)) s := fun h x K k => k _ _ Ext.refl rfl
theorem ev_neg {i : Int} (r : Ev iI h0 us e i) : Ev iI h0 us (eUn opNeg e) (-i) := fun h x K k => by
  rw [ok_eUn]
  refine r h x _ fun w h' x' hw => ?_
  cases hw
  rw [o_neg]
  exact k _ _ x' rfl
theorem ev_addI {i j : Int} (r : Ev iI h0 us e1 i) (s : Ev iI h0 us e2 j) : Ev iI h0 us (eBin opAdd e1 e2) (i + j) := fun h x K k => by
  rw [ok_eBin]
  refine r h x _ fun w h' x' hw => s h' (x.trans x') _ fun w2 h2 x2 hw2 => ?_
  cases hw
  cases hw2
  rw [o_addI]
  exact k _ _ (x'.trans x2) rfl
theorem ev_add {xs ys : List α} (r : Ev (iL P) h0 us e1 xs) (s : Ev (iL P) h0 us e2 ys) (l : xs.length + ys.length ≤ 16777216) : Ev (iL P) h0 us (eBin opAdd e1 e2) (xs ++ ys) := fun h x K k => by
  rw [ok_eBin]
  refine r h x _ fun w h' x' hw => s h' (x.trans x') _ fun w2 h2 x2 hw2 => ?_
  exact t_add (up x2 hw) hw2 l fun w3 h3 x3 r3 => k w3 h3 (x'.trans (x2.trans x3)) r3
theorem ev_to {xs : List α} {i : Int} (r : Ev (iL P) h0 us e1 xs) (s : Ev iI h0 us en i) : Ev (iL P) h0 us (eSl e1 pN (pS en)) (cutT xs none (some i)) := fun h x K k => by
  rw [ok_eSl]
  refine r h x _ fun w h' x' hw => ?_
  rw [ok_pN, ok_pS]
  refine s h' (x.trans x') _ fun w2 h2 x2 hw2 => ?_
  cases hw2
  exact ⟨_, rfl, t_sl (up x2 hw) fun w3 h3 x3 r3 => k w3 h3 (x'.trans (x2.trans x3)) r3⟩
theorem ev_from {xs : List α} {i : Int} (r : Ev (iL P) h0 us e1 xs) (s : Ev iI h0 us en i) : Ev (iL P) h0 us (eSl e1 (pS en) pN) (cutT xs (some i) none) := fun h x K k => by
  rw [ok_eSl]
  refine r h x _ fun w h' x' hw => ?_
  rw [ok_pS]
  refine s h' (x.trans x') _ fun w2 h2 x2 hw2 => ?_
  cases hw2
  refine ⟨_, rfl, ?_⟩
  rw [ok_pN]
  exact t_sl (up x2 hw) fun w3 h3 x3 r3 => k w3 h3 (x'.trans (x2.trans x3)) r3
theorem ev_rev {xs : List α} (r : Ev (iL P) h0 us e1 xs) : Ev (iL P) h0 us (eUn mRev e1) xs.reverse := fun h x K k => by
  rw [ok_eUn]
  exact r h x _ fun w h' x' hw => t_rev hw fun w3 h3 x3 r3 => k w3 h3 (x'.trans x3) r3
theorem eva_nil : EvA P h0 us aNil [] := fun h x K k => by
  rw [ok_aNil]
  exact k _ _ Ext.refl .nil
theorem eva_cons {a : α} {as : List α} (r : Ev P h0 us e a) (s : EvA P h0 us cs as) : EvA P h0 us (aCons e cs) (a :: as) := fun h x K k => by
  rw [ok_aCons]
  exact r h x _ fun w h' x' hw => s h' (x.trans x') _ fun ws h2 x2 hw2 => k _ _ (x'.trans x2) (.cons (up x2 hw) hw2)
theorem ev_lst {as : List α} (r : EvA P h0 us cs as) (l : as.length ≤ 16777216) : Ev (iL P) h0 us (eLst cs) as := fun h x K k => by
  rw [ok_eLst]
  refine r h x _ fun ws h' x' hw => ?_
  rw [o_lst]
  exact ⟨by rw [szl, Plen hw]; exact l, k _ _ (x'.trans Ext.push) (iL_mk hw)⟩
theorem ev_t2 {a : α} {b : β} (r : Ev P h0 us e1 a) (s : Ev Q h0 us e2 b) : Ev (iT2 P Q) h0 us (eTup (aCons e1 (aCons e2 aNil))) (a, b) := fun h x K k => by
  simp only [ok_eTup, ok_aCons, ok_aNil]
  refine r h x _ fun w h' x' hw => s h' (x.trans x') _ fun w2 h2 x2 hw2 => ?_
  rw [o_tup]
  exact ⟨by rw [szl]; simp, k _ _ (x'.trans (x2.trans Ext.push)) (iT2_mk (up x2 hw) hw2)⟩
theorem ev_t3 {a : α} {b : β} {c : γ} (r : Ev P h0 us e1 a) (s : Ev Q h0 us e2 b) (t : Ev R h0 us e3 c) : Ev (iT3 P Q R) h0 us (eTup (aCons e1 (aCons e2 (aCons e3 aNil)))) (a, b, c) := fun h x K k => by
  simp only [ok_eTup, ok_aCons, ok_aNil]
  refine r h x _ fun w h' x' hw => s h' (x.trans x') _ fun w2 h2 x2 hw2 => t h2 (x.trans (x'.trans x2)) _ fun w3 h3 x3 hw3 => ?_
  rw [o_tup]
  exact ⟨by rw [szl]; simp, k _ _ (x'.trans (x2.trans (x3.trans Ext.push))) (iT3_mk (up (x2.trans x3) hw) (up x3 hw2) hw3)⟩
theorem Ev.mono {h1 : Hh} {a : α} (r : Ev P h0 us e a) (x : Ext h0 h1) : Ev P h1 us e a := fun h x' K k => r h (x.trans x') K k
/-- [e for turn, one in enumerate(xs)] -/
theorem ev_enum {xs : List α} {i j : Nat} (f : Nat → α → β) (r : Ev (iL P) h0 us e1 xs) (l : xs.length < 1000000) (hij : i ≠ j) (hi : i < us.length) (hj : j < us.length)
    (hs : ∀ n x u h, x ∈ xs → Ext h0 h → P h u x → Ev Q h (((wipeU us [i, j]).set i (some (.int (n : Nat)))).set j (some u)) e2 (f n x)) : Ev (iL Q) h0 us (eLc (iCall mkEn (aCons e1 aNil)) (gTup [gName i, gName j]) tYes e2 [i, j]) (xs.zipIdx.map fun z => f z.2 z.1) := fun h x K k => by
  rw [ok_eLc]
  simp only [ok_iCall, ok_aCons, ok_aNil]
  refine r h x _ fun w h' x' hw => t_en hw fun p vs e hp rp => ?_
  subst e
  refine lc_map (F := Q) (xs := xs.zipIdx) (fun _ => true) (fun z => f z.2 z.1) (by simpa using l) (fun h2 hx => ?_) (fun n z h2 ez hx => ?_) fun ys h2 he hy => ?_
  · rw [nx_enum (hx.get hp), List.length_zipIdx, ← Plen rp]
    simp
  · rw [List.getElem?_zipIdx] at ez
    obtain ⟨a, ea, ez⟩ := Option.map_eq_some_iff.mp ez
    subst ez
    obtain ⟨u, eu, ru⟩ := Pnth rp ea
    refine ⟨_, _, by rw [nx_enum (hx.get hp), eu]; rfl, Ext.push, ?_⟩
    rw [ok_gTup2 get_push_size]
    refine ⟨Ext.refl, rfl, Ext.refl, fun _ => ?_⟩
    have := hs n a u (h2.push (.tup [.int (n : Nat), u])) (List.mem_of_getElem? ea) (x.trans (x'.trans (hx.trans Ext.push))) (up (hx.trans Ext.push) ru)
    have e0 : (0 + n) = n := by omega
    rw [e0]
    exact this _ Ext.refl _ fun w h4 x4 r4 => ⟨x4, r4⟩
  · rw [List.filter_eq_self.mpr fun _ _ => rfl] at hy
    exact k _ _ (x'.trans he.pushR) (iL_mk hy)
/-- [e for one in xs] -/
theorem ev_lc {xs : List α} {j : Nat} (f : α → β) (r : Ev (iL P) h0 us e1 xs) (l : xs.length < 1000000) (hj : j < us.length)
    (hs : ∀ x u h, x ∈ xs → Ext h0 h → P h u x → Ev Q h ((wipeU us [j]).set j (some u)) e2 (f x)) : Ev (iL Q) h0 us (eLc (iSeq e1) (gName j) tYes e2 [j]) (xs.map f) := fun h x K k => by
  rw [ok_eLc, ok_iSeq]
  refine r h x _ fun w h' x' hw => t_lc1 (P := P) (Q := Q) f hw l (fun a u h2 ha he hu => ?_) fun ys h2 x2 r2 => k _ _ (x'.trans x2) r2
  rw [ok_gName]
  exact ⟨Ext.refl, hs a u h2 ha (x.trans (x'.trans he)) hu h2 Ext.refl _ fun w h4 x4 r4 => ⟨x4, r4⟩⟩
theorem ev_ix0 {a : α} {b : β} {i : Nat} {u : U} (hu : us[i]? = some (some u)) (r : iT2 P Q h0 u (a, b)) : Ev P h0 us (eBin opIx (eVar i) (eC (.int 0))) a := fun h x K k => by
  simp only [ok_eBin, ok_eVar, ok_eC]
  refine ⟨u, hu, ?_⟩
  obtain ⟨y, z, ry, rz, t0, t1, _⟩ := t_2 (up x r)
  exact t0 (k _ _ Ext.refl ry)
theorem ev_ix30 {a : α} {b : β} {c : γ} {i : Nat} {u : U} (hu : us[i]? = some (some u)) (r : iT3 P Q R h0 u (a, b, c)) : Ev P h0 us (eBin opIx (eVar i) (eC (.int 0))) a := fun h x K k => by
  simp only [ok_eBin, ok_eVar, ok_eC]
  refine ⟨u, hu, ?_⟩
  obtain ⟨y, z, w, ry, rz, rw', t0, t1, t2, _⟩ := t_3 (up x r)
  exact t0 (k _ _ Ext.refl ry)
theorem ev_ix31 {a : α} {b : β} {c : γ} {i : Nat} {u : U} (hu : us[i]? = some (some u)) (r : iT3 P Q R h0 u (a, b, c)) : Ev Q h0 us (eBin opIx (eVar i) (eC (.int 1))) b := fun h x K k => by
  simp only [ok_eBin, ok_eVar, ok_eC]
  refine ⟨u, hu, ?_⟩
  obtain ⟨y, z, w, ry, rz, rw', t0, t1, t2, _⟩ := t_3 (up x r)
  exact t1 (k _ _ Ext.refl rz)
theorem ev_ix32 {a : α} {b : β} {c : γ} {i : Nat} {u : U} (hu : us[i]? = some (some u)) (r : iT3 P Q R h0 u (a, b, c)) : Ev R h0 us (eBin opIx (eVar i) (eC (.int 2))) c := fun h x K k => by
  simp only [ok_eBin, ok_eVar, ok_eC]
  refine ⟨u, hu, ?_⟩
  obtain ⟨y, z, w, ry, rz, rw', t0, t1, t2, _⟩ := t_3 (up x r)
  exact t2 (k _ _ Ext.refl rw')
/-- a if i == j else b -/
theorem ev_ifeq {a b : α} {ei ej : EM} {i j : Int} (ri : Ev iI h0 us ei i) (rj : Ev iI h0 us ej j) (ra : Ev P h0 us e1 a) (rb : Ev P h0 us e2 b) : Ev P h0 us (eIf (tB' (eBin opEq ei ej)) e1 e2) (if i = j then a else b) := fun h x K k => by
  simp only [ok_eIf, ok_tB, ok_eBin]
  refine ri h x _ fun w h' x' hw => rj h' (x.trans x') _ fun w2 h2 x2 hw2 => ?_
  cases hw
  cases hw2
  rw [o_eqI]
  refine ⟨_, rfl, ?_⟩
  by_cases e : i = j
  · rw [if_pos (by simpa using e)]
    rw [if_pos e] at k
    exact ra h2 (x.trans (x'.trans x2)) _ fun w h3 x3 r3 => k w h3 (x'.trans (x2.trans x3)) r3
  · rw [if_neg (by simpa using e)]
    rw [if_neg e] at k
    exact rb h2 (x.trans (x'.trans x2)) _ fun w h3 x3 r3 => k w h3 (x'.trans (x2.trans x3)) r3
end
/-! ### pairs of sayings and heights -/
abbrev Pr := List Mk' × List Ht
abbrev iP2 : Pd Pr := iT2 (iL iM) (iL iH)
theorem pr_stay {h : Hh} {p : Nat} {xs : List Pr} {o' : Ob} (o : atL iP2 h p xs) (ne : xs ≠ []) {u : U} {x : Pr} (r : iP2 h u x) : iP2 (h.set p o') u x := by
  obtain ⟨us, e, rr⟩ := o
  have tt : ExtT h (h.set p o') := ExtT.setL e
  cases rr with
  | nil => exact absurd rfl ne
  | @cons u0 x0 us' xs' r0 rt =>
    obtain ⟨t0, a0, b0, rfl, ht0, ⟨pa0, _, rfl, _, _⟩, _⟩ := r0
    obtain ⟨t, a, b, rfl, ht, ⟨pa, ws, rfl, ha, ra⟩, ⟨pb, vs, rfl, hb, rb⟩⟩ := r
    have nt : t ≠ p := fun z => by rw [z, e] at ht; cases ht
    have na : pa ≠ p := fun z => by
      rw [z, e] at ha
      cases ha
      cases hx : x.1 with
      | nil => rw [hx] at ra; cases ra
      | cons m ms =>
        rw [hx] at ra
        cases ra with
        | cons r _ =>
          obtain ⟨q, c, d, eq, hq, rc, _⟩ := r
          cases eq
          rw [ht0] at hq
          cases hq
          cases rc
    have nb : pb ≠ p := fun z => by
      rw [z, e] at hb
      cases hb
      cases hx : x.2 with
      | nil => rw [hx] at rb; cases rb
      | cons m ms =>
        rw [hx] at rb
        cases rb with
        | cons r _ =>
          obtain ⟨q, c, d, f, eq, hq, rc, _⟩ := r
          cases eq
          rw [ht0] at hq
          cases hq
    refine ⟨t, _, _, rfl, by rw [Hh.get_set_ne nt]; exact ht, ⟨pa, ws, rfl, by rw [Hh.get_set_ne na]; exact ha, Pm ra fun _ _ => Flat.flat tt⟩, ⟨pb, vs, rfl, by rw [Hh.get_set_ne nb]; exact hb, Pm rb fun _ _ => Flat.flat tt⟩⟩
theorem pr_app {h : Hh} {p : Nat} {xs : List Pr} {u : U} {x : Pr} {K : U → Hh → Prop} (o : atL iP2 h p xs) (ne : xs ≠ []) (r : iP2 h u x) (l : xs.length < 16777216) (k : ∀ h', (∀ h0, Ext h0 h → h0.size ≤ p → Ext h0 h') → (∀ n, n ≠ p → h'.get n = h.get n) → atL iP2 h' p (xs ++ [x]) → K .non h') : okO (mAppend (.loc p) [u] h) K := by
  obtain ⟨us, e, rr⟩ := id o
  rw [o_append e]
  refine ⟨by rw [Plen rr, szl]; exact l, k _ (fun h0 x l => x.set l) (fun n ne => Hh.get_set_ne ne) ⟨_, get_set_same e, Papp (Pm rr fun _ _ => pr_stay o ne) (.cons (pr_stay o ne r) .nil)⟩⟩
/-- found.append(pair) -/
theorem app_ev {h0 h : Hh} {p : Nat} {xs : List Pr} {x : Pr} {us : Sl} {ep : EM} {K : Sl → Hh → Prop} {R : U → Hh → Prop} (hp : us[4]? = some (some (.loc p))) (x0 : Ext h0 h) (l0 : h0.size ≤ p) (o : atL iP2 h p xs) (ne : xs ≠ []) (l : xs.length < 16777216) (r : Ev iP2 h us ep x) (k : ∀ h', Ext h0 h' → (∀ n o, n ≠ p → h.get n = some o → h'.get n = some o) → atL iP2 h' p (xs ++ [x]) → K us h') : okS (sExpr (eMt isL mAppend (eVar 4) (aCons ep aNil)) us h) K R := by
  simp only [okS_expr, ok_eMt, ok_eVar, ok_aCons, ok_aNil]
  refine ⟨_, hp, t_isL o.iL, r h Ext.refl _ fun w h' x' hw => ?_⟩
  exact pr_app (o.up x') ne hw l fun h2 y1 y2 o2 => k h2 (y1 _ (x0.trans x') l0) (fun n o ne e => by rw [y2 n ne]; exact x'.get e) o2
end P7
end
section
set_option maxHeartbeats 4000000
namespace P7
open PySem Mx My Wk L2
/-! ### places in order: one order only -/
theorem leP_total : PySem.W.TotalLe leP := ⟨fun a b c h1 h2 => le2_total.trans (U.str a, keyP a) (U.str b, keyP b) (U.str c, keyP c) h1 h2, fun a b => le2_total.total (U.str a, keyP a) (U.str b, keyP b)⟩
theorem rk_toks (n : Str) (r : List (Int ⊕ List Nat)) : PySem.W.keyToks (rkD n) ++ r = .inl 1 :: .inl n.length :: .inl 1 :: .inr (sl n) :: .inl 0 :: r := by
  simp [rkD, PySem.W.keyToks, PySem.W.keyToksAll, sl]
theorem rks_inj : ∀ {xs ys : List Str} {r t : List (Int ⊕ List Nat)}, PySem.W.keyToksAll (xs.map rkD) ++ r = PySem.W.keyToksAll (ys.map rkD) ++ t → xs = ys ∧ r = t
  | [], [], r, t, h => by
    simp [PySem.W.keyToksAll] at h
    exact ⟨rfl, h⟩
  | [], y :: ys, r, t, h => by simp [PySem.W.keyToksAll] at h
  | x :: xs, [], r, t, h => by simp [PySem.W.keyToksAll] at h
  | x :: xs, y :: ys, r, t, h => by
    rw [List.map_cons, List.map_cons, PySem.W.toks_all_cons, PySem.W.toks_all_cons, List.cons_append, List.cons_append, List.append_assoc, List.append_assoc, rk_toks, rk_toks] at h
    simp only [List.cons.injEq, Sum.inl.injEq, Sum.inr.injEq, true_and] at h
    obtain ⟨h1, h2, h3⟩ := h
    obtain ⟨h4, h5⟩ := rks_inj h3
    exact ⟨by rw [sl_inj h2, h4], h5⟩
theorem pr_toks (ns : List Str) (f : Int) : PySem.W.keyToks (prD ns f) = .inl 1 :: .inl ns.length :: .inl 1 :: (PySem.W.keyToksAll (ns.map rkD) ++ [.inl 1, .inl f, .inl 0]) := by
  simp [prD, PySem.W.keyToks, PySem.W.keyToksAll]
theorem pr_inj {ns ms : List Str} {f g : Int} (h : PySem.W.keyToks (prD ns f) = PySem.W.keyToks (prD ms g)) : ns = ms ∧ f = g := by
  rw [pr_toks, pr_toks] at h
  simp only [List.cons.injEq, Sum.inl.injEq, true_and] at h
  obtain ⟨h1, h2⟩ := h
  obtain ⟨h3, h4⟩ := rks_inj h2
  simp at h4
  exact ⟨h3, h4⟩
theorem emp_ne {n : Str} (h : isNm n = true) : (n == (⟨#[]⟩ : Str)) = false := beq_eq_false_iff_ne.mpr fun z => by
  have := (nm_len h).1
  rw [z, len_sl] at this
  simp at this
theorem filt_nm {ds : List Str} (h : ∀ d ∈ ds, isNm d = true) : ds.filter (fun n => !(n == (⟨#[]⟩ : Str))) = ds := List.filter_eq_self.mpr fun d hd => by rw [emp_ne (h d hd)]; rfl
theorem GL.names {s x : Str} {ds : List Str} (g : GL s ds x) : (isNm x = true ∧ (Txt.split s ⟨#[47]⟩).filter (fun n => !(n == (⟨#[]⟩ : Str))) = ds ++ [x] ∧ flag s = 1) ∨ (x = ⟨#[]⟩ ∧ (Txt.split s ⟨#[47]⟩).filter (fun n => !(n == (⟨#[]⟩ : Str))) = ds ∧ flag s = 0) := by
  rw [g.split, List.filter_append, filt_nm g.nm]
  have ff : ∀ b, isFo s = b → flag s = if b then 0 else 1 := fun b e => by unfold flag; unfold isFo at e; rw [e]
  rcases g.nx with h | rfl
  · left
    refine ⟨h, by simp [emp_ne h], ?_⟩
    rw [ff false (isFo_path ⟨g.eq, g.nm, h, g.len⟩)]
    rfl
  · right
    refine ⟨rfl, by simp, ?_⟩
    have es : s = dirS ds := by rw [g.eq]; exact sl_inj (by rw [sl_app]; simp)
    rw [ff true (by rw [es]; exact isFo_dir ds)]
    rfl
theorem leP_anti {a b x y : Str} {ds es : List Str} (ga : GL a ds x) (gb : GL b es y) (h1 : leP a b = true) (h2 : leP b a = true) : a = b := by
  unfold leP at h1 h2
  have e : PySem.W.keyToks (keyP a) = PySem.W.keyToks (keyP b) := PyProof.Rows.lex_total _ _ (by simpa [PySem.W.dataLt] using h2) (by simpa [PySem.W.dataLt] using h1)
  unfold keyP at e
  obtain ⟨e1, e2⟩ := pr_inj e
  rcases ga.names with ⟨h3, h4, h5⟩ | ⟨h3, h4, h5⟩
  · rcases gb.names with ⟨k3, k4, k5⟩ | ⟨k3, k4, k5⟩
    · rw [h4, k4] at e1
      have := List.append_inj' e1 rfl
      rw [ga.eq, gb.eq, this.1, (List.cons.inj this.2).1]
    · rw [h5, k5] at e2
      cases e2
  · rcases gb.names with ⟨k3, k4, k5⟩ | ⟨k3, k4, k5⟩
    · rw [h5, k5] at e2
      cases e2
    · rw [h4, k4] at e1
      rw [ga.eq, gb.eq, e1, h3, k3]
theorem srt_uniq {xs ys : List Str} (g : GLs xs) (p : xs.Perm ys) : srtT xs = srtT ys := by
  have p2 : (srtT xs).Perm (srtT ys) := (srt_perm xs).trans (p.trans (srt_perm ys).symm)
  refine List.Perm.eq_of_pairwise (le := fun a b => leP a b = true) (fun a b ha hb h1 h2 => ?_) (insS_sorted leP_total xs) (insS_sorted leP_total ys) p2
  obtain ⟨ds, x, ga⟩ := g a (srt_mem.mp ha)
  obtain ⟨es, y, gb⟩ := g b (p.mem_iff.mpr (srt_mem.mp hb))
  exact leP_anti ga gb h1 h2
theorem srt_idem {xs : List Str} (g : GLs xs) : srtT (srtT xs) = srtT xs := (srt_uniq g (srt_perm xs).symm).symm
/-- the folder of no names comes first -/
theorem em_gl' : GL (Str.ofString "") [] ⟨#[]⟩ := ⟨by decide +kernel, by simp, .inr rfl, by simp⟩
theorem le_emp {b y : Str} {es : List Str} (gb : GL b es y) : leP (Str.ofString "") b = true := by
  have e0 : keyP (Str.ofString "") = prD [] 0 := by
    unfold keyP
    rcases em_gl'.names with ⟨h, _⟩ | ⟨_, h4, h5⟩
    · exact absurd h (by decide)
    · rw [h4, h5]
  unfold leP
  rw [Bool.not_eq_true', e0]
  unfold keyP
  generalize (Txt.split b ⟨#[47]⟩).filter (fun n => !(n == (⟨#[]⟩ : Str))) = ns
  have h : flag b = 0 ∨ flag b = 1 := by unfold flag; split <;> simp
  unfold PySem.W.dataLt
  rw [pr_toks, pr_toks]
  rw [PyProof.Rows.lex_self (O := PyProof.Rows.itemOrd)]
  cases ns with
  | nil =>
    simp only [List.length_nil, List.map_nil]
    rw [PyProof.Rows.lex_self (O := PyProof.Rows.itemOrd), PyProof.Rows.lex_self (O := PyProof.Rows.itemOrd), PySem.W.lex_pre, PyProof.Rows.lex_self (O := PyProof.Rows.itemOrd)]
    rcases h with h | h
    · rw [h]; exact PyProof.Rows.lex_irrefl _
    · rw [h, PyProof.Rows.lex_diff (O := PyProof.Rows.itemOrd) (by decide)]; decide
  | cons n ns =>
    rw [PyProof.Rows.lex_diff (O := PyProof.Rows.itemOrd) (by simp; omega)]
    have e := PySem.W.lex_one (.inl ((n :: ns).length : Int)) (.inl (([] : List Str).length : Int))
    rw [PyProof.Rows.lex_diff (O := PyProof.Rows.itemOrd) (by simp; omega)] at e
    rw [e]
    simp [PyProof.Rows.itemLt]
    try omega
end P7
end
section
set_option maxHeartbeats 4000000
namespace P7
open PySem Mx My Wk L2
/-! ### the table holds all that lies in a folder -/
theorem inn_tput {m : Tb (List Str)} {k k' : Str} {v : List Str} : innT (tput m k v) k' = if k = k' then v else innT m k' := by
  unfold innT
  rw [tget_tput]
  split <;> rfl
theorem in_add {m : Tb (List Str)} {fo inner : Str} : inner ∈ innT (addIn m fo inner) fo := by
  unfold addIn
  rw [inn_tput, if_pos rfl]
  split
  · rename_i h
    exact List.mem_append_left _ h
  · simp
theorem add_mono {m : Tb (List Str)} {fo inner i k : Str} (h : i ∈ innT m k) : i ∈ innT (addIn m fo inner) k := by
  unfold addIn
  rw [inn_tput]
  split
  · rename_i e
    subst e
    exact List.mem_append_left _ h
  · exact h
theorem inP_mono {i k : Str} : ∀ (l : List Str) (cur : Str) (m : Tb (List Str)), i ∈ innT m k → i ∈ innT (inP m cur l) k
  | [], _, _, h => h
  | u :: l, cur, m, h => by
    have : inP m cur (u :: l) = inP (addIn m u cur) u l := rfl
    rw [this]
    exact inP_mono l u _ (add_mono h)
theorem inP_zip {a b : Str} : ∀ (l : List Str) (cur : Str) (m : Tb (List Str)), (a, b) ∈ (cur :: l).zip l → a ∈ innT (inP m cur l) b
  | [], _, _, h => by simp at h
  | u :: l, cur, m, h => by
    have : inP m cur (u :: l) = inP (addIn m u cur) u l := rfl
    rw [this]
    rw [List.zip_cons_cons] at h
    rcases List.mem_cons.mp h with h | h
    · obtain ⟨rfl, rfl⟩ := Prod.mk.inj h
      exact inP_mono l _ _ in_add
    · exact inP_zip l u _ h
theorem ins_zip {paths : List Str} {s a b : Str} (hs : s ∈ paths) (h : (a, b) ∈ (s :: ups s).zip (ups s)) : a ∈ innT (insT paths) b := by
  have key : ∀ (l : List Str) (m : Tb (List Str)), (s ∈ l ∨ a ∈ innT m b) → a ∈ innT (l.foldl (fun m p => inP m p (ups p)) m) b := by
    intro l
    induction l with
    | nil =>
      rintro m (h | h)
      · simp at h
      · exact h
    | cons p r ih =>
      rintro m (h1 | h1)
      · rw [List.foldl_cons]
        refine ih _ ?_
        rcases List.mem_cons.mp h1 with rfl | h1
        · exact .inr (inP_zip _ _ _ h)
        · exact .inl h1
      · rw [List.foldl_cons]
        exact ih _ (.inr (inP_mono _ _ _ h1))
  exact key paths [] (.inl hs)
theorem ins_nodup (paths : List Str) : (kIns paths).Nodup := by
  have k1 : ∀ (l : List (Str × Str)) (m : Tb (List Str)), (m.map (·.1)).Nodup → ((l.foldl (fun m p => addIn m p.2 p.1) m).map (·.1)).Nodup := by
    intro l
    induction l with
    | nil => exact fun m h => h
    | cons p r ih => exact fun m h => ih _ (tput_keys h)
  have k2 : ∀ (l : List Str) (m : Tb (List Str)), (m.map (·.1)).Nodup → ((l.foldl (fun m p => inP m p (ups p)) m).map (·.1)).Nodup := by
    intro l
    induction l with
    | nil => exact fun m h => h
    | cons p r ih => exact fun m h => ih _ (k1 _ _ h)
  exact k2 paths [] (by simp)
/-! ### from a path up to a folder -/
inductive Up (ins : Tb (List Str)) : Nat → Str → Str → List Str → Prop
  | leaf {n : Nat} {p : Str} (h : isFo p = false) : Up ins (n + 1) p p [p]
  | node {n : Nat} {s i p : Str} {l : List Str} (h : isFo s = true) (hi : i ∈ innT ins s) (u : Up ins n i p l) : Up ins (n + 1) s p (l ++ [s])
theorem Up.mono {ins : Tb (List Str)} {n : Nat} {s p : Str} {l : List Str} (u : Up ins n s p l) : ∀ {m : Nat}, n ≤ m → Up ins m s p l := by
  induction u with
  | leaf h =>
    intro m l
    obtain ⟨k, rfl⟩ : ∃ k, m = k + 1 := ⟨m - 1, by omega⟩
    exact .leaf h
  | node h hi u ih =>
    intro m l
    obtain ⟨k, rfl⟩ : ∃ k, m = k + 1 := ⟨m - 1, by omega⟩
    exact .node h hi (ih (by omega))
theorem up_trav {ins : Tb (List Str)} {n : Nat} {s p : Str} {l : List Str} (u : Up ins n s p l) : ∀ t ∈ l, t ∈ trav ins n s := by
  induction u with
  | leaf h =>
    intro t ht
    rw [List.mem_singleton.mp ht]
    unfold trav
    split <;> simp
  | @node n s i p l h hi u ih =>
    intro t ht
    unfold trav
    rw [if_pos h]
    rcases List.mem_append.mp ht with ht | ht
    · exact List.mem_append_left _ (List.mem_flatMap.mpr ⟨i, hi, ih t ht⟩)
    · exact List.mem_append_right _ ht
theorem ups_at {s x : Str} {ds : List Str} (gp : GP s ds x) {j : Nat} (h : j ≤ ds.length) : (ups s)[j]? = some (dirS (ds.take (ds.length - j))) := by
  unfold ups upT
  rw [gp.dsOf, List.getElem?_map, List.getElem?_reverse (by simp; omega), List.length_range', List.getElem?_range' (by omega)]
  simp
  try (congr 2; omega)
theorem up_path {paths : List Str} {s x : Str} {ds : List Str} (gp : GP s ds x) (hs : s ∈ paths) : ∀ (k v : Nat), v + k = ds.length → Up (insT paths) (k + 2) (dirS (ds.take v)) s (s :: upT ds v)
  | 0, v, e => by
    have e : v = ds.length := by omega
    subst e
    rw [upT_last, List.take_length]
    refine .node (l := [s]) (isFo_dir _) (ins_zip hs ?_) (.leaf (isFo_path gp))
    refine List.mem_iff_getElem?.mpr ⟨0, ?_⟩
    rw [List.getElem?_zip_eq_some]
    refine ⟨rfl, ?_⟩
    rw [ups_at gp (by omega)]
    simp
  | k + 1, v, e => by
    rw [upT_step (by omega)]
    have ih := up_path gp hs k (v + 1) (by omega)
    refine .node (l := s :: upT ds (v + 1)) (isFo_dir _) (ins_zip hs ?_) ih
    refine List.mem_iff_getElem?.mpr ⟨k + 1, ?_⟩
    rw [List.getElem?_zip_eq_some]
    refine ⟨?_, ?_⟩
    · rw [List.getElem?_cons_succ, ups_at gp (by omega)]
      congr 3
      omega
    · rw [ups_at gp (by omega)]
      congr 3
      omega
theorem up_root {paths : List Str} {s x : Str} {ds : List Str} (gp : GP s ds x) (hs : s ∈ paths) : Up (insT paths) 10 (Str.ofString "") s (s :: ups s) := by
  have := up_path gp hs ds.length 0 (by omega)
  have e : ups s = upT ds 0 := by unfold ups; rw [gp.dsOf]
  rw [e, empt]
  exact this.mono (by have := gp.len; omega)
theorem all_trav {paths : List Str} (g : GPs paths) {t : Str} (h : t ∈ kIns paths ++ paths) : t ∈ trav (insT paths) 10 (Str.ofString "") := by
  rcases List.mem_append.mp h with h | h
  · obtain ⟨s, hs, hk⟩ := has_ins.mp (thas_mem.mpr h)
    obtain ⟨ds, x, gp⟩ := g s hs
    exact up_trav (up_root gp hs) t (by simp [hk])
  · obtain ⟨ds, x, gp⟩ := g t h
    exact up_trav (up_root gp h) t (by simp)
theorem perm_of {α : Type} {l m : List α} (h1 : l.Nodup) (h2 : m.Nodup) (h : ∀ a, a ∈ l ↔ a ∈ m) : l.Perm m := (List.perm_ext_iff_of_nodup h1 h2).mpr h
theorem all_nodup {paths : List Str} (g : PsOk paths) : (kIns paths ++ paths).Nodup := by
  refine List.nodup_append.mpr ⟨ins_nodup paths, g.nd, fun a ha b hb => ?_⟩
  rintro rfl
  obtain ⟨ds, e, _, _⟩ := kIns_dir g.gps ha
  obtain ⟨ds', x, gp⟩ := g.gps a hb
  have := isFo_path gp
  rw [e, isFo_dir] at this
  cases this
theorem trav_perm {paths : List Str} (g : PsOk paths) (ne : paths ≠ []) : (trav (insT paths) 10 (Str.ofString "")).Perm (kIns paths ++ paths) := by
  have lp := g.len
  refine perm_of (trav_len g.gps (by omega) ne).2 (all_nodup g) fun a => ⟨fun h => ?_, all_trav g.gps⟩
  refine trav_sub 10 ?_ h
  have := root_in g.gps ne
  rw [empt]
  exact List.mem_append_left _ this
end P7
end
section
set_option maxHeartbeats 4000000
namespace P7
open PySem Mx My Wk L2
/-! ### what the sayings do -/
def eff (m : Tb Str) (l : List Str) (d : Bool) : Bool := match l.find? (thas m) with | some p => decide (tget m p = some (Str.ofString "off")) | none => d
theorem eff_app (m : Tb Str) (l : List Str) (s : Str) (d : Bool) : eff m (l ++ [s]) d = eff m l (eff m [s] d) := by
  unfold eff
  rw [List.find?_append]
  cases h : l.find? (thas m) with
  | some p => rfl
  | none => rfl
theorem eff_one {m : Tb Str} {s : Str} {d : Bool} : eff m [s] d = match tget m s with | some v => decide (v = Str.ofString "off") | none => d := by
  unfold eff
  cases h : tget m s with
  | none =>
    have : thas m s = false := by rw [thas_get, h]; rfl
    rw [List.find?_cons_of_neg (by simp [this])]
    rfl
  | some v =>
    have : thas m s = true := by rw [thas_get, h]; rfl
    rw [List.find?_cons_of_pos this]
    dsimp only
    rw [h]
    simp
theorem word_off (hu : Bool) : decide (word hu = Str.ofString "off") = !hu := by
  cases hu <;> decide +kernel
theorem tget_app {α : Type} (a b : Tb α) (k : Str) : tget (a ++ b) k = (tget a k).or (tget b k) := by
  unfold tget
  rw [List.find?_append]
  cases a.find? (fun x => decide (x.1 = k)) <;> simp
theorem tget_none {α : Type} {m : Tb α} {k : Str} (h : ∀ x ∈ m, x.1 ≠ k) : tget m k = none := by
  unfold tget
  rw [List.find?_eq_none.mpr fun x hx => by simpa using h x hx]
  rfl
theorem tget_flat {α : Type} {f : Str → Tb α} {i k : Str} : ∀ {l : List Str}, i ∈ l → (∀ j ∈ l, j ≠ i → ∀ x ∈ f j, x.1 ≠ k) → tget (l.flatMap f) k = tget (f i) k
  | [], h, _ => by simp at h
  | j :: l, h, hn => by
    rw [List.flatMap_cons, tget_app]
    by_cases e : j = i
    · subst e
      cases hg : tget (f j) k with
      | some v => rfl
      | none =>
        rw [Option.none_or]
        by_cases hm : j ∈ l
        · rw [tget_flat hm fun j' hj' => hn j' (by simp [hj'])]
          exact hg
        · refine tget_none fun x hx => ?_
          obtain ⟨j', hj', hx⟩ := List.mem_flatMap.mp hx
          exact hn j' (by simp [hj']) (fun z => hm (by rw [← z]; exact hj')) x hx
    · rw [tget_none (hn j (by simp) e), Option.none_or]
      exact tget_flat ((List.mem_cons.mp h).resolve_left (Ne.symm e)) fun j' hj' => hn j' (by simp [hj'])
section
variable {ins : Tb (List Str)} {lot : List Str} {num : Str → Int × Int}
theorem flat_disj {α : Type} {f : Str → List α} {l : List Str} (nd : (l.flatMap f).Nodup) {i j : Str} {x : α} (hi : i ∈ l) (hj : j ∈ l) (ne : j ≠ i) (h1 : x ∈ f i) : x ∉ f j := by
  intro h2
  unfold List.Nodup at nd
  rw [List.pairwise_flatMap] at nd
  have p := nd.2
  obtain ⟨a, ha⟩ := List.mem_iff_getElem?.mp hi
  obtain ⟨b, hb⟩ := List.mem_iff_getElem?.mp hj
  obtain ⟨la, ea⟩ := List.getElem?_eq_some_iff.mp ha
  obtain ⟨lb, eb⟩ := List.getElem?_eq_some_iff.mp hb
  rw [List.pairwise_iff_getElem] at p
  rcases Nat.lt_trichotomy a b with h | h | h
  · have := p a b la lb h
    rw [ea, eb] at this
    exact this x h1 x h2 rfl
  · subst h
    rw [ha] at hb
    cases hb
    exact ne rfl
  · have := p b a lb la h
    rw [ea, eb] at this
    exact this x h2 x h1 rfl
theorem flat_nodup {α : Type} {f : Str → List α} {l : List Str} (nd : (l.flatMap f).Nodup) {i : Str} (hi : i ∈ l) : (f i).Nodup := by
  unfold List.Nodup at nd ⊢
  rw [List.pairwise_flatMap] at nd
  exact nd.1 i hi
theorem trav_parts {n : Nat} {s : Str} (hf : isFo s = true) (nd : (trav ins (n + 1) s).Nodup) : ((innT ins s).flatMap (trav ins n)).Nodup ∧ s ∉ (innT ins s).flatMap (trav ins n) := by
  unfold trav at nd
  rw [if_pos hf, List.nodup_append] at nd
  exact ⟨nd.1, fun h => nd.2.2 s h s (by simp) rfl⟩
theorem spr_nodup : ∀ {n : Nat} {s : Str} {hu : Bool}, (trav ins n s).Nodup → ((sprN ins lot num n s hu).map (·.1)).Nodup
  | 0, _, _, _ => by simp [sprN]
  | n + 1, s, hu, nd => by
    by_cases hf : isFo s = true
    · obtain ⟨nd1, hs⟩ := trav_parts hf nd
      rw [sprN, if_pos hf, List.map_append]
      have hsub : ∀ b x, x ∈ (innT ins s).flatMap (fun i => sprN ins lot num n i b) → x.1 ∈ (innT ins s).flatMap (trav ins n) := fun b x hx => by
        obtain ⟨i, hi, hx⟩ := List.mem_flatMap.mp hx
        exact List.mem_flatMap.mpr ⟨i, hi, (spr_mem hx).1⟩
      refine List.nodup_append.mpr ⟨by split <;> simp, ?_, fun a ha b hb => ?_⟩
      · generalize (if turn num (innT ins s) hu then !hu else hu) = b
        rw [List.map_flatMap]
        unfold List.Nodup
        rw [List.pairwise_flatMap]
        refine ⟨fun i hi => spr_nodup (flat_nodup nd1 hi), ?_⟩
        have p := nd1
        unfold List.Nodup at p
        rw [List.pairwise_flatMap] at p
        refine List.Pairwise.imp (fun {i j} h x hx y hy => ?_) p.2
        obtain ⟨x', hx', rfl⟩ := List.mem_map.mp hx
        obtain ⟨y', hy', rfl⟩ := List.mem_map.mp hy
        exact h _ (spr_mem hx').1 _ (spr_mem hy').1
      · split at ha
        · have ha : a ∈ [s] := by simpa using ha
          obtain ⟨y, hy, rfl⟩ := List.mem_map.mp hb
          rw [List.mem_singleton.mp ha]
          rintro rfl
          exact hs (hsub _ _ hy)
        · simp at ha
    · rw [sprN, if_neg hf]
      split <;> simp
theorem spr_eff {n : Nat} {s p : Str} {l : List Str} (u : Up ins n s p l) : ∀ {hu : Bool} {m : Tb Str}, (trav ins n s).Nodup → (∀ t ∈ trav ins n s, tget m t = tget (sprN ins lot num n s hu) t) → eff m l hu = decide (p ∈ lot) := by
  induction u with
  | @leaf n p h =>
    intro hu m nd hm
    have := hm p (by unfold trav; split <;> simp)
    rw [eff_one, this, sprN, if_neg (by simp [h])]
    by_cases e : decide (p ∈ lot) = hu
    · rw [if_pos e, e]; rfl
    · rw [if_neg e]
      have : tget ([(p, word hu)] : Tb Str) p = some (word hu) := by simp [tget]
      rw [this]
      dsimp only
      rw [word_off]
      cases hu <;> cases h2 : decide (p ∈ lot) <;> simp_all
  | @node n s i p l h hi u ih =>
    intro hu m nd hm
    obtain ⟨nd1, hs⟩ := trav_parts h nd
    rw [eff_app]
    have et : trav ins (n + 1) s = (innT ins s).flatMap (trav ins n) ++ [s] := by rw [trav, if_pos h]
    have es : sprN ins lot num (n + 1) s hu = (if turn num (innT ins s) hu then [(s, word hu)] else []) ++ (innT ins s).flatMap (fun i => sprN ins lot num n i (if turn num (innT ins s) hu then !hu else hu)) := by rw [sprN, if_pos h]
    have ms : tget m s = tget (if turn num (innT ins s) hu then [(s, word hu)] else ([] : Tb Str)) s := by
      rw [hm s (by rw [et]; simp), es, tget_app, tget_none (m := (innT ins s).flatMap _) fun x hx => ?_, Option.or_none]
      obtain ⟨j, hj, hx⟩ := List.mem_flatMap.mp hx
      rintro rfl
      exact hs (List.mem_flatMap.mpr ⟨j, hj, (spr_mem hx).1⟩)
    have e1 : eff m [s] hu = if turn num (innT ins s) hu then !hu else hu := by
      rw [eff_one, ms]
      cases ht : turn num (innT ins s) hu with
      | true =>
        rw [if_pos rfl, if_pos rfl]
        have : tget ([(s, word hu)] : Tb Str) s = some (word hu) := by simp [tget]
        rw [this]
        exact word_off hu
      | false => rfl
    rw [e1]
    refine ih (flat_nodup nd1 hi) fun t ht => ?_
    rw [hm t (by rw [et]; exact List.mem_append_left _ (List.mem_flatMap.mpr ⟨i, hi, ht⟩)), es, tget_app]
    have : tget (if turn num (innT ins s) hu then [(s, word hu)] else ([] : Tb Str)) t = none := by
      refine tget_none fun x hx => ?_
      split at hx
      · rw [List.mem_singleton.mp hx]
        rintro rfl
        exact hs (List.mem_flatMap.mpr ⟨i, hi, ht⟩)
      · simp at hx
    rw [this, Option.none_or]
    exact tget_flat hi fun j hj ne x hx z => flat_disj nd1 hi hj ne ht (by rw [← z]; exact (spr_mem hx).1)
end
theorem spr_cnt {ins : Tb (List Str)} {lot : List Str} : ∀ {n : Nat} {s : Str} {hu : Bool}, n ≤ 10 → wfT ins n s → ((sprN ins lot (numT ins lot) n s hu).length : Int) = if hu then (numT ins lot s).2 else (numT ins lot s).1
  | 0, _, _, _, w => absurd w id
  | n + 1, s, hu, ln, w => by
    rw [num_eq w ln]
    by_cases hf : isFo s = true
    · rw [sprN, if_pos hf, if_pos hf]
      obtain ⟨inn, e, _, hi⟩ := w.2 hf
      have ei : innT ins s = inn := by unfold innT; rw [e]; rfl
      rw [ei]
      have hsum : ∀ b : Bool, ((inn.flatMap fun i => sprN ins lot (numT ins lot) n i b).length : Int) = if b then sm1 (numT ins lot) inn else sm0 (numT ins lot) inn := by
        intro b
        have key : ∀ l : List Str, (∀ i ∈ l, wfT ins n i) → ((l.flatMap fun i => sprN ins lot (numT ins lot) n i b).length : Int) = if b then sm1 (numT ins lot) l else sm0 (numT ins lot) l := by
          intro l
          induction l with
          | nil => intro _; cases b <;> simp [sm0, sm1]
          | cons i r ih =>
            intro hl
            have h1 := ih fun j hj => hl j (by simp [hj])
            have h2 := spr_cnt (lot := lot) (hu := b) (by omega) (hl i (by simp))
            rw [List.flatMap_cons, List.length_append, Int.natCast_add, h1, h2]
            cases b <;> simp [sm0, sm1]
        exact key inn hi
      rw [List.length_append, Int.natCast_add, hsum]
      unfold turn mn
      cases hu
      · simp only [Bool.false_eq_true, if_false]
        by_cases h : 1 + sm1 (numT ins lot) inn < sm0 (numT ins lot) inn
        · simp [h]
        · simp [h]
      · simp only [if_true]
        by_cases h : 1 + sm0 (numT ins lot) inn < sm1 (numT ins lot) inn
        · simp [h]
        · simp [h]
    · rw [sprN, if_neg hf, if_neg hf]
      cases hu <;> cases h : decide (s ∈ lot) <;> simp
end P7
end
section
set_option maxHeartbeats 4000000
namespace P7
open PySem Mx My Wk L2
theorem srtM_fst (ms : List Mk') : (srtM ms).map (·.1) = srtT (ms.map (·.1)) := (insS_map (le := leM) (le' := leP) (·.1) (fun _ _ => rfl) ms).symm
theorem wd_self {ms : List Mk'} (nd : (ms.map (·.1)).Nodup) : wdT ms = ms := by
  have := merge_app (m := []) (m2 := ms) (by simpa using nd)
  simpa [mergeT, wdT] using this
theorem tget_iff {α : Type} {m : Tb α} (nd : (m.map (·.1)).Nodup) {k : Str} {v : α} : tget m k = some v ↔ (k, v) ∈ m := by
  induction m with
  | nil => simp [tget]
  | cons x r ih =>
    rw [List.map_cons, List.nodup_cons] at nd
    unfold tget at ih ⊢
    by_cases h : x.1 = k
    · rw [List.find?_cons_of_pos (by simpa using h)]
      constructor
      · intro e
        have e : x.2 = v := by simpa using e
        rw [← h, ← e]
        simp
      · intro hm
        rcases List.mem_cons.mp hm with e | hm
        · rw [← e]; rfl
        · exact absurd (List.mem_map.mpr ⟨(k, v), hm, rfl⟩) (by rw [h] at nd; exact nd.1)
    · rw [List.find?_cons_of_neg (by simpa using h), ih nd.2]
      constructor
      · intro hm; simp [hm]
      · intro hm
        rcases List.mem_cons.mp hm with e | hm
        · exact absurd (by rw [← e]) h
        · exact hm
theorem tget_perm {α : Type} {m m' : Tb α} (nd : (m.map (·.1)).Nodup) (nd' : (m'.map (·.1)).Nodup) (p : m.Perm m') (k : Str) : tget m k = tget m' k := by
  cases h : tget m k with
  | some v => exact ((tget_iff nd').mpr (p.mem_iff.mp ((tget_iff nd).mp h))).symm
  | none =>
    cases h' : tget m' k with
    | none => rfl
    | some v =>
      rw [(tget_iff nd).mpr (p.mem_iff.mpr ((tget_iff nd').mp h'))] at h
      cases h
section
variable {paths lot : List Str}
theorem few_say (g : PsOk paths) : sayT (fewM paths lot) paths lot = true := by
  have lp := g.len
  by_cases ne : paths = []
  · subst ne
    rfl
  have hM : fewM paths lot = srtM (sprN (insT paths) lot (numT (insT paths) lot) 10 (Str.ofString "") false) := by unfold fewM; rw [if_neg ne]
  obtain ⟨lt, nt⟩ := trav_len g.gps (by omega : paths.length ≤ 40) ne
  rw [hM]
  generalize hms : srtM (sprN (insT paths) lot (numT (insT paths) lot) 10 (Str.ofString "") false) = ms
  have perm : ms.Perm (sprN (insT paths) lot (numT (insT paths) lot) 10 (Str.ofString "") false) := by rw [← hms]; exact insS_perm _ _
  have ndS : ((sprN (insT paths) lot (numT (insT paths) lot) 10 (Str.ofString "") false).map (·.1)).Nodup := spr_nodup nt
  have nd : (ms.map (·.1)).Nodup := (perm.map _).nodup_iff.mpr ndS
  have gl : GLs ((sprN (insT paths) lot (numT (insT paths) lot) 10 (Str.ofString "") false).map (·.1)) := fun s hs => by
    obtain ⟨x, hx, rfl⟩ := List.mem_map.mp hs
    refine all_gl g.gps _ (trav_sub 10 ?_ (spr_mem hx).1)
    have := root_in g.gps ne
    rw [empt]
    exact List.mem_append_left _ this
  have wd := wd_self nd
  unfold sayT
  rw [wd]
  have e1 : ms.map (·.1) = srtT (ms.map (·.1)) := by
    have : ms.map (·.1) = srtT ((sprN (insT paths) lot (numT (insT paths) lot) 10 (Str.ofString "") false).map (·.1)) := by rw [← hms]; exact srtM_fst _
    rw [this, srt_idem gl]
  rw [decide_eq_true e1]
  have e2 : valsT ms = true := by
    unfold valsT
    rw [List.all_eq_true]
    intro b hb
    obtain ⟨x, hx, rfl⟩ := List.mem_map.mp hb
    have := (spr_mem (perm.mem_iff.mp hx)).2
    simp [onOff, this]
  rw [e2]
  unfold hushAll
  rw [Bool.true_and, Bool.true_and, List.all_eq_true]
  intro b hb
  obtain ⟨p, hp, rfl⟩ := List.mem_map.mp hb
  obtain ⟨ds, x, gp⟩ := g.gps p hp
  have := spr_eff (lot := lot) (num := numT (insT paths) lot) (up_root gp hp) (hu := false) (m := ms) nt (fun t _ => tget_perm nd ndS perm t)
  have e : hushT ms (p :: ups p) = eff ms (p :: ups p) false := rfl
  rw [e, this]
  simp
theorem few_places (g : PsOk paths) : (fewH paths lot).map (·.1) = srtT (kIns paths ++ paths) := by
  by_cases ne : paths = []
  · subst ne
    rfl
  have : fewH paths lot = (srtT (trav (insT paths) 10 (Str.ofString ""))).map fun t => (t, numT (insT paths) lot t) := by unfold fewH; rw [if_neg ne]
  rw [this, keys_map]
  exact srt_uniq (fun t ht => all_gl g.gps t ((trav_perm g ne).mem_iff.mp ht)) (trav_perm g ne)
theorem wf_all (g : PsOk paths) {t : Str} (h : t ∈ kIns paths ++ paths) : ∃ n, n + 1 ≤ 10 ∧ wfT (insT paths) (n + 1) t := by
  have lp := g.len
  rcases List.mem_append.mp h with h | h
  · obtain ⟨ds, rfl, h1, h2⟩ := kIns_dir g.gps h
    exact ⟨(4 - ds.length) + 1, by omega, wf_dir g.gps (by omega) (4 - ds.length) ⟨h1, h2⟩ (by omega) h⟩
  · obtain ⟨ds, x, gp⟩ := g.gps t h
    exact ⟨0, by omega, wf_path gp 0⟩
theorem few_hts (g : PsOk paths) : lawHts (fewH paths lot) paths lot = true := by
  have e := few_places (lot := lot) g
  unfold lawHts
  rw [decide_eq_true e, Bool.true_and]
  by_cases ne : paths = []
  · subst ne
    rfl
  have hH : fewH paths lot = (srtT (trav (insT paths) 10 (Str.ofString ""))).map fun t => (t, numT (insT paths) lot t) := by unfold fewH; rw [if_neg ne]
  have nd : ((fewH paths lot).map (·.1)).Nodup := by
    rw [e]
    exact (srt_perm _).nodup_iff.mpr (all_nodup g)
  have kn : knT (fewH paths lot) = fewH paths lot := by
    have := merge_app (m := []) (m2 := fewH paths lot) (by simpa using nd)
    simpa [mergeT, knT] using this
  have lk : ∀ t ∈ kIns paths ++ paths, tget (knT (fewH paths lot)) t = some (numT (insT paths) lot t) := fun t ht => by
    rw [kn, hH, tget_map, if_pos (srt_mem.mpr (all_trav g.gps ht))]
  unfold htsT
  rw [List.all_eq_true]
  intro x hx
  have hxm : x.1 ∈ kIns paths ++ paths := by
    rw [← srt_mem, ← e]
    exact List.mem_map.mpr ⟨x, hx, rfl⟩
  have ex : x = (x.1, numT (insT paths) lot x.1) := by
    rw [hH] at hx
    obtain ⟨t, ht, rfl⟩ := List.mem_map.mp hx
    rfl
  obtain ⟨n, ln, w⟩ := wf_all g hxm
  have hnum := num_eq (lot := lot) w ln
  have key : bndH (!decide (x.1 ∈ paths)) (knT (fewH paths lot)) ((tget (insT paths) x.1).getD []) lot x.1 = numT (insT paths) lot x.1 := by
    rw [hnum, ← isFo_all g.gps hxm]
    unfold bndH
    by_cases hf : isFo x.1 = true
    · rw [if_pos hf, if_pos hf]
      have hin : ∀ i ∈ innT (insT paths) x.1, tget (knT (fewH paths lot)) i = some (numT (insT paths) lot i) := fun i hi => by
        obtain ⟨inn, e1, e2⟩ := innT_some hi
        rw [e2] at hi
        refine lk i ?_
        rcases clos_ins paths _ _ e1 i hi with h3 | h3
        · exact List.mem_append_right _ h3
        · exact List.mem_append_left _ (thas_mem.mp h3)
      have := sumW_sm hin
      show (mn (sumW _ (innT (insT paths) x.1) 0) (1 + sumW _ (innT (insT paths) x.1) 1), mn (sumW _ (innT (insT paths) x.1) 1) (1 + sumW _ (innT (insT paths) x.1) 0)) = _
      rw [this.1, this.2]
    · rw [if_neg hf, if_neg hf]
  unfold okH
  rw [key]
  rw [ex]
  simp
theorem few_len (g : PsOk paths) : lenT (fewM paths lot) (fewH paths lot) paths = true := by
  have lp := g.len
  unfold lenT
  by_cases ne : paths = []
  · subst ne
    rfl
  rw [if_neg ne, decide_eq_true_eq]
  have hM : fewM paths lot = srtM (sprN (insT paths) lot (numT (insT paths) lot) 10 (Str.ofString "") false) := by unfold fewM; rw [if_neg ne]
  have hH : fewH paths lot = (srtT (trav (insT paths) 10 (Str.ofString ""))).map fun t => (t, numT (insT paths) lot t) := by unfold fewH; rw [if_neg ne]
  have l1 : (fewM paths lot).length = (sprN (insT paths) lot (numT (insT paths) lot) 10 (Str.ofString "") false).length := by rw [hM]; exact (insS_perm _ _).length_eq
  have wr := wf_root g.gps (by omega : paths.length ≤ 40) ne
  have c := spr_cnt (lot := lot) (hu := false) (Nat.le_refl 10) wr
  rw [l1, c]
  have gl : GLs (trav (insT paths) 10 (Str.ofString "")) := fun t ht => all_gl g.gps t ((trav_perm g ne).mem_iff.mp ht)
  have hr : Str.ofString "" ∈ srtT (trav (insT paths) 10 (Str.ofString "")) := srt_mem.mpr (trav_self wr)
  have so := insS_sorted leP_total (trav (insT paths) 10 (Str.ofString ""))
  have hh : (srtT (trav (insT paths) 10 (Str.ofString ""))).head? = some (Str.ofString "") := by
    cases hs : srtT (trav (insT paths) 10 (Str.ofString "")) with
    | nil => rw [hs] at hr; simp at hr
    | cons a r =>
      have so : (srtT (trav (insT paths) 10 (Str.ofString ""))).Pairwise (fun a b => leP a b = true) := so
      rw [hs] at so hr
      have ha : a ∈ trav (insT paths) 10 (Str.ofString "") := srt_mem.mp (by rw [hs]; simp)
      obtain ⟨ds, x, ga⟩ := gl a ha
      have h1 : leP (Str.ofString "") a = true := le_emp ga
      have h2 : leP a (Str.ofString "") = true := by
        rcases List.mem_cons.mp hr with e | hm
        · rw [← e]; exact leP_total.refl _
        · exact (List.pairwise_cons.mp so).1 _ hm
      rw [leP_anti ga em_gl' h2 h1]
      rfl
  rw [hH]
  cases hs : srtT (trav (insT paths) 10 (Str.ofString "")) with
  | nil => rw [hs] at hh; cases hh
  | cons a r =>
    rw [hs] at hh
    have : a = Str.ofString "" := Option.some.inj hh
    rw [this]
    rfl
theorem few_pl (g : PsOk paths) : plT (fewM paths lot) paths = true := by
  unfold plT
  rw [List.all_eq_true]
  intro b hb
  obtain ⟨s, hs, rfl⟩ := List.mem_map.mp hb
  obtain ⟨x, hx, rfl⟩ := List.mem_map.mp hs
  by_cases ne : paths = []
  · subst ne
    simp [fewM] at hx
  have hM : fewM paths lot = srtM (sprN (insT paths) lot (numT (insT paths) lot) 10 (Str.ofString "") false) := by unfold fewM; rw [if_neg ne]
  rw [hM] at hx
  have h1 := (spr_mem ((insS_perm _ _).mem_iff.mp hx)).1
  have h2 : x.1 ∈ kIns paths ++ paths := (trav_perm g ne).mem_iff.mp h1
  have := isFo_all g.gps h2
  cases h : decide (x.1 ∈ paths) <;> simp_all
theorem few_due (g : PsOk paths) : dueT (fewM paths lot) (fewH paths lot) paths lot = true := by
  unfold dueT
  rw [few_pl g, few_say g, few_hts g, few_len g]
  rfl
/-- one more saying, one more height: no longer -/
theorem few_more (g : PsOk paths) {ms : List Mk'} {x : Ht} : shT ms (fewH paths lot ++ [x]) paths lot = false := by
  have e := few_places (lot := lot) g
  have ne : (fewH paths lot ++ [x]).map (·.1) ≠ srtT (kIns paths ++ paths) := fun z => by
    have := congrArg List.length z
    rw [← e] at this
    simp at this
  unfold shT
  rw [decide_eq_false ne]
  simp
end
section
variable {paths lot lot' : List Str} (h : ∀ s, s ∈ lot ↔ s ∈ lot')
include h
theorem say_lot (ms : List Mk') : sayT ms paths lot = sayT ms paths lot' := by
  unfold sayT hushAll
  simp only [h]
theorem hts_lot (hs : List Ht) : lawHts hs paths lot = lawHts hs paths lot' := by
  unfold lawHts htsT okH bndH
  simp only [h]
end
end P7
end
section
set_option maxHeartbeats 4000000
namespace P7
open PySem Mx My Wk L2
def OM (ms : List Mk') (n : Nat) : Prop := (∀ x ∈ ms, (∃ ds y, GL x.1 ds y) ∧ Sok x.2) ∧ ms.length ≤ n
def OH (hs : List Ht) (n : Nat) : Prop := (∀ x ∈ hs, Sok x.1) ∧ hs.length ≤ n
theorem cut_mem {α : Type} {xs : List α} {lo hi : Option Int} {x : α} (h : x ∈ cutT xs lo hi) : x ∈ xs := List.mem_of_mem_drop (List.mem_of_mem_take h)
theorem cut_len {α : Type} (xs : List α) (lo hi : Option Int) : (cutT xs lo hi).length ≤ xs.length := by
  unfold cutT
  rw [List.length_take, List.length_drop]
  omega
theorem OM.cut {ms : List Mk'} {n : Nat} (o : OM ms n) (lo hi : Option Int) : OM (cutT ms lo hi) n := ⟨fun x hx => o.1 x (cut_mem hx), Nat.le_trans (cut_len _ _ _) o.2⟩
theorem OM.app {a b : List Mk'} {n m : Nat} (o : OM a n) (p : OM b m) : OM (a ++ b) (n + m) := ⟨fun x hx => by
  rcases List.mem_append.mp hx with h | h
  · exact o.1 x h
  · exact p.1 x h, by have := o.2; have := p.2; rw [List.length_append]; omega⟩
theorem OM.rev {ms : List Mk'} {n : Nat} (o : OM ms n) : OM ms.reverse n := ⟨fun x hx => o.1 x (List.mem_reverse.mp hx), by rw [List.length_reverse]; exact o.2⟩
theorem OM.up {ms : List Mk'} {n m : Nat} (o : OM ms n) (l : n ≤ m) : OM ms m := ⟨o.1, Nat.le_trans o.2 l⟩
theorem OM.one {s w : Str} {ds : List Str} {y : Str} (g : GL s ds y) (k : Sok w) : OM [(s, w)] 1 := ⟨fun x hx => by rw [List.mem_singleton.mp hx]; exact ⟨⟨ds, y, g⟩, k⟩, by simp⟩
theorem OM.nil : OM [] 0 := ⟨by simp, by simp⟩
theorem OH.cut {ms : List Ht} {n : Nat} (o : OH ms n) (lo hi : Option Int) : OH (cutT ms lo hi) n := ⟨fun x hx => o.1 x (cut_mem hx), Nat.le_trans (cut_len _ _ _) o.2⟩
theorem OH.app {a b : List Ht} {n m : Nat} (o : OH a n) (p : OH b m) : OH (a ++ b) (n + m) := ⟨fun x hx => by
  rcases List.mem_append.mp hx with h | h
  · exact o.1 x h
  · exact p.1 x h, by have := o.2; have := p.2; rw [List.length_append]; omega⟩
theorem OH.rev {ms : List Ht} {n : Nat} (o : OH ms n) : OH ms.reverse n := ⟨fun x hx => o.1 x (List.mem_reverse.mp hx), by rw [List.length_reverse]; exact o.2⟩
theorem OH.up {ms : List Ht} {n m : Nat} (o : OH ms n) (l : n ≤ m) : OH ms m := ⟨o.1, Nat.le_trans o.2 l⟩
theorem OH.nil : OH [] 0 := ⟨by simp, by simp⟩
theorem OH.one {s : Str} {a b : Int} (k : Sok s) : OH [(s, a, b)] 1 := ⟨fun x hx => by rw [List.mem_singleton.mp hx]; exact k, by simp⟩
theorem mem_zi {α : Type} {xs : List α} {z : α × Nat} (h : z ∈ xs.zipIdx) : z.1 ∈ xs := by
  obtain ⟨i, hi⟩ := List.mem_iff_getElem?.mp h
  rw [List.getElem?_zipIdx] at hi
  obtain ⟨a, ea, ez⟩ := Option.map_eq_some_iff.mp hi
  rw [← ez]
  exact List.mem_of_getElem? ea
theorem OM.enum {ms : List Mk'} {n : Nat} (o : OM ms n) {f : Nat → Mk' → Mk'} (hf : ∀ i x, x ∈ ms → (f i x).1 = x.1 ∧ Sok (f i x).2) : OM (ms.zipIdx.map fun z => f z.2 z.1) n := ⟨fun x hx => by
  obtain ⟨z, hz, rfl⟩ := List.mem_map.mp hx
  have := hf z.2 z.1 (mem_zi hz)
  rw [this.1]
  exact ⟨(o.1 _ (mem_zi hz)).1, this.2⟩, by rw [List.length_map, List.length_zipIdx]; exact o.2⟩
theorem OH.enum {ms : List Ht} {n : Nat} (o : OH ms n) {f : Nat → Ht → Ht} (hf : ∀ i x, x ∈ ms → (f i x).1 = x.1) : OH (ms.zipIdx.map fun z => f z.2 z.1) n := ⟨fun x hx => by
  obtain ⟨z, hz, rfl⟩ := List.mem_map.mp hx
  have := hf z.2 z.1 (mem_zi hz)
  rw [this]
  exact o.1 _ (mem_zi hz), by rw [List.length_map, List.length_zipIdx]; exact o.2⟩
theorem OH.map {ms : List Ht} {n : Nat} (o : OH ms n) {f : Ht → Ht} (hf : ∀ x, (f x).1 = x.1) : OH (ms.map f) n := ⟨fun x hx => by
  obtain ⟨z, hz, rfl⟩ := List.mem_map.mp hx
  rw [hf]
  exact o.1 _ hz, by rw [List.length_map]; exact o.2⟩
def Gd (x : Pr) : Prop := OM x.1 5000 ∧ OH x.2 5000
theorem for_tup {α : Type} {A : U → α → Prop} {p : Nat} {us0 : List U} {xs : List α} {g : GM} {b : SM} {us : Sl} {h : Hh} {K : Sl → Hh → Prop} {R : U → Hh → Prop} (J : Nat → Sl → Hh → Prop) (hr : Paired A us0 xs) (l : xs.length < 1000000) (hJ : J 0 us h) (hk : ∀ i us h', J i us h' → h'.get p = some (.tup us0)) (hn : ∀ us h', J xs.length us h' → K us h')
    (hs : ∀ i x u us h', xs[i]? = some x → A u x → J i us h' → ok (g u us h') fun us1 h2 => okB (b us1 h2) (J (i + 1)) K R) : okS (forL (.tup p) g b fuel 0 us h) K R := by
  refine for0 xs.length J l hJ (fun us h' j => ⟨?_, hn us h' j⟩) fun i us h' hi j => ?_
  · rw [nx_tup (hk _ _ _ j), ← Plen hr]
    simp
  · obtain ⟨u, eu, ru⟩ := Pnth hr (i := i) (b := xs[i]) (by simp)
    exact ⟨u, h', by rw [nx_tup (hk _ _ _ j), eu]; rfl, hs i xs[i] u us h' (by simp) ru j⟩
def wds : List Str := [Str.ofString "on", Str.ofString "off", Str.ofString "of", Str.ofString ""]
theorem wds_sok : ∀ w ∈ wds, Sok w := by decide +kernel
theorem zz_gl : GL (Str.ofString "zz/") [Str.ofString "zz"] ⟨#[]⟩ := ⟨by decide +kernel, by decide +kernel, .inr rfl, by simp⟩
theorem zz_gl2 : GL (Str.ofString "zz") [] (Str.ofString "zz") := ⟨by decide +kernel, by simp, .inl (by decide +kernel), by simp⟩
theorem em_gl : GL (Str.ofString "") [] ⟨#[]⟩ := ⟨by decide +kernel, by simp, .inr rfl, by simp⟩
end P7
end
section
set_option maxHeartbeats 4000000
namespace P7
open PySem Mx My Wk L2
theorem eLM : Enc (iL iM) 8 (fun xs => .list (xs.map fun x => .tuple [.str x.1, .str x.2])) (fun xs => ∀ x ∈ xs, Sok x.1 ∧ Sok x.2) := eL (eT2 (eS 6) (eS 6))
theorem eLH : Enc (iL iH) 8 (fun xs => .list (xs.map fun x => .tuple [.str x.1, .int x.2.1, .int x.2.2])) (fun xs => ∀ x ∈ xs, Sok x.1 ∧ True ∧ True) := eL (eT3 (eS 6) (eI 6) (eI 6))
theorem OM.mk {ms : List Mk'} (o : OM ms 5000) : MkOk ms := ⟨fun x hx => (o.1 x hx).1, fun x hx => (o.1 x hx).2, Nat.le_trans o.2 (by decide)⟩
theorem trav_gl {paths : List Str} (g : GPs paths) (ne : paths ≠ []) : GLs (trav (insT paths) 10 (Str.ofString "")) := fun t ht => by
  refine all_gl g t (trav_sub 10 ?_ ht)
  have := root_in g ne
  rw [empt]
  exact List.mem_append_left _ this
theorem few_om {paths lot : List Str} (g : PsOk paths) : OM (fewM paths lot) 1000 := by
  unfold fewM
  split
  · exact OM.nil.up (by decide)
  · rename_i ne
    have lp := g.len
    have lt := (trav_len g.gps (by omega : paths.length ≤ 40) ne).1
    refine ⟨fun x hx => ?_, ?_⟩
    · have hx := (insS_perm _ _).mem_iff.mp hx
      obtain ⟨h1, h2⟩ := spr_mem hx
      refine ⟨trav_gl g.gps ne _ h1, ?_⟩
      rcases h2 with h2 | h2 <;> rw [h2] <;> decide +kernel
    · unfold srtM
      rw [(insS_perm _ _).length_eq]
      exact Nat.le_trans spr_len (by omega)
theorem few_oh {paths lot : List Str} (g : PsOk paths) : OH (fewH paths lot) 1000 := by
  unfold fewH
  split
  · exact OH.nil.up (by decide)
  · rename_i ne
    have lp := g.len
    have lt := (trav_len g.gps (by omega : paths.length ≤ 40) ne).1
    refine ⟨fun x hx => ?_, ?_⟩
    · obtain ⟨t, ht, rfl⟩ := List.mem_map.mp hx
      exact gl_sok (trav_gl g.gps ne) t (srt_mem.mp ht)
    · rw [List.length_map, srt_len]
      omega
theorem isI_few {h : Hh} {p : Nat} {um uh : U} (hp : h.get p = some (.ins "Few" [("marks", um), ("heights", uh)])) : isI "Few" "shows" (.loc p) h = true := by
  have e1 : ((Str.ofString "shows") == (Str.ofString "marks")) = false := by decide +kernel
  have e2 : ((Str.ofString "shows") == (Str.ofString "heights")) = false := by decide +kernel
  unfold isI
  simp only [hp]
  rw [List.lookup_cons, e1, List.lookup_cons, e2]
  simp
theorem isi_bool {h : Hh} {b : Bool} {K : U → Hh → Prop} (q : K (.bl true) h) : okO (mIsi "bool" (.bl b) h) K := by
  have e : isaT "bool" "bool" = some true := by decide +kernel
  have : mIsi "bool" (.bl b) h = some (.bl true, h) := by
    show (isaT "bool" "bool").map (fun b => (U.bl b, h)) = _
    rw [e]
    rfl
  rw [this]
  exact q
/-- what is drawn of a list by numbers of its places -/
def pick (paths : List Str) (c : Nat → Bool) : List Str := (paths.zipIdx.filter fun z => c z.2).map (·.1)
theorem pick_sub {paths : List Str} {c : Nat → Bool} : (pick paths c).Sublist paths := by
  have h1 : (pick paths c).Sublist (paths.zipIdx.map (·.1)) := (List.filter_sublist).map _
  have h2 : paths.zipIdx.map (·.1) = paths := by simp
  rw [h2] at h1
  exact h1
theorem pick_lt {paths : List Str} {c : Nat → Bool} (nd : paths.Nodup) : LtOk (pick paths c) paths := ⟨fun s hs => pick_sub.subset hs, nd.sublist pick_sub⟩
theorem ev_pick {h0 : Hh} {us : Sl} {e1 e2 : EM} {t : TM} {paths : List Str} {i j : Nat} (c : Nat → Bool) (r : Ev (iL iS) h0 us e1 paths) (l : paths.length < 1000000)
    (ht : ∀ n s h, Ext h0 h → ok (t (((wipeU us [i, j]).set i (some (.int (n : Nat)))).set j (some (.str s))) h) fun b h' => b = c n ∧ Ext h h') (hs : ∀ n s h, Ext h0 h → Ev iS h (((wipeU us [i, j]).set i (some (.int (n : Nat)))).set j (some (.str s))) e2 s) : Ev (iL iS) h0 us (eLc (iCall mkEn (aCons e1 aNil)) (gTup [gName i, gName j]) t e2 [i, j]) (pick paths c) := fun h x K k => by
  rw [ok_eLc]
  simp only [ok_iCall, ok_aCons, ok_aNil]
  refine r h x _ fun w h' x' hw => t_en hw fun p vs e hp rp => ?_
  subst e
  refine lc_map (F := iS) (xs := paths.zipIdx) (fun z => c z.2) (fun z => z.1) (by simpa using l) (fun h2 hx => ?_) (fun n z h2 ez hx => ?_) fun ys h2 he hy => ?_
  · rw [nx_enum (hx.get hp), List.length_zipIdx, ← Plen rp]
    simp
  · rw [List.getElem?_zipIdx] at ez
    obtain ⟨a, ea, ez⟩ := Option.map_eq_some_iff.mp ez
    subst ez
    obtain ⟨u, eu, ru⟩ := Pnth rp ea
    cases ru
    refine ⟨_, _, by rw [nx_enum (hx.get hp), eu]; rfl, Ext.push, ?_⟩
    rw [ok_gTup2 get_push_size]
    have e0 : (0 + n) = n := by omega
    have xx : Ext h0 (h2.push (.tup [.int (n : Nat), .str a])) := x.trans (x'.trans (hx.trans Ext.push))
    rw [e0]
    refine ⟨Ext.refl, ok_mono (ht n a _ xx) fun b h3 k => ⟨k.1, k.2, fun _ => ?_⟩⟩
    exact hs n a _ (xx.trans k.2) _ Ext.refl _ fun w h4 x4 r4 => ⟨x4, r4⟩
  · exact k _ _ (x'.trans he.pushR) (iL_mk hy)
end P7
end
section
set_option maxHeartbeats 4000000
namespace P7
open PySem Mx My Wk L2
theorem isC_few {h : Hh} {p : Nat} {fs : List (Str × U)} {K : U → Hh → Prop} (hp : h.get p = some (.ins "Few" fs)) (q : K (.bl true) h) : okO (mIsC "Few" (.loc p) h) K := by
  have : mIsC "Few" (.loc p) h = some (.bl true, h) := by
    unfold mIsC
    simp only [hp]
    rw [if_pos trivial]
  rw [this]
  exact q
theorem few_right_ok {h : Hh} {u up' ul : U} {ms : List Mk'} {hs : List Ht} {paths lot : List Str} {P : U → Hh → Prop} (rf : iFew h u ms hs) (rp : iL iS h up' paths) (rl : iL iS h ul lot) (g : GPs paths) (lp : paths.length ≤ 40) (gm : MkOk ms) (sk : ∀ x ∈ hs, Sok x.1) (l : hs.length ≤ 10000)
    (h1 : sayT ms paths lot = true) (h2 : lawHts hs paths lot = true) (h3 : lenT ms hs paths = true) (h4 : paths = [] → ms = [] ∧ hs = []) (q : ∀ h', Ext h h' → P (.bl true) h') : ok (F__law_few_right [u, up', ul] h) P := by
  obtain ⟨pf, um, uh, rfl, hf, rm, rh⟩ := rf
  unfold F__law_few_right B__law_few_right
  rw [ok_mkF]
  refine okS_cut (fun us h' => us = [some (.loc pf), some up', some ul] ∧ Ext h h') ?_ ?_
  · rw [okS_if]
    simp only [ok_tOr, ok_tNot, ok_tB, ok_eUn, ok_eVar]
    refine ⟨_, rfl, isC_few hf ⟨_, rfl, ?_⟩⟩
    rw [if_neg (by simp)]
    simp only [ok_eCall, ok_aCons, ok_aNil, ok_eUn, ok_eVar]
    refine ⟨_, rfl, fld_m hf ⟨_, rfl, _, rfl, law_are_sayings_ok rm rp rl g lp gm fun h' x' => ⟨_, rfl, ?_⟩⟩⟩
    rw [h1, if_neg (by simp), okS_nil]
    exact ⟨rfl, x'⟩
  rintro _ h5 ⟨rfl, x5⟩
  have hf5 := x5.get hf
  refine okS_cut (fun us h' => us = [some (.loc pf), some up', some ul] ∧ Ext h5 h' ∧ paths ≠ []) ?_ ?_
  · rw [okS_if]
    simp only [ok_tB, ok_eBin, ok_eVar, ok_eLst, ok_aNil, o_lst]
    refine ⟨_, rfl, by rw [szl]; simp, ?_⟩
    have kp : ∀ s ∈ paths, Sok s := fun s hs => by
      obtain ⟨ds, x, gp⟩ := g s hs
      exact gp.sok
    refine t_eq eLS (up (x5.trans Ext.push) rp) (atL_nil (P := iS)).iL kp (by simp) ⟨_, rfl, ?_⟩
    by_cases he : paths = []
    · rw [decide_eq_true he, if_pos rfl]
      obtain ⟨e1, e2⟩ := h4 he
      subst e1 e2
      simp only [okS_seq, okS_ret, ok_eAnd, ok_eBin, ok_eUn, ok_eVar, ok_eLst, ok_aNil, o_lst]
      refine ⟨_, rfl, fld_m (Ext.push.get hf5) ⟨by rw [szl]; simp, t_eq eLM (up (x5.trans (Ext.push.trans Ext.push)) rm) (atL_nil (P := iM)).iL (by simp) (by simp) ⟨_, rfl, ?_⟩⟩⟩
      rw [if_pos (by simp)]
      refine ⟨_, rfl, fld_h (Ext.push.get (Ext.push.get hf5)) ⟨by rw [szl]; simp, t_eq eLH (up (x5.trans (Ext.push.trans (Ext.push.trans Ext.push))) rh) (atL_nil (P := iH)).iL (by simp) (by simp) ?_⟩⟩
      exact q _ (x5.trans (Ext.push.trans (Ext.push.trans Ext.push)))
    · rw [decide_eq_false he, if_neg (by simp), okS_nil]
      exact ⟨rfl, Ext.push, he⟩
  rintro _ h6 ⟨rfl, x6, ne⟩
  have x56 := x5.trans x6
  have eh : hs.map (·.1) = srtT (kIns paths ++ paths) := by
    unfold lawHts at h2
    simp at h2
    exact h2.1
  simp only [okS_seq, okS_ret, ok_eAnd, ok_eCall, ok_aCons, ok_aNil, ok_eUn, ok_eVar, ok_eBin, ok_eC, ok_eCb]
  refine ⟨_, rfl, fld_h (x56.get hf) ⟨_, rfl, _, rfl, law_are_heights_ok (up x56 rh) (up x56 rp) (up x56 rl) g lp sk l fun h7 x7 => ⟨_, rfl, ?_⟩⟩⟩
  have x57 := x56.trans x7
  rw [h2, if_pos rfl]
  refine ⟨_, rfl, fld_h (x57.get hf) (head_ix (up x57 rh) (hs_ne eh ne) ⟨_, rfl, fld_m (x57.get hf) (t_len (up x57 rm) ?_)⟩)⟩
  unfold lenT at h3
  rw [if_neg ne, decide_eq_true_eq] at h3
  rw [o_eqI, ← h3, beq_self_eq_true]
  exact q _ x57
theorem o_notB {a b : Bool} {h : Hh} {K : U → Hh → Prop} : okO (opNotN (.bl a) (.bl b) h) K ↔ K (.bl (!decide (a = b))) h := Iff.rfl
/-- a list of lists stays, whatever is put in its place -/
theorem ll_stay {h : Hh} {p : Nat} {x : List Str} {xs : List (List Str)} {o' : Ob} (o : atL (iL iS) h p (x :: xs)) {u : U} {y : List Str} (r : iL iS h u y) : iL iS (h.set p o') u y := by
  obtain ⟨us, e, rr⟩ := o
  cases rr with
  | cons r0 _ =>
    obtain ⟨q0, ws, rfl, _, _⟩ := r0
    obtain ⟨q, vs, rfl, hq, rv⟩ := r
    have nq : q ≠ p := fun z => by
      rw [z, e] at hq
      cases hq
      cases rv with
      | cons r1 _ => cases r1
    exact ⟨q, vs, rfl, by rw [Hh.get_set_ne nq]; exact hq, rv⟩
theorem ll_app {h : Hh} {p : Nat} {x : List Str} {xs : List (List Str)} {u : U} {y : List Str} {K : U → Hh → Prop} (o : atL (iL iS) h p (x :: xs)) (r : iL iS h u y) (l : xs.length < 1000) (k : ∀ h', (∀ h0, Ext h0 h → h0.size ≤ p → Ext h0 h') → atL (iL iS) h' p ((x :: xs) ++ [y]) → K .non h') : okO (mAppend (.loc p) [u] h) K := by
  obtain ⟨us, e, rr⟩ := id o
  rw [o_append e]
  refine ⟨by rw [Plen rr, szl]; simp; omega, k _ (fun h0 x l => x.set l) ⟨_, get_set_same e, Papp (Pm rr fun _ _ => ll_stay o) (.cons (ll_stay o r) .nil)⟩⟩
theorem lt_rev {lot paths : List Str} (g : LtOk lot paths) : LtOk lot.reverse paths := ⟨fun s hs => g.sub s (List.mem_reverse.mp hs), by unfold List.Nodup; rw [List.pairwise_reverse]; exact List.Pairwise.imp (fun h => Ne.symm h) g.nd⟩
theorem a_gp : GP (Str.ofString "a") [] (Str.ofString "a") := ⟨by decide +kernel, by simp, by decide +kernel, by simp⟩
theorem a_ps : PsOk [Str.ofString "a"] := ⟨fun s hs => ⟨[], Str.ofString "a", by rw [List.mem_singleton.mp hs]; exact a_gp, by decide +kernel⟩, by simp, by simp⟩
theorem a_one : (fewM [Str.ofString "a"] [Str.ofString "a"]).length = 1 := by decide +kernel
end P7
end
section
set_option maxHeartbeats 4000000
namespace P7
open PySem Mx My Wk L2
theorem few_nil {paths lot : List Str} (h : paths = []) : fewM paths lot = [] ∧ fewH paths lot = [] := by
  unfold fewM fewH
  rw [if_pos h, if_pos h]
  exact ⟨rfl, rfl⟩
/-- the turn of one lot -/
theorem lot_turn {hL h : Hh} {up' ul : U} {paths lot : List Str} {w0 w1 w2 w3 w5 w7 w8 w9 : Option U} {R : U → Hh → Prop} (x : Ext hL h) (rp : iL iS hL up' paths) (rl : iL iS hL ul lot) (g : PsOk paths) (gl : LtOk lot paths) :
    okS ((sSeq (sPar [8, 9] (aCons (eCb mList (aCons (eVar 4) (aNil))) (aCons (eUn mRev (eVar 6)) (aNil)))) (sSeq (sAsg (eCall F_fewest (aCons (eVar 8) (aCons (eVar 9) (aNil)))) (gName 7)) (sSeq (sIf (tOr (tB' (eBin opNe (eVar 8) (eVar 4))) (tOr (tB' (eBin opNe (eVar 9) (eUn mRev (eVar 6)))) (tNot (tB' (eCall F__law_few_right (aCons (eVar 7) (aCons (eVar 4) (aCons (eVar 6) (aNil))))))))) (sSeq (sRet (eC (.bl false))) (sNil)) (sNil)) (sSeq (sIf (tB' (eBin opNotN (eMeth "Few" "shows" F_Few_shows (eVar 7) (aCons (eVar 8) (aCons (eVar 9) (aNil)))) (eC (.bl true)))) (sSeq (sRet (eC (.bl false))) (sNil)) (sNil)) (sSeq (sExpr (eMt isL mAppend (eUn (mFld "Few" "marks") (eVar 7)) (aCons (eTup (aCons (eC (.str "")) (aCons (eC (.str "off")) (aNil)))) (aNil)))) (sSeq (sExpr (eMt isL mAppend (eUn (mFld "Few" "heights") (eVar 7)) (aCons (eTup (aCons (eC (.str "")) (aCons (eC (.int 0)) (aCons (eC (.int 0)) (aNil))))) (aNil)))) (sSeq (sIf (tOr (tB' (eBin opNotN (eMeth "Few" "shows" F_Few_shows (eVar 7) (aCons (eVar 8) (aCons (eVar 9) (aNil)))) (eC (.bl false)))) (tNot (tB' (eCall F__law_few_right (aCons (eCall F_fewest (aCons (eVar 8) (aCons (eVar 9) (aNil)))) (aCons (eVar 4) (aCons (eVar 6) (aNil)))))))) (sSeq (sRet (eC (.bl false))) (sNil)) (sNil)) (sNil)))))))) [w0, w1, w2, w3, some up', w5, some ul, w7, w8, w9, none, none] h)
      (fun us h' => (∃ w7 w8 w9, us = [w0, w1, w2, w3, some up', w5, some ul, w7, w8, w9, none, none]) ∧ Ext hL h') R := by
  have lp := g.len
  have gr := lt_rev gl
  have llot : lot.length ≤ 30 := Nat.le_trans (nodup_len gl.nd gl.sub) lp
  have mem : ∀ s, s ∈ lot.reverse ↔ s ∈ lot := fun s => List.mem_reverse
  have kp : ∀ s ∈ paths, Sok s := fun s hs => by
    obtain ⟨ds, x, gp⟩ := g.gps s hs
    exact gp.sok
  have kl : ∀ s ∈ lot.reverse, Sok s := fun s hs => kp s (gr.sub s hs)
  have om := few_om (lot := lot.reverse) g
  have oh := few_oh (lot := lot.reverse) g
  have gm : MkOk (fewM paths lot.reverse) := (om.up (by decide)).mk
  have h1 : sayT (fewM paths lot.reverse) paths lot = true := by rw [← say_lot mem]; exact few_say g
  have h2 : lawHts (fewH paths lot.reverse) paths lot = true := by rw [← hts_lot mem]; exact few_hts g
  have h3 : lenT (fewM paths lot.reverse) (fewH paths lot.reverse) paths = true := few_len g
  have h4 : paths = [] → fewM paths lot.reverse = [] ∧ fewH paths lot.reverse = [] := few_nil
  have hsh : shT (fewM paths lot.reverse) (fewH paths lot.reverse) paths lot.reverse = true := by rw [sh_due g.gps]; exact few_due g
  refine okS_cut (fun us h' => ∃ u8 u9, us = [w0, w1, w2, w3, some up', w5, some ul, w7, some u8, some u9, none, none] ∧ Ext h h' ∧ iL iS h' u8 paths ∧ iL iS h' u9 lot.reverse) ?_ ?_
  · simp only [okS_par, ok_aCons, ok_aNil, ok_eCb, ok_eUn, ok_eVar]
    exact ⟨_, rfl, t_list (up x rp) fun ha xa _ ra => ⟨_, rfl, t_rev (up (x.trans xa) rl) fun w hb xb rb => ⟨rfl, _, _, rfl, xa.trans xb, up xb ra, rb⟩⟩⟩
  rintro _ h5 ⟨u8, u9, rfl, x5, r8, r9⟩
  have y5 := x.trans x5
  refine okS_cut (fun us h' => ∃ pt a b, us = [w0, w1, w2, w3, some up', w5, some ul, some (.loc pt), some u8, some u9, none, none] ∧ Ext h5 h' ∧ h5.size ≤ pt ∧ h5.size ≤ a ∧ h5.size ≤ b ∧ a ≠ b ∧ h'.get pt = some (.ins "Few" [("marks", .loc a), ("heights", .loc b)]) ∧ atL iM h' a (fewM paths lot.reverse) ∧ atL iH h' b (fewH paths lot.reverse)) ?_ ?_
  · simp only [okS_set, ok_eCall, ok_aCons, ok_aNil, ok_eVar]
    exact ⟨_, rfl, _, rfl, fewest_ok r8 r9 g gr fun h6 p a b x6 l1 l2 l3 ab e1 e2 e3 => ⟨p, a, b, rfl, x6, l1, l2, l3, ab, e1, e2, e3⟩⟩
  rintro _ h6 ⟨pt, a, b, rfl, x6, l1, l2, l3, ab, e1, e2, e3⟩
  have y6 := y5.trans x6
  refine okS_cut (fun us h' => us = [w0, w1, w2, w3, some up', w5, some ul, some (.loc pt), some u8, some u9, none, none] ∧ Ext h6 h') ?_ ?_
  · rw [okS_if]
    simp only [ok_tOr, ok_tNot, ok_tB, ok_eBin, ok_eVar, ok_eUn]
    refine ⟨_, rfl, _, rfl, t_ne eLS (up x6 r8) (up y6 rp) kp kp ⟨_, rfl, ?_⟩⟩
    rw [if_neg (by simp)]
    refine ⟨_, rfl, _, rfl, t_rev (up y6 rl) fun w h7 x7 r7 => t_ne eLS (up (x6.trans x7) r9) r7 kl kl ⟨_, rfl, ?_⟩⟩
    rw [if_neg (by simp)]
    simp only [ok_eCall, ok_aCons, ok_aNil, ok_eVar]
    refine ⟨_, rfl, _, rfl, _, rfl, few_right_ok (ms := fewM paths lot.reverse) (hs := fewH paths lot.reverse) ⟨_, _, _, rfl, x7.get e1, (e2.up x7).iL, (e3.up x7).iL⟩ (up (y6.trans x7) rp) (up (y6.trans x7) rl) g.gps (by omega) gm oh.1 (by have := oh.2; omega) h1 h2 h3 h4 fun h8 x8 => ⟨_, rfl, ?_⟩⟩
    rw [if_neg (by simp), okS_nil]
    exact ⟨rfl, x7.trans x8⟩
  rintro _ h7 ⟨rfl, x7⟩
  have e17 := x7.get e1
  have e27 := e2.up x7
  have e37 := e3.up x7
  refine okS_cut (fun us h' => us = [w0, w1, w2, w3, some up', w5, some ul, some (.loc pt), some u8, some u9, none, none] ∧ Ext h7 h') ?_ ?_
  · rw [okS_if]
    simp only [ok_tB, ok_eBin, ok_eMeth, ok_aCons, ok_aNil, ok_eVar, ok_eC]
    refine ⟨_, rfl, isI_few e17, _, rfl, _, rfl, shows_ok (ms := fewM paths lot.reverse) (hs := fewH paths lot.reverse) ⟨_, _, _, rfl, e17, e27.iL, e37.iL⟩ (up (x6.trans x7) r8) (up (x6.trans x7) r9) g.gps (by omega) gm oh.1 (by have := oh.2; omega) fun h8 x8 => ?_⟩
    rw [o_notB, hsh]
    refine ⟨_, rfl, ?_⟩
    rw [if_neg (by simp), okS_nil]
    exact ⟨rfl, x8⟩
  rintro _ h8 ⟨rfl, x8⟩
  have e18 := x8.get e17
  have e28 := e27.up x8
  have e38 := e37.up x8
  have y8 := x6.trans (x7.trans x8)
  have s5 : h5.size ≤ h8.size := y8.le
  have npa : pt ≠ a := fun z => by
    obtain ⟨us, e, _⟩ := e28
    rw [z, e] at e18
    cases e18
  have npb : pt ≠ b := fun z => by
    obtain ⟨us, e, _⟩ := e38
    rw [z, e] at e18
    cases e18
  refine okS_cut (fun us h' => us = [w0, w1, w2, w3, some up', w5, some ul, some (.loc pt), some u8, some u9, none, none] ∧ Ext h5 h' ∧ h'.get pt = some (.ins "Few" [("marks", .loc a), ("heights", .loc b)]) ∧ atL iM h' a (fewM paths lot.reverse ++ [(Str.ofString "", Str.ofString "off")]) ∧ atL iH h' b (fewH paths lot.reverse)) ?_ ?_
  · simp only [okS_expr, ok_eMt, ok_eUn, ok_eVar, ok_aCons, ok_aNil, ok_eTup, ok_eC, o_tup]
    refine ⟨_, rfl, fld_m e18 ⟨t_isL e28.iL, by rw [szl]; simp, ?_⟩⟩
    refine atL_app (P := iM) (a := (Str.ofString "", Str.ofString "off")) (e28.up Ext.push) (iT2_mk (P := iS) (Q := iS) rfl rfl) (by have := om.2; omega) fun h9 y1 y2 y3 y4 o9 => ⟨by trivial, y1 _ y8.pushR l2, ?_, o9, ?_⟩
    · rw [y2 _ npa]
      exact Ext.push.get e18
    · obtain ⟨us, e, r⟩ := e38.up (Ext.push (o := .tup [.str (Str.ofString ""), .str (Str.ofString "off")]))
      exact ⟨us, by rw [y2 _ (Ne.symm ab)]; exact e, Pm r fun _ _ => Flat.flat y4⟩
  rintro _ h9 ⟨rfl, x9, e19, e29, e39⟩
  refine okS_cut (fun us h' => us = [w0, w1, w2, w3, some up', w5, some ul, some (.loc pt), some u8, some u9, none, none] ∧ Ext h5 h' ∧ h'.get pt = some (.ins "Few" [("marks", .loc a), ("heights", .loc b)]) ∧ atL iM h' a (fewM paths lot.reverse ++ [(Str.ofString "", Str.ofString "off")]) ∧ atL iH h' b (fewH paths lot.reverse ++ [(Str.ofString "", 0, 0)])) ?_ ?_
  · simp only [okS_expr, ok_eMt, ok_eUn, ok_eVar, ok_aCons, ok_aNil, ok_eTup, ok_eC, o_tup]
    refine ⟨_, rfl, fld_h e19 ⟨t_isL e39.iL, by rw [szl]; simp, ?_⟩⟩
    refine atL_app (P := iH) (a := (Str.ofString "", 0, 0)) (e39.up Ext.push) (iT3_mk (P := iS) (Q := iI) (R := iI) rfl rfl rfl) (by have := oh.2; omega) fun h10 y1 y2 y3 y4 o10 => ⟨by trivial, y1 _ x9.pushR l3, ?_, ?_, o10⟩
    · rw [y2 _ npb]
      exact Ext.push.get e19
    · obtain ⟨us, e, r⟩ := e29.up (Ext.push (o := .tup [.str (Str.ofString ""), .int 0, .int 0]))
      exact ⟨us, by rw [y2 _ ab]; exact e, Pm r fun _ _ => Flat.flat y4⟩
  rintro _ h10 ⟨rfl, x10, e110, e210, e310⟩
  have y10 := y5.trans x10
  have om2 : OM (fewM paths lot.reverse ++ [(Str.ofString "", Str.ofString "off")]) 5000 := (om.app (OM.one em_gl (by decide +kernel))).up (by decide)
  have oh2 : OH (fewH paths lot.reverse ++ [(Str.ofString "", 0, 0)]) 5000 := (oh.app (OH.one em_gl.sok)).up (by decide)
  rw [okS_seq, okS_if]
  simp only [ok_tOr, ok_tNot, ok_tB, ok_eBin, ok_eMeth, ok_aCons, ok_aNil, ok_eVar, ok_eC]
  refine ⟨_, rfl, isI_few e110, _, rfl, _, rfl, shows_ok (ms := fewM paths lot.reverse ++ [(Str.ofString "", Str.ofString "off")]) (hs := fewH paths lot.reverse ++ [(Str.ofString "", 0, 0)]) ⟨_, _, _, rfl, e110, e210.iL, e310.iL⟩ (up x10 r8) (up x10 r9) g.gps (by omega) om2.mk oh2.1 (by have := oh2.2; omega) fun h11 x11 => ?_⟩
  rw [o_notB, few_more g]
  refine ⟨_, rfl, ?_⟩
  rw [if_neg (by simp)]
  have y11 := y10.trans x11
  simp only [ok_eCall, ok_aCons, ok_aNil, ok_eVar]
  refine ⟨_, rfl, _, rfl, fewest_ok (up (x10.trans x11) r8) (up (x10.trans x11) r9) g gr fun h12 p a b x12 l1 l2 l3 ab e1 e2 e3 => ⟨_, rfl, _, rfl, ?_⟩⟩
  refine few_right_ok (ms := fewM paths lot.reverse) (hs := fewH paths lot.reverse) ⟨_, _, _, rfl, e1, e2.iL, e3.iL⟩ (up (y11.trans x12) rp) (up (y11.trans x12) rl) g.gps (by omega) gm oh.1 (by have := oh.2; omega) h1 h2 h3 h4 fun h13 x13 => ⟨_, rfl, ?_⟩
  rw [if_neg (by simp), okS_nil]
  exact ⟨⟨_, _, _, rfl⟩, y11.trans (x12.trans x13)⟩
end P7
end
section
set_option maxHeartbeats 4000000
namespace P7
open PySem Mx My Wk L2
theorem law_plain {ns : List Int} (hl : ns.length ≤ 63) : okS (B_law (some (.loc 0) :: List.replicate (12 - 1) none) ⟨[.lst (ns.map U.int)]⟩) (fun _ _ => False) (fun u _ => u = .bl true) := by
  have r0 : iL iI ⟨[.lst (ns.map U.int)]⟩ (.loc 0) ns := ⟨0, _, rfl, rfl, PI ns⟩
  generalize hh0 : (⟨[.lst (ns.map U.int)]⟩ : Hh) = h0 at r0
  clear hh0
  unfold B_law
  refine okS_cut (fun us h' => ∃ un names, us = [some (.loc 0), some un, none, none, none, none, none, none, none, none, none, none] ∧ Ext h0 h' ∧ iL iS h' un names ∧ names.length = 10 ∧ ∀ n ∈ names, isNm n = true) ?_ ?_
  · simp only [okS_set, ok_eCall, ok_aCons, ok_aNil, ok_eVar, ok_eC]
    exact ⟨_, rfl, names_ok r0 (by decide) fun names w h' l1 hn x r => ⟨w, names, rfl, x, r, l1, hn⟩⟩
  rintro _ h1 ⟨un, names, rfl, x1, rn, ln, hn⟩
  have r1 := up x1 r0
  rw [okS_seq]
  simp only [okS_for, ok_iCall, ok_aCons, ok_aNil, ok_eC, ok_eCb, ok_eVar]
  refine ⟨_, rfl, t_len r1 ?_⟩
  rw [o_min, o_max]
  generalize hmx : (if (if ((ns.length : Nat) : Int) < 10 then ((ns.length : Nat) : Int) else 10) > 2 then (if ((ns.length : Nat) : Int) < 10 then ((ns.length : Nat) : Int) else 10) else 2) = mx
  have hmx1 : 2 ≤ mx ∧ mx ≤ 10 := by
    rw [← hmx]
    split <;> split <;> omega
  have er : mkR2 [.int 1, .int mx] h1 = .ok (.rng 1 (mx - 1).toNat) h1 := by
    unfold mkR2
    dsimp only
    rw [if_pos (by unfold fits; simp; omega)]
  rw [er, ok_ok]
  refine for_rng (fun i us h' => (∃ w2 w3 w4 w5 w6 w7 w8 w9, us = [some (.loc 0), some un, w2, w3, w4, w5, w6, w7, w8, w9, none, none]) ∧ Ext h1 h') (by omega) ⟨⟨_, _, _, _, _, _, _, _, rfl⟩, Ext.refl⟩ ?_ ?_
  · rintro _ h' ⟨⟨w2, w3, w4, w5, w6, w7, w8, w9, rfl⟩, x'⟩
    simp only [okS_seq, okS_ret, ok_eAnd, ok_eBin, ok_eUn, ok_eCall, ok_aCons, ok_aNil, ok_eLst, ok_eC, o_lst]
    refine ⟨by rw [szl]; simp, by rw [szl]; simp, ?_⟩
    refine fewest_ok (paths := []) (lot := []) (up Ext.push (atL_nil (P := iS)).iL) (atL_nil (P := iS)).iL ps_nil ⟨by simp, by simp⟩ fun h2 p a b x2 l1 l2 l3 ab e1 e2 e3 => fld_m e1 ⟨by rw [szl]; simp, ?_⟩
    refine t_eq eLM (up Ext.push e2.iL) (atL_nil (P := iM)).iL (by rw [(few_nil rfl).1]; simp) (by simp) ⟨_, rfl, ?_⟩
    rw [(few_nil rfl).1, if_pos (by simp)]
    refine ⟨by rw [szl]; simp, by rw [szl]; simp, ?_⟩
    generalize h2.push (.lst []) = h3
    refine fewest_ok (paths := [Str.ofString "a"]) (lot := [Str.ofString "a"]) (up Ext.push (iL_mk (P := iS) (.cons rfl .nil))) (iL_mk (P := iS) (.cons rfl .nil)) a_ps ⟨by simp, by simp⟩ fun h4 p a b x4 l1 l2 l3 ab e1 e2 e3 => fld_h e1 ?_
    have hne : fewH [Str.ofString "a"] [Str.ofString "a"] ≠ [] := hs_ne (few_places a_ps) (by simp)
    refine head_ix e3.iL hne ?_
    have hlen := few_len (lot := [Str.ofString "a"]) a_ps
    unfold lenT at hlen
    rw [if_neg (by simp), decide_eq_true_eq, a_one] at hlen
    rw [o_eqI, ← hlen]
    rfl
  rintro i _ h' hi ⟨⟨w2, w3, w4, w5, w6, w7, w8, w9, rfl⟩, x2⟩
  simp only [ok_gName]
  refine okB_of ?_
  generalize hby : (1 + (i : Int)) = by'
  have hby0 : 0 ≤ by' := by omega
  have r2 := up x2 r1
  have rn2 := up x2 rn
  refine okS_cut (fun us h3 => ∃ ud dg, us = [some (.loc 0), some un, some (.int by'), some ud, w4, w5, w6, w7, w8, w9, none, none] ∧ Ext h' h3 ∧ iL iI h3 ud dg ∧ dg.length = 3 ∧ ∀ d ∈ dg, 0 ≤ d ∧ d < 1000003) ?_ ?_
  · simp only [okS_set, ok_eCall, ok_aCons, ok_aNil, ok_eVar, ok_eC, ok_eBin]
    refine ⟨_, rfl, _, rfl, ?_⟩
    rw [o_pow]
    refine ⟨by decide, ?_⟩
    rw [o_addI]
    have e6 : ((10 : Int) ^ (6 : Int).toNat + 3) = 1000003 := by decide
    rw [e6]
    exact digits_ok r2 hby0 (by decide) (by decide) (by decide) (by decide) fun dg w h3 l1 hd x3 rd => ⟨w, dg, rfl, x3, rd, l1, hd⟩
  rintro _ h3 ⟨ud, dg, rfl, x3, rd, ld, hd⟩
  have at_dg : ∀ i : Int, 0 ≤ i → i < 3 → ∃ d, atI dg i = some d ∧ 0 ≤ d ∧ d < 1000003 := fun i h0 h1 => by
    obtain ⟨d, e, hm⟩ := atI_some (xs := dg) h0 (by omega)
    exact ⟨d, e, hd d hm⟩
  obtain ⟨d0, ed0, hd0, _⟩ := at_dg 0 (by decide) (by decide)
  obtain ⟨d1, ed1, hd1, _⟩ := at_dg 1 (by decide) (by decide)
  obtain ⟨d2, ed2, hd2, _⟩ := at_dg 2 (by decide) (by decide)
  have dx : ∀ {h' : Hh} {i : Int} {d : Int} {K : U → Hh → Prop}, Ext h3 h' → atI dg i = some d → K (.int d) h' → okO (opIx ud (.int i) h') K := fun x e k => t_ix (up x rd) e fun w hw => by cases hw; exact k
  refine okS_cut (fun us h4 => ∃ up' paths, us = [some (.loc 0), some un, some (.int by'), some ud, some up', w5, w6, w7, w8, w9, none, none] ∧ Ext h3 h4 ∧ iL iS h4 up' paths ∧ PsOk paths) ?_ ?_
  · simp only [okS_set, ok_eCall, ok_aCons, ok_aNil, ok_eVar, ok_eC, ok_eBin]
    refine ⟨_, rfl, _, rfl, ?_⟩
    rw [o_addI]
    refine ⟨_, rfl, _, rfl, dx Ext.refl ed0 ?_⟩
    rw [o_mod]
    have m1 : 0 ≤ d0 % 13 := Int.emod_nonneg _ (by decide)
    have m2 : d0 % 13 < 13 := Int.emod_lt_of_pos _ (by decide)
    exact ⟨by decide, paths_ok (up x3 r2) (up x3 rn2) ln hn (by omega) m1 (by omega) fun paths w h4 g l x4 r4 => ⟨w, paths, rfl, x4, r4, g⟩⟩
  rintro _ h4 ⟨up', paths, rfl, x4, rp, g⟩
  have lp := g.len
  refine okS_cut (fun us h5 => ∃ p5 x xs, us = [some (.loc 0), some un, some (.int by'), some ud, some up', some (.loc p5), w6, w7, w8, w9, none, none] ∧ Ext h4 h5 ∧ h4.size ≤ p5 ∧ atL (iL iS) h5 p5 (x :: xs) ∧ (∀ y ∈ x :: xs, LtOk y paths) ∧ (x :: xs).length = 3) ?_ ?_
  · rw [okS_set, ok_eLst]
    have evC : Ev (iL iS) h4 [some (.loc 0), some un, some (.int by'), some ud, some up', w5, w6, w7, w8, w9, none, none] (eCb mList (aCons (eVar 4) aNil)) paths := fun h x K k => by
      simp only [ok_eCb, ok_aCons, ok_aNil, ok_eVar]
      exact ⟨_, rfl, t_list (up x rp) fun h' x' _ r' => k _ _ x' r'⟩
    refine eva_cons (P := iL iS) (ev_lst (P := iS) eva_nil (by simp)) (eva_cons evC (eva_cons (ev_pick (i := 11) (j := 10) (fun n => Builtin.bitAnd (d1 / 2 ^ n) 1 == 1) (ev_var rfl rp) (by omega) (fun n s h x => ?_) (fun n s h x => ev_var rfl rfl)) eva_nil)) h4 Ext.refl _ fun ws h5 x5 hw => ?_
    · simp only [ok_tB, ok_eBin, ok_eVar, ok_eC]
      refine ⟨_, rfl, dx (x4.trans x) ed1 ?_⟩
      refine ⟨_, rfl, ?_⟩
      rw [o_shr]
      refine ⟨by omega, ?_⟩
      rw [o_and, o_eqI]
      exact ⟨_, rfl, rfl, Ext.refl⟩
    · rw [o_lst]
      refine ⟨by rw [Plen hw, szl]; simp, h5.size, _, _, rfl, x5.trans Ext.push, x5.le, ⟨ws, get_push_size, Pm hw fun _ _ r => up Ext.push r⟩, fun y hy => ?_, rfl⟩
      simp only [List.mem_cons, List.not_mem_nil, or_false] at hy
      rcases hy with rfl | rfl | rfl
      · exact ⟨by simp, by simp⟩
      · exact ⟨fun _ h => h, g.nd⟩
      · exact pick_lt g.nd
  rintro _ h5 ⟨p5, y, ys, rfl, x5, lp5, o5, gy, l3⟩
  refine okS_cut (fun us h6 => ∃ zs, us = [some (.loc 0), some un, some (.int by'), some ud, some up', some (.loc p5), w6, w7, w8, w9, none, none] ∧ Ext h4 h6 ∧ iL (iL iS) h6 (.loc p5) zs ∧ (∀ y ∈ zs, LtOk y paths) ∧ zs.length ≤ 10) ?_ ?_
  · simp only [okS_expr, ok_eMt, ok_eVar, ok_aCons, ok_aNil, ok_eLc, ok_iSeq]
    obtain ⟨nz, en, hz⟩ : ∃ n, atI names (d2 % 3) = some n ∧ isNm n = true := by
      obtain ⟨n, e, hm⟩ := atI_some (xs := names) (i := d2 % 3) (Int.emod_nonneg _ (by decide)) (by have := Int.emod_lt_of_pos d2 (b := 3) (by decide); omega)
      exact ⟨n, e, hn n hm⟩
    refine ⟨_, rfl, t_isL o5.iL, _, rfl, ?_⟩
    refine t_lc (P := iS) (Q := iS) (fun s => !(Builtin.Str.occurrences s (nz ++ Str.ofString "/") 0 s.length 1).isEmpty) id (up x5 rp) (by omega) (fun s u h6 hs he hu => ?_) fun ws h6 x6 r6 => ?_
    · cases hu
      simp only [ok_gName, ok_tB, ok_eBin, ok_eVar, ok_eC, o_in]
      refine ⟨Ext.refl, _, rfl, _, rfl, dx (x4.trans (x5.trans he)) ed2 ?_⟩
      rw [o_mod]
      refine ⟨by decide, t_ix (up (x3.trans (x4.trans (x5.trans he))) rn2) en fun w hw => ?_⟩
      cases hw
      rw [o_addS]
      refine ⟨by have := (nm_len hz).2; have l1 : (Str.ofString "/").length = 1 := by decide +kernel
                 rw [szl, l1]; omega, _, rfl, _, rfl, _, rfl, rfl, Ext.refl, fun _ => ⟨_, rfl, Ext.refl, rfl⟩⟩
    · rw [List.map_id] at r6
      refine ll_app (o5.up x6) r6 (by simp at l3; omega) fun h7 y1 o7 => ⟨_, by trivial, y1 _ (x5.trans x6) lp5, o7.iL, fun z hz' => ?_, by simp at l3 ⊢; omega⟩
      rcases List.mem_append.mp hz' with hz' | hz'
      · exact gy z hz'
      · rw [List.mem_singleton.mp hz']
        exact ⟨fun s hs => (List.mem_filter.mp hs).1, g.nd.sublist List.filter_sublist⟩
  rintro _ h6 ⟨zs, rfl, x6, r6, gz, lz⟩
  obtain ⟨pz, us0, e, hp, rz⟩ := r6
  cases e
  have rp6 := up x6 rp
  rw [okS_seq]
  simp only [okS_for, ok_iSeq, ok_eVar]
  refine ⟨_, rfl, ?_⟩
  rw [mkIt_lst hp]
  refine for_list (fun i us h' => (∃ w6 w7 w8 w9, us = [some (.loc 0), some un, some (.int by'), some ud, some up', some (.loc p5), w6, w7, w8, w9, none, none]) ∧ Ext h6 h') rz (by omega) ⟨⟨_, _, _, _, rfl⟩, Ext.refl⟩ (fun i us h' j => j.2.get hp) ?_ ?_
  · rintro _ h7 ⟨⟨w6, w7, w8, w9, rfl⟩, x7⟩
    exact ⟨⟨_, _, _, _, _, _, _, _, rfl⟩, x2.trans (x3.trans (x4.trans (x6.trans x7)))⟩
  rintro j lot u _ h7 ej ru ⟨⟨w6, w7, w8, w9, rfl⟩, x7⟩
  simp only [ok_gName]
  refine okB_of ?_
  refine okS_mono (lot_turn (up' := up') (ul := u) x7 rp6 ru g (gz lot (List.mem_of_getElem? ej))) ?_ fun _ _ h => h
  rintro _ h8 ⟨⟨w7, w8, w9, rfl⟩, x8⟩
  exact ⟨⟨_, _, _, _, rfl⟩, x8⟩
end P7
end
section
set_option maxHeartbeats 0
open PySem Mx My
theorem PySem.Challenge.cw_hushroll_k06_whole_few_holds : PySem.Challenge.rw_hushroll_k06_whole_few.Holds :=
  Wk.ends fun ns hl => by
    have := P7.law_plain hl
    cases e : Wk.B_law (some (.loc 0) :: List.replicate (12 - 1) none) ⟨[.lst (ns.map U.int)]⟩ with
    | rt u h' => rw [e] at this; have this : u = .bl true := this; subst this; exact ⟨h', rfl⟩
    | nx us h' => rw [e] at this; exact absurd this id
    | bk us h' => rw [e] at this; exact absurd this id
    | ct us h' => rw [e] at this; exact absurd this id
    | exc x us h' => rw [e] at this; exact absurd this id
    | bad => rw [e] at this; exact absurd this id
end
