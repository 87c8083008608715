import PyProof.Rows.All
import Wide.All
import OpenK.AllK
import Wide.FinOn
import HandS.ForMost
import HandS.ForExc
import HandS.Lambda
import HandS.Conv
import HandS.TupAny
import HandS.TupMul
import HandS.Zip
import HandS.Deep
import HandS.Gcd
import HandS.Wide
import HandS.IsInst
import HandS.ExcIs
import HandS.ExcOwn
import HandS.Flow
import HandS.Style
import HandS.TupLe
import HandS.Defaults
import HandS.WordsExc
import HandS.ExcCtx
import HandS.HotCalls
import HandS.HeadHook1
import HandS.Head0
import HandS.Head1
import HandS.Head2
import HandS.HeadEnd
import HandS.HeadHook4
import HandS.HeadWalk
import HandS.Head3
import PySem.Challenge.RW_wheelmark_k56_whole_coarse_and_fine
import HandS.Words
set_option Elab.async false
set_option linter.all false
set_option maxRecDepth 100000
namespace DL
open PySem PySem.Spec PyProof.Rows L2

/-! ### pure values -/
inductive D where
  | non | bl (b : Bool) | int (i : Int) | str (x : Str) | ty (n : String) | fn (k : Nat)
  | lst (xs : List D) | tup (xs : List D) | scr (ns : List Int)
abbrev Frag := PySem.W.Frag
abbrev NT (o : HO) : Prop := ∀ ps, o ≠ .tbl ps
/-- nothing stands there but, perhaps, a table -/
def Nn (H : Hp) (b : Addr) : Prop := ∀ o, H b = some o → NT o → False
theorem Nn.of {H : Hp} {b : Addr} (h : H b = none) : Nn H b := fun o e _ => by rw [h] at e; cases e

mutual
inductive Den (K : Frag) (fa : Nat → Addr) (H : Hp) (B : List Addr) : D → V → Prop
  | non : Den K fa H B .non .non
  | bl (b : Bool) : Den K fa H B (.bl b) (.bl b)
  | int (i : Int) : Den K fa H B (.int i) (.int i)
  | str (x : Str) : Den K fa H B (.str x) (.str x)
  | ty (n : String) : Den K fa H B (.ty n) (.ty n)
  | fn (k : Nat) : Den K fa H B (.fn k) (.ref (fa k))
  | lst {a : Addr} {vs : List V} {xs : List D} : a ∉ B → H a = some (.lst vs) → DenL K fa H B xs vs → Den K fa H B (.lst xs) (.ref a)
  | tup {a : Addr} {vs : List V} {xs : List D} : SqT K H a vs → DenL K fa H B xs vs → Den K fa H B (.tup xs) (.ref a)
  | scr {a : Addr} {ns : List Int} : ((a ∉ B ∧ Rd H a (.lst (ns.map V.int))) ∨ ∀ G, SqL K G a (ns.map V.int)) → Den K fa H B (.scr ns) (.ref a)
inductive DenL (K : Frag) (fa : Nat → Addr) (H : Hp) (B : List Addr) : List D → List V → Prop
  | nil : DenL K fa H B [] []
  | cons {d : D} {v : V} {ds : List D} {vs : List V} : Den K fa H B d v → DenL K fa H B ds vs → DenL K fa H B (d :: ds) (v :: vs)
end
theorem Den.ofScr {K : Frag} {fa : Nat → Addr} {H : Hp} {a : Addr} {ns : List Int} (h : SqL K H a (ns.map V.int)) : Den K fa H [] (.scr ns) (.ref a) := by
  rcases h with h | h
  · exact .scr (.inl ⟨by simp, h⟩)
  · exact .scr (.inr fun G => .inr h)

section
variable {K : Frag} {fa : Nat → Addr} {H H' : Hp} {B B' : List Addr}
/-- what carries a relation of values to another heap -/
structure Carry (H : Hp) (B : List Addr) (H' : Hp) (B' : List Addr) : Prop where
  keep : ∀ b o, H b = some o → b ∉ B → NT o → H' b = some o
  more : ∀ b ∈ B', b ∈ B ∨ Nn H b
  lists : ∀ b ∈ B, ∃ us, H b = some (.lst us)
theorem nt_lst {xs : List V} : NT (.lst xs) := fun _ z => nomatch z
theorem nt_tup {xs : List V} : NT (.tup xs) := fun _ z => nomatch z
theorem nt_frz {o : Obj} {u : HO} : NT (.frz o u) := fun _ z => nomatch z
theorem Carry.tup (c : Carry H B H' B') {a : Addr} {vs : List V} (h : SqT K H a vs) : SqT K H' a vs := by
  rcases h with (h | ⟨o, h⟩) | h
  · refine .inl (.inl (c.keep _ _ h (fun m => ?_) nt_tup))
    obtain ⟨us, e⟩ := c.lists a m
    rw [h] at e; cases e
  · refine .inl (.inr ⟨o, c.keep _ _ h (fun m => ?_) nt_frz⟩)
    obtain ⟨us, e⟩ := c.lists a m
    rw [h] at e; cases e
  · exact .inr h
theorem Carry.out (c : Carry H B H' B') {a : Addr} {o : HO} (h : H a = some o) (hn : a ∉ B) (nt : NT o) : a ∉ B' := fun m => by
  rcases c.more a m with z | z
  · exact hn z
  · exact z _ h nt
mutual
theorem Den.carry (c : Carry H B H' B') : ∀ (d : D) (v : V), Den K fa H B d v → Den K fa H' B' d v
  | .non, _, h => by cases h; exact .non
  | .bl b, _, h => by cases h; exact .bl b
  | .int i, _, h => by cases h; exact .int i
  | .str x, _, h => by cases h; exact .str x
  | .ty n, _, h => by cases h; exact .ty n
  | .fn k, _, h => by cases h; exact .fn k
  | .lst xs, _, h => by
    cases h with
    | lst hn ha hl => exact .lst (c.out ha hn nt_lst) (c.keep _ _ ha hn nt_lst) (DenL.carry c xs _ hl)
  | .tup xs, _, h => by
    cases h with
    | tup ha hl => exact .tup (c.tup ha) (DenL.carry c xs _ hl)
  | .scr ns, _, h => by
    cases h with
    | scr hs =>
      refine .scr ?_
      rcases hs with ⟨hn, h | ⟨o, h⟩⟩ | h
      · exact .inl ⟨c.out h hn nt_lst, .inl (c.keep _ _ h hn nt_lst)⟩
      · exact .inl ⟨c.out h hn nt_frz, .inr ⟨o, c.keep _ _ h hn nt_frz⟩⟩
      · exact .inr h
theorem DenL.carry (c : Carry H B H' B') : ∀ (ds : List D) (vs : List V), DenL K fa H B ds vs → DenL K fa H' B' ds vs
  | [], _, h => by cases h; exact .nil
  | d :: ds, _, h => by
    cases h with
    | cons h1 h2 => exact .cons (Den.carry c d _ h1) (DenL.carry c ds _ h2)
end
theorem DenL.length : ∀ {ds : List D} {vs : List V}, DenL K fa H B ds vs → ds.length = vs.length
  | [], _, h => by cases h; rfl
  | _ :: _, _, h => by
    cases h with
    | cons h1 h2 => simp [DenL.length h2]
theorem DenL.get : ∀ {ds : List D} {vs : List V} {i : Nat} {d : D}, DenL K fa H B ds vs → ds[i]? = some d → ∃ v, vs[i]? = some v ∧ Den K fa H B d v
  | [], _, _, _, h, e => by simp at e
  | _ :: _, _, 0, _, .cons h1 h2, e => by simp at e; subst e; exact ⟨_, rfl, h1⟩
  | _ :: _, _, i + 1, _, .cons h1 h2, e => by
    obtain ⟨v, a, b⟩ := DenL.get (i := i) h2 (by simpa using e)
    exact ⟨v, by simpa using a, b⟩
theorem DenL.get' : ∀ {ds : List D} {vs : List V} {i : Nat} {v : V}, DenL K fa H B ds vs → vs[i]? = some v → ∃ d, ds[i]? = some d ∧ Den K fa H B d v
  | _, [], _, _, h, e => by simp at e
  | _, _ :: _, 0, _, .cons h1 h2, e => by simp at e; subst e; exact ⟨_, rfl, h1⟩
  | _, _ :: _, i + 1, _, .cons h1 h2, e => by
    obtain ⟨v, a, b⟩ := DenL.get' (i := i) h2 (by simpa using e)
    exact ⟨v, by simpa using a, b⟩
theorem DenL.append : ∀ {ds es : List D} {vs ws : List V}, DenL K fa H B ds vs → DenL K fa H B es ws → DenL K fa H B (ds ++ es) (vs ++ ws)
  | [], _, _, _, h, h' => by cases h; exact h'
  | _ :: _, _, _, _, .cons h1 h2, h' => .cons h1 (DenL.append h2 h')
theorem DenL.take : ∀ (n : Nat) {ds : List D} {vs : List V}, DenL K fa H B ds vs → DenL K fa H B (ds.take n) (vs.take n)
  | 0, _, _, h => by simp; exact .nil
  | n + 1, [], _, h => by cases h; exact .nil
  | n + 1, _ :: _, _, .cons h1 h2 => .cons h1 (DenL.take n h2)
theorem DenL.drop : ∀ (n : Nat) {ds : List D} {vs : List V}, DenL K fa H B ds vs → DenL K fa H B (ds.drop n) (vs.drop n)
  | 0, _, _, h => by simpa using h
  | n + 1, [], _, h => by cases h; exact .nil
  | n + 1, _ :: _, _, .cons h1 h2 => DenL.drop n h2
theorem DenL.set {d : D} {v : V} (h' : Den K fa H B d v) : ∀ (n : Nat) {ds : List D} {vs : List V}, DenL K fa H B ds vs → DenL K fa H B (ds.set n d) (vs.set n v)
  | _, [], _, h => by cases h; exact .nil
  | 0, _ :: _, _, .cons h1 h2 => .cons h' h2
  | n + 1, _ :: _, _, .cons h1 h2 => .cons h1 (DenL.set h' n h2)
theorem DenL.eraseIdx : ∀ (n : Nat) {ds : List D} {vs : List V}, DenL K fa H B ds vs → DenL K fa H B (ds.eraseIdx n) (vs.eraseIdx n)
  | _, [], _, h => by cases h; exact .nil
  | 0, _ :: _, _, .cons h1 h2 => h2
  | n + 1, _ :: _, _, .cons h1 h2 => .cons h1 (DenL.eraseIdx n h2)
theorem DenL.reverse {ds : List D} {vs : List V} (h : DenL K fa H B ds vs) : DenL K fa H B ds.reverse vs.reverse := by
  induction ds generalizing vs with
  | nil => cases h; exact .nil
  | cons d ds ih =>
    cases h with
    | cons h1 h2 =>
      rw [List.reverse_cons, List.reverse_cons]
      exact (ih h2).append (.cons h1 .nil)
theorem DenL.rep {ds : List D} {vs : List V} (h : DenL K fa H B ds vs) : ∀ n : Nat, DenL K fa H B (List.replicate n ds).flatten (List.replicate n vs).flatten
  | 0 => .nil
  | n + 1 => by
    rw [List.replicate_succ, List.replicate_succ, List.flatten_cons, List.flatten_cons]
    exact h.append (DenL.rep h n)
theorem DenL.ints : ∀ {ns : List Int} {vs : List V}, DenL K fa H B (ns.map D.int) vs → vs = ns.map V.int
  | [], _, h => by cases h; rfl
  | _ :: _, _, .cons h1 h2 => by cases h1; rw [DenL.ints h2]; rfl
theorem DenL.ofInts : ∀ (ns : List Int), DenL K fa H B (ns.map D.int) (ns.map V.int)
  | [] => .nil
  | _ :: ns => .cons (.int _) (DenL.ofInts ns)
end

/-! ### the frame in which a body runs -/
structure Fm where
  fa : Nat → Addr
  T : List (Addr × Str)
  H0 : Hp
  Bf : List Addr
  pi : List Nat
  pa : Nat → Addr
  ea : Addr
def Fm.PA (F : Fm) : List Addr := F.pi.map F.pa
def Fm.bad (F : Fm) (L : List Addr) : List Addr := L ++ (F.PA ++ F.Bf)
inductive Slot where
  | val (d : D) | own (xs : List D) | bor (xs : List D) | err (k : Nat)
abbrev Rho := List (Option Slot)
def SlR (K : Frag) (F : Fm) (H : Hp) (L : List Addr) (i : Nat) (v : V) : Slot → Prop
  | .val d => Den K F.fa H (F.bad L) d v
  | .own xs => ∃ a us, v = .ref a ∧ a ∈ L ∧ H a = some (.lst us) ∧ DenL K F.fa H (F.bad L) xs us
  | .bor xs => ∃ us, v = .ref (F.pa i) ∧ i ∈ F.pi ∧ H (F.pa i) = some (.lst us) ∧ DenL K F.fa H (F.bad L) xs us
  | .err _ => v = .ref F.ea
open LamX (Tabs)
structure StR (K : Frag) (F : Fm) (σ : L2.St) (H : Hp) (ρ : Rho) (L : List Addr) : Prop where
  len : ρ.length = σ.length
  sl : ∀ (i : Nat) (s : Slot), ρ[i]? = some (some s) → ∃ v, σ[i]? = some (some v) ∧ SlR K F H L i v s
  di : ∀ (i j : Nat) (xs ys : List D) (a : Addr), ρ[i]? = some (some (.own xs)) → ρ[j]? = some (some (.own ys)) → σ[i]? = some (some (.ref a)) → σ[j]? = some (some (.ref a)) → i = j
  bd : ∀ b ∈ F.bad L, ∃ us, H b = some (.lst us)
  ld : ∀ b ∈ L, b ∉ F.PA ++ F.Bf ∧ Nn F.H0 b
  pj : ∀ i ∈ F.pi, ∀ j ∈ F.pi, F.pa i = F.pa j → i = j
  pb : ∀ i ∈ F.pi, F.pa i ∉ F.Bf
  en : ∀ b o, F.H0 b = some o → b ∉ F.PA → NT o → H b = some o
  tr : ∀ b, Nn H b → Nn F.H0 b
  tb : Tabs F.T H
structure Step (F : Fm) (H : Hp) (L : List Addr) (H' : Hp) (L' : List Addr) : Prop where
  keep : ∀ b o, H b = some o → b ∉ L → b ∉ F.PA → NT o → H' b = some o
  more : ∀ b ∈ L', b ∈ L ∨ Nn H b
  tr : ∀ b, Nn H' b → Nn H b
section
variable {K : Frag} {F : Fm} {σ : L2.St} {H H1 H2 : Hp} {ρ : Rho} {L La Lb : List Addr}
theorem Step.refl : Step F H L H L := ⟨fun _ _ h _ _ _ => h, fun _ h => .inl h, fun _ h => h⟩
theorem Step.trans (a : Step F H L H1 La) (b : Step F H1 La H2 Lb) : Step F H L H2 Lb where
  keep := fun c o h h1 h2 h3 => b.keep c o (a.keep c o h h1 h2 h3) (fun m => (a.more c m).elim h1 fun z => z _ h h3) h2 h3
  more := fun c m => (b.more c m).elim (fun z => a.more c z) fun z => .inr (a.tr c z)
  tr := fun c z => a.tr c (b.tr c z)
theorem StR.carry (st : StR K F σ H ρ L) (s : Step F H L H1 La) : Carry H (F.bad L) H1 (F.bad La) where
  keep := fun b o h hn nt => s.keep b o h (fun m => hn (List.mem_append_left _ m)) (fun m => hn (List.mem_append_right _ (List.mem_append_left _ m))) nt
  more := fun b m => by
    rcases List.mem_append.mp m with z | z
    · rcases s.more b z with y | y
      · exact .inl (List.mem_append_left _ y)
      · exact .inr y
    · exact .inl (List.mem_append_right _ z)
  lists := st.bd
/-- new things are laid, nothing that was is changed -/
theorem Step.same (h : Same H H1) : Step F H L H1 L := ⟨fun b o e _ _ _ => h b o e, fun _ m => .inl m, fun b z o e nt => z o (h b o e) nt⟩
theorem SlR.same {i : Nat} {v : V} {s : Slot} (st : StR K F σ H ρ L) (h : Same H H1) (r : SlR K F H L i v s) : SlR K F H1 L i v s := by
  have c := st.carry (Step.same h)
  cases s with
  | val d => exact Den.carry c d v r
  | own xs =>
    obtain ⟨a, us, e, m, ha, hl⟩ := r
    exact ⟨a, us, e, m, h _ _ ha, DenL.carry c xs us hl⟩
  | bor xs =>
    obtain ⟨us, e, m, ha, hl⟩ := r
    exact ⟨us, e, m, h _ _ ha, DenL.carry c xs us hl⟩
  | err k => exact r
theorem StR.same (st : StR K F σ H ρ L) (h : Same H H1) : StR K F σ H1 ρ L where
  len := st.len
  sl := fun i s e => by
    obtain ⟨v, e1, r⟩ := st.sl i s e
    exact ⟨v, e1, r.same st h⟩
  di := st.di
  bd := fun b m => by
    obtain ⟨us, e⟩ := st.bd b m
    exact ⟨us, h _ _ e⟩
  ld := st.ld
  pj := st.pj
  pb := st.pb
  en := fun b o e n t => h _ _ (st.en b o e n t)
  tr := fun b z => st.tr b fun o e nt => z o (h b o e) nt
  tb := st.tb.ext h
end

/-! ### results -/
inductive Res (α : Type) where
  | ok (a : α) | exc (k : Nat) (ρ : Rho) | stuck
def Res.bind {α β : Type} (r : Res α) (k : α → Res β) : Res β := match r with
  | .ok a => k a
  | .exc n ρ => .exc n ρ
  | .stuck => .stuck
inductive Arg where
  | val (d : D) | slot (i : Nat)
abbrev DEf := Rho → Res (Arg × Rho)
def Arg.res (ρ : Rho) : Arg → Option D
  | .val d => some d
  | .slot i => match ρ[i]? with
    | some (some (.val d)) => some d
    | some (some (.own xs)) => some (.lst xs)
    | some (some (.bor xs)) => some (.lst xs)
    | _ => none
def ArgR (K : Frag) (F : Fm) (σ : L2.St) (H : Hp) (L : List Addr) : Arg → V → Prop
  | .val d, v => Den K F.fa H (F.bad L) d v
  | .slot i, v => σ[i]? = some (some v)
/-- a value as it stands now, perhaps one that will be changed -/
inductive Vw (K : Frag) (fa : Nat → Addr) (H : Hp) (B : List Addr) : D → V → Prop
  | den {d : D} {v : V} : Den K fa H B d v → Vw K fa H B d v
  | lst {a : Addr} {us : List V} {xs : List D} : H a = some (.lst us) → DenL K fa H B xs us → Vw K fa H B (.lst xs) (.ref a)
section
variable {K : Frag} {F : Fm} {σ : L2.St} {H H1 H2 : Hp} {ρ ρ1 : Rho} {L La Lb : List Addr} {W : WX}
theorem ArgR.view {a : Arg} {v : V} {d : D} (st : StR K F σ H ρ L) (r : ArgR K F σ H L a v) (e : a.res ρ = some d) : Vw K F.fa H (F.bad L) d v := by
  cases a with
  | val d' =>
    obtain rfl : d' = d := Option.some.inj e
    exact .den r
  | slot i =>
    have r' : σ[i]? = some (some v) := r
    simp only [Arg.res] at e
    split at e
    · rename_i d' h
      obtain rfl : d' = d := Option.some.inj e
      obtain ⟨v', e1, r1⟩ := st.sl i _ h
      rw [r'] at e1; cases e1
      exact .den r1
    · rename_i xs h
      obtain rfl := Option.some.inj e
      obtain ⟨v', e1, a, us, e2, _, ha, hl⟩ := st.sl i _ h
      rw [r'] at e1; cases e1
      subst e2
      exact .lst ha hl
    · rename_i xs h
      obtain rfl := Option.some.inj e
      obtain ⟨v', e1, us, e2, _, ha, hl⟩ := st.sl i _ h
      rw [r'] at e1; cases e1
      subst e2
      exact .lst ha hl
    · cases e
theorem ArgR.step {a : Arg} {v : V} (st : StR K F σ H ρ L) (s : Step F H L H1 La) (r : ArgR K F σ H L a v) : ArgR K F σ H1 La a v := by
  cases a with
  | val d => exact Den.carry (st.carry s) d v r
  | slot i => exact r
/-- what is to be shown behind an expression -/
def PostE (K : Frag) (F : Fm) (W : WX) (σ : L2.St) (H : Hp) (L : List Addr) (r : Res (Arg × Rho)) (Q : VK) : Prop := match r with
  | .ok (a, ρ') => ∀ v H' L', StR K F σ H' ρ' L' → Step F H L H' L' → ArgR K F σ H' L' a v → Q v H'
  | .exc k ρ' => ∀ H' L', StR K F σ H' ρ' L' → Step F H L H' L' → W (.ref (F.fa k)) none σ H'
  | .stuck => False
theorem PostE.trans {r : Res (Arg × Rho)} {Q : VK} (s : Step F H L H1 La) (p : PostE K F W σ H L r Q) : PostE K F W σ H1 La r Q := by
  cases r with
  | ok x => exact fun v H' L' st s' ar => p v H' L' st (s.trans s') ar
  | exc k ρ' => exact fun H' L' st s' => p H' L' st (s.trans s')
  | stuck => exact p
theorem PostE.ofBind {r : Res (Arg × Rho)} {k : Arg × Rho → Res (Arg × Rho)} {Q R : VK} (p : PostE K F W σ H L (r.bind k) Q)
    (hk : ∀ a ρ1 v H1 La, r = .ok (a, ρ1) → StR K F σ H1 ρ1 La → Step F H L H1 La → ArgR K F σ H1 La a v → PostE K F W σ H1 La (k (a, ρ1)) Q → R v H1) : PostE K F W σ H L r R := by
  cases r with
  | ok x =>
    obtain ⟨a, ρ1⟩ := x
    exact fun v H' L' st s ar => hk a ρ1 v H' L' rfl st s ar (PostE.trans s p)
  | exc n ρ' => exact p
  | stuck => exact p
end
/-- e runs as f says -/
structure DE (F : Fm) (X : Cx) (W : WX) (e : Expr) (f : DEf) : Prop where
  ex : ∃ t, PE X e t ∧ ∀ σ H ρ L Q, StR X.K F σ H ρ L → PostE X.K F W σ H L (f ρ) Q → t σ H Q
/-- an argument list -/
abbrev DAf := Rho → Res (List Arg × Rho)
inductive ArgsR (K : Frag) (F : Fm) (σ : L2.St) (H : Hp) (L : List Addr) : List Arg → List V → Prop
  | nil : ArgsR K F σ H L [] []
  | cons {a : Arg} {v : V} {as : List Arg} {vs : List V} : ArgR K F σ H L a v → ArgsR K F σ H L as vs → ArgsR K F σ H L (a :: as) (v :: vs)
def PostA (K : Frag) (F : Fm) (W : WX) (σ : L2.St) (H : Hp) (L : List Addr) (r : Res (List Arg × Rho)) (Q : List V → Hp → Prop) : Prop := match r with
  | .ok (as, ρ') => ∀ vs H' L', StR K F σ H' ρ' L' → Step F H L H' L' → ArgsR K F σ H' L' as vs → Q vs H'
  | .exc k ρ' => ∀ H' L', StR K F σ H' ρ' L' → Step F H L H' L' → W (.ref (F.fa k)) none σ H'
  | .stuck => False
structure DA (F : Fm) (X : Cx) (W : WX) (es : List Expr) (f : DAf) : Prop where
  ex : ∃ t, PA X es t ∧ ∀ σ H ρ L Q, StR X.K F σ H ρ L → PostA X.K F W σ H L (f ρ) Q → t σ H Q
section
variable {K : Frag} {F : Fm} {σ : L2.St} {H H1 H2 : Hp} {ρ ρ1 : Rho} {L La Lb : List Addr} {W : WX}
theorem ArgsR.step {as : List Arg} {vs : List V} (st : StR K F σ H ρ L) (s : Step F H L H1 La) (r : ArgsR K F σ H L as vs) : ArgsR K F σ H1 La as vs := by
  induction r with
  | nil => exact .nil
  | cons h1 h2 ih => exact .cons (h1.step st s) ih
theorem PostA.trans {r : Res (List Arg × Rho)} {Q : List V → Hp → Prop} (s : Step F H L H1 La) (p : PostA K F W σ H L r Q) : PostA K F W σ H1 La r Q := by
  cases r with
  | ok x => exact fun v H' L' st s' ar => p v H' L' st (s.trans s') ar
  | exc k ρ' => exact fun H' L' st s' => p H' L' st (s.trans s')
  | stuck => exact p
/-- from the arguments to the value made of them -/
theorem PostE.ofBindA {r : Res (List Arg × Rho)} {k : List Arg × Rho → Res (Arg × Rho)} {Q : VK} {R : List V → Hp → Prop} (p : PostE K F W σ H L (r.bind k) Q)
    (hk : ∀ as ρ1 vs H1 La, r = .ok (as, ρ1) → StR K F σ H1 ρ1 La → Step F H L H1 La → ArgsR K F σ H1 La as vs → PostE K F W σ H1 La (k (as, ρ1)) Q → R vs H1) : PostA K F W σ H L r R := by
  cases r with
  | ok x =>
    obtain ⟨a, ρ1⟩ := x
    exact fun v H' L' st s ar => hk a ρ1 v H' L' rfl st s ar (PostE.trans s p)
  | exc n ρ' => exact p
  | stuck => exact p
theorem PostA.ofBindE {r : Res (Arg × Rho)} {k : Arg × Rho → Res (List Arg × Rho)} {Q : List V → Hp → Prop} {R : VK} (p : PostA K F W σ H L (r.bind k) Q)
    (hk : ∀ a ρ1 v H1 La, r = .ok (a, ρ1) → StR K F σ H1 ρ1 La → Step F H L H1 La → ArgR K F σ H1 La a v → PostA K F W σ H1 La (k (a, ρ1)) Q → R v H1) : PostE K F W σ H L r R := by
  cases r with
  | ok x =>
    obtain ⟨a, ρ1⟩ := x
    exact fun v H' L' st s ar => hk a ρ1 v H' L' rfl st s ar (PostA.trans s p)
  | exc n ρ' => exact p
  | stuck => exact p
theorem PostA.ofBind {r : Res (List Arg × Rho)} {k : List Arg × Rho → Res (List Arg × Rho)} {Q R : List V → Hp → Prop} (p : PostA K F W σ H L (r.bind k) Q)
    (hk : ∀ as ρ1 vs H1 La, r = .ok (as, ρ1) → StR K F σ H1 ρ1 La → Step F H L H1 La → ArgsR K F σ H1 La as vs → PostA K F W σ H1 La (k (as, ρ1)) Q → R vs H1) : PostA K F W σ H L r R := by
  cases r with
  | ok x =>
    obtain ⟨a, ρ1⟩ := x
    exact fun v H' L' st s ar => hk a ρ1 v H' L' rfl st s ar (PostA.trans s p)
  | exc n ρ' => exact p
  | stuck => exact p
end
/-! ### statements -/
inductive Fl where
  | next (ρ : Rho) | ret (d : D) (ρ : Rho) | brk (ρ : Rho) | cont (ρ : Rho) | exc (k : Nat) (ρ : Rho) | stuck
abbrev DSf := Rho → Fl
def PostS (K : Frag) (F : Fm) (W : WX) (D : Ends) (H : Hp) (L : List Addr) (r : Fl) : Prop := match r with
  | .next ρ' => ∀ σ' H' L', StR K F σ' H' ρ' L' → Step F H L H' L' → D.nx σ' H'
  | .ret d ρ' => ∀ v σ' H' L', StR K F σ' H' ρ' L' → Step F H L H' L' → Den K F.fa H' (F.bad L') d v → D.rt v H'
  | .brk ρ' => ∀ σ' H' L', StR K F σ' H' ρ' L' → Step F H L H' L' → D.bk σ' H'
  | .cont ρ' => ∀ σ' H' L', StR K F σ' H' ρ' L' → Step F H L H' L' → D.ct σ' H'
  | .exc k ρ' => ∀ σ' H' L', StR K F σ' H' ρ' L' → Step F H L H' L' → W (.ref (F.fa k)) none σ' H'
  | .stuck => False
structure DS (F : Fm) (X : Cx) (W : WX) (st : Stmt) (f : DSf) : Prop where
  ex : ∃ t, PS X st t ∧ ∀ D σ H ρ L, StR X.K F σ H ρ L → PostS X.K F W D H L (f ρ) → t D σ H
structure DSs (F : Fm) (X : Cx) (W : WX) (st : List Stmt) (f : DSf) : Prop where
  ex : ∃ t, PSs X st t ∧ ∀ D σ H ρ L, StR X.K F σ H ρ L → PostS X.K F W D H L (f ρ) → t D σ H
section
variable {K : Frag} {F : Fm} {σ : L2.St} {H H1 H2 : Hp} {ρ ρ1 : Rho} {L La Lb : List Addr} {W : WX} {D D' : Ends}
theorem PostS.trans {r : Fl} (s : Step F H L H1 La) (p : PostS K F W D H L r) : PostS K F W D H1 La r := by
  cases r with
  | next ρ' => exact fun σ' H' L' st s' => p σ' H' L' st (s.trans s')
  | ret d ρ' => exact fun v σ' H' L' st s' => p v σ' H' L' st (s.trans s')
  | brk ρ' => exact fun σ' H' L' st s' => p σ' H' L' st (s.trans s')
  | cont ρ' => exact fun σ' H' L' st s' => p σ' H' L' st (s.trans s')
  | exc k ρ' => exact fun σ' H' L' st s' => p σ' H' L' st (s.trans s')
  | stuck => exact p
def sBind (r : Res (Arg × Rho)) (k : Arg × Rho → Fl) : Fl := match r with
  | .ok x => k x
  | .exc n ρ => .exc n ρ
  | .stuck => .stuck
theorem PostS.ofBindE {r : Res (Arg × Rho)} {k : Arg × Rho → Fl} {R : VK} (p : PostS K F W D H L (sBind r k))
    (hk : ∀ a ρ1 v H1 La, r = .ok (a, ρ1) → StR K F σ H1 ρ1 La → Step F H L H1 La → ArgR K F σ H1 La a v → PostS K F W D H1 La (k (a, ρ1)) → R v H1) : PostE K F W σ H L r R := by
  cases r with
  | ok x =>
    obtain ⟨a, ρ1⟩ := x
    exact fun v H' L' st s ar => hk a ρ1 v H' L' rfl st s ar (PostS.trans s p)
  | exc n ρ' => exact fun H' L' st s => p σ H' L' st s
  | stuck => exact p
end
end DL

namespace DL
open PySem PySem.Spec PyProof.Rows L2

/-! ### values: equality -/
mutual
def D.py : D → PyData
  | .bl b => .bool b
  | .int i => .int i
  | .str x => .str x
  | .lst xs => .list (D.pys xs)
  | .tup xs => .tuple (D.pys xs)
  | _ => .none
def D.pys : List D → List PyData
  | [] => []
  | d :: ds => d.py :: D.pys ds
end
mutual
/-- data, at most n deep -/
def D.pl : Nat → D → Bool
  | _, .non => true
  | _, .bl _ => true
  | _, .int _ => true
  | _, .str x => PyData.strOk x
  | n + 1, .lst xs => D.pls n xs
  | n + 1, .tup xs => D.pls n xs
  | _, _ => false
def D.pls : Nat → List D → Bool
  | _, [] => true
  | n, d :: ds => d.pl n && D.pls n ds
end
mutual
theorem D.pl_lay : ∀ (d : D) (n : Nat), d.pl n = true → d.py.canLay0 = true ∧ d.py.depth ≤ n
  | .non, n, _ => ⟨rfl, Nat.zero_le _⟩
  | .bl b, n, _ => ⟨rfl, Nat.zero_le _⟩
  | .int i, n, _ => ⟨rfl, Nat.zero_le _⟩
  | .str x, n, h => ⟨by simpa [D.py, PyData.canLay0, D.pl] using h, Nat.zero_le _⟩
  | .ty s, n, h => by simp [D.pl] at h
  | .fn k, n, h => by simp [D.pl] at h
  | .scr s, n, h => by simp [D.pl] at h
  | .lst xs, 0, h => by simp [D.pl] at h
  | .lst xs, n + 1, h => by
    have := D.pls_lay xs n (by simpa [D.pl] using h)
    exact ⟨by simpa [D.py, PyData.canLay0] using this.1, by simp only [D.py, PyData.depth]; omega⟩
  | .tup xs, 0, h => by simp [D.pl] at h
  | .tup xs, n + 1, h => by
    have := D.pls_lay xs n (by simpa [D.pl] using h)
    exact ⟨by simpa [D.py, PyData.canLay0] using this.1, by simp only [D.py, PyData.depth]; omega⟩
theorem D.pls_lay : ∀ (ds : List D) (n : Nat), D.pls n ds = true → PyData.canLayAll0 (D.pys ds) = true ∧ PyData.depthAll (D.pys ds) ≤ n
  | [], n, _ => ⟨rfl, Nat.zero_le _⟩
  | d :: ds, n, h => by
    simp only [D.pls, Bool.and_eq_true] at h
    have h1 := D.pl_lay d n h.1
    have h2 := D.pls_lay ds n h.2
    exact ⟨by simp [D.pys, PyData.canLayAll0, h1.1, h2.1], by simp only [D.pys, PyData.depthAll]; omega⟩
end
theorem D.pl_shaped {d : D} (h : d.pl 60 = true) : SeqAt.shaped d.py = true := by
  obtain ⟨a, b⟩ := D.pl_lay d 60 h
  simp only [SeqAt.shaped, a, Bool.true_and, decide_eq_true_eq]
  omega
section
variable {K : Frag} {fa : Nat → Addr} {H : Hp} {B : List Addr}
mutual
theorem Den.dp : ∀ (d : D) (n : Nat) (v : V), d.pl n = true → Den K fa H B d v → Dp K H v d.py
  | .non, _, _, _, h => by cases h; exact .non
  | .bl b, _, _, _, h => by cases h; exact .bl b
  | .int i, _, _, _, h => by cases h; exact .int i
  | .str x, _, _, _, h => by cases h; exact .str x
  | .ty s, n, _, e, _ => by simp [D.pl] at e
  | .fn k, n, _, e, _ => by simp [D.pl] at e
  | .scr s, n, _, e, _ => by simp [D.pl] at e
  | .lst xs, 0, _, e, _ => by simp [D.pl] at e
  | .tup xs, 0, _, e, _ => by simp [D.pl] at e
  | .lst xs, n + 1, _, e, h => by
    cases h with
    | lst hn ha hl => exact .lst (SqL.of ha) (DenL.dp xs n _ (by simpa [D.pl] using e) hl)
  | .tup xs, n + 1, _, e, h => by
    cases h with
    | tup ha hl => exact .tup ha (DenL.dp xs n _ (by simpa [D.pl] using e) hl)
theorem DenL.dp : ∀ (ds : List D) (n : Nat) (vs : List V), D.pls n ds = true → DenL K fa H B ds vs → DpAll K H vs (D.pys ds)
  | [], _, _, _, h => by cases h; exact .nil
  | d :: ds, n, _, e, h => by
    simp only [D.pls, Bool.and_eq_true] at e
    cases h with
    | cons h1 h2 => exact .cons (Den.dp d n _ e.1 h1) (DenL.dp ds n _ e.2 h2)
end
theorem Vw.dp {d : D} {v : V} (p : d.pl 60 = true) (h : Vw K fa H B d v) : Dp K H v d.py := by
  cases h with
  | den h => exact Den.dp d 60 v p h
  | lst ha hl => exact .lst (SqL.of ha) (DenL.dp _ 59 _ (by simpa [D.pl] using p) hl)
end
mutual
/-- Python's == over data -/
def D.eqv : D → D → Bool
  | .non, .non => true
  | .bl a, .bl b => a == b
  | .bl a, .int j => (if a then 1 else 0) == j
  | .int i, .bl b => i == (if b then 1 else 0)
  | .int i, .int j => i == j
  | .str x, .str y => x == y
  | .lst xs, .lst ys => D.eqvs xs ys
  | .tup xs, .tup ys => D.eqvs xs ys
  | _, _ => false
def D.eqvs : List D → List D → Bool
  | [], [] => true
  | x :: xs, y :: ys => x.eqv y && D.eqvs xs ys
  | _, _ => false
end
mutual
theorem D.eqv_py : ∀ (d e : D) (n m : Nat), d.pl n = true → e.pl m = true → PyData.eqv d.py e.py = d.eqv e
  | .non, e, n, m, h, h' => by cases e <;> first | rfl | (simp [D.pl] at h')
  | .bl b, e, n, m, h, h' => by cases e <;> first | rfl | (simp [D.pl] at h')
  | .int i, e, n, m, h, h' => by cases e <;> first | rfl | (simp [D.pl] at h')
  | .str x, e, n, m, h, h' => by cases e <;> first | rfl | (simp [D.pl] at h')
  | .ty s, e, n, m, h, h' => by simp [D.pl] at h
  | .fn s, e, n, m, h, h' => by simp [D.pl] at h
  | .scr s, e, n, m, h, h' => by simp [D.pl] at h
  | .lst xs, e, 0, m, h, h' => by simp [D.pl] at h
  | .tup xs, e, 0, m, h, h' => by simp [D.pl] at h
  | .lst xs, e, n + 1, m, h, h' => by
    cases e with
    | lst ys =>
      cases m with
      | zero => simp [D.pl] at h'
      | succ m =>
        show PyData.eqvAll (D.pys xs) (D.pys ys) = D.eqvs xs ys
        exact D.eqvs_py xs ys n m (by simpa [D.pl] using h) (by simpa [D.pl] using h')
    | _ => first | rfl | (simp [D.pl] at h')
  | .tup xs, e, n + 1, m, h, h' => by
    cases e with
    | tup ys =>
      cases m with
      | zero => simp [D.pl] at h'
      | succ m =>
        show PyData.eqvAll (D.pys xs) (D.pys ys) = D.eqvs xs ys
        exact D.eqvs_py xs ys n m (by simpa [D.pl] using h) (by simpa [D.pl] using h')
    | _ => first | rfl | (simp [D.pl] at h')
theorem D.eqvs_py : ∀ (ds es : List D) (n m : Nat), D.pls n ds = true → D.pls m es = true → PyData.eqvAll (D.pys ds) (D.pys es) = D.eqvs ds es
  | [], [], _, _, _, _ => rfl
  | [], _ :: _, _, _, _, _ => rfl
  | _ :: _, [], _, _, _, _ => rfl
  | d :: ds, e :: es, n, m, h, h' => by
    simp only [D.pls, Bool.and_eq_true] at h h'
    show (PyData.eqv d.py e.py && PyData.eqvAll (D.pys ds) (D.pys es)) = (d.eqv e && D.eqvs ds es)
    rw [D.eqv_py d e n m h.1 h'.1, D.eqvs_py ds es n m h.2 h'.2]
end

/-! ### operations on values -/
/-- r, a rule's reading of two values, holds where g gives an answer -/
def Snd2 (K : Frag) (fa : Nat → Addr) (r : R2) (g : D → D → Option D) : Prop :=
  ∀ (H : Hp) (B : List Addr) (x y : D) (u v : V) (d : D) (Q : VK), (∀ b ∈ B, ∃ us, H b = some (.lst us)) → Vw K fa H B x u → Vw K fa H B y v → g x y = some d →
    (∀ w H', Same H H' → Den K fa H' B d w → Q w H') → r u v H Q
def Snd1 (K : Frag) (fa : Nat → Addr) (r : V → Hp → VK → Prop) (g : D → Option D) : Prop :=
  ∀ (H : Hp) (B : List Addr) (x : D) (u : V) (d : D) (Q : VK), (∀ b ∈ B, ∃ us, H b = some (.lst us)) → Vw K fa H B x u → g x = some d →
    (∀ w H', Same H H' → Den K fa H' B d w → Q w H') → r u H Q
inductive VwL (K : Frag) (fa : Nat → Addr) (H : Hp) (B : List Addr) : List D → List V → Prop
  | nil : VwL K fa H B [] []
  | cons {d : D} {v : V} {ds : List D} {vs : List V} : Vw K fa H B d v → VwL K fa H B ds vs → VwL K fa H B (d :: ds) (v :: vs)
def SndC (K : Frag) (fa : Nat → Addr) (r : List V → Hp → VK → Prop) (g : List D → Option D) : Prop :=
  ∀ (H : Hp) (B : List Addr) (xs : List D) (us : List V) (d : D) (Q : VK), (∀ b ∈ B, ∃ us, H b = some (.lst us)) → VwL K fa H B xs us → g xs = some d →
    (∀ w H', Same H H' → Den K fa H' B d w → Q w H') → r us H Q
section
variable {K : Frag} {fa : Nat → Addr} {H : Hp} {B : List Addr} {X : Cx}
theorem Same.upd {p : Addr} {o : HO} (h : H p = none) : Same H (upd H p o) := fun b u e => by rw [upd_ne (ne_of_none e h)]; exact e
theorem notB {p : Addr} (hB : ∀ b ∈ B, ∃ us, H b = some (.lst us)) (h : H p = none) : p ∉ B := fun m => by
  obtain ⟨us, e⟩ := hB p m
  rw [h] at e; cases e
theorem carryS {H' : Hp} (hB : ∀ b ∈ B, ∃ us, H b = some (.lst us)) (s : Same H H') : Carry H B H' B := ⟨fun b o e _ _ => s b o e, fun _ m => .inl m, hB⟩
/-- a new tuple, a new list -/
theorem newTup {p : Addr} {xs : List D} {vs : List V} (hB : ∀ b ∈ B, ∃ us, H b = some (.lst us)) (h : H p = none) (hl : DenL K fa H B xs vs) : Den K fa (upd H p (.tup vs)) B (.tup xs) (.ref p) :=
  .tup (SqT.of upd_same) (DenL.carry (carryS hB (Same.upd h)) xs vs hl)
theorem newLst {p : Addr} {xs : List D} {vs : List V} (hB : ∀ b ∈ B, ∃ us, H b = some (.lst us)) (h : H p = none) (hl : DenL K fa H B xs vs) : Den K fa (upd H p (.lst vs)) B (.lst xs) (.ref p) :=
  .lst (notB hB h) upd_same (DenL.carry (carryS hB (Same.upd h)) xs vs hl)
theorem Vw.lstv {xs : List D} {v : V} (h : Vw K fa H B (.lst xs) v) : ∃ a us, v = .ref a ∧ H a = some (.lst us) ∧ DenL K fa H B xs us := by
  cases h with
  | den h => cases h with
    | lst _ ha hl => exact ⟨_, _, rfl, ha, hl⟩
  | lst ha hl => exact ⟨_, _, rfl, ha, hl⟩
theorem Vw.tupv {xs : List D} {v : V} (h : Vw K fa H B (.tup xs) v) : ∃ a us, v = .ref a ∧ SqT K H a us ∧ DenL K fa H B xs us := by
  cases h with
  | den h => cases h with
    | tup ha hl => exact ⟨_, _, rfl, ha, hl⟩
theorem Vw.tupd {xs : List D} {v : V} (h : Vw K fa H B (.tup xs) v) : Den K fa H B (.tup xs) v := by
  cases h with
  | den h => exact h
theorem Vw.intv {i : Int} {v : V} (h : Vw K fa H B (.int i) v) : v = .int i := by
  cases h with
  | den h => cases h; rfl
theorem Vw.blv {i : Bool} {v : V} (h : Vw K fa H B (.bl i) v) : v = .bl i := by
  cases h with
  | den h => cases h; rfl
theorem Vw.strv {i : Str} {v : V} (h : Vw K fa H B (.str i) v) : v = .str i := by
  cases h with
  | den h => cases h; rfl
theorem Vw.nonv {v : V} (h : Vw K fa H B .non v) : v = .non := by
  cases h with
  | den h => cases h; rfl
theorem Vw.tyv {n : String} {v : V} (h : Vw K fa H B (.ty n) v) : v = .ty n := by
  cases h with
  | den h => cases h; rfl
theorem orR {f : Value → Value → Sem Value} {r r' : R2} (h : OpR X f r) (h' : OpR X f r') : OpR X f (fun x y H Q => r x y H Q ∨ r' x y H Q) := by
  intro pins s σ H x y v u Q I rx ry q
  rcases q with q | q
  · exact h pins s σ H x y v u Q I rx ry q
  · exact h' pins s σ H x y v u Q I rx ry q
theorem sqLine {a : Addr} (b c : Nat) (h : b + c ≤ 16777216) : b + c ≤ sizeLine := by rw [sizeLine_eq]; exact h
end

def dAdd : D → D → Option D
  | .int i, .int j => some (.int (i + j))
  | .str x, .str y => if x.length + y.length ≤ 16777216 then some (.str (x ++ y)) else none
  | .tup xs, .tup ys => if xs.length + ys.length ≤ 16777216 then some (.tup (xs ++ ys)) else none
  | .lst xs, .lst ys => if xs.length + ys.length ≤ 16777216 then some (.lst (xs ++ ys)) else none
  | _, _ => none
def rAddD (K : Frag) : R2 := fun x y H Q => rI0 (fun i j => .int (i + j)) x y H Q ∨ (fun x y H Q => ∃ i j, x = .str i ∧ y = .str j ∧ i.length + j.length ≤ sizeLine ∧ Q (.str (i ++ j)) H) x y H Q ∨ rCatA K x y H Q ∨ rCat x y H Q
theorem op_addD {X : Cx} : OpR X (binaryOp .Add) (rAddD X.K) := orR op_add (orR op_add_str (orR op_catA op_cat))
theorem snd_add {K : Frag} {fa : Nat → Addr} : Snd2 K fa (rAddD K) dAdd := by
  intro H B x y u v d Q hB hx hy hd k
  unfold dAdd at hd
  split at hd
  · cases hx.intv; cases hy.intv
    obtain rfl := Option.some.inj hd
    exact .inl ⟨_, _, rfl, rfl, k _ H (Same.refl H) (.int _)⟩
  · cases hx.strv; cases hy.strv
    split at hd
    · rename_i hl
      obtain rfl := Option.some.inj hd
      exact .inr (.inl ⟨_, _, rfl, rfl, by rw [sizeLine_eq]; exact hl, k _ H (Same.refl H) (.str _)⟩)
    · cases hd
  · obtain ⟨a, us, rfl, ha, la⟩ := hx.tupv
    obtain ⟨b, ws, rfl, hb, lb⟩ := hy.tupv
    split at hd
    · rename_i xs ys hl
      obtain rfl := Option.some.inj hd
      have e1 := la.length
      have e2 := lb.length
      refine .inr (.inr (.inl ⟨a, b, us, ws, rfl, rfl, ha, hb, by rw [sizeLine_eq]; omega, fun e => ?_, fun _ e => ?_, fun _ _ p hp => ?_⟩))
      · subst e
        have : xs = [] := List.eq_nil_of_length_eq_zero (by simpa using e1)
        subst this
        exact k _ H (Same.refl H) hy.tupd
      · subst e
        have : ys = [] := List.eq_nil_of_length_eq_zero (by simpa using e2)
        subst this
        rw [List.append_nil] at k
        exact k _ H (Same.refl H) hx.tupd
      · exact k _ _ (Same.upd hp) (newTup hB hp (la.append lb))
    · cases hd
  · obtain ⟨a, us, rfl, ha, la⟩ := hx.lstv
    obtain ⟨b, ws, rfl, hb, lb⟩ := hy.lstv
    split at hd
    · rename_i xs ys hl
      obtain rfl := Option.some.inj hd
      have e1 := la.length
      have e2 := lb.length
      exact .inr (.inr (.inr ⟨a, b, us, ws, rfl, rfl, ha, hb, by rw [sizeLine_eq]; omega, fun p hp => k _ _ (Same.upd hp) (newLst hB hp (la.append lb))⟩))
    · cases hd
  · cases hd
def dSub : D → D → Option D
  | .int i, .int j => some (.int (i - j))
  | _, _ => none
theorem snd_sub {K : Frag} {fa : Nat → Addr} : Snd2 K fa (rI0 fun i j => .int (i - j)) dSub := by
  intro H B x y u v d Q hB hx hy hd k
  unfold dSub at hd
  split at hd
  · cases hx.intv; cases hy.intv
    obtain rfl := Option.some.inj hd
    exact ⟨_, _, rfl, rfl, k _ H (Same.refl H) (.int _)⟩
  · cases hd
/-- the product is in the model's bounds -/
def mulOk (i j : Int) : Bool := decide (i.natAbs < 2 ^ 64) || decide (j.natAbs < 2 ^ 64) || decide (i.natAbs.log2 + j.natAbs.log2 < 1000000)
def dMul : D → D → Option D
  | .int i, .int j => if mulOk i j then some (.int (i * j)) else none
  | .lst xs, .int k => if 0 ≤ k ∧ k ≤ 1000000 ∧ xs.length * k.toNat ≤ 16777216 then some (.lst (List.replicate k.toNat xs).flatten) else none
  | .tup xs, .int k => if 2 ≤ k ∧ k ≤ 1000 ∧ xs.length ≤ 1000 ∧ 0 < xs.length then some (.tup (List.replicate k.toNat xs).flatten) else none
  | _, _ => none
def rMulD (K : Frag) : R2 := fun x y H Q => rI CMul (fun i j => .int (i * j)) x y H Q ∨ rI CMulW (fun i j => .int (i * j)) x y H Q ∨ rRep x y H Q ∨ rRepT K x y H Q
theorem op_mulD {X : Cx} : OpR X (binaryOp .Mult) (rMulD X.K) := orR op_mul (orR op_mulW (orR op_rep op_repT))
theorem snd_mul {K : Frag} {fa : Nat → Addr} : Snd2 K fa (rMulD K) dMul := by
  intro H B x y u v d Q hB hx hy hd k
  unfold dMul at hd
  split at hd
  · cases hx.intv; cases hy.intv
    split at hd
    · rename_i i j hm
      obtain rfl := Option.some.inj hd
      have q := k (.int (i * j)) H (Same.refl H) (.int _)
      simp only [mulOk, Bool.or_eq_true, decide_eq_true_eq] at hm
      rcases hm with (h | h) | h
      · exact .inl ⟨i, j, rfl, rfl, .inl (by omega), q⟩
      · exact .inl ⟨i, j, rfl, rfl, .inr (by omega), q⟩
      · exact .inr (.inl ⟨i, j, rfl, rfl, h, q⟩)
    · cases hd
  · obtain ⟨a, us, rfl, ha, la⟩ := hx.lstv
    cases hy.intv
    split at hd
    · rename_i xs n hm
      obtain rfl := Option.some.inj hd
      have e1 := la.length
      refine .inr (.inr (.inl ⟨a, n, us, rfl, rfl, ha, by omega, by omega, by rw [sizeLine_eq, ← e1]; exact hm.2.2, fun p hp => k _ _ (Same.upd hp) (newLst hB hp (la.rep _))⟩))
    · cases hd
  · obtain ⟨a, us, rfl, ha, la⟩ := hx.tupv
    cases hy.intv
    split at hd
    · rename_i xs n hm
      obtain rfl := Option.some.inj hd
      have e1 := la.length
      exact .inr (.inr (.inr ⟨a, n, us, rfl, rfl, ha, fun e => by subst e; simp at e1; simp [e1] at hm, hm.1, hm.2.1, by omega, fun p hp => k _ _ (Same.upd hp) (newTup hB hp (la.rep _))⟩))
    · cases hd
  · cases hd
def dFdiv : D → D → Option D
  | .int i, .int j => if 0 < j ∧ j.natAbs.log2 < 9000 then some (.int (i / j)) else none
  | _, _ => none
theorem snd_fdiv {K : Frag} {fa : Nat → Addr} : Snd2 K fa (rI CDivW fun i j => .int (i / j)) dFdiv := by
  intro H B x y u v d Q hB hx hy hd k
  unfold dFdiv at hd
  split at hd
  · cases hx.intv; cases hy.intv
    split at hd
    · rename_i h
      obtain rfl := Option.some.inj hd
      exact ⟨_, _, rfl, rfl, h, k _ H (Same.refl H) (.int _)⟩
    · cases hd
  · cases hd
def dMod : D → D → Option D
  | .int i, .int j => if 0 < j then some (.int (i % j)) else none
  | _, _ => none
theorem snd_mod {K : Frag} {fa : Nat → Addr} : Snd2 K fa (rI (fun _ j => 0 < j) fun i j => .int (i % j)) dMod := by
  intro H B x y u v d Q hB hx hy hd k
  unfold dMod at hd
  split at hd
  · cases hx.intv; cases hy.intv
    split at hd
    · rename_i h
      obtain rfl := Option.some.inj hd
      exact ⟨_, _, rfl, rfl, h, k _ H (Same.refl H) (.int _)⟩
    · cases hd
  · cases hd
def dPow : D → D → Option D
  | .int i, .int j => if 0 ≤ j ∧ j ≤ 1000000 ∧ i.natAbs < 2 ^ 64 then some (.int (i ^ j.toNat)) else none
  | _, _ => none
theorem snd_pow {K : Frag} {fa : Nat → Addr} : Snd2 K fa (rI CPow fun i j => .int (i ^ j.toNat)) dPow := by
  intro H B x y u v d Q hB hx hy hd k
  unfold dPow at hd
  split at hd
  · cases hx.intv; cases hy.intv
    split at hd
    · rename_i h
      obtain rfl := Option.some.inj hd
      exact ⟨_, _, rfl, rfl, h, k _ H (Same.refl H) (.int _)⟩
    · cases hd
  · cases hd
def dNeg : D → Option D
  | .int i => some (.int (-i))
  | _ => none
theorem snd_neg {K : Frag} {fa : Nat → Addr} : Snd1 K fa (rU fun i => .int (-i)) dNeg := by
  intro H B x u d Q hB hx hd k
  unfold dNeg at hd
  split at hd
  · cases hx.intv
    obtain rfl := Option.some.inj hd
    exact ⟨_, rfl, k _ H (Same.refl H) (.int _)⟩
  · cases hd
/-! comparisons -/
def dEq (x y : D) : Option D := if x.pl 60 && y.pl 60 then some (.bl (x.eqv y)) else none
def dNe (x y : D) : Option D := if x.pl 60 && y.pl 60 then some (.bl (!x.eqv y)) else none
theorem snd_eq {K : Frag} {fa : Nat → Addr} : Snd2 K fa (rEqD K) dEq := by
  intro H B x y u v d Q hB hx hy hd k
  unfold dEq at hd
  split at hd
  · rename_i h
    simp only [Bool.and_eq_true] at h
    obtain rfl := Option.some.inj hd
    refine ⟨x.py, y.py, hx.dp h.1, hy.dp h.2, D.pl_shaped h.1, D.pl_shaped h.2, ?_⟩
    rw [D.eqv_py x y 60 60 h.1 h.2]
    exact k _ H (Same.refl H) (.bl _)
  · cases hd
theorem snd_ne {K : Frag} {fa : Nat → Addr} : Snd2 K fa (rNeD K) dNe := by
  intro H B x y u v d Q hB hx hy hd k
  unfold dNe at hd
  split at hd
  · rename_i h
    simp only [Bool.and_eq_true] at h
    obtain rfl := Option.some.inj hd
    refine ⟨x.py, y.py, hx.dp h.1, hy.dp h.2, D.pl_shaped h.1, D.pl_shaped h.2, ?_⟩
    rw [D.eqv_py x y 60 60 h.1 h.2]
    exact k _ H (Same.refl H) (.bl _)
  · cases hd
def dCmp (p : Int → Int → Bool) : D → D → Option D
  | .int i, .int j => some (.bl (p i j))
  | _, _ => none
theorem snd_cmp {K : Frag} {fa : Nat → Addr} (p : Int → Int → Bool) : Snd2 K fa (rI0 fun i j => .bl (p i j)) (dCmp p) := by
  intro H B x y u v d Q hB hx hy hd k
  unfold dCmp at hd
  split at hd
  · cases hx.intv; cases hy.intv
    obtain rfl := Option.some.inj hd
    exact ⟨_, _, rfl, rfl, k _ H (Same.refl H) (.bl _)⟩
  · cases hd
abbrev dLt := dCmp fun i j => decide (i < j)
abbrev dLe := dCmp fun i j => decide (i ≤ j)
abbrev dGt := dCmp fun i j => decide (j < i)
abbrev dGe := dCmp fun i j => decide (j ≤ i)
def D.isNon : D → Bool
  | .non => true
  | _ => false
/-- x is None; two truth values -/
def dIs : D → D → Option D
  | x, .non => some (.bl x.isNon)
  | .bl a, .bl b => some (.bl (decide (a = b)))
  | _, _ => none
def dIsNot : D → D → Option D
  | x, .non => some (.bl (!x.isNon))
  | .bl a, .bl b => some (.bl (!decide (a = b)))
  | _, _ => none
theorem Vw.isNon {K : Frag} {fa : Nat → Addr} {H : Hp} {B : List Addr} {x : D} {u : V} (h : Vw K fa H B x u) : decide (u = .non) = x.isNon := by
  cases h with
  | den h => cases h <;> rfl
  | lst _ _ => rfl
def rIsD : R2 := fun x y H Q => (y = .non ∧ Q (.bl (decide (x = .non))) H) ∨ ∃ a b, x = .bl a ∧ y = .bl b ∧ Q (.bl (decide (a = b))) H
def rIsNotD : R2 := fun x y H Q => (y = .non ∧ Q (.bl (!decide (x = .non))) H) ∨ ∃ a b, x = .bl a ∧ y = .bl b ∧ Q (.bl (!decide (a = b))) H
theorem op_isD {X : Cx} : OpR X (compareOp .Is) rIsD := orR op_isN op_is_bl
theorem op_isNotD {X : Cx} : OpR X (compareOp .IsNot) rIsNotD := orR op_notN op_isnot_bl
theorem snd_is {K : Frag} {fa : Nat → Addr} : Snd2 K fa rIsD dIs := by
  intro H B x y u v d Q hB hx hy hd k
  unfold dIs at hd
  split at hd
  · cases hy.nonv
    obtain rfl := Option.some.inj hd
    exact .inl ⟨rfl, by rw [hx.isNon]; exact k _ H (Same.refl H) (.bl _)⟩
  · cases hx.blv; cases hy.blv
    obtain rfl := Option.some.inj hd
    exact .inr ⟨_, _, rfl, rfl, k _ H (Same.refl H) (.bl _)⟩
  · cases hd
theorem snd_isNot {K : Frag} {fa : Nat → Addr} : Snd2 K fa rIsNotD dIsNot := by
  intro H B x y u v d Q hB hx hy hd k
  unfold dIsNot at hd
  split at hd
  · cases hy.nonv
    obtain rfl := Option.some.inj hd
    exact .inl ⟨rfl, by rw [hx.isNon]; exact k _ H (Same.refl H) (.bl _)⟩
  · cases hx.blv; cases hy.blv
    obtain rfl := Option.some.inj hd
    exact .inr ⟨_, _, rfl, rfl, k _ H (Same.refl H) (.bl _)⟩
  · cases hd
/-! in: an item of a list or tuple; flat things, or data in a list -/
def D.flat : D → Bool
  | .non => true | .bl _ => true | .int _ => true | .str _ => true
  | _ => false
def inAny (x : D) (xs : List D) : Bool := xs.any fun y => y.eqv x
def dIn : D → D → Option D
  | x, .lst xs => if x.pl 60 && D.pls 59 xs then some (.bl (inAny x xs)) else none
  | x, .tup xs => if x.flat && xs.all D.flat then some (.bl (inAny x xs)) else none
  | _, _ => none
def dNotIn (x y : D) : Option D := match dIn x y with
  | some (.bl b) => some (.bl (!b))
  | _ => none
end DL

namespace DL
open PySem PySem.Spec PyProof.Rows L2

theorem inAny_py {x : D} {n : Nat} (hx : x.pl n = true) : ∀ {xs : List D} {m : Nat}, D.pls m xs = true → ((D.pys xs).any fun z => PyData.eqv z x.py) = inAny x xs
  | [], _, _ => rfl
  | y :: ys, m, h => by
    simp only [D.pls, Bool.and_eq_true] at h
    have ih := inAny_py hx (m := m) h.2
    unfold inAny at ih ⊢
    rw [List.any_cons, ← ih]
    show (PyData.eqv y.py x.py || (D.pys ys).any fun z => PyData.eqv z x.py) = _
    rw [D.eqv_py y x m n h.1 hx]
section
variable {K : Frag} {fa : Nat → Addr} {H : Hp} {B : List Addr}
theorem Den.flatV {x : D} {v : V} (h : Den K fa H B x v) (f : x.flat = true) : flatV v = true := by
  cases h <;> first | rfl | (cases f)
theorem Den.eqVs {x y : D} {u v : V} (h : Den K fa H B x u) (h' : Den K fa H B y v) (f : x.flat = true) (f' : y.flat = true) : eqV u v = x.eqv y := by
  cases h <;> first | (cases f; done) | (cases h' <;> first | rfl | (cases f'; done))
theorem DenL.flatVs : ∀ {xs : List D} {vs : List V}, DenL K fa H B xs vs → xs.all D.flat = true → vs.all L2.flatV = true
  | [], _, h, _ => by cases h; rfl
  | _ :: _, _, .cons h1 h2, f => by
    rw [List.all_cons, Bool.and_eq_true] at f
    rw [List.all_cons, Bool.and_eq_true]
    exact ⟨h1.flatV f.1, DenL.flatVs h2 f.2⟩
theorem DenL.inVs {x : D} {u : V} (hx : Den K fa H B x u) (fx : x.flat = true) : ∀ {xs : List D} {vs : List V}, DenL K fa H B xs vs → xs.all D.flat = true → inV u vs = inAny x xs
  | [], _, h, _ => by cases h; rfl
  | y :: ys, _, .cons h1 h2, f => by
    rw [List.all_cons, Bool.and_eq_true] at f
    have ih := DenL.inVs hx fx h2 f.2
    unfold inV inAny at ih ⊢
    rw [List.any_cons, List.any_cons, ih, h1.eqVs hx f.1 fx]
theorem Vw.flatd {x : D} {v : V} (h : Vw K fa H B x v) (f : x.flat = true) : Den K fa H B x v := by
  cases h with
  | den h => exact h
  | lst _ _ => cases f
end
def rInAll (K : Frag) : R2 := fun x y H Q => rInD K x y H Q ∨ rIn K false x y H Q
def rNotInAll (K : Frag) : R2 := fun x y H Q => rNotInD K x y H Q ∨ rIn K true x y H Q
theorem op_inA {X : Cx} (hu : X.A.units + 65 < cLine) : OpR X (compareOp .In) (rInAll X.K) := orR (op_inD hu) op_in_seq
theorem op_notInA {X : Cx} (hu : X.A.units + 65 < cLine) : OpR X (compareOp .NotIn) (rNotInAll X.K) := orR (op_notInD hu) op_notIn_seq
theorem snd_in {K : Frag} {fa : Nat → Addr} : Snd2 K fa (rInAll K) dIn := by
  intro H B x y u v d Q hB hx hy hd k
  unfold dIn at hd
  split at hd
  · rename_i xs
    split at hd
    · rename_i h
      simp only [Bool.and_eq_true] at h
      obtain rfl := Option.some.inj hd
      have py : (D.lst xs).pl 60 = true := by simpa [D.pl] using h.2
      refine .inl ⟨x.py, D.pys xs, hx.dp h.1, hy.dp py, D.pl_shaped h.1, D.pl_shaped py, ?_⟩
      rw [inAny_py h.1 h.2]
      exact k _ H (Same.refl H) (.bl _)
    · cases hd
  · rename_i xs
    split at hd
    · rename_i h
      simp only [Bool.and_eq_true] at h
      obtain rfl := Option.some.inj hd
      obtain ⟨a, us, rfl, ha, la⟩ := hy.tupv
      have dx := hx.flatd h.1
      refine .inr ⟨a, us, rfl, .inr ha, dx.flatV h.1, la.flatVs h.2, ?_⟩
      rw [if_neg (by decide), la.inVs dx h.1 h.2]
      exact k _ H (Same.refl H) (.bl _)
    · cases hd
  · cases hd
theorem snd_notIn {K : Frag} {fa : Nat → Addr} : Snd2 K fa (rNotInAll K) dNotIn := by
  intro H B x y u v d Q hB hx hy hd k
  unfold dNotIn dIn at hd
  split at hd
  · rename_i b e
    obtain rfl := Option.some.inj hd
    split at e
    · rename_i xs
      split at e
      · rename_i h
        simp only [Bool.and_eq_true] at h
        have eb : inAny x xs = b := by simpa using e
        subst eb
        have py : (D.lst xs).pl 60 = true := by simpa [D.pl] using h.2
        refine .inl ⟨x.py, D.pys xs, hx.dp h.1, hy.dp py, D.pl_shaped h.1, D.pl_shaped py, ?_⟩
        rw [inAny_py h.1 h.2]
        exact k _ H (Same.refl H) (.bl _)
      · cases e
    · rename_i xs
      split at e
      · rename_i h
        simp only [Bool.and_eq_true] at h
        have eb : inAny x xs = b := by simpa using e
        subst eb
        obtain ⟨a, us, rfl, ha, la⟩ := hy.tupv
        have dx := hx.flatd h.1
        refine .inr ⟨a, us, rfl, .inr ha, dx.flatV h.1, la.flatVs h.2, ?_⟩
        rw [if_pos rfl, la.inVs dx h.1 h.2]
        exact k _ H (Same.refl H) (.bl _)
      · cases e
    · cases e
  · cases hd

/-! ### built-in functions -/
def bLen : List D → Option D
  | [.lst xs] => some (.int xs.length)
  | [.tup xs] => some (.int xs.length)
  | [.str x] => if x.length ≤ 16777216 then some (.int x.length) else none
  | _ => none
theorem vwl1 {K : Frag} {fa : Nat → Addr} {H : Hp} {B : List Addr} {x : D} {us : List V} (h : VwL K fa H B [x] us) : ∃ u, us = [u] ∧ Vw K fa H B x u := by
  cases h with
  | cons h1 h2 => cases h2; exact ⟨_, rfl, h1⟩
theorem vwl2 {K : Frag} {fa : Nat → Addr} {H : Hp} {B : List Addr} {x y : D} {us : List V} (h : VwL K fa H B [x, y] us) : ∃ u v, us = [u, v] ∧ Vw K fa H B x u ∧ Vw K fa H B y v := by
  cases h with
  | cons h1 h2 =>
    cases h2 with
    | cons h2 h3 => cases h3; exact ⟨_, _, rfl, h1, h2⟩
theorem snd_len {K : Frag} {fa : Nat → Addr} : SndC K fa (fun xs H Q => ∃ x n, xs = [x] ∧ LenV K x H n ∧ Q (.int n) H) bLen := by
  intro H B xs us d Q hB hx hd k
  unfold bLen at hd
  split at hd
  · obtain ⟨u, rfl, h⟩ := vwl1 hx
    obtain rfl := Option.some.inj hd
    obtain ⟨a, ws, rfl, ha, la⟩ := h.lstv
    exact ⟨_, ws.length, rfl, .inl ⟨ws, SqL.of ha, rfl⟩, by rw [← la.length]; exact k _ H (Same.refl H) (.int _)⟩
  · obtain ⟨u, rfl, h⟩ := vwl1 hx
    obtain rfl := Option.some.inj hd
    obtain ⟨a, ws, rfl, ha, la⟩ := h.tupv
    exact ⟨_, ws.length, rfl, .inr ⟨ws, ha, rfl⟩, by rw [← la.length]; exact k _ H (Same.refl H) (.int _)⟩
  · obtain ⟨u, rfl, h⟩ := vwl1 hx
    split at hd
    · rename_i hl
      obtain rfl := Option.some.inj hd
      cases h.strv
      exact ⟨_, _, rfl, ⟨by rw [sizeLine_eq]; exact hl, rfl⟩, k _ H (Same.refl H) (.int _)⟩
    · cases hd
  · cases hd
def bAbs : List D → Option D
  | [.int i] => some (.int (if i < 0 then -i else i))
  | _ => none
theorem snd_abs {K : Frag} {fa : Nat → Addr} : SndC K fa (fun xs H Q => ∃ i, xs = [.int i] ∧ Q (.int (if i < 0 then -i else i)) H) bAbs := by
  intro H B xs us d Q hB hx hd k
  unfold bAbs at hd
  split at hd
  · obtain ⟨u, rfl, h⟩ := vwl1 hx
    obtain rfl := Option.some.inj hd
    cases h.intv
    exact ⟨_, rfl, k _ H (Same.refl H) (.int _)⟩
  · cases hd
def bInt : List D → Option D
  | [.int i] => some (.int i)
  | [.bl b] => some (.int (if b then 1 else 0))
  | _ => none
theorem snd_int {K : Frag} {fa : Nat → Addr} : SndC K fa (fun xs H Q => (∃ i, xs = [.int i] ∧ Q (.int i) H) ∨ ∃ k, xs = [.bl k] ∧ Q (.int (if k then 1 else 0)) H) bInt := by
  intro H B xs us d Q hB hx hd k
  unfold bInt at hd
  split at hd
  · obtain ⟨u, rfl, h⟩ := vwl1 hx
    obtain rfl := Option.some.inj hd
    cases h.intv
    exact .inl ⟨_, rfl, k _ H (Same.refl H) (.int _)⟩
  · obtain ⟨u, rfl, h⟩ := vwl1 hx
    obtain rfl := Option.some.inj hd
    cases h.blv
    exact .inr ⟨_, rfl, k _ H (Same.refl H) (.int _)⟩
  · cases hd
def bTuple : List D → Option D
  | [.lst xs] => some (.tup xs)
  | [.tup xs] => some (.tup xs)
  | _ => none
theorem snd_tuple {K : Frag} {fa : Nat → Addr} : SndC K fa (fun xs H Q => ∃ p ys, xs = [.ref p] ∧ ((SqL K H p ys ∧ ∀ l, H l = none → Q (.ref l) (upd H l (.tup ys))) ∨ (SqT K H p ys ∧ Q (.ref p) H))) bTuple := by
  intro H B xs us d Q hB hx hd k
  unfold bTuple at hd
  split at hd
  · obtain ⟨u, rfl, h⟩ := vwl1 hx
    obtain rfl := Option.some.inj hd
    obtain ⟨a, ws, rfl, ha, la⟩ := h.lstv
    exact ⟨a, ws, rfl, .inl ⟨SqL.of ha, fun p hp => k _ _ (Same.upd hp) (newTup hB hp la)⟩⟩
  · obtain ⟨u, rfl, h⟩ := vwl1 hx
    obtain rfl := Option.some.inj hd
    obtain ⟨a, ws, rfl, ha, la⟩ := h.tupv
    exact ⟨a, ws, rfl, .inr ⟨ha, k _ _ (Same.refl H) h.tupd⟩⟩
  · cases hd
def bList : List D → Option D
  | [.lst xs] => some (.lst xs)
  | [.tup xs] => some (.lst xs)
  | [.scr ns] => some (.lst (ns.map .int))
  | _ => none
theorem snd_list {K : Frag} {fa : Nat → Addr} : SndC K fa (fun xs H Q => ∃ p ys, xs = [.ref p] ∧ (SqL K H p ys ∨ SqT K H p ys) ∧ ∀ l, H l = none → Q (.ref l) (upd H l (.lst ys))) bList := by
  intro H B xs us d Q hB hx hd k
  unfold bList at hd
  split at hd
  · obtain ⟨u, rfl, h⟩ := vwl1 hx
    obtain rfl := Option.some.inj hd
    obtain ⟨a, ws, rfl, ha, la⟩ := h.lstv
    exact ⟨a, ws, rfl, .inl (SqL.of ha), fun p hp => k _ _ (Same.upd hp) (newLst hB hp la)⟩
  · obtain ⟨u, rfl, h⟩ := vwl1 hx
    obtain rfl := Option.some.inj hd
    obtain ⟨a, ws, rfl, ha, la⟩ := h.tupv
    exact ⟨a, ws, rfl, .inr ha, fun p hp => k _ _ (Same.upd hp) (newLst hB hp la)⟩
  · obtain ⟨u, rfl, h⟩ := vwl1 hx
    obtain rfl := Option.some.inj hd
    rename_i ns
    cases h with
    | den h => cases h with
      | scr hs =>
        rename_i a
        refine ⟨a, ns.map V.int, rfl, .inl ?_, fun p hp => k _ _ (Same.upd hp) (newLst hB hp (DenL.ofInts ns))⟩
        rcases hs with ⟨_, h⟩ | h
        · exact .inl h
        · exact h H
  · cases hd
def bGcd : List D → Option D
  | [.int i, .int j] => some (.int ((Nat.gcd i.natAbs j.natAbs : Nat) : Int))
  | _ => none
theorem snd_gcd {K : Frag} {fa : Nat → Addr} : SndC K fa rGcd bGcd := by
  intro H B xs us d Q hB hx hd k
  unfold bGcd at hd
  split at hd
  · obtain ⟨u, v, rfl, h1, h2⟩ := vwl2 hx
    obtain rfl := Option.some.inj hd
    cases h1.intv; cases h2.intv
    exact ⟨_, _, rfl, k _ H (Same.refl H) (.int _)⟩
  · cases hd
/-! min, max, sum: two ints, or a list of ints -/
def ofInts : List D → Option (List Int)
  | [] => some []
  | .int i :: ds => (ofInts ds).map (i :: ·)
  | _ => none
theorem ofInts_eq : ∀ {ds : List D} {ns : List Int}, ofInts ds = some ns → ds = ns.map D.int
  | [], _, h => by cases h; rfl
  | .int i :: ds, ns, h => by
    simp only [ofInts, Option.map_eq_some_iff] at h
    obtain ⟨ms, e, rfl⟩ := h
    rw [ofInts_eq e]; rfl
  | .non :: _, _, h => by cases h
  | .bl _ :: _, _, h => by cases h
  | .str _ :: _, _, h => by cases h
  | .ty _ :: _, _, h => by cases h
  | .fn _ :: _, _, h => by cases h
  | .lst _ :: _, _, h => by cases h
  | .tup _ :: _, _, h => by cases h
  | .scr _ :: _, _, h => by cases h
theorem ofInts_map : ∀ (ns : List Int), ofInts (ns.map D.int) = some ns
  | [] => rfl
  | n :: ns => by simp [ofInts, ofInts_map ns]
def leastI : Int → List Int → Int
  | m, [] => m
  | m, n :: ns => leastI (if n < m then n else m) ns
def mostI : Int → List Int → Int
  | m, [] => m
  | m, n :: ns => mostI (if m < n then n else m) ns
theorem leastI_spec : ∀ (ns : List Int) (m : Int), (leastI m ns = m ∨ leastI m ns ∈ ns) ∧ leastI m ns ≤ m ∧ ∀ y ∈ ns, leastI m ns ≤ y
  | [], m => ⟨.inl rfl, Int.le_refl _, fun _ h => by cases h⟩
  | n :: ns, m => by
    have ih := leastI_spec ns (if n < m then n else m)
    simp only [leastI]
    refine ⟨?_, ?_, fun y hy => ?_⟩
    · rcases ih.1 with h | h
      · rw [h]
        split
        · exact .inr (List.mem_cons_self)
        · exact .inl rfl
      · exact .inr (List.mem_cons_of_mem _ h)
    · have := ih.2.1
      split at this <;> omega
    · rcases List.mem_cons.mp hy with rfl | hy
      · have := ih.2.1
        split at this <;> omega
      · exact ih.2.2 y hy
theorem mostI_spec : ∀ (ns : List Int) (m : Int), (mostI m ns = m ∨ mostI m ns ∈ ns) ∧ m ≤ mostI m ns ∧ ∀ y ∈ ns, y ≤ mostI m ns
  | [], m => ⟨.inl rfl, Int.le_refl _, fun _ h => by cases h⟩
  | n :: ns, m => by
    have ih := mostI_spec ns (if m < n then n else m)
    simp only [mostI]
    refine ⟨?_, ?_, fun y hy => ?_⟩
    · rcases ih.1 with h | h
      · rw [h]
        split
        · exact .inr (List.mem_cons_self)
        · exact .inl rfl
      · exact .inr (List.mem_cons_of_mem _ h)
    · have := ih.2.1
      split at this <;> omega
    · rcases List.mem_cons.mp hy with rfl | hy
      · have := ih.2.1
        split at this <;> omega
      · exact ih.2.2 y hy
def bMin : List D → Option D
  | [.int i, .int j] => some (.int (if j < i then j else i))
  | [.lst xs] => match ofInts xs with
    | some (n :: ns) => some (.int (leastI n ns))
    | _ => none
  | _ => none
def bMax : List D → Option D
  | [.int i, .int j] => some (.int (if j > i then j else i))
  | [.lst xs] => match ofInts xs with
    | some (n :: ns) => some (.int (mostI n ns))
    | _ => none
  | _ => none
def bSum : List D → Option D
  | [.lst xs] => match ofInts xs with
    | some ns => some (.int ns.sum)
    | _ => none
  | _ => none
theorem orC {X : Cx} {f : Value} {r r' : List V → Hp → VK → Prop} (h : CallR X f r) (h' : CallR X f r') : CallR X f (fun xs H Q => r xs H Q ∨ r' xs H Q) := by
  intro pins s σ H xs us Q I rv q
  rcases q with q | q
  · exact h pins s σ H xs us Q I rv q
  · exact h' pins s σ H xs us Q I rv q
theorem snd_min {K : Frag} {fa : Nat → Addr} : SndC K fa (fun xs H Q => (∃ i j, xs = [.int i, .int j] ∧ Q (.int (if j < i then j else i)) H) ∨ rMin K xs H Q) bMin := by
  intro H B xs us d Q hB hx hd k
  unfold bMin at hd
  split at hd
  · obtain ⟨u, v, rfl, h1, h2⟩ := vwl2 hx
    obtain rfl := Option.some.inj hd
    cases h1.intv; cases h2.intv
    exact .inl ⟨_, _, rfl, k _ H (Same.refl H) (.int _)⟩
  · split at hd
    · rename_i n ns e
      obtain rfl := Option.some.inj hd
      obtain ⟨u, rfl, h⟩ := vwl1 hx
      obtain ⟨a, ws, rfl, ha, la⟩ := h.lstv
      rw [ofInts_eq e] at la
      have ew := la.ints
      subst ew
      refine .inr ⟨a, n :: ns, rfl, SqL.of ha, by simp, fun m hm hl => ?_⟩
      have sp := leastI_spec ns n
      have e1 : m = leastI n ns := by
        have a1 : leastI n ns ∈ n :: ns := by
          rcases sp.1 with h | h
          · rw [h]; exact List.mem_cons_self
          · exact List.mem_cons_of_mem _ h
        have a2 := hl _ a1
        rcases List.mem_cons.mp hm with rfl | hm
        · have := sp.2.1; omega
        · have := sp.2.2 m hm; omega
      rw [e1]
      exact k _ H (Same.refl H) (.int _)
    · cases hd
  · cases hd
theorem snd_max {K : Frag} {fa : Nat → Addr} : SndC K fa (fun xs H Q => (∃ i j, xs = [.int i, .int j] ∧ Q (.int (if j > i then j else i)) H) ∨ rMax K xs H Q) bMax := by
  intro H B xs us d Q hB hx hd k
  unfold bMax at hd
  split at hd
  · obtain ⟨u, v, rfl, h1, h2⟩ := vwl2 hx
    obtain rfl := Option.some.inj hd
    cases h1.intv; cases h2.intv
    exact .inl ⟨_, _, rfl, k _ H (Same.refl H) (.int _)⟩
  · split at hd
    · rename_i n ns e
      obtain rfl := Option.some.inj hd
      obtain ⟨u, rfl, h⟩ := vwl1 hx
      obtain ⟨a, ws, rfl, ha, la⟩ := h.lstv
      rw [ofInts_eq e] at la
      have ew := la.ints
      subst ew
      refine .inr ⟨a, n :: ns, rfl, SqL.of ha, by simp, fun m hm hl => ?_⟩
      have sp := mostI_spec ns n
      have e1 : m = mostI n ns := by
        have a1 : mostI n ns ∈ n :: ns := by
          rcases sp.1 with h | h
          · rw [h]; exact List.mem_cons_self
          · exact List.mem_cons_of_mem _ h
        have a2 := hl _ a1
        rcases List.mem_cons.mp hm with rfl | hm
        · have := sp.2.1; omega
        · have := sp.2.2 m hm; omega
      rw [e1]
      exact k _ H (Same.refl H) (.int _)
    · cases hd
  · cases hd
theorem snd_sum {K : Frag} {fa : Nat → Addr} : SndC K fa (rSum K) bSum := by
  intro H B xs us d Q hB hx hd k
  unfold bSum at hd
  split at hd
  · split at hd
    · rename_i ns e
      obtain rfl := Option.some.inj hd
      obtain ⟨u, rfl, h⟩ := vwl1 hx
      obtain ⟨a, ws, rfl, ha, la⟩ := h.lstv
      rw [ofInts_eq e] at la
      have ew := la.ints
      subst ew
      exact ⟨a, ns, rfl, SqL.of ha, k _ H (Same.refl H) (.int _)⟩
    · cases hd
  · cases hd
def ofBls : List D → Option (List Bool)
  | [] => some []
  | .bl i :: ds => (ofBls ds).map (i :: ·)
  | _ => none
theorem ofBls_eq : ∀ {ds : List D} {ns : List Bool}, ofBls ds = some ns → ds = ns.map D.bl
  | [], _, h => by cases h; rfl
  | .bl i :: ds, ns, h => by
    simp only [ofBls, Option.map_eq_some_iff] at h
    obtain ⟨ms, e, rfl⟩ := h
    rw [ofBls_eq e]; rfl
  | .non :: _, _, h => by cases h
  | .int _ :: _, _, h => by cases h
  | .str _ :: _, _, h => by cases h
  | .ty _ :: _, _, h => by cases h
  | .fn _ :: _, _, h => by cases h
  | .lst _ :: _, _, h => by cases h
  | .tup _ :: _, _, h => by cases h
  | .scr _ :: _, _, h => by cases h
theorem ofBls_map : ∀ (ns : List Bool), ofBls (ns.map D.bl) = some ns
  | [] => rfl
  | n :: ns => by simp [ofBls, ofBls_map ns]
theorem DenL.bls {K : Frag} {fa : Nat → Addr} {H : Hp} {B : List Addr} : ∀ {ns : List Bool} {vs : List V}, DenL K fa H B (ns.map D.bl) vs → vs = ns.map V.bl
  | [], _, h => by cases h; rfl
  | _ :: _, _, .cons h1 h2 => by cases h1; rw [DenL.bls h2]; rfl
def bAll : List D → Option D
  | [.lst xs] => (ofBls xs).map fun bs => .bl (bs.all id)
  | _ => none
def bAny : List D → Option D
  | [.lst xs] => (ofBls xs).map fun bs => .bl (bs.any id)
  | _ => none
theorem snd_all {K : Frag} {fa : Nat → Addr} : SndC K fa (rAll K) bAll := by
  intro H B xs us d Q hB hx hd k
  unfold bAll at hd
  split at hd
  · simp only [Option.map_eq_some_iff] at hd
    obtain ⟨bs, e, rfl⟩ := hd
    obtain ⟨u, rfl, h⟩ := vwl1 hx
    obtain ⟨a, ws, rfl, ha, la⟩ := h.lstv
    rw [ofBls_eq e] at la
    have ew := la.bls
    subst ew
    exact ⟨a, bs, rfl, SqL.of ha, k _ H (Same.refl H) (.bl _)⟩
  · cases hd
theorem snd_any {K : Frag} {fa : Nat → Addr} : SndC K fa (rAny K) bAny := by
  intro H B xs us d Q hB hx hd k
  unfold bAny at hd
  split at hd
  · simp only [Option.map_eq_some_iff] at hd
    obtain ⟨bs, e, rfl⟩ := hd
    obtain ⟨u, rfl, h⟩ := vwl1 hx
    obtain ⟨a, ws, rfl, ha, la⟩ := h.lstv
    rw [ofBls_eq e] at la
    have ew := la.bls
    subst ew
    exact ⟨a, bs, rfl, SqL.of ha, k _ H (Same.refl H) (.bl _)⟩
  · cases hd
/-! isinstance with a built-in class -/
def D.kind : D → Option String
  | .non => some "NoneType" | .bl _ => some "bool" | .int _ => some "int" | .str _ => some "str" | .lst _ => some "list" | .tup _ => some "tuple"
  | _ => none
def isaOf : D → String → Bool
  | .bl _, n => n = "bool" || n = "int"
  | .int _, n => n = "int"
  | .str _, n => n = "str"
  | .lst _, n => n = "list"
  | .tup _, n => n = "tuple"
  | _, _ => false
def bIsa : List D → Option D
  | [x, .ty n] => if (n = "int" || n = "bool" || n = "str" || n = "tuple" || n = "list") && x.kind.isSome then some (.bl (isaOf x n)) else none
  | _ => none
theorem Vw.tyx {K : Frag} {fa : Nat → Addr} {H : Hp} {B : List Addr} {x : D} {u : V} {t : String} (h : Vw K fa H B x u) (e : x.kind = some t) : TyX K H u (.type t) := by
  cases h with
  | den h =>
    cases h with
    | non => cases e; exact .base .non
    | bl => cases e; exact .base (.bl _)
    | int => cases e; exact .base (.int _)
    | str => cases e; exact .base (.str _)
    | ty => cases e
    | fn => cases e
    | scr => cases e
    | lst _ ha _ => cases e; exact .base (.lst ha)
    | tup ha _ =>
      cases e
      rcases ha with (ha | ⟨o, ha⟩) | ⟨o, its, n, hk, hc, _⟩
      · exact .base (.tup ha)
      · exact .fTuple ha
      · exact .kTuple hk hc
  | lst ha _ => cases e; exact .base (.lst ha)
def isaT (t n : String) : Bool := (t = n) || (t = "bool" && n = "int")
theorem kitB_T {t n : String} (ht : t = "NoneType" ∨ t = "bool" ∨ t = "int" ∨ t = "str" ∨ t = "list" ∨ t = "tuple") (hn : n = "int" ∨ n = "bool" ∨ n = "str" ∨ n = "tuple" ∨ n = "list") : kitB t n = some (isaT t n) := by
  rcases ht with rfl | rfl | rfl | rfl | rfl | rfl <;> rcases hn with rfl | rfl | rfl | rfl | rfl <;> decide +kernel
theorem isaT_of {x : D} {t n : String} (e : x.kind = some t) (hn : n = "int" ∨ n = "bool" ∨ n = "str" ∨ n = "tuple" ∨ n = "list") : isaT t n = isaOf x n ∧ (t = "NoneType" ∨ t = "bool" ∨ t = "int" ∨ t = "str" ∨ t = "list" ∨ t = "tuple") := by
  cases x <;> cases e <;> rcases hn with rfl | rfl | rfl | rfl | rfl <;> exact ⟨by simp [isaT, isaOf], by simp⟩
theorem kitB_of {x : D} {t n : String} (e : x.kind = some t) (hn : (n = "int" || n = "bool" || n = "str" || n = "tuple" || n = "list") = true) : kitB t n = some (isaOf x n) := by
  simp only [Bool.or_eq_true, decide_eq_true_eq] at hn
  have hn' : n = "int" ∨ n = "bool" ∨ n = "str" ∨ n = "tuple" ∨ n = "list" := by
    rcases hn with (((h | h) | h) | h) | h <;> simp [h]
  obtain ⟨h1, h2⟩ := isaT_of e hn'
  rw [← h1]
  exact kitB_T h2 hn'
theorem snd_isa {K : Frag} {fa : Nat → Addr} : SndC K fa (rIsi K) bIsa := by
  intro H B xs us d Q hB hx hd k
  unfold bIsa at hd
  split at hd
  · rename_i x n
    split at hd
    · rename_i h
      rw [Bool.and_eq_true] at h
      obtain ⟨h1, h2⟩ := h
      obtain ⟨t, ht⟩ := Option.isSome_iff_exists.mp h2
      obtain rfl := Option.some.inj hd
      obtain ⟨u, v, rfl, hv, hn⟩ := vwl2 hx
      cases hn.tyv
      exact ⟨u, .ty n, _, _, _, rfl, .ty n, hv.tyx ht, kit_ty (kitB_of ht h1), k _ H (Same.refl H) (.bl _)⟩
    · cases hd
  · cases hd
end DL

namespace DL
open PySem PySem.Spec PyProof.Rows L2
open LamX (Tabs)

/-! ### freezing, changing a list that is ours -/
section
variable {K : Frag} {F : Fm} {σ : L2.St} {H H' : Hp} {ρ : Rho} {L : List Addr}
theorem get_set {i j : Nat} {x : Option Slot} {s : Slot} (h : (ρ.set i x)[j]? = some (some s)) : (j = i ∧ x = some s) ∨ (j ≠ i ∧ ρ[j]? = some (some s)) := by
  rw [List.getElem?_set] at h
  split at h
  · rename_i e
    split at h
    · exact .inl ⟨e.symm, Option.some.inj h⟩
    · cases h
  · rename_i e
    exact .inr ⟨Ne.symm e, h⟩
/-- an own list is from now on a value -/
theorem StR.freeze (st : StR K F σ H ρ L) {i : Nat} {xs : List D} (h : ρ[i]? = some (some (.own xs))) :
    ∃ (a : Addr) (L' : List Addr), σ[i]? = some (some (.ref a)) ∧ StR K F σ H (ρ.set i (some (.val (.lst xs)))) L' ∧ Step F H L H L' ∧ Den K F.fa H (F.bad L') (.lst xs) (.ref a) := by
  obtain ⟨v, e1, a, us, rfl, ha, hl, hd⟩ := st.sl i _ h
  have sub : ∀ b ∈ L.filter (fun b => decide (b ≠ a)), b ∈ L := fun b m => (List.mem_filter.mp m).1
  have s : Step F H L H (L.filter fun b => decide (b ≠ a)) := ⟨fun b o e _ _ _ => e, fun b m => .inl (sub b m), fun _ z => z⟩
  have c := st.carry s
  have hn : a ∉ F.bad (L.filter fun b => decide (b ≠ a)) := fun m => by
    rcases List.mem_append.mp m with z | z
    · have := (List.mem_filter.mp z).2
      simp at this
    · exact (st.ld a ha).1 z
  have dn : Den K F.fa H (F.bad (L.filter fun b => decide (b ≠ a))) (.lst xs) (.ref a) := .lst hn hl (DenL.carry c xs us hd)
  refine ⟨a, _, e1, ⟨by rw [List.length_set]; exact st.len, fun j t ht => ?_, fun j k ys zs b hj hk e2 e3 => ?_, fun b m => ?_, fun b m => st.ld b (sub b m), st.pj, st.pb, st.en, st.tr, st.tb⟩, s, dn⟩
  · rcases get_set ht with ⟨rfl, e⟩ | ⟨ne, e⟩
    · cases e
      exact ⟨.ref a, e1, dn⟩
    · obtain ⟨v, e2, r⟩ := st.sl j t e
      refine ⟨v, e2, ?_⟩
      cases t with
      | val d => exact Den.carry c d v r
      | own ys =>
        obtain ⟨b, ws, rfl, hb, hl2, hd2⟩ := r
        refine ⟨b, ws, rfl, List.mem_filter.mpr ⟨hb, decide_eq_true fun z => ?_⟩, hl2, DenL.carry c ys ws hd2⟩
        subst z
        exact ne (st.di j i ys xs b e h e2 e1)
      | bor ys =>
        obtain ⟨ws, rfl, hi, hl2, hd2⟩ := r
        exact ⟨ws, rfl, hi, hl2, DenL.carry c ys ws hd2⟩
      | err k => exact r
  · rcases get_set hj with ⟨rfl, e⟩ | ⟨_, e⟩
    · cases e
    · rcases get_set hk with ⟨rfl, e'⟩ | ⟨_, e'⟩
      · cases e'
      · exact st.di j k ys zs b e e' e2 e3
  · rcases c.more b m with z | z
    · exact st.bd b z
    · exfalso
      obtain ⟨us', e'⟩ := st.bd b (by
        rcases List.mem_append.mp m with y | y
        · exact List.mem_append_left _ (sub b y)
        · exact List.mem_append_right _ y)
      exact z _ e' nt_lst
/-- the content of a list that is ours -/
def Rho.cont (ρ : Rho) (i : Nat) : Option (List D) := match ρ[i]? with
  | some (some (.own xs)) => some xs
  | some (some (.bor xs)) => some xs
  | _ => none
def Rho.put (ρ : Rho) (i : Nat) (ys : List D) : Rho := match ρ[i]? with
  | some (some (.own _)) => ρ.set i (some (.own ys))
  | some (some (.bor _)) => ρ.set i (some (.bor ys))
  | _ => ρ
theorem StR.cont (st : StR K F σ H ρ L) {i : Nat} {xs : List D} (h : ρ.cont i = some xs) :
    ∃ a us, σ[i]? = some (some (.ref a)) ∧ H a = some (.lst us) ∧ DenL K F.fa H (F.bad L) xs us ∧ a ∈ F.bad L := by
  unfold Rho.cont at h
  split at h
  · rename_i ys e
    obtain rfl := Option.some.inj h
    obtain ⟨v, e1, a, us, rfl, ha, hl, hd⟩ := st.sl i _ e
    exact ⟨a, us, e1, hl, hd, List.mem_append_left _ ha⟩
  · rename_i ys e
    obtain rfl := Option.some.inj h
    obtain ⟨v, e1, us, rfl, hi, hl, hd⟩ := st.sl i _ e
    exact ⟨_, us, e1, hl, hd, List.mem_append_right _ (List.mem_append_left _ (List.mem_map.mpr ⟨i, hi, rfl⟩))⟩
  · cases h
/-- the list in slot i, at a, has changed; all else stands -/
theorem StR.mut (st : StR K F σ H ρ L) {i : Nat} {xs ys : List D} {a : Addr} {ws : List V} (h : ρ.cont i = some xs) (ha : σ[i]? = some (some (.ref a)))
    (kp : ∀ b o, H b = some o → b ≠ a → NT o → H' b = some o) (hw : H' a = some (.lst ws)) (hd : DenL K F.fa H' (F.bad L) ys ws) (tr : ∀ b, Nn H' b → Nn H b) (tb : Tabs F.T H') :
    StR K F σ H' (ρ.put i ys) L ∧ Step F H L H' L := by
  obtain ⟨a', us, e1, hl, hd0, hm⟩ := st.cont h
  rw [ha] at e1; cases e1
  have c : Carry H (F.bad L) H' (F.bad L) := ⟨fun b o e hn nt => kp b o e (fun z => hn (z ▸ hm)) nt, fun _ m => .inl m, st.bd⟩
  have other : ∀ j s, j ≠ i → ρ[j]? = some (some s) → ∃ v, σ[j]? = some (some v) ∧ SlR K F H' L j v s := fun j s ne e => by
    obtain ⟨v, e2, r⟩ := st.sl j s e
    refine ⟨v, e2, ?_⟩
    cases s with
    | val d => exact Den.carry c d v r
    | own zs =>
      obtain ⟨b, us2, rfl, hb, hl2, hd2⟩ := r
      refine ⟨b, us2, rfl, hb, kp b _ hl2 (fun z => ?_) nt_lst, DenL.carry c zs us2 hd2⟩
      subst z
      unfold Rho.cont at h
      split at h
      · rename_i ys' e'
        exact ne (st.di j i _ _ b e e' e2 ha)
      · rename_i ys' e'
        obtain ⟨v', e3, us3, e4, hi, _⟩ := st.sl i _ e'
        rw [ha] at e3; cases e3
        cases e4
        exact (st.ld _ hb).1 (List.mem_append_left _ (List.mem_map.mpr ⟨i, hi, rfl⟩))
      · cases h
    | bor zs =>
      obtain ⟨us2, rfl, hj, hl2, hd2⟩ := r
      refine ⟨us2, rfl, hj, kp _ _ hl2 (fun z => ?_) nt_lst, DenL.carry c zs us2 hd2⟩
      unfold Rho.cont at h
      split at h
      · rename_i ys' e'
        obtain ⟨v', e3, b, us3, e4, hb, _⟩ := st.sl i _ e'
        rw [ha] at e3; cases e3
        cases e4
        exact (st.ld _ hb).1 (z ▸ List.mem_append_left _ (List.mem_map.mpr ⟨j, hj, rfl⟩))
      · rename_i ys' e'
        obtain ⟨v', e3, us3, e4, hi, _⟩ := st.sl i _ e'
        rw [ha] at e3; cases e3
        cases e4
        exact ne (st.pj j hj i hi z)
      · cases h
    | err k => exact r
  have step : Step F H L H' L := ⟨fun b o e h1 h2 nt => kp b o e (fun z => by
    subst z
    rcases List.mem_append.mp hm with y | y
    · exact h1 y
    · rcases List.mem_append.mp y with y | y
      · exact h2 y
      · unfold Rho.cont at h
        split at h
        · rename_i e'
          obtain ⟨v', e3, b', us3, e4, hb, _⟩ := st.sl i _ e'
          rw [ha] at e3; cases e3
          cases e4
          exact h1 hb
        · rename_i e'
          obtain ⟨v', e3, us3, e4, hi, _⟩ := st.sl i _ e'
          rw [ha] at e3; cases e3
          cases e4
          exact h2 (List.mem_map.mpr ⟨i, hi, rfl⟩)
        · cases h) nt, fun _ m => .inl m, tr⟩
  refine ⟨⟨?_, fun j s e => ?_, fun j k us1 us2 b hj hk e2 e3 => ?_, fun b m => ?_, st.ld, st.pj, st.pb, fun b o e hn nt => ?_, fun b e => st.tr b (tr b e), tb⟩, step⟩
  · unfold Rho.put
    split <;> first | (rw [List.length_set]; exact st.len) | exact st.len
  · unfold Rho.put at e
    unfold Rho.cont at h
    split at e
    · rename_i e'
      rcases get_set e with ⟨rfl, q⟩ | ⟨ne, q⟩
      · cases q
        obtain ⟨v', e3, b', us3, e4, hb, _⟩ := st.sl j _ e'
        rw [ha] at e3; cases e3
        cases e4
        exact ⟨_, ha, a, ws, rfl, hb, hw, hd⟩
      · exact other j s ne q
    · rename_i e'
      rcases get_set e with ⟨rfl, q⟩ | ⟨ne, q⟩
      · cases q
        obtain ⟨v', e3, us3, e4, hi, _⟩ := st.sl j _ e'
        rw [ha] at e3; cases e3
        cases e4
        exact ⟨_, ha, ws, rfl, hi, hw, hd⟩
      · exact other j s ne q
    · rename_i n1 n2
      exfalso
      split at h
      · rename_i e'; exact n1 _ e'
      · rename_i e'; exact n2 _ e'
      · cases h
  · have back : ∀ (j : Nat) (ys' : List D), (ρ.put i ys)[j]? = some (some (Slot.own ys')) → ∃ zs, ρ[j]? = some (some (Slot.own zs)) := fun j ys' e => by
      unfold Rho.put at e
      split at e
      · rename_i e'
        rcases get_set e with ⟨rfl, q⟩ | ⟨ne, q⟩
        · exact ⟨_, e'⟩
        · exact ⟨_, q⟩
      · rcases get_set e with ⟨rfl, q⟩ | ⟨ne, q⟩
        · cases q
        · exact ⟨_, q⟩
      · exact ⟨_, e⟩
    obtain ⟨z1, h1⟩ := back j us1 hj
    obtain ⟨z2, h2⟩ := back k us2 hk
    exact st.di j k z1 z2 b h1 h2 e2 e3
  · by_cases hb : b = a
    · subst hb; exact ⟨_, hw⟩
    · obtain ⟨us', e⟩ := st.bd b m
      exact ⟨us', kp b _ e hb nt_lst⟩
  · have e1 := st.en b o e hn nt
    refine kp b o e1 (fun z => ?_) nt
    subst z
    unfold Rho.cont at h
    split at h
    · rename_i e'
      obtain ⟨v', e3, b', us3, e4, hb, _⟩ := st.sl i _ e'
      rw [ha] at e3; cases e3
      cases e4
      exact (st.ld _ hb).2 _ e nt
    · rename_i e'
      obtain ⟨v', e3, us3, e4, hi, _⟩ := st.sl i _ e'
      rw [ha] at e3; cases e3
      cases e4
      exact hn (List.mem_map.mpr ⟨i, hi, rfl⟩)
    · cases h
end
/-- a value that is kept: what is ours is given away -/
def frz1 (a : Arg) (ρ : Rho) : Option (D × Rho) := match a with
  | .val d => some (d, ρ)
  | .slot i => match ρ[i]? with
    | some (some (.val d)) => some (d, ρ)
    | some (some (.own xs)) => some (.lst xs, ρ.set i (some (.val (.lst xs))))
    | _ => none
def frzL : List Arg → Rho → Option (List D × Rho)
  | [], ρ => some ([], ρ)
  | a :: as, ρ => (frz1 a ρ).bind fun p => (frzL as p.2).map fun q => (p.1 :: q.1, q.2)
section
variable {K : Frag} {F : Fm} {σ : L2.St} {H H' : Hp} {ρ ρ' : Rho} {L : List Addr}
theorem frz1_ok (st : StR K F σ H ρ L) {a : Arg} {v : V} {d : D} (r : ArgR K F σ H L a v) (e : frz1 a ρ = some (d, ρ')) : ∃ L', StR K F σ H ρ' L' ∧ Step F H L H L' ∧ Den K F.fa H (F.bad L') d v := by
  cases a with
  | val d' =>
    cases e
    exact ⟨L, st, .refl, r⟩
  | slot i =>
    have r' : σ[i]? = some (some v) := r
    simp only [frz1] at e
    split at e
    · rename_i d' h
      cases e
      obtain ⟨v', e1, r1⟩ := st.sl i _ h
      rw [r'] at e1; cases e1
      exact ⟨L, st, .refl, r1⟩
    · rename_i xs h
      cases e
      obtain ⟨a, L', e1, st', s, dn⟩ := st.freeze h
      rw [r'] at e1; cases e1
      exact ⟨L', st', s, dn⟩
    · cases e
theorem frzL_ok : ∀ {as : List Arg} {vs : List V} {ds : List D} {ρ ρ' : Rho} {L : List Addr}, StR K F σ H ρ L → ArgsR K F σ H L as vs → frzL as ρ = some (ds, ρ') → ∃ L', StR K F σ H ρ' L' ∧ Step F H L H L' ∧ DenL K F.fa H (F.bad L') ds vs
  | [], _, _, ρ, _, L, st, r, e => by
    cases r
    cases e
    exact ⟨L, st, .refl, .nil⟩
  | a :: as, _, _, ρ, _, L, st, .cons r1 r2, e => by
    simp only [frzL, Option.bind_eq_some_iff, Option.map_eq_some_iff] at e
    obtain ⟨⟨d, ρ1⟩, e1, ⟨ds, ρ2⟩, e2, e3⟩ := e
    cases e3
    obtain ⟨L1, st1, s1, d1⟩ := frz1_ok st r1 e1
    obtain ⟨L2, st2, s2, d2⟩ := frzL_ok st1 (r2.step st s1) e2
    exact ⟨L2, st2, s1.trans s2, .cons (Den.carry (st1.carry s2) _ _ d1) d2⟩
end
end DL

namespace DL
open PySem PySem.Spec PyProof.Rows L2
open LamX (Tabs)

/-! ### expressions -/
def dVar (i : Nat) : DEf := fun ρ => match ρ[i]? with
  | some (some (.val d)) => .ok (.val d, ρ)
  | some (some (.own _)) => .ok (.slot i, ρ)
  | some (some (.bor _)) => .ok (.slot i, ρ)
  | _ => .stuck
def dC (d : D) : DEf := fun ρ => .ok (.val d, ρ)
def resB (g : D → D → Option D) (a b : Arg) (ρ : Rho) : Res (Arg × Rho) := match a.res ρ, b.res ρ with
  | some x, some y => (match g x y with
    | some d => .ok (.val d, ρ)
    | none => .stuck)
  | _, _ => .stuck
def resU (g : D → Option D) (a : Arg) (ρ : Rho) : Res (Arg × Rho) := match a.res ρ with
  | some x => (match g x with
    | some d => .ok (.val d, ρ)
    | none => .stuck)
  | _ => .stuck
def dO2 (g : D → D → Option D) (fa fb : DEf) : DEf := fun ρ => (fa ρ).bind fun p => (fb p.2).bind fun q => resB g p.1 q.1 q.2
def dO1 (g : D → Option D) (fa : DEf) : DEf := fun ρ => (fa ρ).bind fun p => resU g p.1 p.2
def resL : List Arg → Rho → Option (List D)
  | [], _ => some []
  | a :: as, ρ => (a.res ρ).bind fun d => (resL as ρ).map (d :: ·)
def resC (g : List D → Option D) (as : List Arg) (ρ : Rho) : Res (Arg × Rho) := match resL as ρ with
  | some ds => (match g ds with
    | some d => .ok (.val d, ρ)
    | none => .stuck)
  | _ => .stuck
def dCB (g : List D → Option D) (fs : DAf) : DEf := fun ρ => (fs ρ).bind fun p => resC g p.1 p.2
def aNil : DAf := fun ρ => .ok ([], ρ)
def aCons (fa : DEf) (fs : DAf) : DAf := fun ρ => (fa ρ).bind fun p => (fs p.2).bind fun q => .ok (p.1 :: q.1, q.2)
/-- a display -/
def dDisp (mk : List D → D) (fs : DAf) : DEf := fun ρ => (fs ρ).bind fun p => match frzL p.1 p.2 with
  | some (ds, ρ1) => if ds.length ≤ 16777216 then .ok (.val (mk ds), ρ1) else .stuck
  | none => .stuck
section
variable {F : Fm} {X : Cx} {W : WX} {a b c e : Expr} {es : List Expr} {f fa fb fc : DEf} {fs : DAf} {pos : Pos}
theorem de_var {i : Nat} (h : PE X e (tVar i)) : DE F X W e (dVar i) := ⟨_, h, fun σ H ρ L Q st P => by
  unfold dVar at P
  split at P
  · rename_i h
    obtain ⟨v, e1, r⟩ := st.sl i _ h
    exact ⟨v, e1, P v H L st .refl r⟩
  · rename_i h
    obtain ⟨v, e1, r⟩ := st.sl i _ h
    exact ⟨v, e1, P v H L st .refl e1⟩
  · rename_i h
    obtain ⟨v, e1, r⟩ := st.sl i _ h
    exact ⟨v, e1, P v H L st .refl e1⟩
  · exact P.elim⟩
theorem de_c {v : V} {d : D} (h : PE X e (tC v)) (r : ∀ H B, Den X.K F.fa H B d v) : DE F X W e (dC d) := ⟨_, h, fun σ H ρ L Q st P => P v H L st .refl (r _ _)⟩
theorem de_int {i : Int} {j : Nat} : DE F X W (.Constant (.int i) j pos) (dC (.int i)) := de_c pe_int fun _ _ => .int i
theorem de_bl {i : Bool} {j : Nat} : DE F X W (.Constant (.bool i) j pos) (dC (.bl i)) := de_c pe_bl fun _ _ => .bl i
theorem de_non {j : Nat} : DE F X W (.Constant .none j pos) (dC .non) := de_c pe_non fun _ _ => .non
theorem de_str {x : Str} {j : Nat} : DE F X W (.Constant (.str x) j pos) (dC (.str x)) := de_c pe_str fun _ _ => .str x
theorem resB_post {r : R2} {g : D → D → Option D} {K : Frag} {σ : L2.St} {H : Hp} {ρ : Rho} {L : List Addr} {x y : Arg} {u v : V} {Q : VK} (sn : Snd2 K F.fa r g) (st : StR K F σ H ρ L) (h1 : ArgR K F σ H L x u) (h2 : ArgR K F σ H L y v)
    (P : PostE K F W σ H L (resB g x y ρ) Q) : r u v H Q := by
  unfold resB at P
  split at P
  · rename_i dx dy e1 e2
    split at P
    · rename_i d e3
      exact sn H (F.bad L) dx dy u v d Q st.bd (h1.view st e1) (h2.view st e2) e3 fun w H' s dn => P w H' L (st.same s) (Step.same s) dn
    · exact P.elim
  · exact P.elim
theorem resU_post {r : V → Hp → VK → Prop} {g : D → Option D} {K : Frag} {σ : L2.St} {H : Hp} {ρ : Rho} {L : List Addr} {x : Arg} {u : V} {Q : VK} (sn : Snd1 K F.fa r g) (st : StR K F σ H ρ L) (h1 : ArgR K F σ H L x u)
    (P : PostE K F W σ H L (resU g x ρ) Q) : r u H Q := by
  unfold resU at P
  split at P
  · rename_i dx e1
    split at P
    · rename_i d e3
      exact sn H (F.bad L) dx u d Q st.bd (h1.view st e1) e3 fun w H' s dn => P w H' L (st.same s) (Step.same s) dn
    · exact P.elim
  · exact P.elim
theorem resL_view {K : Frag} {σ : L2.St} {H : Hp} {ρ : Rho} {L : List Addr} (st : StR K F σ H ρ L) : ∀ {as : List Arg} {vs : List V} {ds : List D}, ArgsR K F σ H L as vs → resL as ρ = some ds → VwL K F.fa H (F.bad L) ds vs
  | [], _, _, r, e => by cases r; cases e; exact .nil
  | a :: as, _, _, .cons r1 r2, e => by
    simp only [resL, Option.bind_eq_some_iff, Option.map_eq_some_iff] at e
    obtain ⟨d, e1, ds, e2, rfl⟩ := e
    exact .cons (r1.view st e1) (resL_view st r2 e2)
theorem resC_post {r : List V → Hp → VK → Prop} {g : List D → Option D} {K : Frag} {σ : L2.St} {H : Hp} {ρ : Rho} {L : List Addr} {as : List Arg} {vs : List V} {Q : VK} (sn : SndC K F.fa r g) (st : StR K F σ H ρ L) (h1 : ArgsR K F σ H L as vs)
    (P : PostE K F W σ H L (resC g as ρ) Q) : r vs H Q := by
  unfold resC at P
  split at P
  · rename_i ds e1
    split at P
    · rename_i d e3
      exact sn H (F.bad L) ds vs d Q st.bd (resL_view st h1 e1) e3 fun w H' s dn => P w H' L (st.same s) (Step.same s) dn
    · exact P.elim
  · exact P.elim
theorem de_o2 {r : R2} {g : D → D → Option D} (hp : ∀ {ta tb : TE}, PE X a ta → PE X b tb → PE X e (tOp r ta tb)) (sn : Snd2 X.K F.fa r g) (ha : DE F X W a fa) (hb : DE F X W b fb) : DE F X W e (dO2 g fa fb) := by
  obtain ⟨ta, pa, ra⟩ := ha.ex
  obtain ⟨tb, pb, rb⟩ := hb.ex
  refine ⟨_, hp pa pb, fun σ H ρ L Q st P => ?_⟩
  refine ra _ _ _ _ _ st (P.ofBind fun x ρ1 u H1 La _ st1 s1 ar P1 => ?_)
  refine rb _ _ _ _ _ st1 (P1.ofBind fun y ρ2 v H2 Lb _ st2 s2 br P2 => ?_)
  exact resB_post sn st2 (ar.step st1 s2) br P2
theorem de_o1 {r : V → Hp → VK → Prop} {g : D → Option D} (hp : ∀ {ta : TE}, PE X a ta → PE X e (tUn r ta)) (sn : Snd1 X.K F.fa r g) (ha : DE F X W a fa) : DE F X W e (dO1 g fa) := by
  obtain ⟨ta, pa, ra⟩ := ha.ex
  refine ⟨_, hp pa, fun σ H ρ L Q st P => ?_⟩
  refine ra _ _ _ _ _ st (P.ofBind fun x ρ1 u H1 La _ st1 s1 ar P1 => ?_)
  exact resU_post sn st1 ar P1
theorem da_nil : DA F X W [] aNil := ⟨_, pa_nil, fun σ H ρ L Q st P => P [] H L st .refl .nil⟩
theorem da_cons (ha : DE F X W a fa) (hs : DA F X W es fs) (hh : starEach (a :: es) X.env = (false, eval a X.env) :: starEach es X.env := by rfl) : DA F X W (a :: es) (aCons fa fs) := by
  obtain ⟨ta, pa, ra⟩ := ha.ex
  obtain ⟨tb, pb, rb⟩ := hs.ex
  refine ⟨_, pa_cons pa pb hh, fun σ H ρ L Q st P => ?_⟩
  refine ra _ _ _ _ _ st (PostA.ofBindE P fun x ρ1 u H1 La _ st1 s1 ar P1 => ?_)
  refine rb _ _ _ _ _ st1 (P1.ofBind fun ys ρ2 vs H2 Lb _ st2 s2 br P2 => ?_)
  exact P2 (u :: vs) H2 Lb st2 .refl (.cons (ar.step st1 s2) br)
theorem de_cb {r : List V → Hp → VK → Prop} {g : List D → Option D} (hp : ∀ {t : TA}, PA X es t → PE X e (tCB r t)) (sn : SndC X.K F.fa r g) (hs : DA F X W es fs) : DE F X W e (dCB g fs) := by
  obtain ⟨ta, pa, ra⟩ := hs.ex
  refine ⟨_, hp pa, fun σ H ρ L Q st P => ?_⟩
  refine ra _ _ _ _ _ st (PostE.ofBindA P fun as ρ1 vs H1 La _ st1 s1 ar P1 => ?_)
  exact resC_post sn st1 ar P1
theorem de_tup {k : Nat} (hs : DA F X W es fs) : DE F X W (.Tuple es k pos) (dDisp .tup fs) := by
  obtain ⟨ta, pa, ra⟩ := hs.ex
  refine ⟨_, pe_tup pa, fun σ H ρ L Q st P => ?_⟩
  refine ra _ _ _ _ _ st (PostE.ofBindA P fun as ρ1 vs H1 La _ st1 s1 ar P1 => ?_)
  dsimp only at P1
  split at P1
  · rename_i ds ρ2 e1
    split at P1
    · rename_i hl
      obtain ⟨L', st', s', dn⟩ := frzL_ok st1 ar e1
      refine ⟨by rw [← dn.length, sizeLine_eq]; exact hl, fun p hp => ?_⟩
      exact P1 _ _ L' (st'.same (Same.upd hp)) (s'.trans (Step.same (Same.upd hp))) (newTup st'.bd hp dn)
    · exact P1.elim
  · exact P1.elim
theorem de_lst (hs : DA F X W es fs) : DE F X W (.List es pos) (dDisp .lst fs) := by
  obtain ⟨ta, pa, ra⟩ := hs.ex
  refine ⟨_, pe_lst pa, fun σ H ρ L Q st P => ?_⟩
  refine ra _ _ _ _ _ st (PostE.ofBindA P fun as ρ1 vs H1 La _ st1 s1 ar P1 => ?_)
  dsimp only at P1
  split at P1
  · rename_i ds ρ2 e1
    split at P1
    · rename_i hl
      obtain ⟨L', st', s', dn⟩ := frzL_ok st1 ar e1
      refine ⟨by rw [← dn.length, sizeLine_eq]; exact hl, fun p hp => ?_⟩
      exact P1 _ _ L' (st'.same (Same.upd hp)) (s'.trans (Step.same (Same.upd hp))) (newLst st'.bd hp dn)
    · exact P1.elim
  · exact P1.elim
end
/-! ### subscripts, slices -/
def dIx : D → D → Option D
  | .lst xs, .int i => atI xs i
  | .tup xs, .int i => atI xs i
  | .str z, .int i => if z.length ≤ 16777216 then (atI z.cps.toList i).map fun c => .str ⟨#[c]⟩ else none
  | _, _ => none
theorem DenL.atI {K : Frag} {fa : Nat → Addr} {H : Hp} {B : List Addr} {xs : List D} {vs : List V} {i : Int} {d : D} (h : DenL K fa H B xs vs) (e : L2.atI xs i = some d) : ∃ v, L2.atI vs i = some v ∧ Den K fa H B d v := by
  unfold L2.atI at e ⊢
  rw [← h.length]
  simp only [Option.bind_eq_some_iff] at e ⊢
  obtain ⟨j, e1, e2⟩ := e
  obtain ⟨v, e3, dn⟩ := h.get e2
  exact ⟨v, ⟨j, e1, e3⟩, dn⟩
theorem snd_ix {K : Frag} {fa : Nat → Addr} : Snd2 K fa (rIx K) dIx := by
  intro H B x y u v d Q hB hx hy hd k
  unfold dIx at hd
  split at hd
  · obtain ⟨a, us, rfl, ha, la⟩ := hx.lstv
    cases hy.intv
    obtain ⟨w, e1, dn⟩ := la.atI hd
    exact .inl ⟨a, us, _, w, rfl, rfl, SqL.of ha, e1, k _ H (Same.refl H) dn⟩
  · obtain ⟨a, us, rfl, ha, la⟩ := hx.tupv
    cases hy.intv
    obtain ⟨w, e1, dn⟩ := la.atI hd
    exact .inr (.inl ⟨a, us, _, w, rfl, rfl, ha, e1, k _ H (Same.refl H) dn⟩)
  · cases hx.strv
    cases hy.intv
    split at hd
    · rename_i hl
      simp only [Option.map_eq_some_iff] at hd
      obtain ⟨c, e1, rfl⟩ := hd
      exact .inr (.inr ⟨_, _, c, rfl, rfl, by rw [sizeLine_eq]; exact hl, e1, k _ H (Same.refl H) (.str _)⟩)
    · cases hd
  · cases hd
def cutL {α : Type} (xs : List α) (lo hi : Option Int) : List α := (xs.drop (HT.sIx xs.length 0 lo)).take (HT.sIx xs.length xs.length hi - HT.sIx xs.length 0 lo)
def dCut (x : D) (lo hi : Option Int) : Option D := match x with
  | .lst xs => some (.lst (cutL xs lo hi))
  | .tup xs => some (.tup (cutL xs lo hi))
  | _ => none
abbrev DOf := Rho → Res (Option Int × Rho)
def PostO (K : Frag) (F : Fm) (W : WX) (σ : L2.St) (H : Hp) (L : List Addr) (r : Res (Option Int × Rho)) (Q : Option Int → Hp → Prop) : Prop := match r with
  | .ok (o, ρ') => ∀ H' L', StR K F σ H' ρ' L' → Step F H L H' L' → Q o H'
  | .exc k ρ' => ∀ H' L', StR K F σ H' ρ' L' → Step F H L H' L' → W (.ref (F.fa k)) none σ H'
  | .stuck => False
structure DO (F : Fm) (X : Cx) (W : WX) (e : Option Expr) (f : DOf) : Prop where
  ex : ∃ t, PO X e t ∧ ∀ σ H ρ L Q, StR X.K F σ H ρ L → PostO X.K F W σ H L (f ρ) Q → t σ H Q
def oNone : DOf := fun ρ => .ok (none, ρ)
def oSome (fa : DEf) : DOf := fun ρ => (fa ρ).bind fun p => match p.1.res p.2 with
  | some (.int i) => .ok (some i, p.2)
  | _ => .stuck
def dSlice (fa : DEf) (fl fh : DOf) : DEf := fun ρ => (fa ρ).bind fun p => (fl p.2).bind fun q => (fh q.2).bind fun r => resU (fun x => dCut x q.1 r.1) p.1 r.2
section
variable {F : Fm} {X : Cx} {W : WX} {a b c e : Expr} {lo hi : Option Expr} {fa fb fc : DEf} {fl fh : DOf} {pos p2 : Pos}
theorem do_none : DO F X W none oNone := ⟨_, po_none, fun σ H ρ L Q st P => P H L st .refl⟩
theorem PostO.trans {K : Frag} {σ : L2.St} {H H1 : Hp} {L La : List Addr} {r : Res (Option Int × Rho)} {Q : Option Int → Hp → Prop} (s : Step F H L H1 La) (p : PostO K F W σ H L r Q) : PostO K F W σ H1 La r Q := by
  cases r with
  | ok x => exact fun H' L' st s' => p H' L' st (s.trans s')
  | exc k ρ' => exact fun H' L' st s' => p H' L' st (s.trans s')
  | stuck => exact p
theorem do_some (ha : DE F X W a fa) : DO F X W (some a) (oSome fa) := by
  obtain ⟨ta, pa, ra⟩ := ha.ex
  refine ⟨_, po_some pa, fun σ H ρ L Q st P => ?_⟩
  refine ra _ _ _ _ _ st ?_
  unfold oSome at P
  cases h : fa ρ with
  | ok x =>
    obtain ⟨x, ρ1⟩ := x
    rw [h] at P
    intro v H1 La st1 s1 ar
    dsimp only [Res.bind] at P
    split at P
    · rename_i i e1
      have := (ar.view st1 e1).intv
      subst this
      exact ⟨i, rfl, P H1 La st1 s1⟩
    · exact P.elim
  | exc k ρ' => rw [h] at P; exact P
  | stuck => rw [h] at P; exact P
theorem PostE.ofBindO {K : Frag} {σ : L2.St} {H : Hp} {L : List Addr} {r : Res (Option Int × Rho)} {k : Option Int × Rho → Res (Arg × Rho)} {Q : VK} {R : Option Int → Hp → Prop} (p : PostE K F W σ H L (r.bind k) Q)
    (hk : ∀ o ρ1 H1 La, r = .ok (o, ρ1) → StR K F σ H1 ρ1 La → Step F H L H1 La → PostE K F W σ H1 La (k (o, ρ1)) Q → R o H1) : PostO K F W σ H L r R := by
  cases r with
  | ok x =>
    obtain ⟨a, ρ1⟩ := x
    exact fun H' L' st s => hk a ρ1 H' L' rfl st s (PostE.trans s p)
  | exc n ρ' => exact p
  | stuck => exact p
def rCutD (K : Frag) : V → Option Int → Option Int → Hp → VK → Prop := fun x lo hi H Q => rSlL K x lo hi H Q ∨ rSlA K x lo hi H Q
theorem sl_D : L2.SlR X (rCutD X.K) := sl_list.or sl_tupA
theorem cutV_cut (xs : List V) (lo hi : Option Int) : cutV xs lo hi = cutL xs lo hi := rfl
theorem DenL.cut {K : Frag} {fa : Nat → Addr} {H : Hp} {B : List Addr} {xs : List D} {vs : List V} (lo hi : Option Int) (h : DenL K fa H B xs vs) : DenL K fa H B (cutL xs lo hi) (cutL vs lo hi) := by
  unfold cutL
  rw [h.length]
  exact (h.drop _).take _
theorem cutL_whole {α : Type} {xs : List α} {lo hi : Option Int} (h : HT.sIx xs.length 0 lo = 0 ∧ HT.sIx xs.length xs.length hi = xs.length) : cutL xs lo hi = xs := by
  unfold cutL
  rw [h.1, h.2]
  simp
theorem snd_cut {K : Frag} {fa : Nat → Addr} (lo hi : Option Int) : Snd1 K fa (fun x H Q => rCutD K x lo hi H Q) (fun x => dCut x lo hi) := by
  intro H B x u d Q hB hx hd k
  dsimp only [dCut] at hd
  split at hd
  · obtain ⟨a, us, rfl, ha, la⟩ := hx.lstv
    obtain rfl := Option.some.inj hd
    exact .inl ⟨a, us, rfl, SqL.of ha, fun p hp => k _ _ (Same.upd hp) (newLst hB hp (la.cut lo hi))⟩
  · obtain ⟨a, us, rfl, ha, la⟩ := hx.tupv
    obtain rfl := Option.some.inj hd
    refine .inr ⟨a, us, rfl, ha, fun hw => ?_, fun _ p hp => k _ _ (Same.upd hp) (newTup hB hp (la.cut lo hi))⟩
    rw [← la.length] at hw
    rw [cutL_whole hw] at k
    exact k _ _ (Same.refl H) hx.tupd
  · cases hd
theorem de_slice (ha : DE F X W a fa) (hl : DO F X W lo fl) (hh : DO F X W hi fh) : DE F X W (.Subscript a (.Slice lo hi none p2) pos) (dSlice fa fl fh) := by
  obtain ⟨ta, pa, ra⟩ := ha.ex
  obtain ⟨tl, pl, rl⟩ := hl.ex
  obtain ⟨th, ph, rh⟩ := hh.ex
  refine ⟨_, pe_slice sl_D pa pl ph, fun σ H ρ L Q st P => ?_⟩
  refine ra _ _ _ _ _ st (P.ofBind fun x ρ1 u H1 La _ st1 s1 ar P1 => ?_)
  refine rl _ _ _ _ _ st1 (P1.ofBindO fun o ρ2 H2 Lb _ st2 s2 P2 => ?_)
  refine rh _ _ _ _ _ st2 (P2.ofBindO fun o' ρ3 H3 Lc _ st3 s3 P3 => ?_)
  exact resU_post (snd_cut o o') st3 ((ar.step st1 s2).step st2 s3) P3
end
/-! ### tests -/
abbrev DTf := Rho → Res (Bool × Rho)
def PostT (K : Frag) (F : Fm) (W : WX) (σ : L2.St) (H : Hp) (L : List Addr) (r : Res (Bool × Rho)) (Q : Bool → Hp → Prop) : Prop := match r with
  | .ok (o, ρ') => ∀ H' L', StR K F σ H' ρ' L' → Step F H L H' L' → Q o H'
  | .exc k ρ' => ∀ H' L', StR K F σ H' ρ' L' → Step F H L H' L' → W (.ref (F.fa k)) none σ H'
  | .stuck => False
structure DT (F : Fm) (X : Cx) (W : WX) (e : Expr) (f : DTf) : Prop where
  ex : ∃ t, PT X e t ∧ ∀ σ H ρ L Q, StR X.K F σ H ρ L → PostT X.K F W σ H L (f ρ) Q → t σ H Q
/-- and, or: whatever their whole is -/
structure DW (F : Fm) (X : Cx) (W : WX) (e : Expr) (f : DTf) : Prop where
  ex : ∃ t, PW X e t ∧ ∀ σ H ρ L Q, StR X.K F σ H ρ L → PostT X.K F W σ H L (f ρ) Q → t σ H Q
def D.tru : D → Option Bool
  | .non => some false
  | .bl b => some b
  | .int i => some (i != 0)
  | .str y => if y.length ≤ 16777216 then some ((y.length : Int) != 0) else none
  | .lst xs => some (!xs.isEmpty)
  | .tup xs => some (!xs.isEmpty)
  | _ => none
def tTru (fa : DEf) : DTf := fun ρ => (fa ρ).bind fun p => match (p.1.res p.2).bind D.tru with
  | some b => .ok (b, p.2)
  | none => .stuck
/-- the answer is a truth value -/
def tBl (fa : DEf) : DTf := fun ρ => (fa ρ).bind fun p => match p.1 with
  | .val (.bl b) => .ok (b, p.2)
  | _ => .stuck
def tNotD (t : DTf) : DTf := fun ρ => (t ρ).bind fun p => .ok (!p.1, p.2)
def tAndD (t u : DTf) : DTf := fun ρ => (t ρ).bind fun p => if p.1 = true then u p.2 else .ok (false, p.2)
def tOrD (t u : DTf) : DTf := fun ρ => (t ρ).bind fun p => if p.1 = true then .ok (true, p.2) else u p.2
section
variable {K : Frag} {F : Fm} {X : Cx} {W : WX} {a b c e : Expr} {rest : List Expr} {fa fb fc : DEf} {ft fu : DTf} {pos : Pos} {σ : L2.St} {H H1 : Hp} {L La : List Addr}
theorem PostT.trans {r : Res (Bool × Rho)} {Q : Bool → Hp → Prop} (s : Step F H L H1 La) (p : PostT K F W σ H L r Q) : PostT K F W σ H1 La r Q := by
  cases r with
  | ok x => exact fun H' L' st s' => p H' L' st (s.trans s')
  | exc k ρ' => exact fun H' L' st s' => p H' L' st (s.trans s')
  | stuck => exact p
theorem PostT.ofBindE {r : Res (Arg × Rho)} {k : Arg × Rho → Res (Bool × Rho)} {Q : Bool → Hp → Prop} {R : VK} (p : PostT K F W σ H L (r.bind k) Q)
    (hk : ∀ a ρ1 v H1 La, r = .ok (a, ρ1) → StR K F σ H1 ρ1 La → Step F H L H1 La → ArgR K F σ H1 La a v → PostT K F W σ H1 La (k (a, ρ1)) Q → R v H1) : PostE K F W σ H L r R := by
  cases r with
  | ok x =>
    obtain ⟨a, ρ1⟩ := x
    exact fun v H' L' st s ar => hk a ρ1 v H' L' rfl st s ar (PostT.trans s p)
  | exc n ρ' => exact p
  | stuck => exact p
theorem PostT.ofBind {r : Res (Bool × Rho)} {k : Bool × Rho → Res (Bool × Rho)} {Q R : Bool → Hp → Prop} (p : PostT K F W σ H L (r.bind k) Q)
    (hk : ∀ o ρ1 H1 La, r = .ok (o, ρ1) → StR K F σ H1 ρ1 La → Step F H L H1 La → PostT K F W σ H1 La (k (o, ρ1)) Q → R o H1) : PostT K F W σ H L r R := by
  cases r with
  | ok x =>
    obtain ⟨a, ρ1⟩ := x
    exact fun H' L' st s => hk a ρ1 H' L' rfl st s (PostT.trans s p)
  | exc n ρ' => exact p
  | stuck => exact p
theorem PostE.ofBindT {r : Res (Bool × Rho)} {k : Bool × Rho → Res (Arg × Rho)} {Q : VK} {R : Bool → Hp → Prop} (p : PostE K F W σ H L (r.bind k) Q)
    (hk : ∀ o ρ1 H1 La, r = .ok (o, ρ1) → StR K F σ H1 ρ1 La → Step F H L H1 La → PostE K F W σ H1 La (k (o, ρ1)) Q → R o H1) : PostT K F W σ H L r R := by
  cases r with
  | ok x =>
    obtain ⟨a, ρ1⟩ := x
    exact fun H' L' st s => hk a ρ1 H' L' rfl st s (PostE.trans s p)
  | exc n ρ' => exact p
  | stuck => exact p
theorem Vw.tru {fa : Nat → Addr} {B : List Addr} {d : D} {v : V} {b : Bool} (h : Vw K fa H B d v) (e : d.tru = some b) : TruV K v H b := by
  cases h with
  | den h =>
    cases h with
    | non => cases e; rfl
    | bl => cases e; rfl
    | int => cases e; rfl
    | str x =>
      simp only [D.tru] at e
      split at e
      · rename_i hl
        cases e
        exact ⟨by rw [sizeLine_eq]; exact hl, rfl⟩
      · cases e
    | ty => cases e
    | fn => cases e
    | scr => cases e
    | @lst a vs xs _ ha hl =>
      cases e
      refine .inl ⟨vs, SqL.of ha, ?_⟩
      cases hl <;> rfl
    | @tup a vs xs ha hl =>
      cases e
      refine .inr (.inl ⟨vs, ha, ?_⟩)
      cases hl <;> rfl
  | @lst a vs xs ha hl =>
    cases e
    refine .inl ⟨vs, SqL.of ha, ?_⟩
    cases hl <;> rfl
theorem dt_truth (ha : DE F X W a fa) (he : ∀ whole, isTrue a X.env whole = (do let v ← whole; standAt a.pos; holding [v] (truthy v)) := by intro _; rfl) : DT F X W a (tTru fa) := by
  obtain ⟨ta, pa, ra⟩ := ha.ex
  refine ⟨_, pt_truth pa he, fun σ H ρ L Q st P => ?_⟩
  refine ra _ _ _ _ _ st (PostT.ofBindE P fun x ρ1 u H1 La _ st1 s1 ar P1 => ?_)
  dsimp only at P1
  split at P1
  · rename_i b e1
    simp only [Option.bind_eq_some_iff] at e1
    obtain ⟨d, e1, e2⟩ := e1
    exact ⟨b, (ar.view st1 e1).tru e2, P1 H1 La st1 .refl⟩
  · exact P1.elim
theorem resB_postT {r : R2} {g : D → D → Option D} {ρ : Rho} {x y : Arg} {u v : V} {Q : Bool → Hp → Prop} (sn : Snd2 K F.fa r g) (st : StR K F σ H ρ L) (h1 : ArgR K F σ H L x u) (h2 : ArgR K F σ H L y v)
    (P : PostT K F W σ H L ((resB g x y ρ).bind fun p => match p.1 with | .val (.bl b) => .ok (b, p.2) | _ => .stuck) Q) : r u v H fun z H' => ∃ k, z = .bl k ∧ Q k H' := by
  unfold resB at P
  split at P
  · rename_i dx dy e1 e2
    split at P
    · rename_i d e3
      refine sn H (F.bad L) dx dy u v d _ st.bd (h1.view st e1) (h2.view st e2) e3 fun w H' s dn => ?_
      dsimp only [Res.bind] at P
      split at P
      · rename_i b e4
        obtain rfl := Arg.val.inj e4
        cases dn
        exact ⟨_, rfl, P H' L (st.same s) (Step.same s)⟩
      · exact P.elim
    · exact P.elim
  · exact P.elim
def tCmpD (g : D → D → Option D) (fa fb : DEf) : DTf := fun ρ => (fa ρ).bind fun p => (fb p.2).bind fun q => (resB g p.1 q.1 q.2).bind fun p => match p.1 with
  | .val (.bl b) => .ok (b, p.2)
  | _ => .stuck
theorem dt_cmp {r : R2} {g : D → D → Option D} (hp : ∀ {ta tb : TE}, PE X a ta → PE X b tb → PT X e (tTest (tOp r ta tb))) (sn : Snd2 X.K F.fa r g) (ha : DE F X W a fa) (hb : DE F X W b fb) : DT F X W e (tCmpD g fa fb) := by
  obtain ⟨ta, pa, ra⟩ := ha.ex
  obtain ⟨tb, pb, rb⟩ := hb.ex
  refine ⟨_, hp pa pb, fun σ H ρ L Q st P => ?_⟩
  show ta σ H _
  refine ra _ _ _ _ _ st (PostT.ofBindE P fun x ρ1 u H1 La _ st1 s1 ar P1 => ?_)
  refine rb _ _ _ _ _ st1 (PostT.ofBindE P1 fun y ρ2 v H2 Lb _ st2 s2 br P2 => ?_)
  exact resB_postT sn st2 (ar.step st1 s2) br P2
/-- a < b < c -/
def tChn (g g' : D → D → Option D) (fa fb fc : DEf) : DTf := fun ρ => (fa ρ).bind fun p => (fb p.2).bind fun q => (resB g p.1 q.1 q.2).bind fun z => match z.1 with
  | .val (.bl true) => (fc z.2).bind fun r => (resB g' q.1 r.1 r.2).bind fun p => match p.1 with
    | .val (.bl b) => .ok (b, p.2)
    | _ => .stuck
  | .val (.bl false) => .ok (false, z.2)
  | _ => .stuck
def dChn (g g' : D → D → Option D) (fa fb fc : DEf) : DEf := fun ρ => (fa ρ).bind fun p => (fb p.2).bind fun q => (resB g p.1 q.1 q.2).bind fun z => match z.1 with
  | .val (.bl true) => (fc z.2).bind fun r => resB g' q.1 r.1 r.2
  | .val (.bl false) => .ok (.val (.bl false), z.2)
  | _ => .stuck
theorem dt_chain {r r' : R2} {g g' : D → D → Option D} (hp : ∀ {ta tb tc : TE}, PE X a ta → PE X b tb → PE X c tc → PT X e (tTest (tChain r r' ta tb tc))) (sn : Snd2 X.K F.fa r g) (sn' : Snd2 X.K F.fa r' g')
    (ha : DE F X W a fa) (hb : DE F X W b fb) (hc : DE F X W c fc) : DT F X W e (tChn g g' fa fb fc) := by
  obtain ⟨ta, pa, ra⟩ := ha.ex
  obtain ⟨tb, pb, rb⟩ := hb.ex
  obtain ⟨tc, pc, rc⟩ := hc.ex
  refine ⟨_, hp pa pb pc, fun σ H ρ L Q st P => ?_⟩
  show ta σ H _
  refine ra _ _ _ _ _ st (PostT.ofBindE P fun x ρ1 u H1 La _ st1 s1 ar P1 => ?_)
  refine rb _ _ _ _ _ st1 (PostT.ofBindE P1 fun y ρ2 v H2 Lb _ st2 s2 br P2 => ?_)
  have ar2 := ar.step st1 s2
  dsimp only at P2
  unfold resB at P2
  split at P2
  · rename_i dx dy e1 e2
    split at P2
    · rename_i d e3
      refine sn H2 (F.bad Lb) dx dy u v d _ st2.bd (ar2.view st2 e1) (br.view st2 e2) e3 fun w H' s dn => ?_
      have P3 := PostT.trans (Step.same s) P2
      dsimp only [Res.bind] at P3
      have st3 := st2.same s
      split at P3
      · rename_i e4
        obtain rfl := Arg.val.inj e4
        cases dn
        refine ⟨true, rfl, ?_⟩
        rw [if_pos rfl]
        refine rc _ _ _ _ _ st3 (PostT.ofBindE P3 fun z ρ4 w H4 Ld _ st4 s4 zr P4 => ?_)
        have br4 := (br.step st2 (Step.same s)).step st3 s4
        exact resB_postT sn' st4 br4 zr P4
      · rename_i e4
        obtain rfl := Arg.val.inj e4
        cases dn
        refine ⟨false, rfl, ?_⟩
        rw [if_neg (by decide)]
        exact ⟨false, rfl, P3 H' Lb st3 .refl⟩
      · exact P3.elim
    · exact P2.elim
  · exact P2.elim
theorem de_chain {r r' : R2} {g g' : D → D → Option D} (hp : ∀ {ta tb tc : TE}, PE X a ta → PE X b tb → PE X c tc → PE X e (tChain r r' ta tb tc)) (sn : Snd2 X.K F.fa r g) (sn' : Snd2 X.K F.fa r' g')
    (ha : DE F X W a fa) (hb : DE F X W b fb) (hc : DE F X W c fc) : DE F X W e (dChn g g' fa fb fc) := by
  obtain ⟨ta, pa, ra⟩ := ha.ex
  obtain ⟨tb, pb, rb⟩ := hb.ex
  obtain ⟨tc, pc, rc⟩ := hc.ex
  refine ⟨_, hp pa pb pc, fun σ H ρ L Q st P => ?_⟩
  refine ra _ _ _ _ _ st (P.ofBind fun x ρ1 u H1 La _ st1 s1 ar P1 => ?_)
  refine rb _ _ _ _ _ st1 (P1.ofBind fun y ρ2 v H2 Lb _ st2 s2 br P2 => ?_)
  have ar2 := ar.step st1 s2
  dsimp only at P2
  unfold resB at P2
  split at P2
  · rename_i dx dy e1 e2
    split at P2
    · rename_i d e3
      refine sn H2 (F.bad Lb) dx dy u v d _ st2.bd (ar2.view st2 e1) (br.view st2 e2) e3 fun w H' s dn => ?_
      have P3 := PostE.trans (Step.same s) P2
      dsimp only [Res.bind] at P3
      have st3 := st2.same s
      split at P3
      · rename_i e4
        obtain rfl := Arg.val.inj e4
        cases dn
        refine ⟨true, rfl, ?_⟩
        rw [if_pos rfl]
        refine rc _ _ _ _ _ st3 (P3.ofBind fun z ρ4 w H4 Ld _ st4 s4 zr P4 => ?_)
        have br4 := (br.step st2 (Step.same s)).step st3 s4
        exact resB_post sn' st4 br4 zr P4
      · rename_i e4
        obtain rfl := Arg.val.inj e4
        cases dn
        refine ⟨false, rfl, ?_⟩
        rw [if_neg (by decide)]
        exact P3 _ H' Lb st3 .refl (Den.bl false)
      · exact P3.elim
    · exact P2.elim
  · exact P2.elim
theorem dt_not (ha : DT F X W a ft) : DT F X W (.UnaryOp .Not a pos) (tNotD ft) := by
  obtain ⟨ta, pa, ra⟩ := ha.ex
  refine ⟨_, pt_not pa, fun σ H ρ L Q st P => ?_⟩
  exact ra _ _ _ _ _ st (P.ofBind fun o ρ1 H1 La _ st1 s1 P1 => P1 H1 La st1 .refl)
theorem dw_pt (h : DW F X W e ft) : DT F X W e ft := by
  obtain ⟨t, p, r⟩ := h.ex
  exact ⟨t, p.pt, r⟩
theorem dw_and1 (ha : DT F X W a ft) : DW F X W (.BoolOp .And [a] pos) ft := by
  obtain ⟨ta, pa, ra⟩ := ha.ex
  exact ⟨_, pw_and1 pa, ra⟩
theorem dw_or1 (ha : DT F X W a ft) : DW F X W (.BoolOp .Or [a] pos) ft := by
  obtain ⟨ta, pa, ra⟩ := ha.ex
  exact ⟨_, pw_or1 pa, ra⟩
theorem dw_and (ha : DT F X W a ft) (hb : DW F X W (.BoolOp .And (b :: rest) pos) fu) : DW F X W (.BoolOp .And (a :: b :: rest) pos) (tAndD ft fu) := by
  obtain ⟨ta, pa, ra⟩ := ha.ex
  obtain ⟨tb, pb, rb⟩ := hb.ex
  refine ⟨_, pw_and pa pb, fun σ H ρ L Q st P => ?_⟩
  refine ra _ _ _ _ _ st (P.ofBind fun o ρ1 H1 La _ st1 s1 P1 => ?_)
  cases o with
  | true =>
    rw [if_pos rfl] at P1 ⊢
    exact rb _ _ _ _ _ st1 P1
  | false =>
    rw [if_neg Bool.false_ne_true] at P1 ⊢
    exact P1 H1 La st1 .refl
theorem dw_or (ha : DT F X W a ft) (hb : DW F X W (.BoolOp .Or (b :: rest) pos) fu) : DW F X W (.BoolOp .Or (a :: b :: rest) pos) (tOrD ft fu) := by
  obtain ⟨ta, pa, ra⟩ := ha.ex
  obtain ⟨tb, pb, rb⟩ := hb.ex
  refine ⟨_, pw_or pa pb, fun σ H ρ L Q st P => ?_⟩
  refine ra _ _ _ _ _ st (P.ofBind fun o ρ1 H1 La _ st1 s1 P1 => ?_)
  cases o with
  | true =>
    rw [if_pos rfl] at P1 ⊢
    exact P1 H1 La st1 .refl
  | false =>
    rw [if_neg Bool.false_ne_true] at P1 ⊢
    exact rb _ _ _ _ _ st1 P1
/-! .. as values: truth values on the left -/
def dAndV (fa fb : DEf) : DEf := fun ρ => (fa ρ).bind fun p => match p.1 with
  | .val (.bl true) => fb p.2
  | .val (.bl false) => .ok (.val (.bl false), p.2)
  | _ => .stuck
def dOrV (fa fb : DEf) : DEf := fun ρ => (fa ρ).bind fun p => match p.1 with
  | .val (.bl false) => fb p.2
  | .val (.bl true) => .ok (.val (.bl true), p.2)
  | _ => .stuck
def dNotV (fa : DEf) : DEf := fun ρ => (fa ρ).bind fun p => match p.1 with
  | .val (.bl b) => .ok (.val (.bl (!b)), p.2)
  | _ => .stuck
def dIf (ft : DTf) (fa fb : DEf) : DEf := fun ρ => (ft ρ).bind fun p => if p.1 = true then fa p.2 else fb p.2
theorem de_one {op : BoolOp} (ha : DE F X W a fa) : DE F X W (.BoolOp op [a] pos) fa := by
  obtain ⟨ta, pa, ra⟩ := ha.ex
  exact ⟨_, pe_one pa, ra⟩
theorem de_and (ha : DE F X W a fa) (hb : DE F X W (.BoolOp .And (b :: rest) pos) fb) : DE F X W (.BoolOp .And (a :: b :: rest) pos) (dAndV fa fb) := by
  obtain ⟨ta, pa, ra⟩ := ha.ex
  obtain ⟨tb, pb, rb⟩ := hb.ex
  refine ⟨_, pe_and pa pb, fun σ H ρ L Q st P => ?_⟩
  refine ra _ _ _ _ _ st (P.ofBind fun x ρ1 u H1 La _ st1 s1 ar P1 => ?_)
  dsimp only at P1
  split at P1
  · cases ar
    refine ⟨true, rfl, ?_⟩
    rw [if_pos rfl]
    exact rb _ _ _ _ _ st1 P1
  · cases ar
    refine ⟨false, rfl, ?_⟩
    rw [if_neg (by decide)]
    exact P1 _ H1 La st1 .refl (Den.bl false)
  · exact P1.elim
theorem de_or (ha : DE F X W a fa) (hb : DE F X W (.BoolOp .Or (b :: rest) pos) fb) : DE F X W (.BoolOp .Or (a :: b :: rest) pos) (dOrV fa fb) := by
  obtain ⟨ta, pa, ra⟩ := ha.ex
  obtain ⟨tb, pb, rb⟩ := hb.ex
  refine ⟨_, pe_or pa pb, fun σ H ρ L Q st P => ?_⟩
  refine ra _ _ _ _ _ st (P.ofBind fun x ρ1 u H1 La _ st1 s1 ar P1 => ?_)
  dsimp only at P1
  split at P1
  · cases ar
    refine ⟨false, rfl, ?_⟩
    rw [if_neg (by decide)]
    exact rb _ _ _ _ _ st1 P1
  · cases ar
    refine ⟨true, rfl, ?_⟩
    rw [if_pos rfl]
    exact P1 _ H1 La st1 .refl (Den.bl true)
  · exact P1.elim
theorem de_not (ha : DE F X W a fa) : DE F X W (.UnaryOp .Not a pos) (dNotV fa) := by
  obtain ⟨ta, pa, ra⟩ := ha.ex
  refine ⟨_, pe_not pa, fun σ H ρ L Q st P => ?_⟩
  refine ra _ _ _ _ _ st (P.ofBind fun x ρ1 u H1 La _ st1 s1 ar P1 => ?_)
  dsimp only at P1
  split at P1
  · cases ar
    exact ⟨_, rfl, P1 _ H1 La st1 .refl (Den.bl _)⟩
  · exact P1.elim
theorem de_if (hc : DT F X W c ft) (ha : DE F X W a fa) (hb : DE F X W b fb) : DE F X W (.IfExp c a b pos) (dIf ft fa fb) := by
  obtain ⟨tc, pc, rc⟩ := hc.ex
  obtain ⟨ta, pa, ra⟩ := ha.ex
  obtain ⟨tb, pb, rb⟩ := hb.ex
  refine ⟨_, pe_ifExp pc pa pb, fun σ H ρ L Q st P => ?_⟩
  refine rc _ _ _ _ _ st (PostE.ofBindT P fun o ρ1 H1 La _ st1 s1 P1 => ?_)
  cases o with
  | true =>
    rw [if_pos rfl] at P1 ⊢
    exact ra _ _ _ _ _ st1 P1
  | false =>
    rw [if_neg Bool.false_ne_true] at P1 ⊢
    exact rb _ _ _ _ _ st1 P1
end
end DL

namespace DL
open PySem PySem.Spec PyProof.Rows L2
open LamX (Tabs)

/-! ### slots are stored -/
section
variable {K : Frag} {F : Fm} {σ : L2.St} {H H1 : Hp} {ρ : Rho} {L : List Addr}
theorem set_get {α : Type} {l : List (Option α)} {i j : Nat} {x : Option α} {s : α} (h : (l.set i x)[j]? = some (some s)) : (j = i ∧ x = some s ∧ i < l.length) ∨ (j ≠ i ∧ l[j]? = some (some s)) := by
  rw [List.getElem?_set] at h
  split at h
  · rename_i e
    split at h
    · rename_i hl
      exact .inl ⟨e.symm, Option.some.inj h, hl⟩
    · cases h
  · rename_i e
    exact .inr ⟨Ne.symm e, h⟩
/-- slot i takes a value -/
theorem StR.setV (st : StR K F σ H ρ L) (i : Nat) {d : D} {v : V} (h : Den K F.fa H (F.bad L) d v) : StR K F (σ.set i (some v)) H (ρ.set i (some (.val d))) L where
  len := by rw [List.length_set, List.length_set]; exact st.len
  sl := fun j s e => by
    rcases set_get e with ⟨rfl, q, hl⟩ | ⟨ne, q⟩
    · cases q
      exact ⟨v, List.getElem?_set_self (by rw [← st.len]; exact hl), h⟩
    · obtain ⟨w, e1, r⟩ := st.sl j s q
      exact ⟨w, by rw [List.getElem?_set_ne (Ne.symm ne)]; exact e1, r⟩
  di := fun j k xs ys a hj hk e1 e2 => by
    rcases set_get hj with ⟨rfl, q, _⟩ | ⟨nj, qj⟩
    · cases q
    · rcases set_get hk with ⟨rfl, q, _⟩ | ⟨nk, qk⟩
      · cases q
      · rw [List.getElem?_set_ne (Ne.symm nj)] at e1
        rw [List.getElem?_set_ne (Ne.symm nk)] at e2
        exact st.di j k xs ys a qj qk e1 e2
  bd := st.bd
  ld := st.ld
  pj := st.pj
  pb := st.pb
  en := st.en
  tr := st.tr
  tb := st.tb
/-- a list stands at p that nothing else knows: slot i takes it -/
theorem StR.setO (st : StR K F σ H ρ L) (i : Nat) {p : Addr} {xs : List D} {us : List V} (hp : p ∈ L) (hl : H p = some (.lst us)) (hd : DenL K F.fa H (F.bad L) xs us)
    (no : ∀ (j : Nat) (ys : List D), j ≠ i → ρ[j]? = some (some (Slot.own ys)) → σ[j]? ≠ some (some (.ref p))) : StR K F (σ.set i (some (.ref p))) H (ρ.set i (some (.own xs))) L where
  len := by rw [List.length_set, List.length_set]; exact st.len
  sl := fun j s e => by
    rcases set_get e with ⟨rfl, q, hlt⟩ | ⟨ne, q⟩
    · cases q
      exact ⟨.ref p, List.getElem?_set_self (by rw [← st.len]; exact hlt), p, us, rfl, hp, hl, hd⟩
    · obtain ⟨w, e1, r⟩ := st.sl j s q
      exact ⟨w, by rw [List.getElem?_set_ne (Ne.symm ne)]; exact e1, r⟩
  di := fun j k ys zs a hj hk e1 e2 => by
    rcases set_get hj with ⟨rfl, q, l1⟩ | ⟨nj, qj⟩
    · rcases set_get hk with ⟨rfl, q', _⟩ | ⟨nk, qk⟩
      · rfl
      · exfalso
        rw [List.getElem?_set_self (by rw [← st.len]; exact l1)] at e1
        rw [List.getElem?_set_ne (Ne.symm nk)] at e2
        cases e1
        exact no k zs nk qk e2
    · rcases set_get hk with ⟨rfl, q', l1⟩ | ⟨nk, qk⟩
      · exfalso
        rw [List.getElem?_set_self (by rw [← st.len]; exact l1)] at e2
        rw [List.getElem?_set_ne (Ne.symm nj)] at e1
        cases e2
        exact no j ys nj qj e1
      · rw [List.getElem?_set_ne (Ne.symm nj)] at e1
        rw [List.getElem?_set_ne (Ne.symm nk)] at e2
        exact st.di j k ys zs a qj qk e1 e2
  bd := st.bd
  ld := st.ld
  pj := st.pj
  pb := st.pb
  en := st.en
  tr := st.tr
  tb := st.tb
/-- slot i is forgotten -/
theorem StR.setN (st : StR K F σ H ρ L) (i : Nat) : StR K F (σ.set i none) H (ρ.set i none) L where
  len := by rw [List.length_set, List.length_set]; exact st.len
  sl := fun j s e => by
    rcases set_get e with ⟨rfl, q, hl⟩ | ⟨ne, q⟩
    · cases q
    · obtain ⟨w, e1, r⟩ := st.sl j s q
      exact ⟨w, by rw [List.getElem?_set_ne (Ne.symm ne)]; exact e1, r⟩
  di := fun j k xs ys a hj hk e1 e2 => by
    rcases set_get hj with ⟨rfl, q, _⟩ | ⟨nj, qj⟩
    · cases q
    · rcases set_get hk with ⟨rfl, q, _⟩ | ⟨nk, qk⟩
      · cases q
      · rw [List.getElem?_set_ne (Ne.symm nj)] at e1
        rw [List.getElem?_set_ne (Ne.symm nk)] at e2
        exact st.di j k xs ys a qj qk e1 e2
  bd := st.bd
  ld := st.ld
  pj := st.pj
  pb := st.pb
  en := st.en
  tr := st.tr
  tb := st.tb
end
/-- one more list that is not to be touched -/
abbrev Fm.push (F : Fm) (p : Addr) : Fm := { F with Bf := p :: F.Bf }
section
variable {K : Frag} {F : Fm} {σ : L2.St} {H H1 H2 : Hp} {ρ ρ1 : Rho} {L La Lb : List Addr} {p : Addr}
theorem Step.pushed (s : Step F H L H1 La) : Step (F.push p) H L H1 La := ⟨s.keep, s.more, s.tr⟩
theorem Step.popped (s : Step (F.push p) H L H1 La) : Step F H L H1 La := ⟨s.keep, s.more, s.tr⟩
theorem bad_push {b : Addr} : b ∈ (F.push p).bad L ↔ b = p ∨ b ∈ F.bad L := by
  show b ∈ L ++ (F.PA ++ (p :: F.Bf)) ↔ b = p ∨ b ∈ L ++ (F.PA ++ F.Bf)
  simp only [List.mem_append, List.mem_cons]
  constructor
  · rintro (h | h | h | h)
    · exact .inr (.inl h)
    · exact .inr (.inr (.inl h))
    · exact .inl h
    · exact .inr (.inr (.inr h))
  · rintro (h | h | h | h)
    · exact .inr (.inr (.inl h))
    · exact .inl h
    · exact .inr (.inl h)
    · exact .inr (.inr (.inr h))
theorem SlR.carryM {i : Nat} {v : V} {s : Slot} {F' : Fm} {L' : List Addr} (c : Carry H (F.bad L) H (F'.bad L')) (e1 : F'.fa = F.fa) (e2 : F'.pa = F.pa) (e3 : F'.pi = F.pi) (e4 : F'.ea = F.ea) (hL : ∀ b ∈ L, b ∈ L') (r : SlR K F H L i v s) : SlR K F' H L' i v s := by
  cases s with
  | val d =>
    show Den K F'.fa H _ d v
    rw [e1]; exact Den.carry c d v r
  | own xs =>
    obtain ⟨a, us, e, m, ha, hl⟩ := r
    refine ⟨a, us, e, hL _ m, ha, ?_⟩
    rw [e1]; exact DenL.carry c xs us hl
  | bor xs =>
    obtain ⟨us, e, m, ha, hl⟩ := r
    refine ⟨us, by rw [e2]; exact e, by rw [e3]; exact m, by rw [e2]; exact ha, ?_⟩
    rw [e1]; exact DenL.carry c xs us hl
  | err k =>
    show v = .ref F'.ea
    rw [e4]; exact r
theorem StR.push (st : StR K F σ H ρ L) {us : List V} (hp : H p = none) : StR K (F.push p) σ (upd H p (.lst us)) ρ L := by
  have st1 := st.same (Same.upd (o := .lst us) hp)
  have hn : p ∉ F.bad L := fun m => by
    obtain ⟨us, e⟩ := st.bd p m
    rw [hp] at e; cases e
  have c : Carry H (F.bad L) (upd H p (.lst us)) ((F.push p).bad L) := ⟨fun b o e _ _ => Same.upd hp b o e, fun b m => by
    rcases bad_push.mp m with rfl | m
    · exact .inr (.of hp)
    · exact .inl m, st.bd⟩
  refine ⟨st.len, fun i s e => ?_, st.di, fun b m => ?_, fun b m => ?_, st.pj, fun i m z => ?_, st1.en, st1.tr, st1.tb⟩
  · obtain ⟨v, e1, r⟩ := st.sl i s e
    refine ⟨v, e1, ?_⟩
    cases s with
    | val d => exact Den.carry c d v r
    | own xs =>
      obtain ⟨a, ws, e, m, ha, hl⟩ := r
      exact ⟨a, ws, e, m, Same.upd hp _ _ ha, DenL.carry c xs ws hl⟩
    | bor xs =>
      obtain ⟨ws, e, m, ha, hl⟩ := r
      exact ⟨ws, e, m, Same.upd hp _ _ ha, DenL.carry c xs ws hl⟩
    | err k => exact r
  · rcases bad_push.mp m with rfl | m
    · exact ⟨us, upd_same⟩
    · exact st1.bd b m
  · refine ⟨fun z => ?_, (st.ld b m).2⟩
    rcases List.mem_append.mp z with z | z
    · exact (st.ld b m).1 (List.mem_append_left _ z)
    · rcases List.mem_cons.mp z with z | z
      · rw [z] at m
        exact hn (List.mem_append_left _ m)
      · exact (st.ld b m).1 (List.mem_append_right _ z)
  · rcases List.mem_cons.mp z with z | z
    · exact hn (List.mem_append_right _ (List.mem_append_left _ (List.mem_map.mpr ⟨i, m, z⟩)))
    · exact st.pb i m z
/-- the list that was kept apart is ours -/
theorem StR.pop (st : StR K (F.push p) σ H ρ L) (h0 : Nn F.H0 p) (hB : p ∉ F.Bf) : StR K F σ H ρ (p :: L) := by
  have mm : ∀ b, b ∈ F.bad (p :: L) ↔ b ∈ (F.push p).bad L := fun b => by
    rw [bad_push]
    show b ∈ (p :: L) ++ (F.PA ++ F.Bf) ↔ _
    rw [List.cons_append, List.mem_cons]
    exact Iff.rfl
  have c : Carry H ((F.push p).bad L) H (F.bad (p :: L)) := ⟨fun b o e _ _ => e, fun b m => .inl ((mm b).mp m), st.bd⟩
  have hpn : p ∉ F.PA := fun z => by
    obtain ⟨i, hi, e⟩ := List.mem_map.mp z
    exact st.pb i hi (by rw [show (F.push p).pa i = p from e]; exact List.mem_cons_self)
  refine ⟨st.len, fun i s e => ?_, st.di, fun b m => st.bd b ((mm b).mp m), fun b m => ?_, st.pj, fun i m z => st.pb i m (List.mem_cons_of_mem _ z), st.en, st.tr, st.tb⟩
  · obtain ⟨v, e1, r⟩ := st.sl i s e
    exact ⟨v, e1, SlR.carryM (F := F.push p) (F' := F) (L' := p :: L) c rfl rfl rfl rfl (fun b m => List.mem_cons_of_mem _ m) r⟩
  · rcases List.mem_cons.mp m with rfl | m
    · refine ⟨fun z => ?_, h0⟩
      rcases List.mem_append.mp z with z | z
      · exact hpn z
      · exact hB z
    · refine ⟨fun z => (st.ld b m).1 ?_, (st.ld b m).2⟩
      rcases List.mem_append.mp z with z | z
      · exact List.mem_append_left _ z
      · exact List.mem_append_right _ (List.mem_cons_of_mem _ z)
end
/-! ### fresh lists -/
abbrev DFf := Rho → Res (List D × Rho)
def PostF (K : Frag) (F : Fm) (W : WX) (σ : L2.St) (H : Hp) (L : List Addr) (r : Res (List D × Rho)) (Q : VK) : Prop := match r with
  | .ok (xs, ρ') => ∀ p us H' L', StR K F σ H' ρ' L' → Step F H L H' L' → H' p = none → DenL K F.fa H' (F.bad L') xs us → Q (.ref p) (upd H' p (.lst us))
  | .exc k ρ' => ∀ H' L', StR K F σ H' ρ' L' → Step F H L H' L' → W (.ref (F.fa k)) none σ H'
  | .stuck => False
/-- e makes a new list -/
structure DF (F : Fm) (X : Cx) (W : WX) (e : Expr) (f : DFf) : Prop where
  ex : ∃ t, PE X e t ∧ ∀ σ H ρ L Q, StR X.K F σ H ρ L → PostF X.K F W σ H L (f ρ) Q → t σ H Q
def fDisp (fs : DAf) : DFf := fun ρ => (fs ρ).bind fun p => match frzL p.1 p.2 with
  | some (ds, ρ1) => if ds.length ≤ 16777216 then .ok (ds, ρ1) else .stuck
  | none => .stuck
/-- a new list by an operation that hands back a list -/
def asL : Res (Arg × Rho) → Res (List D × Rho)
  | .ok (.val (.lst xs), ρ) => .ok (xs, ρ)
  | .ok _ => .stuck
  | .exc k ρ => .exc k ρ
  | .stuck => .stuck
def Snd2F (K : Frag) (fa : Nat → Addr) (r : R2) (g : D → D → Option (List D)) : Prop :=
  ∀ (H : Hp) (B : List Addr) (x y : D) (u v : V) (d : List D) (Q : VK), (∀ b ∈ B, ∃ us, H b = some (.lst us)) → Vw K fa H B x u → Vw K fa H B y v → g x y = some d →
    (∀ p us, H p = none → DenL K fa H B d us → Q (.ref p) (upd H p (.lst us))) → r u v H Q
def SndCF (K : Frag) (fa : Nat → Addr) (r : List V → Hp → VK → Prop) (g : List D → Option (List D)) : Prop :=
  ∀ (H : Hp) (B : List Addr) (xs : List D) (us : List V) (d : List D) (Q : VK), (∀ b ∈ B, ∃ us, H b = some (.lst us)) → VwL K fa H B xs us → g xs = some d →
    (∀ p us, H p = none → DenL K fa H B d us → Q (.ref p) (upd H p (.lst us))) → r us H Q
def gAddF : D → D → Option (List D)
  | .lst xs, .lst ys => if xs.length + ys.length ≤ 16777216 then some (xs ++ ys) else none
  | _, _ => none
def gMulF : D → D → Option (List D)
  | .lst xs, .int k => if 0 ≤ k ∧ k ≤ 1000000 ∧ xs.length * k.toNat ≤ 16777216 then some (List.replicate k.toNat xs).flatten else none
  | _, _ => none
def gListF : List D → Option (List D)
  | [.lst xs] => some xs
  | [.tup xs] => some xs
  | [.scr ns] => some (ns.map .int)
  | _ => none
theorem sndF_add {K : Frag} {fa : Nat → Addr} : Snd2F K fa (rAddD K) gAddF := by
  intro H B x y u v d Q hB hx hy hd k
  unfold gAddF at hd
  split at hd
  · obtain ⟨a, us, rfl, ha, la⟩ := hx.lstv
    obtain ⟨b, ws, rfl, hb, lb⟩ := hy.lstv
    split at hd
    · rename_i xs ys hl
      obtain rfl := Option.some.inj hd
      have e1 := la.length
      have e2 := lb.length
      exact .inr (.inr (.inr ⟨a, b, us, ws, rfl, rfl, ha, hb, by rw [sizeLine_eq]; omega, fun p hp => k p _ hp (la.append lb)⟩))
    · cases hd
  · cases hd
theorem sndF_mul {K : Frag} {fa : Nat → Addr} : Snd2F K fa (rMulD K) gMulF := by
  intro H B x y u v d Q hB hx hy hd k
  unfold gMulF at hd
  split at hd
  · obtain ⟨a, us, rfl, ha, la⟩ := hx.lstv
    cases hy.intv
    split at hd
    · rename_i xs n hm
      obtain rfl := Option.some.inj hd
      have e1 := la.length
      exact .inr (.inr (.inl ⟨a, n, us, rfl, rfl, ha, by omega, by omega, by rw [sizeLine_eq, ← e1]; exact hm.2.2, fun p hp => k p _ hp (la.rep _)⟩))
    · cases hd
  · cases hd
theorem sndF_list {K : Frag} {fa : Nat → Addr} : SndCF K fa (fun xs H Q => ∃ p ys, xs = [.ref p] ∧ (SqL K H p ys ∨ SqT K H p ys) ∧ ∀ l, H l = none → Q (.ref l) (upd H l (.lst ys))) gListF := by
  intro H B xs us d Q hB hx hd k
  unfold gListF at hd
  split at hd
  · obtain ⟨u, rfl, h⟩ := vwl1 hx
    obtain rfl := Option.some.inj hd
    obtain ⟨a, ws, rfl, ha, la⟩ := h.lstv
    exact ⟨a, ws, rfl, .inl (SqL.of ha), fun p hp => k p _ hp la⟩
  · obtain ⟨u, rfl, h⟩ := vwl1 hx
    obtain rfl := Option.some.inj hd
    obtain ⟨a, ws, rfl, ha, la⟩ := h.tupv
    exact ⟨a, ws, rfl, .inr ha, fun p hp => k p _ hp la⟩
  · obtain ⟨u, rfl, h⟩ := vwl1 hx
    obtain rfl := Option.some.inj hd
    rename_i ns
    cases h with
    | den h => cases h with
      | scr hs =>
        rename_i a
        refine ⟨a, ns.map V.int, rfl, .inl ?_, fun p hp => k p _ hp (DenL.ofInts ns)⟩
        rcases hs with ⟨_, h⟩ | h
        · exact .inl h
        · exact h H
  · cases hd
def fO2 (g : D → D → Option (List D)) (fa fb : DEf) : DFf := fun ρ => (fa ρ).bind fun p => (fb p.2).bind fun q => match p.1.res q.2, q.1.res q.2 with
  | some x, some y => (match g x y with
    | some d => .ok (d, q.2)
    | none => .stuck)
  | _, _ => .stuck
def fCB (g : List D → Option (List D)) (fs : DAf) : DFf := fun ρ => (fs ρ).bind fun p => match resL p.1 p.2 with
  | some ds => (match g ds with
    | some d => .ok (d, p.2)
    | none => .stuck)
  | _ => .stuck
section
variable {K : Frag} {F : Fm} {X : Cx} {W : WX} {a b c e : Expr} {es : List Expr} {f fa fb fc : DEf} {ff : DFf} {fs : DAf} {pos : Pos} {σ : L2.St} {H H1 : Hp} {L La : List Addr}
theorem PostF.trans {r : Res (List D × Rho)} {Q : VK} (s : Step F H L H1 La) (p : PostF K F W σ H L r Q) : PostF K F W σ H1 La r Q := by
  cases r with
  | ok x => exact fun q us H' L' st s' => p q us H' L' st (s.trans s')
  | exc k ρ' => exact fun H' L' st s' => p H' L' st (s.trans s')
  | stuck => exact p
theorem PostF.ofBindE {r : Res (Arg × Rho)} {k : Arg × Rho → Res (List D × Rho)} {Q R : VK} (p : PostF K F W σ H L (r.bind k) Q)
    (hk : ∀ a ρ1 v H1 La, r = .ok (a, ρ1) → StR K F σ H1 ρ1 La → Step F H L H1 La → ArgR K F σ H1 La a v → PostF K F W σ H1 La (k (a, ρ1)) Q → R v H1) : PostE K F W σ H L r R := by
  cases r with
  | ok x =>
    obtain ⟨a, ρ1⟩ := x
    exact fun v H' L' st s ar => hk a ρ1 v H' L' rfl st s ar (PostF.trans s p)
  | exc n ρ' => exact p
  | stuck => exact p
theorem PostF.ofBindA {r : Res (List Arg × Rho)} {k : List Arg × Rho → Res (List D × Rho)} {Q : VK} {R : List V → Hp → Prop} (p : PostF K F W σ H L (r.bind k) Q)
    (hk : ∀ a ρ1 v H1 La, r = .ok (a, ρ1) → StR K F σ H1 ρ1 La → Step F H L H1 La → ArgsR K F σ H1 La a v → PostF K F W σ H1 La (k (a, ρ1)) Q → R v H1) : PostA K F W σ H L r R := by
  cases r with
  | ok x =>
    obtain ⟨a, ρ1⟩ := x
    exact fun v H' L' st s ar => hk a ρ1 v H' L' rfl st s ar (PostF.trans s p)
  | exc n ρ' => exact p
  | stuck => exact p
theorem df_lst (hs : DA F X W es fs) : DF F X W (.List es pos) (fDisp fs) := by
  obtain ⟨ta, pa, ra⟩ := hs.ex
  refine ⟨_, pe_lst pa, fun σ H ρ L Q st P => ?_⟩
  refine ra _ _ _ _ _ st (PostF.ofBindA P fun as ρ1 vs H1 La _ st1 s1 ar P1 => ?_)
  dsimp only at P1
  split at P1
  · rename_i ds ρ2 e1
    split at P1
    · rename_i hl
      obtain ⟨L', st', s', dn⟩ := frzL_ok st1 ar e1
      exact ⟨by rw [← dn.length, sizeLine_eq]; exact hl, fun p hp => P1 p vs H1 L' st' s' hp dn⟩
    · exact P1.elim
  · exact P1.elim
theorem df_o2 {r : R2} {g : D → D → Option (List D)} (hp : ∀ {ta tb : TE}, PE X a ta → PE X b tb → PE X e (tOp r ta tb)) (sn : Snd2F X.K F.fa r g) (ha : DE F X W a fa) (hb : DE F X W b fb) : DF F X W e (fO2 g fa fb) := by
  obtain ⟨ta, pa, ra⟩ := ha.ex
  obtain ⟨tb, pb, rb⟩ := hb.ex
  refine ⟨_, hp pa pb, fun σ H ρ L Q st P => ?_⟩
  refine ra _ _ _ _ _ st (PostF.ofBindE P fun x ρ1 u H1 La _ st1 s1 ar P1 => ?_)
  refine rb _ _ _ _ _ st1 (PostF.ofBindE P1 fun y ρ2 v H2 Lb _ st2 s2 br P2 => ?_)
  dsimp only at P2
  split at P2
  · rename_i dx dy e1 e2
    split at P2
    · rename_i d e3
      exact sn H2 (F.bad Lb) dx dy u v d Q st2.bd ((ar.step st1 s2).view st2 e1) (br.view st2 e2) e3 fun p us hp dn => P2 p us H2 Lb st2 .refl hp dn
    · exact P2.elim
  · exact P2.elim
theorem df_cb {r : List V → Hp → VK → Prop} {g : List D → Option (List D)} (hp : ∀ {t : TA}, PA X es t → PE X e (tCB r t)) (sn : SndCF X.K F.fa r g) (hs : DA F X W es fs) : DF F X W e (fCB g fs) := by
  obtain ⟨ta, pa, ra⟩ := hs.ex
  refine ⟨_, hp pa, fun σ H ρ L Q st P => ?_⟩
  refine ra _ _ _ _ _ st (PostF.ofBindA P fun as ρ1 vs H1 La _ st1 s1 ar P1 => ?_)
  dsimp only at P1
  split at P1
  · rename_i ds e1
    split at P1
    · rename_i d e3
      exact sn H1 (F.bad La) ds vs d Q st1.bd (resL_view st1 ar e1) e3 fun p us hp dn => P1 p us H1 La st1 .refl hp dn
    · exact P1.elim
  · exact P1.elim
/-- a new list as a value -/
def dOfF (ff : DFf) : DEf := fun ρ => (ff ρ).bind fun p => .ok (.val (.lst p.1), p.2)
theorem de_ofF (h : DF F X W e ff) : DE F X W e (dOfF ff) := by
  obtain ⟨t, p, r⟩ := h.ex
  refine ⟨t, p, fun σ H ρ L Q st P => r _ _ _ _ _ st ?_⟩
  unfold dOfF at P
  cases e : ff ρ with
  | ok x =>
    obtain ⟨xs, ρ1⟩ := x
    rw [e] at P
    exact fun p us H1 La st1 s1 hp dn => P _ _ La (st1.same (Same.upd hp)) (s1.trans (Step.same (Same.upd hp))) (newLst st1.bd hp dn)
  | exc k ρ1 => rw [e] at P; exact P
  | stuck => rw [e] at P; exact P
end

/-! ### small statements -/
def sNext : DSf := fun ρ => .next ρ
def sSeq (f g : DSf) : DSf := fun ρ => match f ρ with
  | .next ρ1 => g ρ1
  | r => r
def sSet (i : Nat) (fa : DEf) : DSf := fun ρ => sBind (fa ρ) fun p => match frz1 p.1 p.2 with
  | some (d, ρ1) => .next (ρ1.set i (some (.val d)))
  | none => .stuck
def sSetO (i : Nat) (ff : DFf) : DSf := fun ρ => match ff ρ with
  | .ok (xs, ρ1) => .next (ρ1.set i (some (.own xs)))
  | .exc k ρ1 => .exc k ρ1
  | .stuck => .stuck
def sRet (fa : DEf) : DSf := fun ρ => sBind (fa ρ) fun p => match frz1 p.1 p.2 with
  | some (d, ρ1) => .ret d ρ1
  | none => .stuck
def sRetN : DSf := fun ρ => .ret .non ρ
def sDrop (fa : DEf) : DSf := fun ρ => sBind (fa ρ) fun p => .next p.2
def sIf (ft : DTf) (f g : DSf) : DSf := fun ρ => match ft ρ with
  | .ok (b, ρ1) => if b = true then f ρ1 else g ρ1
  | .exc k ρ1 => .exc k ρ1
  | .stuck => .stuck
section
variable {F : Fm} {X : Cx} {W : WX} {a b c e : Expr} {es : List Expr} {st st' : Stmt} {sts sts' : List Stmt} {fa fb fc : DEf} {ff : DFf} {ft : DTf} {f g : DSf} {pos : Pos}
theorem dss_nil : DSs F X W [] sNext := ⟨_, pss_nil, fun D σ H ρ L st P => P σ H L st .refl⟩
theorem PostS.seq {K : Frag} {D : Ends} {H : Hp} {L : List Addr} {ρ : Rho} {u : TS} (P : PostS K F W D H L (sSeq f g ρ))
    (hu : ∀ σ' H' ρ' L', f ρ = .next ρ' → StR K F σ' H' ρ' L' → PostS K F W D H' L' (g ρ') → u D σ' H') : PostS K F W { D with nx := u D } H L (f ρ) := by
  unfold sSeq at P
  cases e : f ρ with
  | next ρ1 => rw [e] at P; exact fun σ' H' L' st s => hu σ' H' ρ1 L' e st (PostS.trans s P)
  | ret d ρ1 => rw [e] at P; exact P
  | brk ρ1 => rw [e] at P; exact P
  | cont ρ1 => rw [e] at P; exact P
  | exc k ρ1 => rw [e] at P; exact P
  | stuck => rw [e] at P; exact P
theorem dss_cons (h1 : DS F X W st f) (h2 : DSs F X W sts g) : DSs F X W (st :: sts) (sSeq f g) := by
  obtain ⟨t, p, r⟩ := h1.ex
  obtain ⟨u, q, r2⟩ := h2.ex
  refine ⟨_, pss_cons p q, fun D σ H ρ L s P => ?_⟩
  exact r { D with nx := u D } σ H ρ L s (PostS.seq P fun σ' H' ρ' L' _ s' P' => r2 D σ' H' ρ' L' s' P')
theorem dss_one (h1 : DS F X W st f) : DSs F X W [st] f := by
  obtain ⟨t, p, r⟩ := h1.ex
  exact ⟨_, pss_one p, r⟩
theorem ds_set {i : Nat} {x : Str} {pos' : Pos} (hN : X.N.Nodup) (hi : X.N[i]? = some x) (hx : Loc X.env.scope x) (he : DE F X W e fa) (hs : swapsWith e (some (.Name x pos')) pos.line X.env = pure false := by rfl)
    (hf : X.fn x = true ∨ X.env.scope.names.lookup x = some .local := by first | exact .inl rfl | exact .inr rfl) : DS F X W (.Assign [.Name x pos'] e pos) (sSet i fa) := by
  obtain ⟨t, p, r⟩ := he.ex
  refine ⟨_, ps_set hN hi hx p hs hf, fun D σ H ρ L st P => ?_⟩
  refine r _ _ _ _ _ st (P.ofBindE fun x ρ1 v H1 La _ st1 s1 ar P1 => ?_)
  dsimp only at P1
  split at P1
  · rename_i d ρ2 e1
    obtain ⟨L', st2, s2, dn⟩ := frz1_ok st1 ar e1
    exact P1 _ _ L' (st2.setV i dn) s2
  · exact P1.elim
theorem StR.fresh {K : Frag} {σ : L2.St} {H : Hp} {ρ : Rho} {L : List Addr} (st : StR K F σ H ρ L) {p : Addr} {us : List V} {xs : List D} (i : Nat) (hp : H p = none) (dn : DenL K F.fa H (F.bad L) xs us) :
    StR K F (σ.set i (some (.ref p))) (upd H p (.lst us)) (ρ.set i (some (.own xs))) (p :: L) ∧ Step F H L (upd H p (.lst us)) (p :: L) := by
  have hB : p ∉ F.Bf := fun m => by
    obtain ⟨us, e⟩ := st.bd p (List.mem_append_right _ (List.mem_append_right _ m))
    rw [hp] at e; cases e
  have st1 := (st.push (us := us) hp).pop (st.tr p (.of hp)) hB
  have c : Carry H (F.bad L) (upd H p (.lst us)) (F.bad (p :: L)) := ⟨fun b o e _ _ => Same.upd hp b o e, fun b m => by
    have m' : b ∈ (p :: L) ++ (F.PA ++ F.Bf) := m
    rw [List.cons_append] at m'
    rcases List.mem_cons.mp m' with rfl | m'
    · exact .inr (.of hp)
    · exact .inl m', st.bd⟩
  refine ⟨st1.setO i List.mem_cons_self upd_same (DenL.carry c xs us dn) fun j ys _ hj e => ?_, ⟨fun b o e _ _ _ => Same.upd hp b o e, fun b m => ?_, fun b z o e nt => z o (Same.upd hp b o e) nt⟩⟩
  · obtain ⟨v, e1, a, ws, e2, _, ha, _⟩ := st.sl j _ hj
    rw [e] at e1
    cases e1
    cases e2
    rw [hp] at ha; cases ha
  · rcases List.mem_cons.mp m with rfl | m
    · exact .inr (.of hp)
    · exact .inl m
theorem ds_setO {i : Nat} {x : Str} {pos' : Pos} (hN : X.N.Nodup) (hi : X.N[i]? = some x) (hx : Loc X.env.scope x) (he : DF F X W e ff) (hs : swapsWith e (some (.Name x pos')) pos.line X.env = pure false := by rfl)
    (hf : X.fn x = true ∨ X.env.scope.names.lookup x = some .local := by first | exact .inl rfl | exact .inr rfl) : DS F X W (.Assign [.Name x pos'] e pos) (sSetO i ff) := by
  obtain ⟨t, p, r⟩ := he.ex
  refine ⟨_, ps_set hN hi hx p hs hf, fun D σ H ρ L st P => ?_⟩
  refine r _ _ _ _ _ st ?_
  unfold sSetO at P
  cases e1 : ff ρ with
  | ok z =>
    obtain ⟨xs, ρ1⟩ := z
    rw [e1] at P
    intro p us H1 La st1 s1 hp dn
    obtain ⟨st2, s2⟩ := st1.fresh i hp dn
    exact P _ _ _ st2 (s1.trans s2)
  | exc k ρ1 => rw [e1] at P; exact fun H1 La st1 s1 => P σ H1 La st1 s1
  | stuck => rw [e1] at P; exact P
theorem ds_ret (he : DE F X W e fa) : DS F X W (.Return (some e) pos) (sRet fa) := by
  obtain ⟨t, p, r⟩ := he.ex
  refine ⟨_, ps_ret p, fun D σ H ρ L st P => ?_⟩
  refine r _ _ _ _ _ st (P.ofBindE fun x ρ1 v H1 La _ st1 s1 ar P1 => ?_)
  dsimp only at P1
  split at P1
  · rename_i d ρ2 e1
    obtain ⟨L', st2, s2, dn⟩ := frz1_ok st1 ar e1
    exact P1 v σ H1 L' st2 s2 dn
  · exact P1.elim
theorem ds_retN : DS F X W (.Return none pos) sRetN := ⟨_, ps_retN, fun D σ H ρ L st P => P .non σ H L st .refl .non⟩
theorem ds_pass : DS F X W (.Pass pos) sNext := ⟨_, ps_pass, fun D σ H ρ L st P => P σ H L st .refl⟩
theorem ds_brk : DS F X W (.Break pos) (fun ρ => .brk ρ) := ⟨_, ps_break, fun D σ H ρ L st P => P σ H L st .refl⟩
theorem ds_cont : DS F X W (.Continue pos) (fun ρ => .cont ρ) := ⟨_, ps_continue, fun D σ H ρ L st P => P σ H L st .refl⟩
theorem ds_expr (he : DE F X W e fa) (hs : swapsWith e none pos.line X.env = pure false := by rfl) : DS F X W (.Expr e pos) (sDrop fa) := by
  obtain ⟨t, p, r⟩ := he.ex
  refine ⟨_, ps_expr p hs, fun D σ H ρ L st P => ?_⟩
  exact r _ _ _ _ _ st (P.ofBindE fun x ρ1 v H1 La _ st1 s1 ar P1 => P1 σ H1 La st1 .refl)
theorem ds_if (hc : DT F X W c ft) (ha : DSs F X W sts f) (hb : DSs F X W sts' g) : DS F X W (.If c sts sts' pos) (sIf ft f g) := by
  obtain ⟨tc, pc, rc⟩ := hc.ex
  obtain ⟨ta, pa, ra⟩ := ha.ex
  obtain ⟨tb, pb, rb⟩ := hb.ex
  refine ⟨_, ps_if pc pa pb, fun D σ H ρ L st P => ?_⟩
  refine rc _ _ _ _ _ st ?_
  unfold sIf at P
  cases e1 : ft ρ with
  | ok z =>
    obtain ⟨o, ρ1⟩ := z
    rw [e1] at P
    intro H1 La st1 s1
    have P1 := PostS.trans s1 P
    dsimp only at P1
    cases o with
    | true =>
      rw [if_pos rfl] at P1 ⊢
      exact ra D σ H1 ρ1 La st1 P1
    | false =>
      rw [if_neg Bool.false_ne_true] at P1 ⊢
      exact rb D σ H1 ρ1 La st1 P1
  | exc k ρ1 => rw [e1] at P; exact fun H1 La st1 s1 => P σ H1 La st1 s1
  | stuck => rw [e1] at P; exact P
/-- a statement that nothing comes to -/
theorem dss_never : DSs F X W sts (fun _ => .stuck) := ⟨_, pss_never, fun _ _ _ _ _ _ P => P⟩
theorem ds_never : DS F X W st (fun _ => .stuck) := ⟨_, ps_never, fun _ _ _ _ _ _ P => P⟩
end
end DL

namespace DL
open PySem PySem.Spec PyProof.Rows L2
open LamX (Tabs)

/-! ### lists that are changed -/
def sApp (i : Nat) (fa : DEf) : DSf := fun ρ => match ρ.cont i with
  | some _ => sBind (fa ρ) fun p => (match frz1 p.1 p.2 with
    | some (d, ρ1) => (match ρ1.cont i with
      | some xs => if xs.length < 16777216 then .next (ρ1.put i (xs ++ [d])) else .stuck
      | none => .stuck)
    | none => .stuck)
  | none => .stuck
def sItem (i : Nat) (fk fa : DEf) : DSf := fun ρ => sBind (fa ρ) fun p => match frz1 p.1 p.2 with
  | some (d, ρ1) => (match ρ1.cont i with
    | some _ => sBind (fk ρ1) fun q => (match q.1.res q.2, q.2.cont i with
      | some (.int k), some xs => (match ixN xs.length k with
        | some j => .next (q.2.put i (xs.set j d))
        | none => .stuck)
      | _, _ => .stuck)
    | none => .stuck)
  | none => .stuck
def dPopAt (i : Nat) (fa : DEf) : DEf := fun ρ => match ρ.cont i with
  | some _ => (fa ρ).bind fun p => (match p.1.res p.2, p.2.cont i with
    | some (.int k), some xs => if -(2 ^ 63) ≤ k ∧ k < 2 ^ 63 then (match seqIndex? k xs.length with
      | some j => (match xs[j]? with
        | some d => .ok (.val d, p.2.put i (xs.eraseIdx j))
        | none => .stuck)
      | none => .stuck) else .stuck
    | _, _ => .stuck)
  | none => .stuck
section
variable {F : Fm} {X : Cx} {W : WX} {a b c e : Expr} {es : List Expr} {fa fb fc fk : DEf} {pos : Pos}
theorem Tabs.lst {T : List (Addr × Str)} {H : Hp} {a : Addr} {us ws : List V} (h : Tabs T H) (ha : H a = some (.lst us)) : Tabs T (upd H a (.lst ws)) := by
  intro p hp
  obtain ⟨ps, h1, h2, h3⟩ := h p hp
  have n1 : ∀ b o, H b = some o → (∀ zs, o ≠ .lst zs) → upd H a (.lst ws) b = some o := fun b o e n => by
    rw [upd_ne (fun z => ?_)]
    · exact e
    · subst z
      rw [ha] at e
      exact n us (Option.some.inj e).symm
  refine ⟨ps, n1 _ _ h1 (fun _ z => nomatch z), h2, fun pos cv hc => ?_⟩
  obtain ⟨c, e1, e2⟩ := h3 pos cv hc
  exact ⟨c, e1, n1 _ _ e2 fun _ z => by unfold LamX.CodeO at z; cases z⟩
theorem StR.put {K : Frag} {σ : L2.St} {H : Hp} {ρ : Rho} {L : List Addr} (st : StR K F σ H ρ L) {i : Nat} {xs ys : List D} {a : Addr} {us ws : List V} (h : ρ.cont i = some xs) (ha : σ[i]? = some (some (.ref a))) (hu : H a = some (.lst us))
    (hd : DenL K F.fa H (F.bad L) ys ws) : StR K F σ (upd H a (.lst ws)) (ρ.put i ys) L ∧ Step F H L (upd H a (.lst ws)) L := by
  obtain ⟨a', us', e1, hl, hd0, hm⟩ := st.cont h
  rw [ha] at e1; cases e1
  have c : Carry H (F.bad L) (upd H a (.lst ws)) (F.bad L) := ⟨fun b o e hn _ => by rw [upd_ne (fun z => hn (by rw [z]; exact hm))]; exact e, fun _ m => .inl m, st.bd⟩
  refine st.mut h ha (fun b o e hn _ => by rw [upd_ne hn]; exact e) upd_same (DenL.carry c ys ws hd) (fun b e => ?_) (Tabs.lst st.tb hu)
  intro o eo nt
  by_cases hb : b = a
  · subst hb
    exact e _ upd_same nt_lst
  · exact e o (by rw [upd_ne hb]; exact eo) nt
theorem ds_app {i : Nat} (hp : ∀ {ta : TE}, PE X a ta → PE X e (tBM X.K "list" rAppend (tVar i) (tCons ta tNil))) (ha : DE F X W a fa) (hs : swapsWith e none pos.line X.env = pure false := by rfl) : DS F X W (.Expr e pos) (sApp i fa) := by
  obtain ⟨t, p, r⟩ := ha.ex
  refine ⟨_, ps_expr (hp p) hs, fun D σ H ρ L st P => ?_⟩
  unfold sApp at P
  split at P
  · rename_i xs0 e0
    obtain ⟨l, us0, h1, h2, _, _⟩ := st.cont e0
    refine ⟨.ref l, h1, .inl ⟨rfl, us0, SqL.of h2⟩, ?_⟩
    refine r _ _ _ _ _ st (P.ofBindE fun x ρ1 v H1 La _ st1 s1 ar P1 => ?_)
    dsimp only at P1
    split at P1
    · rename_i d ρ2 e1
      obtain ⟨Lb, st2, s2, dn⟩ := frz1_ok st1 ar e1
      split at P1
      · rename_i xs e2
        split at P1
        · rename_i hl
          obtain ⟨l', us, h3, h4, h5, _⟩ := st2.cont e2
          rw [h1] at h3; cases h3
          obtain ⟨st3, s3⟩ := st2.put (ws := us ++ [v]) e2 h1 h4 (h5.append (.cons dn .nil))
          exact ⟨l, us, v, rfl, rfl, h4, by rw [← h5.length, sizeLine_eq]; exact hl, P1 σ _ Lb st3 (s2.trans s3)⟩
        · exact P1.elim
      · exact P1.elim
    · exact P1.elim
  · exact P.elim
theorem de_popAt {i : Nat} (hp : ∀ {ta : TE}, PE X a ta → PE X e (tBM X.K "list" rPopAt (tVar i) (tCons ta tNil))) (ha : DE F X W a fa) : DE F X W e (dPopAt i fa) := by
  obtain ⟨t, p, r⟩ := ha.ex
  refine ⟨_, hp p, fun σ H ρ L Q st P => ?_⟩
  unfold dPopAt at P
  split at P
  · rename_i xs0 e0
    obtain ⟨l, us0, h1, h2, _, _⟩ := st.cont e0
    refine ⟨.ref l, h1, .inl ⟨rfl, us0, SqL.of h2⟩, ?_⟩
    refine r _ _ _ _ _ st (P.ofBind fun x ρ1 v H1 La _ st1 s1 ar P1 => ?_)
    dsimp only at P1
    split at P1
    · rename_i k xs e1 e2
      split at P1
      · rename_i hk
        split at P1
        · rename_i j e3
          split at P1
          · rename_i d e4
            have := (ar.view st1 e1).intv
            subst this
            obtain ⟨l', us, h3, h4, h5, _⟩ := st1.cont e2
            rw [h1] at h3; cases h3
            obtain ⟨y, h6, dn⟩ := h5.get e4
            obtain ⟨st3, s3⟩ := st1.put (ws := us.eraseIdx j) e2 h1 h4 (h5.eraseIdx j)
            exact ⟨l, us, k, j, y, rfl, rfl, h4, hk.1, hk.2, by rw [← h5.length]; exact e3, h6, P1 y _ La st3 s3 (Den.carry (st1.carry s3) d y dn)⟩
          · exact P1.elim
        · exact P1.elim
      · exact P1.elim
    · exact P1.elim
  · exact P.elim
theorem ds_item {i : Nat} {o : Expr} {p2 : Pos} (ho : PE X o (tVar i)) (hk : DE F X W b fk) (ha : DE F X W a fa) (hs : swapsWithSole [.Subscript o b p2] a pos.line X.env = pure false := by rfl) (hw : swappedStores [.Subscript o b p2] a X.env = pure none := by rfl)
    (h1 : (assignEach [.Subscript o b p2] X.env).map (·.2) = [assign (.Subscript o b p2) X.env] := by rfl)
    (h2 : ∀ v, assign (.Subscript o b p2) X.env v = (do
      let ov ← holding [v] (eval o X.env)
      let iv ← holding [v, ov] (eval b X.env)
      standAt p2
      holding [v, ov, iv] (setItem ov iv v)
      release [v, ov, iv] []) := by intro _; rfl) : DS F X W (.Assign [.Subscript o b p2] a pos) (sItem i fk fa) := by
  obtain ⟨ta, pa, ra⟩ := ha.ex
  obtain ⟨tb, pb, rb⟩ := hk.ex
  refine ⟨_, ps_asg pa (pg_sub ho pb set_list h2) hs hw h1, fun D σ H ρ L st P => ?_⟩
  refine ra _ _ _ _ _ st (P.ofBindE fun x ρ1 v H1 La _ st1 s1 ar P1 => ?_)
  dsimp only at P1
  split at P1
  · rename_i d ρ2 e1
    obtain ⟨Lb, st2, s2, dn⟩ := frz1_ok st1 ar e1
    split at P1
    · rename_i xs0 e0
      obtain ⟨l, us0, g1, g2, _, _⟩ := st2.cont e0
      refine ⟨.ref l, g1, ?_⟩
      refine rb _ _ _ _ _ st2 ((PostS.trans s2 P1).ofBindE fun y ρ3 w H3 Lc _ st3 s3 br P3 => ?_)
      dsimp only at P3
      split at P3
      · rename_i k xs e2 e3
        split at P3
        · rename_i j e4
          have := (br.view st3 e2).intv
          subst this
          obtain ⟨l', us, h3, h4, h5, _⟩ := st3.cont e3
          rw [g1] at h3; cases h3
          have dn3 := Den.carry (st2.carry s3) d v dn
          obtain ⟨st4, s4⟩ := st3.put (ws := us.set j v) e3 g1 h4 (h5.set dn3 j)
          exact ⟨l, us, k, j, rfl, rfl, h4, by rw [← h5.length]; exact e4, P3 σ _ Lc st4 s4⟩
        · exact P3.elim
      · exact P3.elim
    · exact P1.elim
  · exact P1.elim
end
/-! ### targets -/
abbrev DGf := D → Rho → Option Rho
/-- only the slots at ix are changed -/
def Chg (ix : List Nat) (σ σ' : L2.St) : Prop := σ'.length = σ.length ∧ ∀ j, j ∉ ix → σ'[j]? = σ[j]?
structure DG (F : Fm) (X : Cx) (tg : Expr) (ix : List Nat) (g : DGf) : Prop where
  ex : ∃ t, PG X tg t ∧ ∀ v d σ H ρ L (Q : L2.St → Hp → Prop) ρ', StR X.K F σ H ρ L → Den X.K F.fa H (F.bad L) d v → g d ρ = some ρ' → (∀ σ', StR X.K F σ' H ρ' L → Chg ix σ σ' → Q σ' H) → t v σ H Q
structure DGs (F : Fm) (X : Cx) (tgs : List Expr) (n : Nat) (ix : List Nat) (g : List D → Rho → Option Rho) : Prop where
  ex : ∃ t, PGs X tgs t ∧ ∀ vs ds σ H ρ L (Q : L2.St → Hp → Prop) ρ', StR X.K F σ H ρ L → DenL X.K F.fa H (F.bad L) ds vs → ds.length = n → g ds ρ = some ρ' → (∀ σ', StR X.K F σ' H ρ' L → Chg ix σ σ' → Q σ' H) → t vs σ H Q
theorem Chg.refl {ix : List Nat} {σ : L2.St} : Chg ix σ σ := ⟨rfl, fun _ _ => rfl⟩
theorem Chg.trans {ix ix' : List Nat} {σ σ' σ2 : L2.St} (a : Chg ix σ σ') (b : Chg ix' σ' σ2) : Chg (ix ++ ix') σ σ2 :=
  ⟨b.1.trans a.1, fun j h => (b.2 j fun m => h (List.mem_append_right _ m)).trans (a.2 j fun m => h (List.mem_append_left _ m))⟩
def gN (i : Nat) : DGf := fun d ρ => some (ρ.set i (some (.val d)))
def gsNil : List D → Rho → Option Rho := fun _ ρ => some ρ
def gsCons (g : DGf) (gs : List D → Rho → Option Rho) : List D → Rho → Option Rho := fun ds ρ => match ds with
  | d :: ds => (g d ρ).bind (gs ds)
  | [] => none
def gT (n : Nat) (gs : List D → Rho → Option Rho) : DGf := fun d ρ => match d with
  | .tup ds => if ds.length = n then gs ds ρ else none
  | _ => none
section
variable {F : Fm} {X : Cx} {W : WX} {tg e : Expr} {tgs : List Expr} {g : DGf} {gs : List D → Rho → Option Rho} {fa : DEf} {pos : Pos} {n : Nat} {ix ix' : List Nat}
theorem dg_name {i : Nat} {x : Str} (h : PG X (.Name x pos) (gName i)) : DG F X (.Name x pos) [i] (gN i) := ⟨_, h, fun v d σ H ρ L Q ρ' st dn e k => by
  cases e
  exact k _ (st.setV i dn) ⟨List.length_set, fun j h => List.getElem?_set_ne fun e => h (by simp [e])⟩⟩
theorem dgs_nil : DGs F X [] 0 [] gsNil := ⟨_, pgs_nil, fun vs ds σ H ρ L Q ρ' st dn hl e k => by
  cases e
  have : ds = [] := List.eq_nil_of_length_eq_zero hl
  subst this
  cases dn
  exact ⟨rfl, k _ st .refl⟩⟩
theorem dgs_cons (h1 : DG F X tg ix g) (h2 : DGs F X tgs n ix' gs) (hs : (assignEach (tg :: tgs) X.env).map (·.2) = assign tg X.env :: (assignEach tgs X.env).map (·.2) := by rfl) : DGs F X (tg :: tgs) (n + 1) (ix ++ ix') (gsCons g gs) := by
  obtain ⟨t, p, r⟩ := h1.ex
  obtain ⟨u, q, r2⟩ := h2.ex
  refine ⟨_, pgs_cons p q hs, fun vs ds σ H ρ L Q ρ' st dn hl e k => ?_⟩
  cases dn with
  | nil => cases hl
  | cons d1 d2 =>
    unfold gsCons at e
    simp only [Option.bind_eq_some_iff] at e
    obtain ⟨ρ1, e1, e2⟩ := e
    refine ⟨_, _, rfl, r _ _ _ _ _ _ _ ρ1 st d1 e1 fun σ1 st1 c1 => ?_⟩
    exact r2 _ _ _ _ _ _ _ ρ' st1 d2 (by simpa using hl) e2 fun σ2 st2 c2 => k σ2 st2 (c1.trans c2)
theorem dg_tup {k : Nat} (hc : X.calm = true) (h : DGs F X tgs n ix gs) (hn : (assignEach tgs X.env).length = n := by rfl) (hst : (assignEach tgs X.env).findIdx? (·.1) = none := by rfl) : DG F X (.Tuple tgs k pos) ix (gT n gs) := by
  obtain ⟨t, p, r⟩ := h.ex
  refine ⟨_, pg_tup hc p hn hst, fun v d σ H ρ L Q ρ' st dn e k => ?_⟩
  unfold gT at e
  split at e
  · split at e
    · rename_i ds hl
      cases dn with
      | tup ha la => exact ⟨_, _, rfl, ha, by rw [← la.length]; exact hl, r _ _ _ _ _ _ _ ρ' st la hl e k⟩
    · cases e
  · cases e
/-- targets = e, by the way of a tuple -/
def sAsg (fa : DEf) (g : DGf) : DSf := fun ρ => sBind (fa ρ) fun p => match frz1 p.1 p.2 with
  | some (d, ρ1) => (match g d ρ1 with
    | some ρ2 => .next ρ2
    | none => .stuck)
  | none => .stuck
theorem ds_asg (he : DE F X W e fa) (hg : DG F X tg ix g) (hs : swapsWithSole [tg] e pos.line X.env = pure false := by rfl) (hw : swappedStores [tg] e X.env = pure none := by rfl)
    (h1 : (assignEach [tg] X.env).map (·.2) = [assign tg X.env] := by rfl) : DS F X W (.Assign [tg] e pos) (sAsg fa g) := by
  obtain ⟨ta, pa, ra⟩ := he.ex
  obtain ⟨t, p, r⟩ := hg.ex
  refine ⟨_, ps_asg pa p hs hw h1, fun D σ H ρ L st P => ?_⟩
  refine ra _ _ _ _ _ st (P.ofBindE fun x ρ1 v H1 La _ st1 s1 ar P1 => ?_)
  dsimp only at P1
  split at P1
  · rename_i d ρ2 e1
    obtain ⟨Lb, st2, s2, dn⟩ := frz1_ok st1 ar e1
    split at P1
    · rename_i ρ3 e2
      exact r _ _ _ _ _ _ _ ρ3 st2 dn e2 fun σ' st3 _ => P1 σ' H1 Lb st3 s2
    · exact P1.elim
  · exact P1.elim
end
/-! ### a, b = x, y: names stored from values, some of them new lists -/
inductive SlotsR (K : Frag) (F : Fm) (H : Hp) (L : List Addr) : List Slot → List V → List Addr → Prop
  | nil : SlotsR K F H L [] [] []
  | val {d : D} {v : V} {ss : List Slot} {vs : List V} {ps : List Addr} : Den K F.fa H (F.bad L) d v → SlotsR K F H L ss vs ps → SlotsR K F H L (.val d :: ss) (v :: vs) ps
  | own {a : Addr} {xs : List D} {us : List V} {ss : List Slot} {vs : List V} {ps : List Addr} : a ∈ L → H a = some (.lst us) → DenL K F.fa H (F.bad L) xs us → SlotsR K F H L ss vs ps → SlotsR K F H L (.own xs :: ss) (.ref a :: vs) (a :: ps)
def Pend (σ : L2.St) (ρ : Rho) (ps : List Addr) : Prop := ps.Nodup ∧ ∀ a ∈ ps, ∀ (j : Nat) (ys : List D), ρ[j]? = some (some (Slot.own ys)) → σ[j]? ≠ some (some (.ref a))
abbrev DPf := Rho → Res (List Slot × Rho)
def PostP (K : Frag) (F : Fm) (W : WX) (σ : L2.St) (H : Hp) (L : List Addr) (r : Res (List Slot × Rho)) (Q : List V → Hp → Prop) : Prop := match r with
  | .ok (ss, ρ') => ∀ vs ps H' L', StR K F σ H' ρ' L' → Step F H L H' L' → SlotsR K F H' L' ss vs ps → Pend σ ρ' ps → Q vs H'
  | .exc k ρ' => ∀ H' L', StR K F σ H' ρ' L' → Step F H L H' L' → W (.ref (F.fa k)) none σ H'
  | .stuck => False
structure DP (F : Fm) (X : Cx) (W : WX) (es : List Expr) (f : DPf) : Prop where
  ex : ∃ t, PA X es t ∧ ∀ σ H ρ L Q, StR X.K F σ H ρ L → PostP X.K F W σ H L (f ρ) Q → t σ H Q
def pNil : DPf := fun ρ => .ok ([], ρ)
def pVal (fa : DEf) (fs : DPf) : DPf := fun ρ => (fa ρ).bind fun p => match frz1 p.1 p.2 with
  | some (d, ρ1) => (fs ρ1).bind fun q => .ok (.val d :: q.1, q.2)
  | none => .stuck
def pOwn (ff : DFf) (fs : DPf) : DPf := fun ρ => (ff ρ).bind fun p => (fs p.2).bind fun q => .ok (.own p.1 :: q.1, q.2)
section
variable {K : Frag} {F : Fm} {X : Cx} {W : WX} {a b e : Expr} {es : List Expr} {fa : DEf} {ff : DFf} {fs : DPf} {σ : L2.St} {H H1 : Hp} {L La : List Addr}
theorem dp_nil : DP F X W [] pNil := ⟨_, pa_nil, fun σ H ρ L Q st P => P [] [] H L st .refl .nil ⟨List.nodup_nil, fun _ m => nomatch m⟩⟩
theorem PostP.trans {r : Res (List Slot × Rho)} {Q : List V → Hp → Prop} (s : Step F H L H1 La) (p : PostP K F W σ H L r Q) : PostP K F W σ H1 La r Q := by
  cases r with
  | ok x => exact fun vs ps H' L' st s' => p vs ps H' L' st (s.trans s')
  | exc k ρ' => exact fun H' L' st s' => p H' L' st (s.trans s')
  | stuck => exact p
theorem dp_val (ha : DE F X W a fa) (hs : DP F X W es fs) (hh : starEach (a :: es) X.env = (false, eval a X.env) :: starEach es X.env := by rfl) : DP F X W (a :: es) (pVal fa fs) := by
  obtain ⟨ta, pa, ra⟩ := ha.ex
  obtain ⟨tb, pb, rb⟩ := hs.ex
  refine ⟨_, pa_cons pa pb hh, fun σ H ρ L Q st P => ?_⟩
  refine ra _ _ _ _ _ st ?_
  unfold pVal at P
  cases e : fa ρ with
  | exc k ρ1 => rw [e] at P; exact P
  | stuck => rw [e] at P; exact P
  | ok z =>
    obtain ⟨x, ρ1⟩ := z
    rw [e] at P
    intro u H1 La st1 s1 ar
    have P1 := PostP.trans s1 P
    dsimp only [Res.bind] at P1
    split at P1
    · rename_i d ρ2 e1
      obtain ⟨Lb, st2, s2, dn⟩ := frz1_ok st1 ar e1
      refine rb _ _ _ _ _ st2 ?_
      have P2 := PostP.trans s2 P1
      cases e2 : fs ρ2 with
      | exc k ρ3 => rw [e2] at P2; exact P2
      | stuck => rw [e2] at P2; exact P2
      | ok z =>
        obtain ⟨ss, ρ3⟩ := z
        rw [e2] at P2
        intro vs ps H3 Lc st3 s3 sr pd
        exact P2 _ ps H3 Lc st3 s3 (.val (Den.carry (st2.carry s3) d u dn) sr) pd
    · exact P1.elim
theorem DP.can (h : ∀ p, DP (F.push p) X W es fs) : PA X es (fun σ H Q => ∃ p ρ L, StR X.K (F.push p) σ H ρ L ∧ PostP X.K (F.push p) W σ H L (fs ρ) Q) := by
  refine ⟨fun pos pins s σ H Q I hq => ?_⟩
  obtain ⟨p, ρ, L, st, P⟩ := hq
  obtain ⟨t, pt, r⟩ := (h p).ex
  exact pt.run pos pins s σ H Q I (r _ _ _ _ _ st P)
theorem SlotsR.popped {p : Addr} (bd : ∀ b ∈ (F.push p).bad L, ∃ us, H b = some (.lst us)) : ∀ {ss : List Slot} {vs : List V} {ps : List Addr}, SlotsR K (F.push p) H L ss vs ps → SlotsR K F H (p :: L) ss vs ps := by
  have mm : ∀ b, b ∈ F.bad (p :: L) ↔ b ∈ (F.push p).bad L := fun b => by
    rw [bad_push]
    show b ∈ (p :: L) ++ (F.PA ++ F.Bf) ↔ _
    rw [List.cons_append, List.mem_cons]
    exact Iff.rfl
  have c : Carry H ((F.push p).bad L) H (F.bad (p :: L)) := ⟨fun b o e _ _ => e, fun b m => .inl ((mm b).mp m), bd⟩
  intro ss vs ps h
  induction h with
  | nil => exact .nil
  | val hd _ ih => exact .val (Den.carry c _ _ hd) ih
  | own hm hu hd _ ih => exact .own (List.mem_cons_of_mem _ hm) hu (DenL.carry c _ _ hd) ih
theorem SlotsR.mem {ss : List Slot} {vs : List V} {ps : List Addr} (h : SlotsR K F H L ss vs ps) : ∀ a ∈ ps, a ∈ L := by
  induction h with
  | nil => intro a m; cases m
  | val _ _ ih => exact ih
  | own hm _ _ _ ih =>
    intro a m
    rcases List.mem_cons.mp m with rfl | m
    · exact hm
    · exact ih a m
theorem dp_own (ha : DF F X W a ff) (hs : ∀ p, DP (F.push p) X W es fs) (hh : starEach (a :: es) X.env = (false, eval a X.env) :: starEach es X.env := by rfl) : DP F X W (a :: es) (pOwn ff fs) := by
  obtain ⟨ta, pa, ra⟩ := ha.ex
  refine ⟨_, pa_cons pa (DP.can hs) hh, fun σ H ρ L Q st P => ?_⟩
  refine ra _ _ _ _ _ st ?_
  unfold pOwn at P
  cases e : ff ρ with
  | exc k ρ1 => rw [e] at P; exact P
  | stuck => rw [e] at P; exact P
  | ok z =>
    obtain ⟨xs, ρ1⟩ := z
    rw [e] at P
    intro p us H1 La st1 s1 hp dn
    have P1 := PostP.trans s1 P
    dsimp only [Res.bind] at P1
    have stp := st1.push (us := us) hp
    refine ⟨p, ρ1, La, stp, ?_⟩
    have hB : p ∉ F.bad La := fun m => by
      obtain ⟨ws, e⟩ := st1.bd p m
      rw [hp] at e; cases e
    have up : Same H1 (upd H1 p (.lst us)) := Same.upd hp
    cases e2 : fs ρ1 with
    | exc k ρ3 =>
      rw [e2] at P1
      intro H2 Lb st2 s2
      refine P1 H2 (p :: Lb) (st2.pop (st1.tr p (.of hp)) fun m => hB (List.mem_append_right _ (List.mem_append_right _ m))) ?_
      have s3 := (Step.same up).trans s2.popped
      exact ⟨s3.keep, fun b m => by
        rcases List.mem_cons.mp m with rfl | m
        · exact .inr (.of hp)
        · exact s3.more b m, s3.tr⟩
    | stuck => rw [e2] at P1; exact P1
    | ok z =>
      obtain ⟨ss, ρ3⟩ := z
      rw [e2] at P1
      intro vs ps H2 Lb st2 s2 sr pd
      have s3 := (Step.same (F := F) (L := La) up).trans s2.popped
      have s4 : Step F H1 La H2 (p :: Lb) := ⟨s3.keep, fun b m => by
        rcases List.mem_cons.mp m with rfl | m
        · exact .inr (.of hp)
        · exact s3.more b m, s3.tr⟩
      have nL : p ∉ Lb := fun m => (st2.ld p m).1 (List.mem_append_right _ List.mem_cons_self)
      have atp : H2 p = some (.lst us) := s2.keep p _ upd_same (fun m => hB (List.mem_append_left _ m)) (fun m => hB (List.mem_append_right _ (List.mem_append_left _ m))) nt_lst
      have st3 := st2.pop (st1.tr p (.of hp)) fun m => hB (List.mem_append_right _ (List.mem_append_right _ m))
      refine P1 _ (p :: ps) H2 (p :: Lb) st3 s4 (.own List.mem_cons_self atp (DenL.carry (st1.carry s4) xs us dn) (sr.popped st2.bd)) ⟨List.nodup_cons.mpr ⟨fun m => nL (sr.mem p m), pd.1⟩, fun b m j ys hj => ?_⟩
      rcases List.mem_cons.mp m with rfl | m
      · intro e3
        obtain ⟨v, e4, a2, ws, e5, ha2, _⟩ := st2.sl j _ hj
        rw [e3] at e4; cases e4; cases e5
        exact nL ha2
      · exact pd.2 b m j ys hj
end
/-- store slots: i, then j .. -/
def putS : List Nat → List Slot → Rho → Option Rho
  | [], [], ρ => some ρ
  | i :: is, .val d :: ss, ρ => putS is ss (ρ.set i (some (.val d)))
  | i :: is, .own xs :: ss, ρ => putS is ss (ρ.set i (some (.own xs)))
  | _, _, _ => none
def setSt : List Nat → List V → L2.St → L2.St
  | i :: is, v :: vs, σ => setSt is vs (σ.set i (some v))
  | _, _, σ => σ
theorem StR.putS {K : Frag} {F : Fm} {H : Hp} {L : List Addr} : ∀ (is : List Nat) {σ : L2.St} {ρ ρ' : Rho} {ss : List Slot} {vs : List V} {ps : List Addr}, StR K F σ H ρ L → SlotsR K F H L ss vs ps → Pend σ ρ ps → DL.putS is ss ρ = some ρ' → StR K F (setSt is vs σ) H ρ' L
  | [], σ, ρ, ρ', ss, vs, ps, st, sr, pd, e => by
    cases sr with
    | nil => cases e; exact st
    | val _ _ => cases e
    | own _ _ _ _ => cases e
  | i :: is, σ, ρ, ρ', ss, vs, ps, st, sr, pd, e => by
    cases sr with
    | nil => cases e
    | val hd hr =>
      refine StR.putS is (st.setV i hd) hr ⟨pd.1, fun a m j ys hj e1 => ?_⟩ e
      rcases set_get hj with ⟨rfl, q, _⟩ | ⟨ne, q⟩
      · cases q
      · rw [List.getElem?_set_ne (Ne.symm ne)] at e1
        exact pd.2 a m j ys q e1
    | own hm hu hd hr =>
      have nd := List.nodup_cons.mp pd.1
      refine StR.putS is (st.setO i hm hu hd fun j ys _ hj => pd.2 _ List.mem_cons_self j ys hj) hr ⟨nd.2, fun a m j ys hj e1 => ?_⟩ e
      rcases set_get hj with ⟨rfl, q, hlt⟩ | ⟨ne, q⟩
      · rw [List.getElem?_set_self (by rw [← st.len]; exact hlt)] at e1
        cases e1
        exact nd.1 m
      · rw [List.getElem?_set_ne (Ne.symm ne)] at e1
        exact pd.2 a (List.mem_cons_of_mem _ m) j ys q e1
def sPar (is : List Nat) (fs : DPf) : DSf := fun ρ => match fs ρ with
  | .ok (ss, ρ1) => (match putS is ss ρ1 with
    | some ρ2 => .next ρ2
    | none => .stuck)
  | .exc k ρ1 => .exc k ρ1
  | .stuck => .stuck
section
variable {F : Fm} {X : Cx} {W : WX} {a b c : Expr} {fs : DPf} {tgs : List Expr} {v : Expr} {pos : Pos}
theorem ds_par_any {is : List Nat} {es : List Expr} {s : Stmt} {tp : TA → TS} (hp : ∀ {ta : TA}, PA X es ta → PS X s (tp ta))
    (ht : ∀ (ta : TA) D σ H, ta σ H (fun vs H1 => vs.length = is.length ∧ D.nx (setSt is vs σ) H1) → tp ta D σ H) (hs : DP F X W es fs) : DS F X W s (sPar is fs) := by
  obtain ⟨ta, pa, ra⟩ := hs.ex
  refine ⟨_, hp pa, fun D σ H ρ L st P => ht _ _ _ _ ?_⟩
  refine ra _ _ _ _ _ st ?_
  unfold sPar at P
  cases e : fs ρ with
  | exc k ρ1 => rw [e] at P; exact fun H1 La st1 s1 => P σ H1 La st1 s1
  | stuck => rw [e] at P; exact P
  | ok z =>
    obtain ⟨ss, ρ1⟩ := z
    rw [e] at P
    intro vs ps H1 La st1 s1 sr pd
    dsimp only at P
    split at P
    · rename_i ρ2 e2
      refine ⟨?_, P _ H1 La (StR.putS is st1 sr pd e2) s1⟩
      have len : ∀ (is : List Nat) (ss : List Slot) (ρ ρ' : Rho), putS is ss ρ = some ρ' → ss.length = is.length := by
        intro is
        induction is with
        | nil => intro ss ρ ρ' h; cases ss with
          | nil => rfl
          | cons _ _ => cases h
        | cons i is ih => intro ss ρ ρ' h; cases ss with
          | nil => cases h
          | cons s ss => cases s with
            | val d => simp [ih ss _ _ h]
            | own d => simp [ih ss _ _ h]
            | bor d => cases h
            | err d => cases h
      have len2 : ∀ {ss : List Slot} {vs : List V} {ps : List Addr}, SlotsR X.K F H1 La ss vs ps → vs.length = ss.length := by
        intro ss vs ps h
        induction h with
        | nil => rfl
        | val _ _ ih => simp [ih]
        | own _ _ _ _ ih => simp [ih]
      rw [len2 sr, len is ss ρ1 ρ2 e2]
    · exact P.elim
theorem ds_par2 {i j : Nat} {s : Stmt} (hp : ∀ {ta : TA}, PA X [a, b] ta → PS X s (tPar i j ta)) (hs : DP F X W [a, b] fs) : DS F X W s (sPar [i, j] fs) :=
  ds_par_any (is := [i, j]) hp (fun ta D σ H h => by
    unfold tPar
    refine ?_
    have mono : (fun (vs : List V) (H1 : Hp) => vs.length = 2 ∧ D.nx (setSt [i, j] vs σ) H1) = fun vs H1 => ∃ v w, vs = [v, w] ∧ D.nx ((σ.set i (some v)).set j (some w)) H1 := by
      funext vs H1
      apply propext
      constructor
      · rintro ⟨hl, q⟩
        match vs, hl, q with
        | [v, w], _, q => exact ⟨v, w, rfl, q⟩
      · rintro ⟨v, w, rfl, q⟩
        exact ⟨rfl, q⟩
    rw [← mono]
    exact h) hs
theorem ds_par3 {i j k : Nat} {s : Stmt} (hp : ∀ {ta : TA}, PA X [a, b, c] ta → PS X s (tPar3 i j k ta)) (hs : DP F X W [a, b, c] fs) : DS F X W s (sPar [i, j, k] fs) :=
  ds_par_any (is := [i, j, k]) hp (fun ta D σ H h => by
    unfold tPar3
    have mono : (fun (vs : List V) (H1 : Hp) => vs.length = 3 ∧ D.nx (setSt [i, j, k] vs σ) H1) = fun vs H1 => ∃ u v w, vs = [u, v, w] ∧ D.nx (((σ.set i (some u)).set j (some v)).set k (some w)) H1 := by
      funext vs H1
      apply propext
      constructor
      · rintro ⟨hl, q⟩
        match vs, hl, q with
        | [u, v, w], _, q => exact ⟨u, v, w, rfl, q⟩
      · rintro ⟨u, v, w, rfl, q⟩
        exact ⟨rfl, q⟩
    rw [← mono]
    exact h) hs
end
end DL

namespace DL
open PySem PySem.Spec PyProof.Rows L2
open LamX (Tabs)

/-! ### what is walked -/
def Yields (K : Frag) (F : Fm) (J : It) (ds : List D) (H0 : Hp) (L0 : List Addr) : Prop :=
  ∀ (i : Nat) (H : Hp) (B : List Addr), Carry H0 (F.bad L0) H B → (∀ b ∈ B, ∃ us, H b = some (.lst us)) →
    (∀ d, ds[i]? = some d → J.go i H ∧ ∀ x H', J.yld i H x H' → Same H H' ∧ Den K F.fa H' B d x) ∧ (ds.length ≤ i → J.stop i H)
abbrev DIf := Rho → Res (List D × Rho)
def PostI (K : Frag) (F : Fm) (W : WX) (σ : L2.St) (H : Hp) (L : List Addr) (r : Res (List D × Rho)) (R : It → Hp → Prop) : Prop := match r with
  | .ok (ds, ρ') => ∀ J H' L', StR K F σ H' ρ' L' → Step F H L H' L' → Yields K F J ds H' L' → R J H'
  | .exc k ρ' => ∀ H' L', StR K F σ H' ρ' L' → Step F H L H' L' → W (.ref (F.fa k)) none σ H'
  | .stuck => False
structure DI (F : Fm) (X : Cx) (W : WX) (tg it : Expr) (f : DIf) : Prop where
  ex : ∃ wi, PI X tg it wi ∧ ∀ σ H ρ L R, StR X.K F σ H ρ L → PostI X.K F W σ H L (f ρ) R → wi σ H R
theorem PI.or {X : Cx} {tg it : Expr} {w w' : TI} (h : PI X tg it w) (h' : PI X tg it w') : PI X tg it (fun σ H R => w σ H R ∨ w' σ H R) :=
  ⟨fun pins s σ H R I q => q.elim (fun q => h.run pins s σ H R I q) fun q => h'.run pins s σ H R I q⟩
section
variable {K : Frag} {F : Fm} {X : Cx} {W : WX} {tg a b e : Expr} {fa fb : DEf} {fs : DAf} {σ : L2.St} {H H1 : Hp} {ρ : Rho} {L La : List Addr} {pos p : Pos}
theorem PostI.trans {r : Res (List D × Rho)} {R : It → Hp → Prop} (s : Step F H L H1 La) (p : PostI K F W σ H L r R) : PostI K F W σ H1 La r R := by
  cases r with
  | ok x => exact fun J H' L' st s' => p J H' L' st (s.trans s')
  | exc k ρ' => exact fun H' L' st s' => p H' L' st (s.trans s')
  | stuck => exact p
theorem PostI.ofBindE {r : Res (Arg × Rho)} {k : Arg × Rho → Res (List D × Rho)} {R : It → Hp → Prop} {Q : VK} (p : PostI K F W σ H L (r.bind k) R)
    (hk : ∀ a ρ1 v H1 La, r = .ok (a, ρ1) → StR K F σ H1 ρ1 La → Step F H L H1 La → ArgR K F σ H1 La a v → PostI K F W σ H1 La (k (a, ρ1)) R → Q v H1) : PostE K F W σ H L r Q := by
  cases r with
  | ok x =>
    obtain ⟨a, ρ1⟩ := x
    exact fun v H' L' st s ar => hk a ρ1 v H' L' rfl st s ar (PostI.trans s p)
  | exc n ρ' => exact p
  | stuck => exact p
theorem PostI.ofBindA {r : Res (List Arg × Rho)} {k : List Arg × Rho → Res (List D × Rho)} {R : It → Hp → Prop} {Q : List V → Hp → Prop} (p : PostI K F W σ H L (r.bind k) R)
    (hk : ∀ a ρ1 v H1 La, r = .ok (a, ρ1) → StR K F σ H1 ρ1 La → Step F H L H1 La → ArgsR K F σ H1 La a v → PostI K F W σ H1 La (k (a, ρ1)) R → Q v H1) : PostA K F W σ H L r Q := by
  cases r with
  | ok x =>
    obtain ⟨a, ρ1⟩ := x
    exact fun v H' L' st s ar => hk a ρ1 v H' L' rfl st s ar (PostI.trans s p)
  | exc n ρ' => exact p
  | stuck => exact p
/-- a list as a value -/
theorem yields_lst (st : StR K F σ H ρ L) {a : Addr} {xs : List D} (dn : Den K F.fa H (F.bad L) (.lst xs) (.ref a)) : Yields K F (Itl K a) xs H L := by
  intro i G M s bd
  have d2 := Den.carry s _ _ dn
  cases d2 with
  | @lst _ us _ hn ha hl =>
    refine ⟨fun d e => ?_, fun hle => ⟨us, SqL.of ha, by rw [← hl.length]; exact hle⟩⟩
    obtain ⟨v, e1, dv⟩ := hl.get e
    refine ⟨⟨us, v, SqL.of ha, e1⟩, fun x G' y => ?_⟩
    obtain ⟨rfl, hx⟩ := y
    have := hx us (SqL.of ha)
    rw [e1] at this; cases this
    exact ⟨Same.refl _, dv⟩
theorem yields_tup (st : StR K F σ H ρ L) {a : Addr} {xs : List D} (dn : Den K F.fa H (F.bad L) (.tup xs) (.ref a)) : Yields K F (Itt K a) xs H L := by
  intro i G M s bd
  have d2 := Den.carry s _ _ dn
  cases d2 with
  | @tup _ us _ ha hl =>
    refine ⟨fun d e => ?_, fun hle => ⟨us, ha, by rw [← hl.length]; exact hle⟩⟩
    obtain ⟨v, e1, dv⟩ := hl.get e
    refine ⟨⟨us, v, ha, e1⟩, fun x G' y => ?_⟩
    obtain ⟨rfl, hx⟩ := y
    have := hx us ha
    rw [e1] at this; cases this
    exact ⟨Same.refl _, dv⟩
/-- over a list or a tuple -/
def iSeq (fa : DEf) : DIf := fun ρ => (fa ρ).bind fun p => match frz1 p.1 p.2 with
  | some (.lst xs, ρ1) => .ok (xs, ρ1)
  | some (.tup xs, ρ1) => .ok (xs, ρ1)
  | _ => .stuck
theorem di_seq (ha : DE F X W a fa) : DI F X W tg a (iSeq fa) := by
  obtain ⟨ta, pa, ra⟩ := ha.ex
  refine ⟨_, PI.or (pi_list pa) (pi_tup pa), fun σ H ρ L R st P => ?_⟩
  unfold iSeq at P
  cases e : fa ρ with
  | exc k ρ1 =>
    rw [e] at P
    exact .inl (ra _ _ _ _ _ st (by rw [e]; exact P))
  | stuck => rw [e] at P; exact P.elim
  | ok z =>
    obtain ⟨x, ρ1⟩ := z
    rw [e] at P
    dsimp only [Res.bind] at P
    split at P
    · rename_i xs ρ2 e1
      refine .inl (ra _ _ _ _ _ st ?_)
      rw [e]
      intro v H1 La st1 s1 ar
      obtain ⟨Lb, st2, s2, dn⟩ := frz1_ok st1 ar e1
      cases dn with
      | lst hn ha hl =>
        exact ⟨_, rfl, ⟨_, SqL.of ha⟩, P _ _ Lb st2 (s1.trans s2) (yields_lst st2 (.lst hn ha hl))⟩
    · rename_i xs ρ2 e1
      refine .inr (ra _ _ _ _ _ st ?_)
      rw [e]
      intro v H1 La st1 s1 ar
      obtain ⟨Lb, st2, s2, dn⟩ := frz1_ok st1 ar e1
      cases dn with
      | tup ha hl => exact ⟨_, rfl, ⟨_, ha⟩, P _ _ Lb st2 (s1.trans s2) (yields_tup st2 (.tup ha hl))⟩
    · exact P.elim
/-- lo, lo + 1, .. n of them -/
def rgD (lo : Int) (n : Nat) : List D := (List.range n).map fun i => .int (lo + (i : Nat))
theorem rgD_get {lo : Int} {n i : Nat} {d : D} (h : (rgD lo n)[i]? = some d) : i < n ∧ d = .int (lo + (i : Nat)) := by
  unfold rgD at h
  rw [List.getElem?_map, Option.map_eq_some_iff] at h
  obtain ⟨j, e, rfl⟩ := h
  rw [List.getElem?_eq_some_iff] at e
  obtain ⟨hl, e⟩ := e
  rw [List.getElem_range] at e
  subst e
  exact ⟨by simpa using hl, rfl⟩
theorem rgD_len (lo : Int) (n : Nat) : (rgD lo n).length = n := by unfold rgD; rw [List.length_map, List.length_range]
theorem yields_rg {lo : Int} {n : Nat} : Yields K F (Itr lo n) (rgD lo n) H L := by
  intro i G M s bd
  refine ⟨fun d e => ?_, fun hle => by rw [rgD_len] at hle; exact hle⟩
  obtain ⟨hi, rfl⟩ := rgD_get e
  refine ⟨hi, fun x G' y => ?_⟩
  obtain ⟨rfl, rfl⟩ := y
  exact ⟨Same.refl _, .int _⟩
def smallI (i : Int) : Bool := decide (-(2 ^ 62) ≤ i) && decide (i < 2 ^ 62)
theorem smallI_ok {i : Int} (h : smallI i = true) : -(2 ^ 62) ≤ i ∧ i < 2 ^ 62 := by
  simpa [smallI] using h
def iRg1 (fs : DAf) : DIf := fun ρ => (fs ρ).bind fun p => match resL p.1 p.2 with
  | some [.int j] => if smallI j then .ok (rgD 0 j.toNat, p.2) else .stuck
  | _ => .stuck
def iRg2 (fs : DAf) : DIf := fun ρ => (fs ρ).bind fun p => match resL p.1 p.2 with
  | some [.int i, .int j] => if smallI i && smallI j then .ok (rgD i (j - i).toNat, p.2) else .stuck
  | _ => .stuck
theorem di_range1 (hg : Gl X "range") (hm : X.mg "range" = none) (hs : DA F X W [a] fs) (hh : starEach [a] X.env = [(false, eval a X.env)] := by rfl) : DI F X W tg (.Call (.Name "range" p) [a] [] pos) (iRg1 fs) := by
  obtain ⟨ta, pa, ra⟩ := hs.ex
  refine ⟨_, pi_range1 hg hm pa hh, fun σ H ρ L R st P => ?_⟩
  refine ra _ _ _ _ _ st (PostI.ofBindA P fun as ρ1 vs H1 La _ st1 s1 ar P1 => ?_)
  dsimp only at P1
  split at P1
  · rename_i j e1
    split at P1
    · rename_i hj
      obtain ⟨u, rfl, h⟩ := vwl1 (resL_view st1 ar e1)
      cases h.intv
      obtain ⟨h1, h2⟩ := smallI_ok hj
      exact ⟨j, rfl, h1, h2, P1 _ H1 La st1 .refl yields_rg⟩
    · exact P1.elim
  · exact P1.elim
theorem di_range2 (hg : Gl X "range") (hm : X.mg "range" = none) (hs : DA F X W [a, b] fs) (hh : starEach [a, b] X.env = [(false, eval a X.env), (false, eval b X.env)] := by rfl) (hh2 : starEach [b] X.env = [(false, eval b X.env)] := by rfl) :
    DI F X W tg (.Call (.Name "range" p) [a, b] [] pos) (iRg2 fs) := by
  obtain ⟨ta, pa, ra⟩ := hs.ex
  refine ⟨_, pi_range2 hg hm pa hh hh2, fun σ H ρ L R st P => ?_⟩
  refine ra _ _ _ _ _ st (PostI.ofBindA P fun as ρ1 vs H1 La _ st1 s1 ar P1 => ?_)
  dsimp only at P1
  split at P1
  · rename_i i j e1
    split at P1
    · rename_i hj
      obtain ⟨u, v, rfl, h, h'⟩ := vwl2 (resL_view st1 ar e1)
      cases h.intv; cases h'.intv
      rw [Bool.and_eq_true] at hj
      obtain ⟨h1, h2⟩ := smallI_ok hj.1
      obtain ⟨h3, h4⟩ := smallI_ok hj.2
      exact ⟨i, j, rfl, ⟨h1, h2, h3, h4⟩, P1 _ H1 La st1 .refl yields_rg⟩
    · exact P1.elim
  · exact P1.elim
/-- pairs, each a new tuple -/
def zipD : List D → List D → List D
  | x :: xs, y :: ys => .tup [x, y] :: zipD xs ys
  | _, _ => []
theorem zipD_get : ∀ {xs ys : List D} {i : Nat} {d : D}, (zipD xs ys)[i]? = some d → ∃ x y, xs[i]? = some x ∧ ys[i]? = some y ∧ d = .tup [x, y]
  | [], _, _, _, h => by simp [zipD] at h
  | _ :: _, [], _, _, h => by simp [zipD] at h
  | x :: xs, y :: ys, 0, d, h => by
    simp only [zipD, List.getElem?_cons_zero, Option.some.injEq] at h
    exact ⟨x, y, rfl, rfl, h.symm⟩
  | x :: xs, y :: ys, i + 1, d, h => by
    simp only [zipD, List.getElem?_cons_succ] at h ⊢
    exact zipD_get h
theorem zipD_len : ∀ (xs ys : List D), (zipD xs ys).length = min xs.length ys.length
  | [], _ => by simp [zipD]
  | _ :: _, [] => by simp [zipD]
  | x :: xs, y :: ys => by simp only [zipD, List.length_cons, zipD_len xs ys]; omega
theorem yields_zipL (st : StR K F σ H ρ L) {p q : Addr} {xs ys : List D} (d1 : Den K F.fa H (F.bad L) (.lst xs) (.ref p)) (d2 : Den K F.fa H (F.bad L) (.lst ys) (.ref q)) : Yields K F (Itz K p q) (zipD xs ys) H L := by
  intro i G M s bd
  have c1 := Den.carry s _ _ d1
  have c2 := Den.carry s _ _ d2
  cases c1 with
  | @lst _ us _ hn ha hl =>
    cases c2 with
    | @lst _ ws _ hn' ha' hl' =>
      refine ⟨fun d e => ?_, fun hle => ⟨us, ws, SqL.of ha, SqL.of ha', ?_⟩⟩
      · obtain ⟨x, y, e1, e2, rfl⟩ := zipD_get e
        obtain ⟨v, f1, dv⟩ := hl.get e1
        obtain ⟨w, f2, dw⟩ := hl'.get e2
        refine ⟨⟨us, ws, v, w, SqL.of ha, SqL.of ha', f1, f2⟩, fun z G' y => ?_⟩
        obtain ⟨T, v', w', rfl, hT, rfl, h1, h2⟩ := y
        have g1 := h1 us (SqL.of ha)
        have g2 := h2 ws (SqL.of ha')
        rw [f1] at g1; cases g1
        rw [f2] at g2; cases g2
        exact ⟨Same.upd hT, newTup bd hT (.cons dv (.cons dw .nil))⟩
      · rw [zipD_len] at hle
        rw [← hl.length, ← hl'.length]
        omega
theorem yields_zipT (st : StR K F σ H ρ L) {p q : Addr} {xs ys : List D} (d1 : Den K F.fa H (F.bad L) (.tup xs) (.ref p)) (d2 : Den K F.fa H (F.bad L) (.tup ys) (.ref q)) : Yields K F (RZ.ItzT K p q) (zipD xs ys) H L := by
  intro i G M s bd
  have c1 := Den.carry s _ _ d1
  have c2 := Den.carry s _ _ d2
  cases c1 with
  | @tup _ us _ ha hl =>
    cases c2 with
    | @tup _ ws _ ha' hl' =>
      refine ⟨fun d e => ?_, fun hle => ⟨us, ws, ha, ha', ?_⟩⟩
      · obtain ⟨x, y, e1, e2, rfl⟩ := zipD_get e
        obtain ⟨v, f1, dv⟩ := hl.get e1
        obtain ⟨w, f2, dw⟩ := hl'.get e2
        refine ⟨⟨us, ws, v, w, ha, ha', f1, f2⟩, fun z G' y => ?_⟩
        obtain ⟨T, v', w', rfl, hT, rfl, h1, h2⟩ := y
        have g1 := h1 us ha
        have g2 := h2 ws ha'
        rw [f1] at g1; cases g1
        rw [f2] at g2; cases g2
        exact ⟨Same.upd hT, newTup bd hT (.cons dv (.cons dw .nil))⟩
      · rw [zipD_len] at hle
        rw [← hl.length, ← hl'.length]
        omega
def iZip (fs : DAf) : DIf := fun ρ => (fs ρ).bind fun p => match frzL p.1 p.2 with
  | some ([.lst xs, .lst ys], ρ1) => .ok (zipD xs ys, ρ1)
  | some ([.tup xs, .tup ys], ρ1) => .ok (zipD xs ys, ρ1)
  | _ => .stuck
theorem di_zip {tpos : Pos} {elts : List Expr} {kk : Nat} (hg : Gl X "zip") (hm : X.mg "zip" = none) (hs : DA F X W [a, b] fs) (hh : starEach [a, b] X.env = (false, eval a X.env) :: starEach [b] X.env := by rfl) (hpl : (backTo pos (starEach [b] X.env)).any (·.1) = false := by rfl) :
    DI F X W (.Tuple elts kk tpos) (.Call (.Name "zip" p) [a, b] [] pos) (iZip fs) := by
  obtain ⟨ta, pa, ra⟩ := hs.ex
  refine ⟨_, RZ.pi_zipA hg hm pa hh hpl, fun σ H ρ L R st P => ?_⟩
  refine ra _ _ _ _ _ st (PostI.ofBindA P fun as ρ1 vs H1 La _ st1 s1 ar P1 => ?_)
  dsimp only at P1
  split at P1
  · rename_i xs ys ρ2 e1
    obtain ⟨Lb, st2, s2, dn⟩ := frzL_ok st1 ar e1
    cases dn with
    | cons h1 h2 => cases h2 with
      | cons h2 h3 =>
        cases h3
        obtain ⟨p, us, rfl, hp, _⟩ := Vw.lstv (.den h1)
        obtain ⟨q, ws, rfl, hq, _⟩ := Vw.lstv (.den h2)
        exact ⟨p, q, us, ws, rfl, .inl ⟨SqL.of hp, SqL.of hq, P1 _ H1 Lb st2 s2 (yields_zipL st2 h1 h2)⟩⟩
  · rename_i xs ys ρ2 e1
    obtain ⟨Lb, st2, s2, dn⟩ := frzL_ok st1 ar e1
    cases dn with
    | cons h1 h2 => cases h2 with
      | cons h2 h3 =>
        cases h3
        obtain ⟨p, us, rfl, hp, _⟩ := Vw.tupv (.den h1)
        obtain ⟨q, ws, rfl, hq, _⟩ := Vw.tupv (.den h2)
        exact ⟨p, q, us, ws, rfl, .inr ⟨hp, hq, P1 _ H1 Lb st2 s2 (yields_zipT st2 h1 h2)⟩⟩
  · exact P1.elim
def numD : Nat → List D → List D
  | _, [] => []
  | n, x :: xs => .tup [.int n, x] :: numD (n + 1) xs
theorem numD_get : ∀ {xs : List D} {n i : Nat} {d : D}, (numD n xs)[i]? = some d → ∃ x, xs[i]? = some x ∧ d = .tup [.int ((n + i : Nat) : Int), x]
  | [], _, _, _, h => by simp [numD] at h
  | x :: xs, n, 0, d, h => by
    simp only [numD, List.getElem?_cons_zero, Option.some.injEq] at h
    exact ⟨x, rfl, by simp [← h]⟩
  | x :: xs, n, i + 1, d, h => by
    simp only [numD, List.getElem?_cons_succ] at h ⊢
    obtain ⟨y, e1, e2⟩ := numD_get h
    exact ⟨y, e1, by rw [e2, Nat.add_right_comm]; rfl⟩
theorem numD_len : ∀ (xs : List D) (n : Nat), (numD n xs).length = xs.length
  | [], _ => rfl
  | _ :: xs, n => by simp [numD, numD_len xs]
theorem yields_enum (st : StR K F σ H ρ L) {p : Addr} {xs : List D} (d1 : Den K F.fa H (F.bad L) (.lst xs) (.ref p)) : Yields K F (Ite K p) (numD 0 xs) H L := by
  intro i G M s bd
  have c1 := Den.carry s _ _ d1
  cases c1 with
  | @lst _ us _ hn ha hl =>
    refine ⟨fun d e => ?_, fun hle => ⟨us, SqL.of ha, by rw [numD_len] at hle; rw [← hl.length]; exact hle⟩⟩
    obtain ⟨x, e1, rfl⟩ := numD_get e
    obtain ⟨v, f1, dv⟩ := hl.get e1
    refine ⟨⟨us, v, SqL.of ha, f1⟩, fun z G' y => ?_⟩
    obtain ⟨T, v', rfl, hT, rfl, h1⟩ := y
    have g1 := h1 us (SqL.of ha)
    rw [f1] at g1; cases g1
    refine ⟨Same.upd hT, newTup bd hT (.cons ?_ (.cons dv .nil))⟩
    rw [Nat.zero_add]
    exact .int _
def iEnumL (fs : DAf) : DIf := fun ρ => (fs ρ).bind fun p => match frzL p.1 p.2 with
  | some ([.lst xs], ρ1) => .ok (numD 0 xs, ρ1)
  | _ => .stuck
theorem di_enum {tpos : Pos} {elts : List Expr} {kk : Nat} (hg : Gl X "enumerate") (hm : X.mg "enumerate" = none) (hs : DA F X W [a] fs) (hh : starEach [a] X.env = [(false, eval a X.env)] := by rfl) :
    DI F X W (.Tuple elts kk tpos) (.Call (.Name "enumerate" p) [a] [] pos) (iEnumL fs) := by
  obtain ⟨ta, pa, ra⟩ := hs.ex
  refine ⟨_, pi_enum hg hm pa hh, fun σ H ρ L R st P => ?_⟩
  refine ra _ _ _ _ _ st (PostI.ofBindA P fun as ρ1 vs H1 La _ st1 s1 ar P1 => ?_)
  dsimp only at P1
  split at P1
  · rename_i xs ρ2 e1
    obtain ⟨Lb, st2, s2, dn⟩ := frzL_ok st1 ar e1
    cases dn with
    | cons h1 h2 =>
      cases h2
      obtain ⟨p, us, rfl, hp, _⟩ := Vw.lstv (.den h1)
      exact ⟨p, us, rfl, SqL.of hp, P1 _ H1 Lb st2 s2 (yields_enum st2 h1)⟩
  · exact P1.elim
end
/-! ### for, while -/
def loopD (g : DGf) (body : DSf) : List D → DSf
  | [], ρ => .next ρ
  | d :: ds, ρ => match g d ρ with
    | some ρ1 => (match body ρ1 with
      | .next ρ2 => loopD g body ds ρ2
      | .cont ρ2 => loopD g body ds ρ2
      | .brk ρ2 => .next ρ2
      | .ret d ρ2 => .ret d ρ2
      | .exc k ρ2 => .exc k ρ2
      | .stuck => .stuck)
    | none => .stuck
def sFor (fi : DIf) (g : DGf) (body : DSf) : DSf := fun ρ => match fi ρ with
  | .ok (ds, ρ1) => loopD g body ds ρ1
  | .exc k ρ1 => .exc k ρ1
  | .stuck => .stuck
/-- at most n turns -/
def whileD (c : DTf) (body : DSf) : Nat → DSf
  | 0, _ => .stuck
  | n + 1, ρ => match c ρ with
    | .ok (true, ρ1) => (match body ρ1 with
      | .next ρ2 => whileD c body n ρ2
      | .cont ρ2 => whileD c body n ρ2
      | .brk ρ2 => .next ρ2
      | .ret d ρ2 => .ret d ρ2
      | .exc k ρ2 => .exc k ρ2
      | .stuck => .stuck)
    | .ok (false, ρ1) => .next ρ1
    | .exc k ρ1 => .exc k ρ1
    | .stuck => .stuck
section
variable {K : Frag} {F : Fm} {X : Cx} {W : WX} {tg it c : Expr} {sts : List Stmt} {fi : DIf} {g : DGf} {ft : DTf} {body : DSf} {σ : L2.St} {H H1 : Hp} {ρ : Rho} {L La : List Addr} {pos p : Pos} {ix : List Nat}
theorem ds_for (hp : PassesOwn (model X.prog X.w) X.A X.env X.xe) (hc : X.calm = true) (hi : DI F X W tg it fi) (hg : DG F X tg ix g) (hb : DSs F X W sts body) (hs : ∀ x, foldedSetIterable it X.env x = pure x := by intro _; rfl) :
    DS F X W (.For tg it sts [] pos) (sFor fi g body) := by
  obtain ⟨wi, pi, ri⟩ := hi.ex
  obtain ⟨tg, pg, rg⟩ := hg.ex
  obtain ⟨tb, pb, rb⟩ := hb.ex
  refine ⟨_, ps_for hp hc pi pg pb hs, fun D σ H ρ L st P => ?_⟩
  refine ri _ _ _ _ _ st ?_
  unfold sFor at P
  cases e : fi ρ with
  | exc k ρ1 => rw [e] at P; exact fun H1 La st1 s1 => P σ H1 La st1 s1
  | stuck => rw [e] at P; exact P
  | ok z =>
    obtain ⟨ds, ρ1⟩ := z
    rw [e] at P
    intro J H1 La st1 s1 Y
    have P1 := PostS.trans s1 P
    dsimp only at P1
    refine ⟨fun i m σ' H' => m = ds.length - i ∧ i ≤ ds.length ∧ ∃ ρ' L', StR X.K F σ' H' ρ' L' ∧ Step F H1 La H' L' ∧ PostS X.K F W D H' L' (loopD g body (ds.drop i) ρ'), ⟨ds.length, by simp, Nat.zero_le _, ρ1, La, st1, .refl, by simpa using P1⟩, ?_⟩
    rintro i m σ' H' ⟨rfl, hle, ρ', L', st', s', P'⟩
    obtain ⟨Y1, Y2⟩ := Y i H' _ (st1.carry s') st'.bd
    by_cases hlt : i < ds.length
    · have ei : ds[i]? = some ds[i] := by simp [hlt]
      obtain ⟨go, yl⟩ := Y1 _ ei
      refine .inr ⟨go, fun σ2 H2 => i + 1 ≤ ds.length ∧ ∃ ρ2 L2, StR X.K F σ2 H2 ρ2 L2 ∧ Step F H1 La H2 L2 ∧ PostS X.K F W D H2 L2 (loopD g body (ds.drop (i + 1)) ρ2), fun σ2 H2 ⟨h1, h2⟩ => ⟨ds.length - (i + 1), by omega, rfl, h1, h2⟩, fun x H2 y => ?_⟩
      obtain ⟨sm, dn⟩ := yl x H2 y
      have st2 := st'.same sm
      rw [List.drop_eq_getElem_cons hlt] at P'
      unfold loopD at P'
      split at P'
      · rename_i ρ3 e3
        refine rg _ _ _ _ _ _ _ ρ3 st2 dn e3 fun σ3 st3 _ => ?_
        refine rb _ _ _ _ _ st3 ?_
        have P3 := PostS.trans (Step.same (F := F) (L := L') sm) P'
        have s3 := s'.trans (Step.same (F := F) (L := L') sm)
        cases e4 : body ρ3 with
        | next ρ4 => rw [e4] at P3; exact fun σ4 H4 L4 st4 s4 => ⟨hlt, ρ4, L4, st4, s3.trans s4, PostS.trans s4 P3⟩
        | cont ρ4 => rw [e4] at P3; exact fun σ4 H4 L4 st4 s4 => ⟨hlt, ρ4, L4, st4, s3.trans s4, PostS.trans s4 P3⟩
        | brk ρ4 => rw [e4] at P3; exact P3
        | ret d ρ4 => rw [e4] at P3; exact P3
        | exc k ρ4 => rw [e4] at P3; exact P3
        | stuck => rw [e4] at P3; exact P3
      · exact P'.elim
    · have ei : i = ds.length := by omega
      subst ei
      refine .inl ⟨Y2 (Nat.le_refl _), ?_⟩
      rw [List.drop_length] at P'
      exact P' σ' H' L' st' .refl
theorem ds_while (n : Nat) (hp : PassesOwn (model X.prog X.w) X.A X.env X.xe) (hc : DT F X W c ft) (hb : DSs F X W sts body) : DS F X W (.While c sts [] pos) (whileD ft body n) := by
  obtain ⟨tc, pc, rc⟩ := hc.ex
  obtain ⟨tb, pb, rb⟩ := hb.ex
  refine ⟨_, ps_while hp pc pb, fun D σ H ρ L st P => ?_⟩
  refine ⟨fun m σ' H' => ∃ ρ' L', StR X.K F σ' H' ρ' L' ∧ Step F H L H' L' ∧ PostS X.K F W D H' L' (whileD ft body m ρ'), ⟨n, ρ, L, st, .refl, P⟩, ?_⟩
  rintro m σ' H' ⟨ρ', L', st', s', P'⟩
  cases m with
  | zero => exact P'.elim
  | succ m =>
    refine rc _ _ _ _ _ st' ?_
    unfold whileD at P'
    cases e : ft ρ' with
    | exc k ρ1 => rw [e] at P'; exact fun H1 La st1 s1 => P' σ' H1 La st1 s1
    | stuck => rw [e] at P'; exact P'
    | ok z =>
      obtain ⟨o, ρ1⟩ := z
      rw [e] at P'
      intro H1 La st1 s1
      have P1 := PostS.trans s1 P'
      have s2 := s'.trans s1
      cases o with
      | false =>
        rw [if_neg Bool.false_ne_true]
        exact P1 σ' H1 La st1 .refl
      | true =>
        rw [if_pos rfl]
        dsimp only at P1
        refine ⟨fun σ2 H2 => ∃ ρ2 L2, StR X.K F σ2 H2 ρ2 L2 ∧ Step F H L H2 L2 ∧ PostS X.K F W D H2 L2 (whileD ft body m ρ2), fun σ2 H2 h => ⟨m, Nat.lt_succ_self _, h⟩, ?_⟩
        refine rb _ _ _ _ _ st1 ?_
        cases e4 : body ρ1 with
        | next ρ4 => rw [e4] at P1; exact fun σ4 H4 L4 st4 s4 => ⟨ρ4, L4, st4, s2.trans s4, PostS.trans s4 P1⟩
        | cont ρ4 => rw [e4] at P1; exact fun σ4 H4 L4 st4 s4 => ⟨ρ4, L4, st4, s2.trans s4, PostS.trans s4 P1⟩
        | brk ρ4 => rw [e4] at P1; exact P1
        | ret d ρ4 => rw [e4] at P1; exact P1
        | exc k ρ4 => rw [e4] at P1; exact P1
        | stuck => rw [e4] at P1; exact P1
end
end DL

namespace DL
open PySem PySem.Spec PyProof.Rows L2
open LamX (Tabs)

/-! ### comprehensions -/
def wipeR (ρ : Rho) : List Nat → Rho
  | [] => ρ
  | v :: vs => (wipeR ρ vs).set v none
def keepR (ρ1 ρ2 : Rho) : List Nat → Rho
  | [] => ρ2
  | v :: vs => (keepR ρ1 ρ2 vs).set v (match ρ1[v]? with
    | some (some (.val d)) => some (.val d)
    | _ => none)
def compD (vs : List Nat) (g : DGf) (t : DTf) (elt : DEf) : List D → Rho → List D → Res (List D × Rho)
  | [], ρ, acc => .ok (acc, ρ)
  | d :: ds, ρ, acc => match g d (wipeR ρ vs) with
    | some ρ1 => (match t ρ1 with
      | .ok (true, ρ2) => (match elt ρ2 with
        | .ok (a, ρ3) => (match frz1 a ρ3 with
          | some (y, ρ4) => if acc.length < 16777216 then compD vs g t elt ds ρ4 (acc ++ [y]) else .stuck
          | none => .stuck)
        | _ => .stuck)
      | .ok (false, ρ2) => compD vs g t elt ds ρ2 acc
      | _ => .stuck)
    | none => .stuck
def tYesD : DTf := fun ρ => .ok (true, ρ)
def fComp (vs : List Nat) (fi : DIf) (g : DGf) (t : DTf) (elt : DEf) : DFf := fun ρ => (fi ρ).bind fun p => match compD vs g t elt p.1 p.2 [] with
  | .ok (acc, ρ2) => .ok (acc, keepR p.2 ρ2 vs)
  | _ => .stuck
abbrev W0 : WX := fun _ _ _ _ => False
structure DTs (F : Fm) (X : Cx) (W : WX) (ifs : List Expr) (f : DTf) : Prop where
  ex : ∃ t, PTs X ifs t ∧ ∀ σ H ρ L Q, StR X.K F σ H ρ L → PostT X.K F W σ H L (f ρ) Q → t σ H Q
section
variable {K : Frag} {F : Fm} {X : Cx} {W : WX} {tg it c e : Expr} {ifs : List Expr} {fi : DIf} {g : DGf} {ft : DTf} {fe : DEf} {σ σ' : L2.St} {H H1 : Hp} {ρ ρ1 ρ2 : Rho} {L La : List Addr} {pos p : Pos} {ix : List Nat}
theorem dts_nil : DTs F X W [] tYesD := ⟨_, pts_nil, fun σ H ρ L Q st P => P H L st .refl⟩
theorem dts_one (h : DT F X W c ft) : DTs F X W [c] ft := by
  obtain ⟨t, p, r⟩ := h.ex
  exact ⟨_, pts_one p, r⟩
theorem DE.can (h : ∀ p, DE (F.push p) X W e fe) : PE X e (fun σ H Q => ∃ p ρ L, StR X.K (F.push p) σ H ρ L ∧ PostE X.K (F.push p) W σ H L (fe ρ) Q) := by
  refine ⟨fun pins s σ H Q I hq => ?_⟩
  obtain ⟨p, ρ, L, st, P⟩ := hq
  obtain ⟨t, pt, r⟩ := (h p).ex
  exact pt.run pins s σ H Q I (r _ _ _ _ _ st P)
theorem DTs.can (h : ∀ p, DTs (F.push p) X W ifs ft) : PTs X ifs (fun σ H Q => ∃ p ρ L, StR X.K (F.push p) σ H ρ L ∧ PostT X.K (F.push p) W σ H L (ft ρ) Q) := by
  refine ⟨fun pins s σ H Q I hq => ?_⟩
  obtain ⟨p, ρ, L, st, P⟩ := hq
  obtain ⟨t, pt, r⟩ := (h p).ex
  exact pt.run pins s σ H Q I (r _ _ _ _ _ st P)
theorem DG.can (h : ∀ p, DG (F.push p) X tg ix g) : PG X tg (fun v σ H Q => ∃ p ρ L d ρ', StR X.K (F.push p) σ H ρ L ∧ Den X.K F.fa H ((F.push p).bad L) d v ∧ g d ρ = some ρ' ∧ ∀ σ', StR X.K (F.push p) σ' H ρ' L → Chg ix σ σ' → Q σ' H) := by
  refine ⟨fun pins s σ H v u Q I rv hq => ?_⟩
  obtain ⟨p, ρ, L, d, ρ', st, dn, e, k⟩ := hq
  obtain ⟨t, pt, r⟩ := (h p).ex
  exact pt.run pins s σ H v u Q I rv (r _ _ _ _ _ _ _ ρ' st dn e k)
theorem StR.wipe (st : StR K F σ H ρ L) : ∀ vs : List Nat, StR K F (L2.wipe σ vs) H (wipeR ρ vs) L
  | [] => st
  | v :: vs => (StR.wipe st vs).setN v
theorem wipeR_len (ρ : Rho) : ∀ vs : List Nat, (wipeR ρ vs).length = ρ.length
  | [] => rfl
  | v :: vs => by unfold wipeR; rw [List.length_set, wipeR_len ρ vs]
theorem wipeR_out {i : Nat} : ∀ {vs : List Nat}, i ∉ vs → (wipeR ρ vs)[i]? = ρ[i]?
  | [], _ => rfl
  | v :: vs, h => by
    unfold wipeR
    rw [List.getElem?_set_ne (fun e => h (by simp [e])), wipeR_out fun m => h (List.mem_cons_of_mem _ m)]
theorem keepR_len (ρ1 ρ2 : Rho) : ∀ vs : List Nat, (keepR ρ1 ρ2 vs).length = ρ2.length
  | [] => rfl
  | v :: vs => by unfold keepR; rw [List.length_set, keepR_len ρ1 ρ2 vs]
theorem keepR_get {i : Nat} {s : Slot} : ∀ {vs : List Nat}, (keepR ρ1 ρ2 vs)[i]? = some (some s) → (i ∈ vs ∧ ∃ d, s = .val d ∧ ρ1[i]? = some (some (.val d))) ∨ (i ∉ vs ∧ ρ2[i]? = some (some s))
  | [], h => .inr ⟨by simp, h⟩
  | v :: vs, h => by
    unfold keepR at h
    rcases set_get h with ⟨rfl, q, _⟩ | ⟨ne, q⟩
    · split at q
      · rename_i d e
        cases q
        exact .inl ⟨List.mem_cons_self, d, rfl, e⟩
      · cases q
    · rcases keepR_get q with ⟨m, r⟩ | ⟨m, r⟩
      · exact .inl ⟨List.mem_cons_of_mem _ m, r⟩
      · refine .inr ⟨fun z => ?_, r⟩
        rcases List.mem_cons.mp z with rfl | z
        · exact ne rfl
        · exact m z
theorem wipe_get {i : Nat} {vs : List Nat} (h : i ∉ vs) : (L2.wipe σ vs)[i]? = σ[i]? := wipe_out h
theorem wipe_in {i : Nat} : ∀ {vs : List Nat}, i ∈ vs → i < σ.length → (L2.wipe σ vs)[i]? = some none
  | [], h, _ => nomatch h
  | v :: vs, h, hl => by
    unfold L2.wipe
    by_cases e : v = i
    · subst e
      exact List.getElem?_set_self (by rw [wipe_length]; exact hl)
    · rw [List.getElem?_set_ne e]
      exact wipe_in ((List.mem_cons.mp h).resolve_left (Ne.symm e)) hl
theorem wipe_chg {vs : List Nat} (c : Chg ix σ σ') (h : ∀ i ∈ ix, i ∈ vs) : L2.wipe σ' vs = L2.wipe σ vs := by
  apply List.ext_getElem?
  intro j
  by_cases m : j ∈ vs
  · by_cases hl : j < σ.length
    · rw [wipe_in m hl, wipe_in m (by rw [c.1]; exact hl)]
    · rw [List.getElem?_eq_none (by rw [wipe_length, c.1]; omega), List.getElem?_eq_none (by rw [wipe_length]; omega)]
  · rw [wipe_get m, wipe_get m]
    exact c.2 j fun z => m (h j z)
theorem wipe_wipe (vs : List Nat) : L2.wipe (L2.wipe σ vs) vs = L2.wipe σ vs := by
  apply List.ext_getElem?
  intro j
  by_cases m : j ∈ vs
  · by_cases hl : j < σ.length
    · rw [wipe_in m (by rw [wipe_length]; exact hl), wipe_in m hl]
    · rw [List.getElem?_eq_none (by rw [wipe_length, wipe_length]; omega), List.getElem?_eq_none (by rw [wipe_length]; omega)]
  · rw [wipe_get m]
/-- the heap but for p -/
def less (H : Hp) (p : Addr) : Hp := fun b => if b = p then none else H b
theorem less_same {p : Addr} : less H p p = none := by unfold less; rw [if_pos rfl]
theorem less_ne {p b : Addr} (h : b ≠ p) : less H p b = H b := by unfold less; rw [if_neg h]
theorem less_upd {p : Addr} {o : HO} : less (upd H p o) p = less H p := by
  funext b
  by_cases h : b = p
  · subst h; rw [less_same, less_same]
  · rw [less_ne h, less_ne h, upd_ne h]
theorem upd_less {p : Addr} {o : HO} (h : H p = some o) : upd (less H p) p o = H := by
  funext b
  by_cases e : b = p
  · subst e; rw [upd_same, h]
  · rw [upd_ne e, less_ne e]
theorem Nn.same {G : Hp} {b : Addr} (h : Same H G) (z : Nn G b) : Nn H b := fun o e nt => z o (h b o e) nt
theorem nn_less {p b : Addr} (z : Nn H b) : Nn (less H p) b := fun o e nt => by
  by_cases hb : b = p
  · subst hb; rw [less_same] at e; cases e
  · rw [less_ne hb] at e; exact z o e nt
theorem of_less {p b : Addr} (hb : b ≠ p) (z : Nn (less H p) b) : Nn H b := fun o e nt => z o (by rw [less_ne hb]; exact e) nt
/-- a list that is kept apart is changed -/
theorem StR.bf {p : Addr} {us ws : List V} (st : StR K (F.push p) σ H ρ L) (hp : H p = some (.lst us)) (h0 : Nn F.H0 p) : StR K (F.push p) σ (upd H p (.lst ws)) ρ L := by
  have mem : p ∈ (F.push p).bad L := bad_push.mpr (.inl rfl)
  have c : Carry H ((F.push p).bad L) (upd H p (.lst ws)) ((F.push p).bad L) := ⟨fun b o e hn _ => by rw [upd_ne (fun z => hn (by rw [z]; exact mem))]; exact e, fun _ m => .inl m, st.bd⟩
  have nL : p ∉ L := fun m => (st.ld p m).1 (List.mem_append_right _ List.mem_cons_self)
  have nP : ∀ i ∈ F.pi, F.pa i ≠ p := fun i hi z => st.pb i hi (by rw [show (F.push p).pa i = p from z]; exact List.mem_cons_self)
  refine ⟨st.len, fun i s e => ?_, st.di, fun b m => ?_, st.ld, st.pj, st.pb, fun b o e hn nt => ?_, fun b e => st.tr b ?_, Tabs.lst st.tb hp⟩
  · obtain ⟨v, e1, r⟩ := st.sl i s e
    refine ⟨v, e1, ?_⟩
    cases s with
    | val d => exact Den.carry c d v r
    | own xs =>
      obtain ⟨a, vs, e, m, ha, hl⟩ := r
      exact ⟨a, vs, e, m, by rw [upd_ne (fun z => nL (by rw [← z]; exact m))]; exact ha, DenL.carry c xs vs hl⟩
    | bor xs =>
      obtain ⟨vs, e, m, ha, hl⟩ := r
      exact ⟨vs, e, m, by rw [upd_ne (nP i m)]; exact ha, DenL.carry c xs vs hl⟩
    | err k => exact r
  · by_cases hb : b = p
    · subst hb; exact ⟨ws, upd_same⟩
    · rw [upd_ne hb]; exact st.bd b m
  · rw [upd_ne (fun z => by subst z; exact h0 _ e nt)]
    exact st.en b o e hn nt
  · intro o eo nt
    by_cases hb : b = p
    · subst hb
      exact e _ upd_same nt_lst
    · exact e o (by rw [upd_ne hb]; exact eo) nt
/-- .. is put away -/
theorem StR.unpush {p : Addr} {us : List V} (st : StR K (F.push p) σ H ρ L) (hp : H p = some (.lst us)) (h0 : Nn F.H0 p) (hB : p ∉ F.Bf) : StR K F σ (less H p) ρ L := by
  have nL : p ∉ L := fun m => (st.ld p m).1 (List.mem_append_right _ List.mem_cons_self)
  have nP : ∀ i ∈ F.pi, F.pa i ≠ p := fun i hi z => st.pb i hi (by rw [show (F.push p).pa i = p from z]; exact List.mem_cons_self)
  have nb : p ∉ F.bad L := fun m => by
    rcases List.mem_append.mp m with z | z
    · exact nL z
    · rcases List.mem_append.mp z with z | z
      · obtain ⟨i, hi, e⟩ := List.mem_map.mp z
        exact nP i hi e
      · exact hB z
  have c : Carry H ((F.push p).bad L) (less H p) (F.bad L) := ⟨fun b o e hn _ => by rw [less_ne (fun z => hn (by rw [z]; exact bad_push.mpr (.inl rfl)))]; exact e, fun b m => .inl (bad_push.mpr (.inr m)), st.bd⟩
  refine ⟨st.len, fun i s e => ?_, st.di, fun b m => ?_, fun b m => ⟨fun z => (st.ld b m).1 ?_, (st.ld b m).2⟩, st.pj, fun i m z => st.pb i m (List.mem_cons_of_mem _ z), fun b o e hn nt => ?_, fun b e => ?_, fun q hq => ?_⟩
  · obtain ⟨v, e1, r⟩ := st.sl i s e
    refine ⟨v, e1, ?_⟩
    cases s with
    | val d => exact Den.carry c d v r
    | own xs =>
      obtain ⟨a, vs, e, m, ha, hl⟩ := r
      exact ⟨a, vs, e, m, by rw [less_ne (fun z => nL (by rw [← z]; exact m))]; exact ha, DenL.carry c xs vs hl⟩
    | bor xs =>
      obtain ⟨vs, e, m, ha, hl⟩ := r
      exact ⟨vs, e, m, by rw [less_ne (nP i m)]; exact ha, DenL.carry c xs vs hl⟩
    | err k => exact r
  · rw [less_ne (fun z => nb (by rw [← z]; exact m))]
    exact st.bd b (bad_push.mpr (.inr m))
  · rcases List.mem_append.mp z with z | z
    · exact List.mem_append_left _ z
    · exact List.mem_append_right _ (List.mem_cons_of_mem _ z)
  · rw [less_ne (fun z => by subst z; exact h0 _ e nt)]
    exact st.en b o e hn nt
  · by_cases hb : b = p
    · rw [hb]; exact h0
    · exact st.tr b fun o eo nt => e o (by rw [less_ne hb]; exact eo) nt
  · obtain ⟨ps, h1, h2, h3⟩ := st.tb q hq
    have n1 : ∀ b o, H b = some o → (∀ zs, o ≠ .lst zs) → less H p b = some o := fun b o e n => by
      rw [less_ne (fun z => by subst z; rw [hp] at e; exact n us (Option.some.inj e).symm)]
      exact e
    refine ⟨ps, n1 _ _ h1 (fun _ z => nomatch z), h2, fun pos cv hc => ?_⟩
    obtain ⟨c, e1, e2⟩ := h3 pos cv hc
    exact ⟨c, e1, n1 _ _ e2 fun _ z => by unfold LamX.CodeO at z; cases z⟩
/-- behind a block: its own names are as before -/
theorem StR.kept {vs : List Nat} (st1 : StR K F σ H ρ1 L) (s : Step F H L H1 La) (st2 : StR K F (L2.wipe σ vs) H1 (wipeR ρ2 vs) La) : StR K F σ H1 (keepR ρ1 ρ2 vs) La := by
  refine ⟨?_, fun i t e => ?_, fun i j xs ys a hi hj e1 e2 => ?_, st2.bd, st2.ld, st2.pj, st2.pb, st2.en, st2.tr, st2.tb⟩
  · rw [keepR_len, ← wipeR_len ρ2 vs, st2.len, wipe_length]
  · rcases keepR_get e with ⟨m, d, rfl, e1⟩ | ⟨m, e1⟩
    · obtain ⟨v, e2, r⟩ := st1.sl i _ e1
      exact ⟨v, e2, Den.carry (st1.carry s) d v r⟩
    · obtain ⟨v, e2, r⟩ := st2.sl i t (by rw [wipeR_out m]; exact e1)
      rw [wipe_get m] at e2
      exact ⟨v, e2, r⟩
  · rcases keepR_get hi with ⟨m, d, e, _⟩ | ⟨m, e⟩
    · cases e
    · rcases keepR_get hj with ⟨m', d, e', _⟩ | ⟨m', e'⟩
      · cases e'
      · exact st2.di i j xs ys a (by rw [wipeR_out m]; exact e) (by rw [wipeR_out m']; exact e') (by rw [wipe_get m]; exact e1) (by rw [wipe_get m']; exact e2)
/-- the reading of a comprehension -/
theorem comp_read {wi : TI} {vs : List Nat} {Q : VK}
    (ri : ∀ σ H ρ L R, StR X.K F σ H ρ L → PostI X.K F W σ H L (fi ρ) R → wi σ H R) (hix : ∀ i ∈ ix, i ∈ vs) (st : StR X.K F σ H ρ L)
    (P : PostF X.K F W σ H L (fComp vs fi g ft fe ρ) Q) :
    tLc wi (fun v σ H Q => ∃ p ρ L d ρ', StR X.K (F.push p) σ H ρ L ∧ Den X.K F.fa H ((F.push p).bad L) d v ∧ g d ρ = some ρ' ∧ ∀ σ', StR X.K (F.push p) σ' H ρ' L → Chg ix σ σ' → Q σ' H)
      (fun σ H Q => ∃ p ρ L, StR X.K (F.push p) σ H ρ L ∧ PostT X.K (F.push p) W0 σ H L (ft ρ) Q)
      (fun σ H Q => ∃ p ρ L, StR X.K (F.push p) σ H ρ L ∧ PostE X.K (F.push p) W0 σ H L (fe ρ) Q) vs σ H Q := by
  unfold tLc
  refine ri _ _ _ _ _ st ?_
  unfold fComp at P
  cases e : fi ρ with
  | exc k ρ1 => rw [e] at P; exact P
  | stuck => rw [e] at P; exact P
  | ok z =>
    obtain ⟨ds, ρ1⟩ := z
    rw [e] at P
    intro J H1 La st1 s1 Y D hD
    have P1 := PostF.trans s1 P
    dsimp only [Res.bind] at P1
    have h0 : Nn F.H0 D := st1.tr D (.of hD)
    have hnb : D ∉ F.bad La := fun m => by
      obtain ⟨us, e⟩ := st1.bd D m
      rw [hD] at e; cases e
    have hB : D ∉ F.Bf := fun m => hnb (List.mem_append_right _ (List.mem_append_right _ m))
    -- what is wanted of the rest
    obtain ⟨PC, hPC⟩ : ∃ PC : Res (List DL.D × Rho) → Prop, PC = fun r => match r with
      | .ok (acc', ρ2) => ∀ p us H' L', StR X.K F σ H' (keepR ρ1 ρ2 vs) L' → Step F H1 La H' L' → H' p = none → DenL X.K F.fa H' (F.bad L') acc' us → Q (.ref p) (upd H' p (.lst us))
      | _ => False := ⟨_, rfl⟩
    have PC0 : PC (compD vs g ft fe ds ρ1 []) := by
      rw [hPC]
      cases e2 : compD vs g ft fe ds ρ1 [] with
      | ok z =>
        obtain ⟨acc, ρ2⟩ := z
        rw [e2] at P1
        exact P1
      | exc k ρ2 => rw [e2] at P1; exact P1
      | stuck => rw [e2] at P1; exact P1
    have stp := (st1.push (us := []) hD).wipe vs
    refine ⟨fun i m G => m = ds.length - i ∧ i ≤ ds.length ∧ ∃ ρ' L' acc us, StR X.K (F.push D) (L2.wipe σ vs) G (wipeR ρ' vs) L' ∧ Step F H1 La (less G D) L' ∧ G D = some (.lst us) ∧ DenL X.K F.fa G ((F.push D).bad L') acc us ∧ PC (compD vs g ft fe (ds.drop i) ρ' acc),
      ⟨ds.length, by simp, Nat.zero_le _, ρ1, La, [], [], stp, ?_, upd_same, .nil, by simpa using PC0⟩, ?_⟩
    · rw [less_upd]
      exact ⟨fun b o e _ _ _ => by rw [less_ne (fun z => by subst z; rw [hD] at e; cases e)]; exact e, fun _ m => .inl m, fun b z => by
        by_cases hb : b = D
        · rw [hb]; exact .of hD
        · exact of_less hb z⟩
    rintro i m G ⟨rfl, hle, ρ', L', acc, us, st', s', hG, dacc, P'⟩
    have sG : Step F H1 La G L' := ⟨fun b o e h1 h2 h3 => by
      have := s'.keep b o e h1 h2 h3
      rwa [less_ne (fun z => by subst z; rw [hD] at e; cases e)] at this, s'.more, fun b z => by
      by_cases hb : b = D
      · rw [hb]; exact .of hD
      · exact s'.tr b (nn_less z)⟩
    have cy : Carry H1 (F.bad La) G ((F.push D).bad L') := ⟨(st1.carry sG).keep, fun b m => by
      rcases bad_push.mp m with rfl | m
      · exact .inr (.of hD)
      · exact (st1.carry sG).more b m, st1.bd⟩
    obtain ⟨Y1, Y2⟩ := Y i G _ cy st'.bd
    by_cases hlt : i < ds.length
    · have ei : ds[i]? = some ds[i] := by simp [hlt]
      obtain ⟨go, yl⟩ := Y1 _ ei
      refine .inr ⟨go, fun G2 => i + 1 ≤ ds.length ∧ ∃ ρ' L' acc us, StR X.K (F.push D) (L2.wipe σ vs) G2 (wipeR ρ' vs) L' ∧ Step F H1 La (less G2 D) L' ∧ G2 D = some (.lst us) ∧ DenL X.K F.fa G2 ((F.push D).bad L') acc us ∧ PC (compD vs g ft fe (ds.drop (i + 1)) ρ' acc),
        fun G2 ⟨h1, h2⟩ => ⟨ds.length - (i + 1), by omega, rfl, h1, h2⟩, fun x G2 y => ?_⟩
      obtain ⟨sm, dn⟩ := yl x G2 y
      have st2 := st'.same sm
      have dacc2 := DenL.carry (st'.carry (Step.same (F := F.push D) (L := L') sm)) acc us dacc
      rw [List.drop_eq_getElem_cons hlt] at P'
      unfold compD at P'
      -- a step that leaves D's list
      have stepL : ∀ {G3 : Hp} {L3 : List Addr}, Step (F.push D) G2 L' G3 L3 → Step F H1 La (less G3 D) L3 := fun {G3 L3} s3 => s'.trans ⟨fun b o e h1 h2 h3 => by
          by_cases hb : b = D
          · rw [hb, less_same] at e; cases e
          · rw [less_ne hb] at e
            rw [less_ne hb]
            exact s3.keep b o (sm _ _ e) h1 h2 h3, fun b m => by
          rcases s3.more b m with z | z
          · exact .inl z
          · exact .inr (nn_less (Nn.same sm z)), fun b z => by
          by_cases hb : b = D
          · rw [hb]; exact .of less_same
          · exact nn_less (Nn.same sm (s3.tr b (of_less hb z)))⟩
      have nDL : ∀ {L3 : List Addr} {σ3 : L2.St} {G3 : Hp} {ρ3 : Rho}, StR X.K (F.push D) σ3 G3 ρ3 L3 → D ∉ L3 := fun st3 m => (st3.ld D m).1 (List.mem_append_right _ List.mem_cons_self)
      have nDP : D ∉ (F.push D).PA := fun m => by
        obtain ⟨i, hi, e⟩ := List.mem_map.mp m
        exact st'.pb i hi (by rw [e]; exact List.mem_cons_self)
      split at P'
      · rename_i ρ3 e3
        refine ⟨D, wipeR ρ' vs, L', ds[i], ρ3, st2, dn, e3, fun σ3 st3 ch => ?_⟩
        have hw : L2.wipe σ3 vs = L2.wipe σ vs := (wipe_chg ch hix).trans (wipe_wipe vs)
        have hw' : L2.wipe σ3 vs = L2.wipe (L2.wipe σ vs) vs := wipe_chg ch hix
        refine ⟨?_, D, ρ3, L', st3, ?_⟩
        · first | exact hw | exact hw'
        cases e4 : ft ρ3 with
        | exc k ρ4 => rw [e4, hPC] at P'; exact P'.elim
        | stuck => rw [e4, hPC] at P'; exact P'.elim
        | ok z =>
          obtain ⟨b, ρ4⟩ := z
          rw [e4] at P'
          intro G4 L4 st4 s4
          cases b with
          | false =>
            rw [if_neg Bool.false_ne_true]
            dsimp only at P'
            refine ⟨hlt, ρ4, L4, acc, us, ?_, stepL s4, s4.keep D _ (sm _ _ hG) (nDL st3) nDP nt_lst, DenL.carry (st3.carry s4) acc us dacc2, P'⟩
            have := st4.wipe vs
            rwa [hw] at this
          | true =>
            rw [if_pos rfl]
            dsimp only at P'
            refine ⟨D, ρ4, L4, st4, ?_⟩
            cases e5 : fe ρ4 with
            | exc k ρ5 => rw [e5, hPC] at P'; exact P'.elim
            | stuck => rw [e5, hPC] at P'; exact P'.elim
            | ok z =>
              obtain ⟨a, ρ5⟩ := z
              rw [e5] at P'
              intro y G5 L5 st5 s5 ar
              dsimp only at P'
              split at P'
              · rename_i yd ρ6 e6
                obtain ⟨L6, st6, s6, dy⟩ := frz1_ok st5 ar e6
                split at P'
                · rename_i hl
                  have s56 := s4.trans (s5.trans s6)
                  have hG5 : G5 D = some (.lst us) := (s4.trans s5).keep D _ (sm _ _ hG) (nDL st3) nDP nt_lst
                  have dacc5 := DenL.carry (st3.carry s56) acc us dacc2
                  refine ⟨us, hG5, by rw [← dacc5.length, sizeLine_eq]; exact hl, hlt, ρ6, L6, acc ++ [yd], us ++ [y], ?_, ?_, upd_same, ?_, P'⟩
                  · have := (st6.bf (ws := us ++ [y]) hG5 h0).wipe vs
                    rwa [hw] at this
                  · rw [less_upd]
                    exact stepL s56
                  · have c6 : Carry G5 ((F.push D).bad L6) (upd G5 D (.lst (us ++ [y]))) ((F.push D).bad L6) := ⟨fun b o e hn _ => by rw [upd_ne (fun z => hn (by rw [z]; exact bad_push.mpr (.inl rfl)))]; exact e, fun _ m => .inl m, st6.bd⟩
                    exact DenL.carry c6 _ _ (dacc5.append (.cons dy .nil))
                · rw [hPC] at P'; exact P'.elim
              · rw [hPC] at P'; exact P'.elim
      · rw [hPC] at P'; exact P'.elim
    · have ei : i = ds.length := by omega
      subst ei
      refine .inl ⟨Y2 (Nat.le_refl _), ?_⟩
      rw [List.drop_length, hPC] at P'
      have st3 := st'.unpush hG h0 hB
      have cy2 : Carry G ((F.push D).bad L') (less G D) (F.bad L') := ⟨fun b o e hn _ => by rw [less_ne (fun z => hn (by rw [z]; exact bad_push.mpr (.inl rfl)))]; exact e, fun b m => .inl (bad_push.mpr (.inr m)), st'.bd⟩
      have q := P' D us (less G D) L' (st1.kept s' st3) s' less_same (DenL.carry cy2 acc us dacc)
      rwa [upd_less hG] at q
theorem df_lc {scope : Scope} {own : List (Str × Nat)} (hc : X.calm = true) (hN : X.N.Nodup) (hi : DI F X W tg it fi) (ok : BlkOk X.N X.env.scope scope own) (hix : ∀ i ∈ ix, i ∈ own.map (·.2))
    (hg : ∀ (s : Shared) (H : Hp) (C : Addr) (cl : List (Str × Addr)) (fp : List Addr) (p : Addr), DG (F.push p) (X.blk s H scope (compEnvC scope cl C X.env) fp) tg ix g)
    (ht : ∀ (s : Shared) (H : Hp) (C : Addr) (cl : List (Str × Addr)) (fp : List Addr) (p : Addr), DTs (F.push p) (X.blk s H scope (compEnvC scope cl C X.env) fp) W0 ifs ft)
    (he : ∀ (s : Shared) (H : Hp) (C : Addr) (cl : List (Str × Addr)) (fp : List Addr) (p : Addr), DE (F.push p) (X.blk s H scope (compEnvC scope cl C X.env) fp) W0 e fe) (hs : ∀ x, foldedSetIterable it X.env x = pure x := by intro _; rfl) :
    DF F X W (.ListComp e [⟨tg, it, ifs, 0⟩] scope pos) (fComp (own.map (·.2)) fi g ft fe) := by
  obtain ⟨wi, pi, ri⟩ := hi.ex
  exact ⟨_, pe_lc hc hN pi ok (fun s H C cl fp => DG.can (hg s H C cl fp)) (fun s H C cl fp => DTs.can (ht s H C cl fp)) (fun s H C cl fp => DE.can (he s H C cl fp)) hs, fun σ H ρ L Q st P => comp_read ri hix st P⟩
/-- name = [..] -/
theorem ds_setLc {scope : Scope} {own : List (Str × Nat)} {i : Nat} {y : Str} {py spos : Pos} (hc : X.calm = true) (hN : X.N.Nodup) (hy : X.N[i]? = some y) (hyl : X.env.scope.names.lookup y = some .local) (hsw : swapsWith (.ListComp e [⟨tg, it, ifs, 0⟩] scope pos) (some (.Name y py)) spos.line X.env = pure true)
    (hi : DI F X W tg it fi) (ok : BlkOk X.N X.env.scope scope own) (hix : ∀ i ∈ ix, i ∈ own.map (·.2))
    (hg : ∀ (s : Shared) (H : Hp) (C : Addr) (cl : List (Str × Addr)) (fp : List Addr) (p : Addr), DG (F.push p) (X.blk s H scope (compEnvC scope cl C X.env) fp) tg ix g)
    (ht : ∀ (s : Shared) (H : Hp) (C : Addr) (cl : List (Str × Addr)) (fp : List Addr) (p : Addr), DTs (F.push p) (X.blk s H scope (compEnvC scope cl C X.env) fp) W0 ifs ft)
    (he : ∀ (s : Shared) (H : Hp) (C : Addr) (cl : List (Str × Addr)) (fp : List Addr) (p : Addr), DE (F.push p) (X.blk s H scope (compEnvC scope cl C X.env) fp) W0 e fe) (hs : ∀ x, foldedSetIterable it X.env x = pure x := by intro _; rfl) :
    DS F X W (.Assign [.Name y py] (.ListComp e [⟨tg, it, ifs, 0⟩] scope pos) spos) (sSet i (dOfF (fComp (own.map (·.2)) fi g ft fe))) := by
  obtain ⟨wi, pi, ri⟩ := hi.ex
  refine ⟨_, ps_setLc (g := fun v σ H Q => ∃ p ρ L d ρ', StR X.K (F.push p) σ H ρ L ∧ Den X.K F.fa H ((F.push p).bad L) d v ∧ g d ρ = some ρ' ∧ ∀ σ', StR X.K (F.push p) σ' H ρ' L → Chg ix σ σ' → Q σ' H) (tt := fun σ H Q => ∃ p ρ L, StR X.K (F.push p) σ H ρ L ∧ PostT X.K (F.push p) W0 σ H L (ft ρ) Q) (te := fun σ H Q => ∃ p ρ L, StR X.K (F.push p) σ H ρ L ∧ PostE X.K (F.push p) W0 σ H L (fe ρ) Q) hc hN hy hyl hsw pi ok (fun s H C cl fp => DG.can (hg s H C cl fp)) (fun s H C cl fp => DTs.can (ht s H C cl fp)) (fun s H C cl fp => DE.can (he s H C cl fp)) hs, fun En σ H ρ L st P => ?_⟩
  refine comp_read (W := W) ri hix st ?_
  unfold sSet dOfF at P
  cases e1 : fComp (own.map (·.2)) fi g ft fe ρ with
  | exc k ρ1 => rw [e1] at P; exact fun H1 La st1 s1 => P σ H1 La st1 s1
  | stuck => rw [e1] at P; exact P
  | ok z =>
    obtain ⟨xs, ρ1⟩ := z
    rw [e1] at P
    intro p us H1 La st1 s1 hp dn
    exact P _ _ La ((st1.same (Same.upd hp)).setV i (newLst st1.bd hp dn)) (s1.trans (Step.same (Same.upd hp)))
theorem ds_setLcO {scope : Scope} {own : List (Str × Nat)} {i : Nat} {y : Str} {py spos : Pos} (hc : X.calm = true) (hN : X.N.Nodup) (hy : X.N[i]? = some y) (hyl : X.env.scope.names.lookup y = some .local) (hsw : swapsWith (.ListComp e [⟨tg, it, ifs, 0⟩] scope pos) (some (.Name y py)) spos.line X.env = pure true)
    (hi : DI F X W tg it fi) (ok : BlkOk X.N X.env.scope scope own) (hix : ∀ i ∈ ix, i ∈ own.map (·.2))
    (hg : ∀ (s : Shared) (H : Hp) (C : Addr) (cl : List (Str × Addr)) (fp : List Addr) (p : Addr), DG (F.push p) (X.blk s H scope (compEnvC scope cl C X.env) fp) tg ix g)
    (ht : ∀ (s : Shared) (H : Hp) (C : Addr) (cl : List (Str × Addr)) (fp : List Addr) (p : Addr), DTs (F.push p) (X.blk s H scope (compEnvC scope cl C X.env) fp) W0 ifs ft)
    (he : ∀ (s : Shared) (H : Hp) (C : Addr) (cl : List (Str × Addr)) (fp : List Addr) (p : Addr), DE (F.push p) (X.blk s H scope (compEnvC scope cl C X.env) fp) W0 e fe) (hs : ∀ x, foldedSetIterable it X.env x = pure x := by intro _; rfl) :
    DS F X W (.Assign [.Name y py] (.ListComp e [⟨tg, it, ifs, 0⟩] scope pos) spos) (sSetO i (fComp (own.map (·.2)) fi g ft fe)) := by
  obtain ⟨wi, pi, ri⟩ := hi.ex
  refine ⟨_, ps_setLc (g := fun v σ H Q => ∃ p ρ L d ρ', StR X.K (F.push p) σ H ρ L ∧ Den X.K F.fa H ((F.push p).bad L) d v ∧ g d ρ = some ρ' ∧ ∀ σ', StR X.K (F.push p) σ' H ρ' L → Chg ix σ σ' → Q σ' H) (tt := fun σ H Q => ∃ p ρ L, StR X.K (F.push p) σ H ρ L ∧ PostT X.K (F.push p) W0 σ H L (ft ρ) Q) (te := fun σ H Q => ∃ p ρ L, StR X.K (F.push p) σ H ρ L ∧ PostE X.K (F.push p) W0 σ H L (fe ρ) Q) hc hN hy hyl hsw pi ok (fun s H C cl fp => DG.can (hg s H C cl fp)) (fun s H C cl fp => DTs.can (ht s H C cl fp)) (fun s H C cl fp => DE.can (he s H C cl fp)) hs, fun En σ H ρ L st P => ?_⟩
  refine comp_read (W := W) ri hix st ?_
  unfold sSetO at P
  cases e1 : fComp (own.map (·.2)) fi g ft fe ρ with
  | exc k ρ1 => rw [e1] at P; exact fun H1 La st1 s1 => P σ H1 La st1 s1
  | stuck => rw [e1] at P; exact P
  | ok z =>
    obtain ⟨xs, ρ1⟩ := z
    rw [e1] at P
    intro p us H1 La st1 s1 hp dn
    obtain ⟨st2, s2⟩ := st1.fresh i hp dn
    exact P _ _ _ st2 (s1.trans s2)
end
end DL

namespace DL
open PySem PySem.Spec PyProof.Rows L2
open LamX (Tabs)

/-! ### what a def promises -/
inductive Out where
  | ok (d : D) | exc (k : Nat) | stuck
inductive OutB where
  | ok (d : D) (xs : List D) | stuck
structure Kp (T : List (Addr × Str)) (H H' : Hp) : Prop where
  keep : ∀ b o, H b = some o → NT o → H' b = some o
  tr : ∀ b, Nn H' b → Nn H b
  tb : Tabs T H'
structure KpB (T : List (Addr × Str)) (p : Addr) (H H' : Hp) : Prop where
  keep : ∀ b o, H b = some o → b ≠ p → NT o → H' b = some o
  tr : ∀ b, Nn H' b → Nn H b
  tb : Tabs T H'
def PostU (K : Frag) (fa : Nat → Addr) (T : List (Addr × Str)) (B : List Addr) (H : Hp) (Q : VK) (E : XK) : Out → Prop
  | .ok d => ∀ v H', Kp T H H' → Den K fa H' B d v → Q v H'
  | .exc k => ∀ H', Kp T H H' → E (.ref (fa k)) none H'
  | .stuck => False
def spN (K : Frag) (fa : Nat → Addr) (T : List (Addr × Str)) (n : Nat) (g : List D → Out) : Sp := fun vs H Q E =>
  ∃ ds B, ds.length = n ∧ DenL K fa H B ds vs ∧ (∀ b ∈ B, ∃ us, H b = some (.lst us)) ∧ Tabs T H ∧ PostU K fa T B H Q E (g ds)
def PostB (K : Frag) (fa : Nat → Addr) (T : List (Addr × Str)) (p : Addr) (B : List Addr) (H : Hp) (Q : VK) : OutB → Prop
  | .ok d ys => ∀ v H' ws, KpB T p H H' → H' p = some (.lst ws) → DenL K fa H' (p :: B) ys ws → Den K fa H' (p :: B) d v → Q v H'
  | .stuck => False
def spB (K : Frag) (fa : Nat → Addr) (T : List (Addr × Str)) (n : Nat) (g : List D → List D → OutB) : Sp := fun vs H Q _ =>
  ∃ p us xs ds B vs', vs = .ref p :: vs' ∧ ds.length = n ∧ H p = some (.lst us) ∧ p ∉ B ∧ DenL K fa H (p :: B) xs us ∧ DenL K fa H (p :: B) ds vs' ∧ (∀ b ∈ B, ∃ us, H b = some (.lst us)) ∧ Tabs T H ∧ PostB K fa T p B H Q (g xs ds)
theorem Den.mono {K : Frag} {fa : Nat → Addr} {H : Hp} {B B' : List Addr} {d : D} {v : V} (h : ∀ b ∈ B', b ∈ B) (l : ∀ b ∈ B, ∃ us, H b = some (.lst us)) (r : Den K fa H B d v) : Den K fa H B' d v :=
  Den.carry ⟨fun _ _ e _ _ => e, fun b m => .inl (h b m), l⟩ d v r
theorem DenL.mono {K : Frag} {fa : Nat → Addr} {H : Hp} {B B' : List Addr} {d : List D} {v : List V} (h : ∀ b ∈ B', b ∈ B) (l : ∀ b ∈ B, ∃ us, H b = some (.lst us)) (r : DenL K fa H B d v) : DenL K fa H B' d v :=
  DenL.carry ⟨fun _ _ e _ _ => e, fun b m => .inl (h b m), l⟩ d v r

/-! ### the body keeps the promise -/
def valsR (N : Nat) (ds : List D) : Rho := ds.map (fun d => some (.val d)) ++ List.replicate (N - ds.length) none
def rawN (N : Nat) (body : DSf) (ds : List D) : Out := match body (valsR N ds) with
  | .ret d _ => .ok d
  | .next _ => .ok .non
  | .exc k _ => .exc k
  | _ => .stuck
def bor0 (ρ : Rho) : Option (List D) := match ρ with
  | some (.bor ys) :: _ => some ys
  | _ => none
def rawB (N : Nat) (body : DSf) (xs ds : List D) : OutB := match body (some (.bor xs) :: valsR (N - 1) ds) with
  | .ret d ρ => (match bor0 ρ with
    | some ys => .ok d ys
    | none => .stuck)
  | .next ρ => (match bor0 ρ with
    | some ys => .ok .non ys
    | none => .stuck)
  | _ => .stuck
section
variable {K : Frag} {fa : Nat → Addr} {T : List (Addr × Str)} {H : Hp} {B : List Addr}
abbrev frm (fa : Nat → Addr) (T : List (Addr × Str)) (H : Hp) (B : List Addr) : Fm := ⟨fa, T, H, B, [], fun _ => 0, 0⟩
abbrev frmB (fa : Nat → Addr) (T : List (Addr × Str)) (H : Hp) (B : List Addr) (p : Addr) : Fm := ⟨fa, T, H, B, [0], fun _ => p, 0⟩
theorem valsR_len {N : Nat} {ds : List D} (h : ds.length ≤ N) : (valsR N ds).length = N := by
  unfold valsR
  rw [List.length_append, List.length_map, List.length_replicate]
  omega
theorem valsR_get {N i : Nat} {ds : List D} {s : Slot} (h : (valsR N ds)[i]? = some (some s)) : ∃ d, ds[i]? = some d ∧ s = .val d := by
  unfold valsR at h
  rw [List.getElem?_append] at h
  split at h
  · rw [List.getElem?_map] at h
    cases e : ds[i]? with
    | none => rw [e] at h; cases h
    | some d =>
      rw [e] at h
      injection h with h
      injection h with h
      exact ⟨d, rfl, h.symm⟩
  · rw [List.getElem?_replicate] at h
    split at h
    · injection h with h; cases h
    · cases h
theorem start_get {N : List Str} {vs : List V} {i : Nat} {v : V} (h : vs[i]? = some v) : (L2.start N vs)[i]? = some (some v) := by
  unfold L2.start
  have hl : i < vs.length := by
    rw [List.getElem?_eq_some_iff] at h
    exact h.1
  rw [List.getElem?_append_left (by rw [List.length_map]; exact hl), List.getElem?_map, h] <;> rfl
theorem str_start {N : List Str} {ds : List D} {vs : List V} (hn : ds.length ≤ N.length) (hd : DenL K fa H B ds vs) (hb : ∀ b ∈ B, ∃ us, H b = some (.lst us)) (ht : Tabs T H) :
    StR K (frm fa T H B) (L2.start N vs) H (valsR N.length ds) [] where
  len := by
    rw [valsR_len hn]
    unfold L2.start
    rw [List.length_append, List.length_map, List.length_replicate, ← hd.length]
    omega
  sl := fun i s e => by
    obtain ⟨d, e1, rfl⟩ := valsR_get e
    obtain ⟨v, e2, r⟩ := hd.get e1
    exact ⟨v, start_get e2, r⟩
  di := fun i j xs ys a e _ _ _ => by
    obtain ⟨d, _, z⟩ := valsR_get e
    cases z
  bd := hb
  ld := fun _ m => nomatch m
  pj := fun _ m => nomatch m
  pb := fun _ m => nomatch m
  en := fun _ _ e _ _ => e
  tr := fun _ e => e
  tb := ht
theorem str_startB {N : List Str} {p : Addr} {us : List V} {xs ds : List D} {vs : List V} (hn : ds.length + 1 ≤ N.length) (hp : H p = some (.lst us)) (hpB : p ∉ B) (hx : DenL K fa H (p :: B) xs us) (hd : DenL K fa H (p :: B) ds vs) (hb : ∀ b ∈ B, ∃ us, H b = some (.lst us)) (ht : Tabs T H) :
    StR K (frmB fa T H B p) (L2.start N (.ref p :: vs)) H (some (.bor xs) :: valsR (N.length - 1) ds) [] where
  len := by
    rw [List.length_cons, valsR_len (by omega)]
    unfold L2.start
    rw [List.length_append, List.length_map, List.length_replicate, List.length_cons, ← hd.length]
    omega
  sl := fun i s e => by
    cases i with
    | zero =>
      cases e
      exact ⟨.ref p, rfl, us, rfl, List.mem_cons_self, hp, hx⟩
    | succ i =>
      rw [List.getElem?_cons_succ] at e
      obtain ⟨d, e1, rfl⟩ := valsR_get e
      obtain ⟨v, e2, r⟩ := hd.get e1
      exact ⟨v, start_get (by rw [List.getElem?_cons_succ]; exact e2), r⟩
  di := fun i j xs ys a e _ _ _ => by
    cases i with
    | zero => cases e
    | succ i =>
      rw [List.getElem?_cons_succ] at e
      obtain ⟨d, _, z⟩ := valsR_get e
      cases z
  bd := fun b m => by
    rcases List.mem_cons.mp (show b ∈ p :: B from m) with rfl | m
    · exact ⟨us, hp⟩
    · exact hb b m
  ld := fun _ m => nomatch m
  pj := fun i hi j hj _ => by rw [List.mem_singleton.mp hi, List.mem_singleton.mp hj]
  pb := fun _ _ => hpB
  en := fun _ _ e _ _ => e
  tr := fun _ e => e
  tb := ht
end
/-- a def of the program, found by its name -/
structure DefN (P : Program) (w : World) (K : Frag) (mg : Str → Option Value) (base : Heap) (k : Nat) (fa : Nat → Addr) (T : List (Addr × Str)) (x : Str) (n : Nat) (g : List D → Out) : Prop where
  ex : ∃ f fd ps, mg x = some (.ref f) ∧ FnOk P w K mg base (L2N.CX P w) k f fd ps (spN K fa T n g) ∧ PySem.W.keepIn K (.ref f) = true ∧ Binds K fd ps []
structure DefB (P : Program) (w : World) (K : Frag) (mg : Str → Option Value) (base : Heap) (k : Nat) (fa : Nat → Addr) (T : List (Addr × Str)) (x : Str) (n : Nat) (g : List D → List D → OutB) : Prop where
  ex : ∃ f fd ps, mg x = some (.ref f) ∧ FnOk P w K mg base (L2N.CX P w) k f fd ps (spB K fa T n g) ∧ PySem.W.keepIn K (.ref f) = true ∧ Binds K fd ps []
/-- what a def lets out -/
abbrev WO (E : XK) : WX := fun cls d _ H => E cls d H
section
variable {P : Program} {w : World} {K : Frag} {mg : Str → Option Value} {base : Heap} {j k n : Nat} {fa : Nat → Addr} {T : List (Addr × Str)} {x : Str} {g : List D → Out} {gB : List D → List D → OutB}
theorem DefN.mono (h : DefN P w K mg base j fa T x n g) (hk : j ≤ k) : DefN P w K mg base k fa T x n g := by
  obtain ⟨f, fd, ps, e, F, h1, h2⟩ := h.ex
  exact ⟨f, fd, ps, e, F.mono hk, h1, h2⟩
theorem DefB.mono (h : DefB P w K mg base j fa T x n gB) (hk : j ≤ k) : DefB P w K mg base k fa T x n gB := by
  obtain ⟨f, fd, ps, e, F, h1, h2⟩ := h.ex
  exact ⟨f, fd, ps, e, F.mono hk, h1, h2⟩
theorem Kp.of {H H' : Hp} {B L : List Addr} {σ : L2.St} {ρ : Rho} (st : StR K (frm fa T H B) σ H' ρ L) (s : Step (frm fa T H B) H [] H' L) : Kp T H H' :=
  ⟨fun b o e nt => s.keep b o e (fun m => nomatch m) (fun m => nomatch m) nt, s.tr, st.tb⟩
theorem KpB.of {H H' : Hp} {B L : List Addr} {p : Addr} {σ : L2.St} {ρ : Rho} (st : StR K (frmB fa T H B p) σ H' ρ L) (s : Step (frmB fa T H B p) H [] H' L) : KpB T p H H' :=
  ⟨fun b o e hp nt => s.keep b o e (fun m => nomatch m) (fun m => hp (List.mem_singleton.mp (show b ∈ [p] from m))) nt, s.tr, st.tb⟩
theorem rawN_post {N : List Str} {body : DSf} {ds : List D} {B : List Addr} {H : Hp} {Q : VK} {E : XK} (P : PostU K fa T B H Q E (rawN N.length body ds)) :
    PostS K (frm fa T H B) (WO E) { nx := fun _ H' => Q .non H', rt := Q } H [] (body (valsR N.length ds)) := by
  unfold rawN at P
  cases e : body (valsR N.length ds) with
  | next ρ => rw [e] at P; exact fun σ' H' L' st s => P .non H' (Kp.of st s) .non
  | ret d ρ => rw [e] at P; exact fun v σ' H' L' st s dn => P v H' (Kp.of st s) (dn.mono (fun b m => List.mem_append_right _ (List.mem_append_right _ m)) st.bd)
  | brk ρ => rw [e] at P; exact P.elim
  | cont ρ => rw [e] at P; exact P.elim
  | exc k ρ => rw [e] at P; exact fun σ' H' L' st s => P H' (Kp.of st s)
  | stuck => rw [e] at P; exact P.elim
theorem fnN_of {N ps : List Str} {params : Arguments} {body : List Stmt} {scope : Scope} {f : Addr} {fd : FuncData} {fb : DSf} (FD : FunD K x x params body scope [] [] f fd) (S : FnScope N ps scope) (hn : ps.length = n) (hN : n ≤ N.length)
    (h : ∀ (cdv : Value) (A : Around) (outer : List Env) (s : Shared) (H : Hp) (E : XK) (H0 : Hp) (B : List Addr), Room k (A.deeper (envOfC x scope s.heap.objs.size f cdv)) → DSs (frm fa T H0 B) (cxOf (L2N.CX P w) P w K mg base N x scope f cdv A outer s H E) (WO E) body fb) :
    FnOk P w K mg base (L2N.CX P w) (k + 1) f fd ps (spN K fa T n (rawN N.length fb)) := by
  refine FD.ok S (fun vs H Q E h => ?_) (fun cdv A outer s H vs Q E hr hsp => ?_)
  · obtain ⟨ds, B, h1, h2, _⟩ := h
    rw [← h2.length, h1, hn]
  · obtain ⟨ds, B, h1, h2, h3, h4, h5⟩ := hsp
    obtain ⟨t, p, r⟩ := (h cdv A outer s H E H B hr).ex
    exact ⟨t, p, r _ _ _ _ _ (str_start (by rw [h1]; exact hN) h2 h3 h4) (rawN_post h5)⟩
theorem DefN.of {N ps : List Str} {params : Arguments} {body : List Stmt} {scope : Scope} {f : Addr} {fd : FuncData} {fb : DSf} (FD : FunD K x x params body scope [] [] f fd) (hm : mg x = some (.ref f)) (S : FnScope N ps scope) (hb : Binds K fd ps []) (hn : ps.length = n) (hN : n ≤ N.length)
    (h : ∀ (cdv : Value) (A : Around) (outer : List Env) (s : Shared) (H : Hp) (E : XK) (H0 : Hp) (B : List Addr), Room k (A.deeper (envOfC x scope s.heap.objs.size f cdv)) → DSs (frm fa T H0 B) (cxOf (L2N.CX P w) P w K mg base N x scope f cdv A outer s H E) (WO E) body fb) :
    DefN P w K mg base (k + 1) fa T x n (rawN N.length fb) := ⟨f, fd, ps, hm, fnN_of FD S hn hN h, FD.kp, hb⟩
theorem bor0_get {ρ : Rho} {ys : List D} (h : bor0 ρ = some ys) : ρ[0]? = some (some (.bor ys)) := by
  unfold bor0 at h
  split at h
  · cases h; rfl
  · cases h
theorem rawB_post {N : List Str} {body : DSf} {xs ds : List D} {B : List Addr} {p : Addr} {H : Hp} {Q : VK} {E : XK} (P : PostB K fa T p B H Q (rawB N.length body xs ds)) :
    PostS K (frmB fa T H B p) (WO E) { nx := fun _ H' => Q .non H', rt := Q } H [] (body (some (.bor xs) :: valsR (N.length - 1) ds)) := by
  have fin : ∀ {ρ : Rho} {d : D} {v : V} {σ' : L2.St} {H' : Hp} {L' : List Addr}, PostB K fa T p B H Q (match bor0 ρ with
      | some ys => .ok d ys
      | none => .stuck) → StR K (frmB fa T H B p) σ' H' ρ L' → Step (frmB fa T H B p) H [] H' L' → Den K fa H' ((frmB fa T H B p).bad L') d v → Q v H' := fun {ρ d v σ' H' L'} P st s dn => by
    cases e : bor0 ρ with
    | none => rw [e] at P; exact P.elim
    | some ys =>
      rw [e] at P
      obtain ⟨v0, e1, us, rfl, hi, hl, hd⟩ := st.sl 0 _ (bor0_get e)
      have mn : ∀ b ∈ p :: B, b ∈ (frmB fa T H B p).bad L' := fun b m => List.mem_append_right _ m
      exact P v H' us (KpB.of st s) hl (hd.mono mn st.bd) (dn.mono mn st.bd)
  unfold rawB at P
  cases e : body (some (.bor xs) :: valsR (N.length - 1) ds) with
  | next ρ => rw [e] at P; exact fun σ' H' L' st s => fin P st s .non
  | ret d ρ => rw [e] at P; exact fun v σ' H' L' st s dn => fin P st s dn
  | brk ρ => rw [e] at P; exact P.elim
  | cont ρ => rw [e] at P; exact P.elim
  | exc k ρ => rw [e] at P; exact P.elim
  | stuck => rw [e] at P; exact P.elim
theorem DefB.of {N ps : List Str} {params : Arguments} {body : List Stmt} {scope : Scope} {f : Addr} {fd : FuncData} {fb : DSf} (FD : FunD K x x params body scope [] [] f fd) (hm : mg x = some (.ref f)) (S : FnScope N ps scope) (hb : Binds K fd ps []) (hn : ps.length = n + 1) (hN : n + 1 ≤ N.length)
    (h : ∀ (cdv : Value) (A : Around) (outer : List Env) (s : Shared) (H : Hp) (E : XK) (H0 : Hp) (B : List Addr) (p : Addr), Room k (A.deeper (envOfC x scope s.heap.objs.size f cdv)) → DSs (frmB fa T H0 B p) (cxOf (L2N.CX P w) P w K mg base N x scope f cdv A outer s H E) (WO E) body fb) :
    DefB P w K mg base (k + 1) fa T x n (rawB N.length fb) := by
  refine ⟨f, fd, ps, hm, FD.ok S (fun vs H Q E h => ?_) (fun cdv A outer s H vs Q E hr hsp => ?_), FD.kp, hb⟩
  · obtain ⟨p, us, xs, ds, B, vs', rfl, h1, _, _, _, h2, _⟩ := h
    rw [List.length_cons, ← h2.length, h1, hn]
  · obtain ⟨p, us, xs, ds, B, vs', rfl, h1, h2, h3, h4, h5, h6, h7, h8⟩ := hsp
    obtain ⟨t, pt, r⟩ := (h cdv A outer s H E H B p hr).ex
    exact ⟨t, pt, r _ _ _ _ _ (str_startB (by rw [h1]; exact hN) h2 h3 h4 h5 h6 h7) (rawB_post h8)⟩
end

/-! ### calls -/
def outR (o : Out) (ρ : Rho) : Res (Arg × Rho) := match o with
  | .ok d => .ok (.val d, ρ)
  | .exc k => .exc k ρ
  | .stuck => .stuck
def callK (n : Nat) (g : List D → Out) (as : List Arg) (ρ : Rho) : Res (Arg × Rho) := match frzL as ρ with
  | some (ds, ρ2) => if ds.length = n then outR (g ds) ρ2 else .stuck
  | none => .stuck
def dCall (n : Nat) (g : List D → Out) (fs : DAf) : DEf := fun ρ => (fs ρ).bind fun p => callK n g p.1 p.2
def dCall0 (g : List D → Out) : DEf := fun ρ => outR (g []) ρ
def callB (n : Nat) (g : List D → List D → OutB) (as : List Arg) (ρ : Rho) : Res (Arg × Rho) := match as with
  | .slot i :: as => (match frzL as ρ with
    | some (ds, ρ2) => if ds.length = n then (match ρ2.cont i with
      | some xs => (match g xs ds with
        | .ok d ys => .ok (.val d, ρ2.put i ys)
        | .stuck => .stuck)
      | none => .stuck) else .stuck
    | none => .stuck)
  | _ => .stuck
def dCallB (n : Nat) (g : List D → List D → OutB) (fs : DAf) : DEf := fun ρ => (fs ρ).bind fun p => callB n g p.1 p.2
section
variable {K : Frag} {F : Fm} {X : Cx} {W : WX} {e : Expr} {es : List Expr} {fs : DAf} {σ : L2.St} {H H1 H' : Hp} {ρ ρ1 : Rho} {L La : List Addr} {pos p : Pos} {k n i : Nat} {x : Str} {g : List D → Out} {gB : List D → List D → OutB}
/-- behind a call nothing of ours is changed -/
theorem StR.kp (st : StR K F σ H ρ L) (h : Kp F.T H H') : StR K F σ H' ρ L ∧ Step F H L H' L := by
  have s : Step F H L H' L := ⟨fun b o e _ _ nt => h.keep b o e nt, fun _ m => .inl m, h.tr⟩
  have c := st.carry s
  refine ⟨⟨st.len, fun i t e => ?_, st.di, fun b m => ?_, st.ld, st.pj, st.pb, fun b o e hn nt => h.keep b o (st.en b o e hn nt) nt, fun b e => st.tr b (h.tr b e), h.tb⟩, s⟩
  · obtain ⟨v, e1, r⟩ := st.sl i t e
    refine ⟨v, e1, ?_⟩
    cases t with
    | val d => exact Den.carry c d v r
    | own xs =>
      obtain ⟨a, us, e, m, ha, hl⟩ := r
      exact ⟨a, us, e, m, h.keep _ _ ha nt_lst, DenL.carry c xs us hl⟩
    | bor xs =>
      obtain ⟨us, e, m, ha, hl⟩ := r
      exact ⟨us, e, m, h.keep _ _ ha nt_lst, DenL.carry c xs us hl⟩
    | err k => exact r
  · obtain ⟨us, e⟩ := st.bd b m
    exact ⟨us, h.keep _ _ e nt_lst⟩
theorem spN_of (st : StR K F σ H ρ L) {as : List Arg} {vs : List V} {Q : VK} (ar : ArgsR K F σ H L as vs) (P : PostE K F W σ H L (callK n g as ρ) Q) : spN K F.fa F.T n g vs H Q (WE W σ) := by
  unfold callK at P
  split at P
  · rename_i ds ρ2 e1
    obtain ⟨Lc, st2, s2, dn⟩ := frzL_ok st ar e1
    split at P
    · rename_i hl
      refine ⟨ds, _, hl, dn, st2.bd, st2.tb, ?_⟩
      cases e2 : g ds with
      | ok d =>
        rw [e2] at P
        intro v H' kp dv
        obtain ⟨st3, s3⟩ := st2.kp kp
        exact P v H' Lc st3 (s2.trans s3) dv
      | exc k =>
        rw [e2] at P
        intro H' kp
        obtain ⟨st3, s3⟩ := st2.kp kp
        exact P H' Lc st3 (s2.trans s3)
      | stuck => rw [e2] at P; exact P.elim
    · exact P.elim
  · exact P.elim
theorem de_call (D : DefN X.prog X.w X.K X.mg X.base k F.fa F.T x n g) (tk : L2N.Takes X W) (hr : Room k X.A) (hg : Gl X x) (hs : DA F X W (e :: es) fs) (hdb : (x == ("__debug__" : Str)) = false := by decide)
    (he : starEach (e :: es) X.env = (false, eval e X.env) :: starEach es X.env := by rfl) (hpl : (backTo pos (starEach es X.env)).any (·.1) = false := by rfl) : DE F X W (.Call (.Name x p) (e :: es) [] pos) (dCall n g fs) := by
  obtain ⟨f, fd, ps, hm, FO, hk, hb⟩ := D.ex
  obtain ⟨ta, pa, ra⟩ := hs.ex
  refine ⟨_, pe_callS FO hr hg hm hk hb (L2N.passAt tk) pa hdb he hpl, fun σ H ρ L Q st P => ?_⟩
  exact ra _ _ _ _ _ st (PostE.ofBindA P fun as ρ1 vs H1 La _ st1 s1 ar P1 => spN_of st1 ar P1)
theorem de_call0 (D : DefN X.prog X.w X.K X.mg X.base k F.fa F.T x 0 g) (tk : L2N.Takes X W) (hr : Room k X.A) (hg : Gl X x) (hdb : (x == ("__debug__" : Str)) = false := by decide) : DE F X W (.Call (.Name x p) [] [] pos) (dCall0 g) := by
  obtain ⟨f, fd, ps, hm, FO, hk, hb⟩ := D.ex
  refine ⟨fun σ H Q => spN X.K F.fa F.T 0 g [] H Q (WE W σ), ⟨fun pins s σ H Q I h => ?_⟩, fun σ H ρ L Q st P => ?_⟩
  · refine wpAny_Call_Name_kw (ld_glob I hg hm ?_ hdb)
    exact PySem.W.callWith_K0 I.kIn hk (run_fnS (us := []) FO hr hb (L2N.passAt tk σ) I .nil h)
  · refine spN_of (as := []) (ρ := ρ) st .nil ?_
    exact P
theorem spB_of (st : StR K F σ H ρ L) {as : List Arg} {vs : List V} {Q : VK} {E : XK} (ar : ArgsR K F σ H L as vs) (P : PostE K F W σ H L (callB n gB as ρ) Q) : spB K F.fa F.T n gB vs H Q E := by
  unfold callB at P
  split at P
  · rename_i i as'
    split at P
    · rename_i ds ρ2 e1
      split at P
      · rename_i hl
        cases ar with
        | cons a1 a2 =>
          rename_i v0 vs'
          obtain ⟨Lc, st2, s2, dn⟩ := frzL_ok st a2 e1
          split at P
          · rename_i xs hc
            obtain ⟨a, us, e2, ha, hd, hm⟩ := st2.cont hc
            rw [show σ[i]? = some (some v0) from a1] at e2
            cases e2
            have mem : ∀ b, b ∈ a :: (F.bad Lc).filter (fun b => decide (b ≠ a)) ↔ b ∈ F.bad Lc := fun b => by
              constructor
              · intro m
                rcases List.mem_cons.mp m with rfl | m
                · exact hm
                · exact (List.mem_filter.mp m).1
              · intro m
                by_cases hb : b = a
                · rw [hb]; exact List.mem_cons_self
                · exact List.mem_cons_of_mem _ (List.mem_filter.mpr ⟨m, decide_eq_true hb⟩)
            have bd2 : ∀ b ∈ F.bad Lc, ∃ us, H b = some (.lst us) := st2.bd
            refine ⟨a, us, xs, ds, (F.bad Lc).filter (fun b => decide (b ≠ a)), vs', rfl, hl, ha, fun m => ?_, hd.mono (fun b m => (mem b).mp m) bd2, dn.mono (fun b m => (mem b).mp m) bd2, fun b m => bd2 b ((List.mem_filter.mp m).1), st2.tb, ?_⟩
            · have := (List.mem_filter.mp m).2
              simp at this
            · cases e3 : gB xs ds with
              | ok d ys =>
                rw [e3] at P
                intro v H' ws kp hw dy dv
                have bd3 : ∀ b ∈ a :: (F.bad Lc).filter (fun b => decide (b ≠ a)), ∃ us, H' b = some (.lst us) := fun b m => by
                  by_cases hb : b = a
                  · exact ⟨ws, by rw [hb]; exact hw⟩
                  · obtain ⟨us', e⟩ := bd2 b ((mem b).mp m)
                    exact ⟨us', kp.keep b _ e hb nt_lst⟩
                obtain ⟨st3, s3⟩ := st2.mut hc a1 kp.keep hw (dy.mono (fun b m => (mem b).mpr m) bd3) kp.tr kp.tb
                exact P v H' Lc st3 (s2.trans s3) (dv.mono (fun b m => (mem b).mpr m) bd3)
              | stuck => rw [e3] at P; exact P.elim
          · exact P.elim
      · exact P.elim
    · exact P.elim
  · exact P.elim
theorem de_callB (D : DefB X.prog X.w X.K X.mg X.base k F.fa F.T x n gB) (tk : L2N.Takes X W) (hr : Room k X.A) (hg : Gl X x) (hs : DA F X W (e :: es) fs) (hdb : (x == ("__debug__" : Str)) = false := by decide)
    (he : starEach (e :: es) X.env = (false, eval e X.env) :: starEach es X.env := by rfl) (hpl : (backTo pos (starEach es X.env)).any (·.1) = false := by rfl) : DE F X W (.Call (.Name x p) (e :: es) [] pos) (dCallB n gB fs) := by
  obtain ⟨f, fd, ps, hm, FO, hk, hb⟩ := D.ex
  obtain ⟨ta, pa, ra⟩ := hs.ex
  refine ⟨_, pe_callS FO hr hg hm hk hb (L2N.passAt tk) pa hdb he hpl, fun σ H ρ L Q st P => ?_⟩
  exact ra _ _ _ _ _ st (PostE.ofBindA P fun as ρ1 vs H1 La _ st1 s1 ar P1 => spB_of st1 ar P1)
/-! ### a def that a name of ours holds -/
def dCallL (i : Nat) (S : Nat → Option (Nat × (List D → Out))) (fs : DAf) : DEf := fun ρ => match ρ[i]? with
  | some (some (.val (.fn j))) => (match S j with
    | some (n, g) => dCall n g fs ρ
    | none => .stuck)
  | _ => .stuck
structure HeldN (X : Cx) (F : Fm) (k j n : Nat) (g : List D → Out) : Prop where
  ex : ∃ fd ps, FnOk X.prog X.w X.K X.mg X.base (L2N.CX X.prog X.w) k (F.fa j) fd ps (spN X.K F.fa F.T n g) ∧ PySem.W.keepIn X.K (.ref (F.fa j)) = true ∧ Binds X.K fd ps []
theorem DefN.held {j : Nat} (D : DefN X.prog X.w X.K X.mg X.base k F.fa F.T x n g) (h : X.mg x = some (.ref (F.fa j))) : HeldN X F k j n g := by
  obtain ⟨f, fd, ps, e, r⟩ := D.ex
  rw [h] at e
  cases e
  exact ⟨fd, ps, r⟩
theorem de_callL {S : Nat → Option (Nat × (List D → Out))} (A : ∀ j n g, S j = some (n, g) → HeldN X F k j n g) (tk : L2N.Takes X W) (hr : Room k X.A) (hN : X.N[i]? = some x) (hv : Vis X.env.scope x) (hs : DA F X W (e :: es) fs) (hdb : (x == ("__debug__" : Str)) = false := by decide) (hcd : (x == ("__classdict__" : Str)) = false := by decide)
    (he : starEach (e :: es) X.env = (false, eval e X.env) :: starEach es X.env := by rfl) (hpl : (backTo pos (starEach es X.env)).any (·.1) = false := by rfl) : DE F X W (.Call (.Name x p) (e :: es) [] pos) (dCallL i S fs) := by
  obtain ⟨ta, pa, ra⟩ := hs.ex
  refine ⟨fun σ H Q => ∃ j n g, σ[i]? = some (some (.ref (F.fa j))) ∧ S j = some (n, g) ∧ ta σ H fun vs H1 => spN X.K F.fa F.T n g vs H1 Q (WE W σ), ⟨fun pins s σ H Q I h => ?_⟩, fun σ H ρ L Q st P => ?_⟩
  · obtain ⟨j, n, g, hs, hS, ht⟩ := h
    obtain ⟨fd, ps, FO, hk, hb⟩ := (A j n g hS).ex
    refine wpAny_Call_Name_kw (thn ((pe_var (pos := p) hN hv hdb hcd).run pins s σ H (fun v H1 => v = .ref (F.fa j) ∧ H1 = H) I ⟨_, hs, rfl, rfl⟩) fun u s1 ⟨v, H1, I1, r1, q1⟩ => ?_)
    obtain ⟨rfl, rfl⟩ := q1
    cases r1
    refine PySem.W.callWith_K (h₀ := X.base) I.ok.mod.kin hk (thn (pa.run pos pins s1 σ _ _ I1 ht) fun us s2 ⟨vs, H2, I2, r, q⟩ => ⟨I2.kIn, ?_⟩) he hpl
    exact run_fnS FO hr hb (L2N.passAt tk σ) I2 r q
  · unfold dCallL at P
    split at P
    · rename_i j e1
      split at P
      · rename_i n g e2
        obtain ⟨v, e3, dv⟩ := st.sl i _ e1
        cases dv
        exact ⟨j, n, g, e3, e2, ra _ _ _ _ _ st (PostE.ofBindA P fun as ρ1 vs H1 La _ st1 s1 ar P1 => spN_of st1 ar P1)⟩
      · exact P.elim
    · exact P.elim
end
end DL

set_option maxHeartbeats 2000000
namespace DL
open PySem PySem.Spec PyProof.Rows L2
open LamX (Tabs)
open HotX (HotAt raiseNew_hot)

/-! ### iterators that end while an exception is handled -/
section
variable {prog : Program} {w : World} {A : Around} {E : Value → Shared → Prop} {s : Shared}
theorem hot_ne {x1 it : Addr} {o : Obj} {u v : Value} (hot : HotAt A x1 s.heap) (ho : s.heap.get? it = some o) (hd : o.data = .fields #[u, v]) : x1 ≠ it := fun z => by
  obtain ⟨_, o1, vs, h1, d1, c1⟩ := hot
  subst z
  rw [ho] at h1; cases h1
  rw [hd] at d1; cases d1
  simp at c1
theorem hot_end {x1 it : Addr} {h : Heap} {g : Obj → Obj} (hot : HotAt A x1 s.heap) (hne : x1 ≠ it) (he : h = s.heap.update it g) : HotAt A x1 h := by
  obtain ⟨hh, o1, vs, h1, d1, c1⟩ := hot
  exact ⟨hh, o1, vs, by rw [he, Heap.get?_update_other _ _ (Ne.symm hne)]; exact h1, d1, c1⟩
theorem list_end_hot {it l x1 : Addr} {i : Nat} {items} {Q : Option Value → Shared → Prop} (hot : HotAt A x1 s.heap) (hit : s.heap.IsListIter it l i) (hl : s.heap.IsList l items) (hx : items[i]? = none)
    (hQ : ∀ h', (∀ b o, b ≠ it → s.heap.get? b = some o → h'.get? b = some o) → Q none { s with heap := h' }) : wpAny (model prog w) A (pyNext (.ref it)) Q E s := by
  obtain ⟨o, ho, hc, hd⟩ := id hit
  obtain ⟨ol, hol, _, nl, hdl⟩ := hl
  have ne := hot_ne hot ho hd
  obtain ⟨hh, o1, vs1, h1, d1, c1⟩ := hot
  unfold pyNext
  refine wpAny_bind (wpAny_attempt (wpAny_callSpecial?_slot (name := Str.ofString "__next__") hit.typeIs slot_listiter_next (wpAny_call_entry slot_listiter_next hit.typeIs entry_listiter_next ?_ (args_listiter_next _))))
  show wpAny _ _ (field (.ref it) 0 >>= _) _ _ s; refine wpAny_bind (wpAny_field ho hd (x := .ref l) rfl ?_)
  show wpAny _ _ (if (Value.ref l == Value.none) = true then _ else _) _ _ s; rw [if_neg (show ¬ ((Value.ref l == Value.none) = true) from Bool.false_ne_true)]
  show wpAny _ _ (field (.ref it) 1 >>= _) _ _ s; refine wpAny_bind (wpAny_field ho hd (x := .int i 0) rfl ?_)
  show wpAny _ _ (seqItems? (.ref l) >>= _) _ _ s; refine wpAny_bind (wpAny_seqItems hol hdl ?_)
  simp only [Int.toNat_natCast, hx]; refine wpAny_bind (wpAny_rule (wpAny_bind (wpAny_setField ho hd (by simp) ?_)))
  show wpAny _ _ (newExc (.type "StopIteration") [] >>= _) _ _ _; refine wpAny_bind ?_
  simp only [newExc, newTuple]; refine wpAny_bind (wpAny_newObj_type ?_ (by size_fits))
  refine wpAny_bind (m := firstArgMember _ _) (wpAny_of_eq (a := Value.none) (by first | rfl | (simp only [firstArgMember]; rfl)) ?_); refine wpAny_newObj_type ?_ (by size_fits)
  have k1 : ∀ b u, b ≠ it → s.heap.get? b = some u → (s.heap.update it (Obj.mapFields (·.setIfInBounds 0 Value.none))).get? b = some u := fun b u hb e => by rw [Heap.get?_update_other _ _ (Ne.symm hb)]; exact e
  refine raiseNew_hot ⟨hh, o1, vs1, Heap.get?_push_of_some _ (Heap.get?_push_of_some _ (k1 _ _ ne h1)), d1, c1⟩ (Nat.ne_of_lt (Heap.lt_size (Heap.get?_push_of_some _ (k1 _ _ ne h1)))) (Heap.get?_push_size _ rfl) rfl (by first | (simp; done) | (simp; omega)) ?_
  refine wpAny_bind (wpAny_isInstance (T := "StopIteration") (b := true) ⟨_, Heap.get?_update_self _ (Heap.get?_push_size _ rfl) rfl, rfl⟩ isSubtype_stop ?_); refine wpAny_pure (hQ _ fun b u hb e => ?_)
  rw [Heap.get?_update_other _ _ (Nat.ne_of_gt (Heap.lt_size (Heap.get?_push_of_some _ (k1 b u hb e))))]; exact Heap.get?_push_of_some _ (Heap.get?_push_of_some _ (k1 b u hb e))
theorem tuple_end_hot {it t x1 : Addr} {i : Nat} {items} {Q : Option Value → Shared → Prop} (hot : HotAt A x1 s.heap) (hit : IsTupIter s.heap it t i) (ht : IsTup s.heap t items) (hx : items[i]? = none)
    (hQ : ∀ h', (∀ b o, b ≠ it → s.heap.get? b = some o → h'.get? b = some o) → Q none { s with heap := h' }) : wpAny (model prog w) A (pyNext (.ref it)) Q E s := by
  obtain ⟨o, ho, hc, hd⟩ := id hit
  obtain ⟨ol, hol, _, nl, hdl⟩ := ht
  have ne := hot_ne hot ho hd
  obtain ⟨hh, o1, vs1, h1, d1, c1⟩ := hot
  unfold pyNext
  refine wpAny_bind (wpAny_attempt (wpAny_callSpecial?_slot (name := Str.ofString "__next__") hit.typeIs slot_tupleiter_next (wpAny_call_entry slot_tupleiter_next hit.typeIs entry_tupleiter_next ?_ (args_tupleiter_next _))))
  show wpAny _ _ (field (.ref it) 0 >>= _) _ _ s; refine wpAny_bind (wpAny_field ho hd (x := .ref t) rfl ?_)
  show wpAny _ _ (if (Value.ref t == Value.none) = true then _ else _) _ _ s; rw [if_neg (show ¬ ((Value.ref t == Value.none) = true) from Bool.false_ne_true)]
  show wpAny _ _ (field (.ref it) 1 >>= _) _ _ s; refine wpAny_bind (wpAny_field ho hd (x := .int i 0) rfl ?_)
  show wpAny _ _ (seqItems? (.ref t) >>= _) _ _ s; refine wpAny_bind (wpAny_seqItems hol hdl ?_)
  simp only [Int.toNat_natCast, hx]; refine wpAny_bind (wpAny_rule (wpAny_bind (wpAny_setField ho hd (by simp) ?_)))
  show wpAny _ _ (newExc (.type "StopIteration") [] >>= _) _ _ _; refine wpAny_bind ?_
  simp only [newExc, newTuple]; refine wpAny_bind (wpAny_newObj_type ?_ (by size_fits))
  refine wpAny_bind (m := firstArgMember _ _) (wpAny_of_eq (a := Value.none) (by first | rfl | (simp only [firstArgMember]; rfl)) ?_); refine wpAny_newObj_type ?_ (by size_fits)
  have k1 : ∀ b u, b ≠ it → s.heap.get? b = some u → (s.heap.update it (Obj.mapFields (·.setIfInBounds 0 Value.none))).get? b = some u := fun b u hb e => by rw [Heap.get?_update_other _ _ (Ne.symm hb)]; exact e
  refine raiseNew_hot ⟨hh, o1, vs1, Heap.get?_push_of_some _ (Heap.get?_push_of_some _ (k1 _ _ ne h1)), d1, c1⟩ (Nat.ne_of_lt (Heap.lt_size (Heap.get?_push_of_some _ (k1 _ _ ne h1)))) (Heap.get?_push_size _ rfl) rfl (by first | (simp; done) | (simp; omega)) ?_
  refine wpAny_bind (wpAny_isInstance (T := "StopIteration") (b := true) ⟨_, Heap.get?_update_self _ (Heap.get?_push_size _ rfl) rfl, rfl⟩ isSubtype_stop ?_); refine wpAny_pure (hQ _ fun b u hb e => ?_)
  rw [Heap.get?_update_other _ _ (Nat.ne_of_gt (Heap.lt_size (Heap.get?_push_of_some _ (k1 b u hb e))))]; exact Heap.get?_push_of_some _ (Heap.get?_push_of_some _ (k1 b u hb e))
/-- a tuple is taken apart while an exception is handled -/
theorem apart_hot {t x1 : Addr} {items : Array Value} {env : Env} {elts : List Expr} {kx} {pos : Pos} {Q : Unit → Shared → Prop} (hot : HotAt A x1 s.heap) (ht : IsTup s.heap t items) (hn : (assignEach elts env).length = items.size) (hstar : (assignEach elts env).findIdx? (·.1) = none)
    (h : ∀ h', (∀ b o, s.heap.get? b = some o → h'.get? b = some o) → wpAny (model prog w) A (assignInOrder ((assignEach elts env).map (·.2)) items.toList) Q E { s with heap := h' }) :
    wpAny (model prog w) A (assign (.Tuple elts kx pos) env (.ref t)) Q E s := by
  have hlt : t < s.heap.objs.size := by
    obtain ⟨o, ho, _⟩ := ht
    exact Heap.lt_size ho
  rw [assign_Tuple]
  refine wpAny_bind (wpAny_standAt ?_)
  unfold unpack; rw [hn, hstar]
  refine wpAny_bind (wpAny_holding ?_)
  unfold unpackItems; refine wpAny_bind ?_
  unfold notIterableAtAll; refine wpAny_bind (wpAny_specialOf ht.typeIs slot_tuple_iter.lookup ?_)
  refine wpAny_pure ?_; simp only [Bool.false_eq_true, if_false]
  refine wpAny_bind (wpAny_holding (iter_tuple ht ?_)); refine wpAny_bind (wpAny_holding (draw_tuple (Nat.ne_of_lt hlt) items.size 0 _ _ ⟨_, Heap.get?_push_size _ rfl, rfl, rfl⟩ (ht.push _) (by omega) fun h₁ hit₁ hs₁ => ?_))
  have all : List.take items.size (List.drop 0 items.toList) = items.toList := by
    rw [List.drop_zero]
    exact List.take_of_length_le (by simp)
  rw [all]; rw [if_neg (by simp)]
  have old : ∀ b o, s.heap.get? b = some o → h₁.get? b = some o := fun b o e => hs₁.extBut b o (Nat.ne_of_lt (Heap.lt_size e)) (Heap.get?_push_of_some _ e)
  obtain ⟨hh, o1, vs1, h1, d1, c1⟩ := hot
  refine wpAny_bind (wpAny_holding (tuple_end_hot (x1 := x1) ⟨hh, o1, vs1, old _ _ h1, d1, c1⟩ hit₁ (ht.keeps old) (by simp) fun h₂ he₂ => ?_))
  simp only [Option.isSome_none, Bool.false_eq_true, if_false]
  exact wpAny_pure (h h₂ fun b o e => he₂ b o (Nat.ne_of_lt (Heap.lt_size e)) (old b o e))
end
/-- in this context an exception is handled; it stands, its own context None -/
def HotD (X : Cx) : Prop := ∃ a : Addr, ∀ pins σ H s, Inv X pins σ H s → HotAt X.A a s.heap
theorem pg_tupHot {X : Cx} {es : List Expr} {k : Nat} {t : TGs} {n : Nat} {pos : Pos} (hc : HotD X) (h : PGs X es t) (hn : (assignEach es X.env).length = n := by rfl) (hst : (assignEach es X.env).findIdx? (·.1) = none := by rfl) : PG X (.Tuple es k pos) (gTup X.K n t) := by
  obtain ⟨x1, hc⟩ := hc
  refine ⟨fun pins s σ H v u Q I r hw => ?_⟩
  obtain ⟨a, xs, rfl, hq, hl, hw⟩ := hw
  cases r
  obtain ⟨its, rv, ht, hz⟩ := I.tuple hq
  have el := rv.length
  refine apart_hot (hc pins σ H s I) ht (by rw [hn, List.size_toArray]; omega) hst fun h' hx => ?_
  have I1 : Inv X pins σ H { s with heap := h' } := I.kept (t' := s.toks) hx
  exact h.run pins _ σ H xs _ Q I1 (by simpa using rv) hw
end DL

set_option maxHeartbeats 2000000
namespace DL
open PySem PySem.Spec PyProof.Rows L2
open LamX (Tabs)
open HotX (HotAt)

/-! ### a comprehension over a list while an exception is handled -/
/-- the handled exception stands, outside of what the context changes -/
def HotS (X : Cx) : Prop := ∃ (x1 : Addr) (oe : Obj) (vs : Array Value), X.A.handled = some (.ref x1) ∧ oe.data = .fields vs ∧ vs[2]? = some .none ∧
  ∀ pins σ H s, Inv X pins σ H s → s.heap.get? x1 = some oe ∧ H x1 = none ∧ x1 ≠ X.env.locals ∧ x1 ∉ X.fs
theorem hotS_suite {X : Cx} {a : Addr} {oe : Obj} {pn : List (Addr × Obj)} {vs : Array Value} (hd : oe.data = .fields vs) (hc : vs[2]? = some .none) : HotS (X.suite a ((a, oe) :: pn)) :=
  ⟨a, oe, vs, rfl, hd, hc, fun pins σ H s I => by
    obtain ⟨h1, h2, h3, h4, _⟩ := I.pin (a, oe) (List.mem_append_left _ List.mem_cons_self)
    exact ⟨h1, h2, h3, h4⟩⟩
theorem lc_hot {X : Cx} {pins : List (Addr × Obj)} {s : Shared} {σ : L2.St} {H : Hp} {Q : VK} {elt tg iter : Expr} {ifs : List Expr} {scope : Scope} {own : List (Str × Nat)} {pos pos' : Pos} {tl : TE} {g : TG} {tt : TT} {te : TE} {use : Option (Value → Sem Unit)} {Qf : Value → Shared → Prop}
    (hot : HotS X) (hN : X.N.Nodup) (I : Inv X pins σ H s) (hl : PE X iter tl) (ok : BlkOk X.N X.env.scope scope own)
    (hg : ∀ (s : Shared) (H : Hp) (C : Addr) (cl : List (Str × Addr)) (fp : List Addr), HotD (X.blk s H scope (compEnvC scope cl C X.env) fp) → PG (X.blk s H scope (compEnvC scope cl C X.env) fp) tg g)
    (ht : ∀ (s : Shared) (H : Hp) (C : Addr) (cl : List (Str × Addr)) (fp : List Addr), HotD (X.blk s H scope (compEnvC scope cl C X.env) fp) → PTs (X.blk s H scope (compEnvC scope cl C X.env) fp) ifs tt)
    (he : ∀ (s : Shared) (H : Hp) (C : Addr) (cl : List (Str × Addr)) (fp : List Addr), HotD (X.blk s H scope (compEnvC scope cl C X.env) fp) → PE (X.blk s H scope (compEnvC scope cl C X.env) fp) elt te)
    (hs : ∀ x, foldedSetIterable iter X.env x = pure x) (h : tLc (iList X.K tl) g tt te (own.map (·.2)) σ H Q)
    (fin : ∀ D C s' m H', Inv X pins σ H' s' → Q (.ref D) H' → s'.heap.Ns C m → FpOk X pins H' C → compPost (model X.prog X.w) X.A X.xe use Qf (.ref D) C (.ok .next) s') :
    wpAny (model X.prog X.w) X.A (comprehension (.ListComp elt [⟨tg, iter, ifs, 0⟩] scope pos) scope X.env pos' (newList []) false (eval iter X.env) use) Qf X.xe s := by
  obtain ⟨x1, oe, vs1, hh, d1, c1, hot⟩ := hot
  have free : ∀ y ∈ scope.names, y.2 = .free → ∃ c, X.env.cells.lookup y.1 = some c := fun y hy e => (ok.free y hy e).elim (fun k => I.ok.has _ (.inl k)) fun k => I.ok.has _ (.inr k)
  refine wpAny_comprehension_free (use := use) rfl hs (closure_ok free) ok.kind (fun y hy e => by rw [ok.uniq y hy, e]) (thn (hl.run pins s σ H _ I h) fun xv s1 hx => ?_)
  obtain ⟨x0, H2, I1, r1, a, rfl, ⟨xs0, hq0⟩, q⟩ := hx
  cases r1
  obtain ⟨its0, rv0, p0, hz0⟩ := I1.list hq0
  refine wpAny_pyIter_list p0.isList ?_
  obtain ⟨it, hit⟩ : ∃ it, s1.heap.objs.size = it := ⟨_, rfl⟩
  obtain ⟨s2, hs2⟩ : ∃ s2 : Shared, ({ s1 with heap := s1.heap.push { cls := .type "list_iterator", data := .fields #[.ref a, .int 0 0] } } : Shared) = s2 := ⟨_, rfl⟩
  rw [hs2, hit]
  have I2 : Inv X pins σ H2 s2 := by
    rw [← hs2]
    exact I1.kept (t' := s1.toks) fun b o e => Heap.get?_push_of_some _ e
  have st2 : s2.heap.IsListIter it a 0 := by
    rw [← hs2, ← hit]
    exact ⟨_, Heap.get?_push_size _ rfl, rfl, rfl⟩
  have f2 : FpOk X pins H2 it := I1.fpOk (Nat.le_of_eq hit) (I1.hok.fresh (Nat.le_of_eq hit))
  have lt2 : it < s2.heap.objs.size := by
    obtain ⟨o, e, _⟩ := st2
    exact Heap.lt_size e
  refine wpAny_newObj_type (newEnv_comp ?_) (by show 0 ≤ sizeLine; decide)
  obtain ⟨D, hD⟩ : ∃ D, s2.heap.objs.size = D := ⟨_, rfl⟩
  rw [hD]
  have hDn : H2 D = none := I2.hok.fresh (Nat.le_of_eq hD)
  obtain ⟨W, ⟨m0, w0⟩, turn⟩ := q D hDn
  obtain ⟨s3, hs3⟩ : ∃ s3 : Shared, ({ s2 with heap := s2.heap.push { cls := .type "list", data := .seq ([] : List Value).toArray } } : Shared) = s3 := ⟨_, rfl⟩
  obtain ⟨H3, hH3⟩ : ∃ H3 : Hp, upd H2 D (.lst []) = H3 := ⟨_, rfl⟩
  have h3 : s3.heap = s2.heap.push { cls := .type "list", data := .seq ([] : List Value).toArray } := by rw [← hs3]
  have old3 : ∀ b o, s2.heap.get? b = some o → s3.heap.get? b = some o := fun b o e => by rw [h3]; exact Heap.get?_push_of_some _ e
  have I3 : Inv X pins σ H3 s3 := by
    rw [← hs3, ← hH3]
    refine I2.laid (t' := s2.toks) (fun b o e => Heap.get?_push_of_some _ e) (Nat.le_of_eq hD) ⟨Nat.zero_le _, [], 0, .nil, ?_⟩
    rw [← hD]
    exact Heap.get?_push_size _ rfl
  have itD : it ≠ D := by rw [← hD]; exact Nat.ne_of_lt lt2
  have nit3 : H3 it = none := by rw [← hH3, upd_ne itD]; exact f2.1
  have f3 : ∀ b ∈ [it], FpOk X pins H3 b ∧ b < s3.heap.objs.size := fun b hb => by
    rw [List.mem_singleton.mp hb]
    exact ⟨⟨nit3, f2.2⟩, by rw [h3, Heap.size_push]; exact Nat.lt_succ_of_lt lt2⟩
  have st3 : s3.heap.IsListIter it a 0 := st2.at fun o e => old3 _ o e
  obtain ⟨g3, n3, nl3, nf3⟩ := hot pins σ H3 s3 I3
  have hne : x1 ≠ it := fun z => by
    rw [z, ← hit] at g3
    have h1 := (hot pins σ H2 s1 I1).1
    rw [z, ← hit] at h1
    exact absurd (Heap.lt_size h1) (Nat.lt_irrefl _)
  have nst : x1 ∉ frs X.stack := fun m => (List.mem_cons.mp (I3.stkSub x1 m)).elim nl3 nf3
  have I4 := block_start I3 ok hN f3
  obtain ⟨cl, hcl⟩ : ∃ cl, cellsFrom (s3.heap.objs.size + 1) scope.names (cloFrom X.env.cells scope.names []) = cl := ⟨_, rfl⟩
  have hotB : HotD (X.blk s3 H3 scope (compEnvC scope cl s3.heap.objs.size X.env) [it]) := ⟨x1, fun pins' σ' H' s' I' => ⟨hh, oe, vs1, I'.base.keep x1 oe g3 n3 nst (fun m => hne (List.mem_singleton.mp m)), d1, c1⟩⟩
  have pg := hg s3 H3 s3.heap.objs.size cl [it] hotB
  have pt := ht s3 H3 s3.heap.objs.size cl [it] hotB
  have pe := he s3 H3 s3.heap.objs.size cl [it] hotB
  obtain ⟨ce, hce⟩ : ∃ ce, compEnvC scope cl s3.heap.objs.size X.env = ce := ⟨_, rfl⟩
  obtain ⟨s4, hs4⟩ : ∃ s4 : Shared, ({ s3 with heap := pushCells (s3.heap.push { cls := .type "dict", data := .dict #[] }) scope.names } : Shared) = s4 := ⟨_, rfl⟩
  rw [hcl, hce] at I4
  rw [hs4] at I4
  rw [hce] at hotB pg pt pe
  have cL : ce.locals = s3.heap.objs.size := by rw [← hce] <;> rfl
  have st4 : s4.heap.IsListIter it a 0 := st3.at fun o e => by rw [← hs4]; exact pushCells_keeps _ _ _ _ (Heap.get?_push_of_some _ e)
  have goal4 : codeAny (model X.prog X.w) X.A (.compStart (.ListComp elt [⟨tg, iter, ifs, 0⟩] scope pos) 0 (.ref it) (.ref D) ce) (compPost (model X.prog X.w) X.A X.xe use Qf (.ref D) s3.heap.objs.size) s4 := by
    obtain ⟨xo, hotI⟩ := hotB
    have fpk : ∀ {pins' : List (Addr × Obj)} {σ' : L2.St} {H' : Hp} {s' : Shared}, Inv (X.blk s3 H3 scope ce [it]) [] σ' H' s' → H' it = none → FpOk (X.blk s3 H3 scope ce [it]) [] H' it := fun {pins' σ' H' s'} I' hn =>
      have m : it ∈ [it] := List.mem_cons_self
      ⟨hn, (I'.ok.exf it m).1, I'.ok.exfs it m, .inl m, fun x c e => (I'.ok.exf it m).2 x c e, fun p hp => nomatch (show p ∈ ([] : List (Addr × Obj)) ++ [] from hp)⟩
    have loop : codeAny (model X.prog X.w) X.A (.compLoop (.ListComp elt [⟨tg, iter, ifs, 0⟩] scope pos) 0 (.ref it) (.ref D) ce) (compPost (model X.prog X.w) X.A X.xe use Qf (.ref D) s3.heap.objs.size) s4 := by
      refine compLoop_any (fun n s' => ∃ i H', Inv (X.blk s3 H3 scope ce [it]) [] (L2.wipe σ (own.map (·.2))) H' s' ∧ s'.heap.IsListIter it a i ∧ H' it = none ∧ W i n H') ?_ m0 ⟨0, H3, I4, st4, nit3, by rw [← hH3]; exact w0⟩
      rintro n s5 ⟨i, H5, I5, st5, n5, w5⟩
      obtain ⟨f0, fL, fF, fE, fC, fP⟩ := fpk (pins' := []) I5 n5
      rcases turn i n H5 w5 with ⟨⟨ys, hq, hle⟩, qq⟩ | ⟨⟨ys, y, hq, hy⟩, Nx, hNx, step⟩
      · obtain ⟨its, rv, p, hz⟩ := I5.list hq
        have el := rv.length
        refine list_end_hot (hotI _ _ _ _ I5) st5 p.isList (by simp; omega) fun h' eb => ?_
        have I6 : Inv (X.blk s3 H3 scope ce [it]) [] (L2.wipe σ (own.map (·.2))) H5 { s5 with heap := h' } := I5.turned (t' := s5.toks) eb f0 fL fE fC fP
        have I7 : Inv X pins σ H5 { s5 with heap := h' } := I3.call' (ch := [it]) I6.os I6.base I6.hok I6.bare fun b hb => by
          rw [List.mem_singleton.mp hb]
          exact ⟨f2.2.2.2.1, f2.2.1, f2.2.2.2.2.1, f2.2.2.2.2.2⟩
        have nC : H5 s3.heap.objs.size = none := by
          rw [← cL]
          exact I6.free
        obtain ⟨m, hn, _⟩ := I6.loc
        have hn : ({ s5 with heap := h' } : Shared).heap.Ns ce.locals m := hn
        rw [cL] at hn
        exact fin D s3.heap.objs.size _ m H5 I7 qq hn (I3.fpOk (Nat.le_refl _) nC)
      · obtain ⟨its, rv, p, hz⟩ := I5.list hq
        obtain ⟨u, hu, ru⟩ := rv.get hy
        refine wpAny_pyNext_list_item st5 p.isList (x := u) (by simpa using hu) fun h' st' sb => ?_
        have I6 : Inv (X.blk s3 H3 scope ce [it]) [] (L2.wipe σ (own.map (·.2))) H5 { s5 with heap := h' } := I5.turned (t' := s5.toks) (fun b o hb e => (sb.2 b hb).trans e) f0 fL fE fC fP
        obtain ⟨oi, ei, ci, di⟩ := id st'
        refine go_of (s := { s5 with heap := h' }) ei ci di (by decide) ?_
        obtain ⟨s7, hs7⟩ : ∃ s7 : Shared, ({ s5 with heap := h' } : Shared) = s7 := ⟨_, rfl⟩
        rw [hs7] at I6 ⊢
        have st7 : s7.heap.IsListIter it a (i + 1) := by rw [← hs7]; exact st'
        have e7 : s7.heap.get? it = some oi := by rw [← hs7]; exact ei
        have Ip := I6.pinned (fp := [it]) (fun b hb => by rw [List.mem_singleton.mp hb]; exact fpk (pins' := []) I6 n5) (fun b hb => ⟨oi, by rw [List.mem_singleton.mp hb]; exact e7, fun v z => by rw [di] at z; cases z⟩)
        refine thnF (pg.run _ s7 _ H5 y u _ Ip ru (step y H5 ⟨rfl, fun zs hzs => by rw [I5.list_inj hzs hq]; exact hy⟩)) fun _ s8 ⟨σ8, H8, I8, hw8, q8⟩ => ?_
        refine thnF (pt.run _ s8 σ8 H8 _ I8 q8) fun b s9 ⟨H9, I9, q9⟩ => ?_
        have back : ∀ {s' : Shared} {H' : Hp}, Inv (X.blk s3 H3 scope ce [it]) ([] ++ pinsAt [it] s7.heap) σ8 H' s' → Nx H' → ∃ m, m < n ∧ ∃ i H', Inv (X.blk s3 H3 scope ce [it]) [] (L2.wipe σ (own.map (·.2))) H' s' ∧ s'.heap.IsListIter it a i ∧ H' it = none ∧ W i m H' := fun {s' H'} I' nx => by
          obtain ⟨m', hm, w'⟩ := hNx H' nx
          obtain ⟨p1, p2, _⟩ := I'.pin (it, oi) (List.mem_append_right _ (List.mem_append_right _ (mem_pinsAt List.mem_cons_self e7)))
          have len8 : (L2.wipe σ (own.map (·.2))).length = σ8.length := by rw [← hw8, wipe_length]
          refine ⟨m', hm, i + 1, H', (I'.unpinned (pins := [])).weak len8 (fun j v e => ?_), st7.at fun o e => ?_, p2, w'⟩
          · rw [← hw8] at e; exact (wipe_some e).1
          · rw [e7] at e; cases e; exact p1
        cases b with
        | false =>
          simp only [Bool.false_eq_true, if_false] at q9 ⊢
          exact back I9 q9
        | true =>
          simp only [if_true] at q9 ⊢
          refine thnF (pe.run _ s9 σ8 H9 _ I9 q9) fun z s10 ⟨yv, H10, I10, r10, acc, hD10, hz10, nx⟩ => ?_
          exact app_ok (X := X.blk s3 H3 scope ce [it]) I10 hD10 hz10 r10 fun s11 I11 => back I11 nx
    exact codeAny_compStart_list loop (wpAny_pyIter_listiter st4 loop)
  rw [← hs4, ← hce, ← hcl] at goal4
  subst hs3
  exact goal4
/-- as a value -/
theorem pe_lcHot {X : Cx} {elt tg iter : Expr} {ifs : List Expr} {scope : Scope} {own : List (Str × Nat)} {pos : Pos} {tl : TE} {g : TG} {tt : TT} {te : TE} (hot : HotS X) (hN : X.N.Nodup) (hl : PE X iter tl) (ok : BlkOk X.N X.env.scope scope own)
    (hg : ∀ (s : Shared) (H : Hp) (C : Addr) (cl : List (Str × Addr)) (fp : List Addr), HotD (X.blk s H scope (compEnvC scope cl C X.env) fp) → PG (X.blk s H scope (compEnvC scope cl C X.env) fp) tg g)
    (ht : ∀ (s : Shared) (H : Hp) (C : Addr) (cl : List (Str × Addr)) (fp : List Addr), HotD (X.blk s H scope (compEnvC scope cl C X.env) fp) → PTs (X.blk s H scope (compEnvC scope cl C X.env) fp) ifs tt)
    (he : ∀ (s : Shared) (H : Hp) (C : Addr) (cl : List (Str × Addr)) (fp : List Addr), HotD (X.blk s H scope (compEnvC scope cl C X.env) fp) → PE (X.blk s H scope (compEnvC scope cl C X.env) fp) elt te)
    (hs : ∀ x, foldedSetIterable iter X.env x = pure x := by intro _; rfl) : PE X (.ListComp elt [⟨tg, iter, ifs, 0⟩] scope pos) (tLc (iList X.K tl) g tt te (own.map (·.2))) := by
  refine ⟨fun pins s σ H Q I h => ?_⟩
  rw [eval_ListComp]
  refine lc_hot hot hN I hl ok hg ht he hs h fun D C s' m H' I' q hn f => ⟨m, hn, fun h'' sb => ?_⟩
  obtain ⟨f0, f1, _, f3, f4, f5⟩ := f
  exact ⟨.ref D, H', I'.turned (t' := s'.toks) (fun b o hb e => (sb.2 b hb).trans e) f0 f1 f3 f4 f5, rfl, q⟩
/-- given to a name on one line -/
theorem ps_lcHot {X : Cx} {i : Nat} {y : Str} {py : Pos} {elt tg iter : Expr} {ifs : List Expr} {scope : Scope} {own : List (Str × Nat)} {pos spos : Pos} {tl : TE} {g : TG} {tt : TT} {te : TE} (hot : HotS X) (hN : X.N.Nodup) (hy : X.N[i]? = some y) (hyl : X.env.scope.names.lookup y = some .local)
    (hsw : swapsWith (.ListComp elt [⟨tg, iter, ifs, 0⟩] scope pos) (some (.Name y py)) spos.line X.env = pure true) (hl : PE X iter tl) (ok : BlkOk X.N X.env.scope scope own)
    (hg : ∀ (s : Shared) (H : Hp) (C : Addr) (cl : List (Str × Addr)) (fp : List Addr), HotD (X.blk s H scope (compEnvC scope cl C X.env) fp) → PG (X.blk s H scope (compEnvC scope cl C X.env) fp) tg g)
    (ht : ∀ (s : Shared) (H : Hp) (C : Addr) (cl : List (Str × Addr)) (fp : List Addr), HotD (X.blk s H scope (compEnvC scope cl C X.env) fp) → PTs (X.blk s H scope (compEnvC scope cl C X.env) fp) ifs tt)
    (he : ∀ (s : Shared) (H : Hp) (C : Addr) (cl : List (Str × Addr)) (fp : List Addr), HotD (X.blk s H scope (compEnvC scope cl C X.env) fp) → PE (X.blk s H scope (compEnvC scope cl C X.env) fp) elt te)
    (hs : ∀ x, foldedSetIterable iter X.env x = pure x := by intro _; rfl) : PS X (.Assign [.Name y py] (.ListComp elt [⟨tg, iter, ifs, 0⟩] scope pos) spos) (tAsg (tLc (iList X.K tl) g tt te (own.map (·.2))) (gName i)) := by
  refine ⟨fun pins s σ H En I h => ?_⟩
  rw [exec_Assign_Name_used _ _ _ _ hsw]
  refine wpAny_bind (wpAny_standAt (wpAny_bind ?_))
  show wpAny _ X.A (do let _ ← comprehension (.ListComp elt [⟨tg, iter, ifs, 0⟩] scope pos) scope X.env (firstIterPos [⟨tg, iter, ifs, 0⟩] pos) (newList []) false (eval iter X.env) (some (assign (.Name y py) X.env))) _ _ s
  have h0 : tLc (iList X.K tl) g tt te (own.map (·.2)) σ H (fun x H1 => gName i x σ H1 En.nx) := h
  refine wpAny_bind (thn (lc_hot (Qf := fun _ s' => SP X pins En .next s') hot hN I hl ok hg ht he hs h0 fun L C s' m H' I' q hn f => ?_) fun _ s' hq => wpAny_pure (wpAny_pure hq))
  obtain ⟨f0, f1, _, f3, f4, f5⟩ := f
  refine wpAny_assign_Name (store_ok2 (v := V.ref L) I' hN hy (.inl hyl) rfl (fun s2 I2 w2 => ?_) (.inr hyl))
  obtain ⟨a, sb, ha⟩ := w2
  have ne : C ≠ a := ha.elim (fun z => by rw [z]; exact f1) fun z => fun e => f4 y a z e.symm
  exact ⟨m, hn.sameBut sb ne, fun h9 sb9 => ⟨_, H', I2.turned (t' := s2.toks) (fun b o hb e => (sb9.2 b hb).trans e) f0 f1 f3 f4 f5, q⟩⟩
end DL

set_option maxHeartbeats 1000000
namespace DL
open PySem PySem.Spec PyProof.Rows L2
open LamX (Tabs)

/-! ### raise -/
/-- an own class of exceptions -/
structure ExcN (K : Frag) (mg : Str → Option Value) (fa : Nat → Addr) (x : Str) (j : Nat) : Prop where
  m : mg x = some (.ref (fa j))
  e : PySem.W.excIn K (fa j) He.veBase "ValueError.__new__" = true
  k : PySem.W.keepIn K (.ref (fa j)) = true
  b : PySem.W.subIn K (.ref (fa j)) (.type "BaseException") = some true
  t : PySem.W.typeIn K (.ref (fa j)) = some (.type "type")
theorem takesN0 {X : Cx} : L2N.Takes X W0 := fun u s' h => by
  obtain ⟨_, _, _, _, _, _, _, _, _, _, _, _, _, _, _, _, z⟩ := h
  exact z.elim
def sExc (k : Nat) : DSf := fun ρ => .exc k ρ
section
variable {F : Fm} {X : Cx} {W : WX} {x m : Str} {j k : Nat} {p p2 pos pos2 : Pos}
theorem ds_raise (E : ExcN X.K X.mg F.fa x k) (hc : X.calm = true) (tk : L2N.Takes X W) (hg : Gl X x) (hdb : (x == ("__debug__" : Str)) = false := by decide) : DS F X W (.Raise (some (.Call (.Name x p) [.Constant (.str m) j p2] [] pos)) none pos2) (sExc k) :=
  ⟨_, L2N.ps_raise hc tk (L2N.pmk_own PySem.F.excBase_ValueError E.e E.m E.k (raises_own E.b E.t) hg hdb), fun D σ H ρ L st P => P σ H L st .refl⟩
end

/-! ### try: .. except X as e: .. -/
def Fm.err (F : Fm) (a : Addr) : Fm := { F with ea := a }
def dropE (ρ : Rho) : Rho := ρ.map fun s => match s with
  | some (.err _) => none
  | s => s
theorem dropE_get {ρ : Rho} {i : Nat} {s : Slot} (h : (dropE ρ)[i]? = some (some s)) : ρ[i]? = some (some s) ∧ ∀ k, s ≠ .err k := by
  unfold dropE at h
  rw [List.getElem?_map, Option.map_eq_some_iff] at h
  obtain ⟨o, e, q⟩ := h
  cases o with
  | none => cases q
  | some t =>
    cases t with
    | err k => cases q
    | val d => cases q; exact ⟨e, fun k z => by cases z⟩
    | own d => cases q; exact ⟨e, fun k z => by cases z⟩
    | bor d => cases q; exact ⟨e, fun k z => by cases z⟩
theorem dropE_len (ρ : Rho) : (dropE ρ).length = ρ.length := List.length_map _
section
variable {K : Frag} {F : Fm} {σ : L2.St} {H : Hp} {ρ : Rho} {L : List Addr} {a : Addr}
theorem StR.reErr (st : StR K F σ H ρ L) : StR K (F.err a) σ H (dropE ρ) L := by
  refine ⟨by rw [dropE_len]; exact st.len, fun i s e => ?_, fun i j xs ys b hi hj => st.di i j xs ys b (dropE_get hi).1 (dropE_get hj).1, st.bd, st.ld, st.pj, st.pb, st.en, st.tr, st.tb⟩
  obtain ⟨e1, ne⟩ := dropE_get e
  obtain ⟨v, e2, r⟩ := st.sl i s e1
  refine ⟨v, e2, ?_⟩
  cases s with
  | err k => exact absurd rfl (ne k)
  | val d => exact r
  | own xs => exact r
  | bor xs => exact r
theorem StR.unErr (st : StR K (F.err a) σ H ρ L) : StR K F σ H (dropE ρ) L := by
  have := st.reErr (a := F.ea)
  exact this
theorem Step.unErr {H1 : Hp} {La : List Addr} (s : Step (F.err a) H L H1 La) : Step F H L H1 La := ⟨s.keep, s.more, s.tr⟩
theorem StR.setE (st : StR K (F.err a) σ H ρ L) (i k : Nat) : StR K (F.err a) (σ.set i (some (.ref a))) H (ρ.set i (some (.err k))) L := by
  refine ⟨by rw [List.length_set, List.length_set]; exact st.len, fun j s e => ?_, fun i1 j1 xs ys b hi hj e1 e2 => ?_, st.bd, st.ld, st.pj, st.pb, st.en, st.tr, st.tb⟩
  · by_cases hj : j = i
    · subst hj
      rcases get_set e with ⟨_, q⟩ | ⟨ne, _⟩
      · cases q
        have hl : j < σ.length := by
          rw [← st.len]
          rw [List.getElem?_eq_some_iff] at e
          simpa using e.1
        exact ⟨.ref a, List.getElem?_set_self hl, rfl⟩
      · exact absurd rfl ne
    · rcases get_set e with ⟨q, _⟩ | ⟨_, q⟩
      · exact absurd q hj
      · obtain ⟨v, e1, r⟩ := st.sl j s q
        exact ⟨v, by rw [List.getElem?_set_ne (Ne.symm hj)]; exact e1, r⟩
  · rcases get_set hi with ⟨_, q⟩ | ⟨n1, q1⟩
    · cases q
    · rcases get_set hj with ⟨_, q⟩ | ⟨n2, q2⟩
      · cases q
      · rw [List.getElem?_set_ne (Ne.symm n1)] at e1
        rw [List.getElem?_set_ne (Ne.symm n2)] at e2
        exact st.di i1 j1 xs ys b q1 q2 e1 e2
end
def clrF (i : Nat) : Fl → Fl
  | .next ρ => .next ((dropE ρ).set i none)
  | .brk ρ => .brk ((dropE ρ).set i none)
  | .cont ρ => .cont ((dropE ρ).set i none)
  | .ret d ρ => .ret d (dropE ρ)
  | _ => .stuck
def sTry (i : Nat) (cl : Nat → Option Bool) (fb : DSf) (fs : Nat → DSf) : DSf := fun ρ => match fb ρ with
  | .exc k ρ1 => (match cl k with
    | some true => clrF i (fs k ((dropE ρ1).set i (some (.err k))))
    | some false => .exc k ρ1
    | none => .stuck)
  | r => r
section
variable {F : Fm} {X : Cx} {W Wout : WX} {x n : Str} {c : Value} {i : Nat} {body suite : List Stmt} {b₀ : Stmt} {np pos pos' : Pos} {cl : Nat → Option Bool} {fb : DSf} {fs : Nat → DSf}
theorem DSs.can (h : DSs F X W body fb) : PSs X body (fun D σ H => ∃ ρ L, StR X.K F σ H ρ L ∧ PostS X.K F W D H L (fb ρ)) := by
  refine ⟨fun pins s σ H D I hq => ?_⟩
  obtain ⟨ρ, L, st, P⟩ := hq
  obtain ⟨t, pt, r⟩ := h.ex
  exact pt.run pins s σ H D I (r _ _ _ _ _ st P)
theorem ds_try (hs : X.stack = X.env :: X.outer) (hf : X.env.frame = some X.env.locals) (hN : X.N.Nodup) (hi : X.N[i]? = some n) (hln : X.env.kindOf n = some .local) (hc : Names X x c) (tk : L2N.Takes X Wout)
    (hcl : ∀ k b, cl k = some b → PySem.W.exmOne X.K (.ref (F.fa k)) c = some b)
    (hb : ∀ (W : WX) (pn : List (Addr × Obj)) (xe : Value → Shared → Prop), L2N.Takes (X.tr pn xe) W → PassesOwn (model X.prog X.w) X.A X.env xe → DSs F (X.tr pn xe) W body fb)
    (hsu : ∀ (a : Addr) (oe : Obj) (k : Nat) (pn : List (Addr × Obj)) (vs : Array Value), cl k = some true → L2N.Zn (.ref (F.fa k)) none oe → oe.data = .fields vs → vs[2]? = some .none → DSs (F.err a) (X.suite a ((a, oe) :: pn)) W0 (b₀ :: suite) (fs k)) :
    DS F X Wout (.Try body [.ExceptHandler (some (.Name x np)) (some n) (b₀ :: suite) pos'] [] [] pos) (sTry i cl fb fs) := by
  refine ⟨_, L2N.ps_try_as (tb := fun W D σ H => ∃ ρ L, StR X.K F σ H ρ L ∧ PostS X.K F W D H L (fb ρ)) (ts := fun a cls d D σ H => ∃ k ρ L, cls = .ref (F.fa k) ∧ d = none ∧ cl k = some true ∧ StR X.K (F.err a) σ H ρ L ∧ PostS X.K (F.err a) W0 D H L (fs k ρ))
    hs hf hN hi hln hc tk (fun W pn xe t p => (hb W pn xe t p).can) (fun a oe cls d pn hz hd => ?_), fun D σ H ρ L st P => ⟨ρ, L, st, ?_⟩⟩
  · refine ⟨fun pins s σ H D I hq => ?_⟩
    obtain ⟨k, ρ, L, rfl, rfl, hk, st, P⟩ := hq
    obtain ⟨vs, hv⟩ := hd
    exact ((hsu a oe k pn vs hk hz hv (hz.2.2 vs hv)).can).run pins s σ H D I ⟨ρ, L, st, P⟩
  · unfold sTry at P
    cases e : fb ρ with
    | next ρ1 => rw [e] at P; exact P
    | ret d ρ1 => rw [e] at P; exact P
    | brk ρ1 => rw [e] at P; exact P
    | cont ρ1 => rw [e] at P; exact P
    | stuck => rw [e] at P; exact P.elim
    | exc k ρ1 =>
      rw [e] at P
      dsimp only at P
      intro σ1 H1 L1 st1 s1
      cases e1 : cl k with
      | none => rw [e1] at P; exact P.elim
      | some b =>
        refine ⟨b, hcl k b e1, fun hb a na => ?_, fun hb => ?_⟩
        · subst hb
          rw [e1] at P
          dsimp only at P
          refine ⟨k, _, L1, rfl, rfl, e1, (st1.reErr (a := a)).setE i k, ?_⟩
          have P2 := PostS.trans s1 P
          cases e2 : fs k ((dropE ρ1).set i (some (.err k))) with
          | next ρ2 => rw [e2] at P2; exact fun σ2 H2 L2 st2 s2 => P2 _ H2 L2 (st2.unErr.setN i) s2.unErr
          | brk ρ2 => rw [e2] at P2; exact fun σ2 H2 L2 st2 s2 => P2 _ H2 L2 (st2.unErr.setN i) s2.unErr
          | cont ρ2 => rw [e2] at P2; exact fun σ2 H2 L2 st2 s2 => P2 _ H2 L2 (st2.unErr.setN i) s2.unErr
          | ret d ρ2 => rw [e2] at P2; exact fun v σ2 H2 L2 st2 s2 dn => P2 v _ H2 L2 st2.unErr s2.unErr dn
          | exc k2 ρ2 => rw [e2] at P2; exact P2.elim
          | stuck => rw [e2] at P2; exact P2.elim
        · subst hb
          rw [e1] at P
          exact P σ1 H1 L1 st1 s1
/-- isinstance(e, C), e the exception that is handled -/
def dIsE (i : Nat) (b : Bool) : DEf := fun ρ => match ρ[i]? with
  | some (some (.err _)) => .ok (.val (.bl b), ρ)
  | _ => .stuck
theorem de_isE {a : Addr} {oe : Obj} {pn : List (Addr × Obj)} {k j : Nat} {b : Bool} {y : Str} {vs : Array Value} {p1 p2 p3 p4 : Pos} (EC : ExcC X.K (F.fa k)) (hz : L2N.Zn (.ref (F.fa k)) none oe) (hd : oe.data = .fields vs) (hg : Gl X "isinstance") (hm : X.mg "isinstance" = none)
    (hi : X.N[i]? = some n) (hv : Vis X.env.scope n) (hgy : Gl X y) (hmy : X.mg y = some (.ref (F.fa j))) (hk : PySem.W.kitOne X.K (.ref (F.fa k)) (.ref (F.fa j)) = some b)
    (hdb : (n == ("__debug__" : Str)) = false := by decide) (hcd : (n == ("__classdict__" : Str)) = false := by decide) (hdy : (y == ("__debug__" : Str)) = false := by decide) :
    DE (F.err a) (X.suite a ((a, oe) :: pn)) W (.Call (.Name "isinstance" p1) [.Name n p2, .Name y p3] [] p4) (dIsE i b) := by
  have ha : PA (X.suite a ((a, oe) :: pn)) [.Name n p2, .Name y p3] (tCons (tVar i) (tCons (tC (.ref (F.fa j))) tNil)) := pa_cons (pe_var hi hv hdb hcd) (pa_cons (pe_glob (u := .ref (F.fa j)) hgy hmy rfl hdy) pa_nil)
  refine ⟨_, pe_callB (call_isE EC hz.zc ⟨vs, hd⟩) hg hm boot_isinstance ha, fun σ H ρ L Q st P => ?_⟩
  unfold dIsE at P
  split at P
  · rename_i k' e
    obtain ⟨v, e1, r⟩ := st.sl i _ e
    have r : v = .ref a := r
    subst r
    exact ⟨_, e1, _, _, b, rfl, fun u r => r, hk, P _ H L st .refl (.bl b)⟩
  · exact P.elim
end
/-! ### a comprehension while an exception is handled -/
section
variable {F : Fm} {X : Cx} {W : WX} {tg it c e : Expr} {tgs : List Expr} {ifs : List Expr} {fi : DEf} {g : DGf} {gs : List D → Rho → Option Rho} {ft : DTf} {fe : DEf} {pos : Pos} {n : Nat} {ix : List Nat}
theorem dg_tupHot {k : Nat} (hc : HotD X) (h : DGs F X tgs n ix gs) (hn : (assignEach tgs X.env).length = n := by rfl) (hst : (assignEach tgs X.env).findIdx? (·.1) = none := by rfl) : DG F X (.Tuple tgs k pos) ix (gT n gs) := by
  obtain ⟨t, p, r⟩ := h.ex
  refine ⟨_, pg_tupHot hc p hn hst, fun v d σ H ρ L Q ρ' st dn e k => ?_⟩
  unfold gT at e
  split at e
  · split at e
    · rename_i ds hl
      cases dn with
      | tup ha la => exact ⟨_, _, rfl, ha, by rw [← la.length]; exact hl, r _ _ _ _ _ _ _ ρ' st la hl e k⟩
    · cases e
  · cases e
/-- the items of a list -/
def iLst (fa : DEf) : DIf := fun ρ => (fa ρ).bind fun p => match frz1 p.1 p.2 with
  | some (.lst xs, ρ1) => .ok (xs, ρ1)
  | _ => .stuck
theorem iLst_read {K : Frag} {ta : TE} (ra : ∀ σ H ρ L Q, StR K F σ H ρ L → PostE K F W σ H L (fi ρ) Q → ta σ H Q) : ∀ σ H ρ L R, StR K F σ H ρ L → PostI K F W σ H L (iLst fi ρ) R → iList K ta σ H R := fun σ H ρ L R st P => by
  unfold iLst at P
  refine ra _ _ _ _ _ st ?_
  cases e : fi ρ with
  | exc k ρ1 => rw [e] at P; exact P
  | stuck => rw [e] at P; exact P.elim
  | ok z =>
    obtain ⟨x, ρ1⟩ := z
    rw [e] at P
    dsimp only [Res.bind] at P
    intro v H1 La st1 s1 ar
    split at P
    · rename_i xs ρ2 e1
      obtain ⟨Lb, st2, s2, dn⟩ := frz1_ok st1 ar e1
      cases dn with
      | lst hn ha hl => exact ⟨_, rfl, ⟨_, SqL.of ha⟩, P _ _ Lb st2 (s1.trans s2) (yields_lst st2 (.lst hn ha hl))⟩
    · exact P.elim
abbrev tgCan (K : Frag) (F : Fm) (ix : List Nat) (g : DGf) : TG := fun v σ H Q => ∃ p ρ L d ρ', StR K (F.push p) σ H ρ L ∧ Den K F.fa H ((F.push p).bad L) d v ∧ g d ρ = some ρ' ∧ ∀ σ', StR K (F.push p) σ' H ρ' L → Chg ix σ σ' → Q σ' H
abbrev ttCan (K : Frag) (F : Fm) (ft : DTf) : TT := fun σ H Q => ∃ p ρ L, StR K (F.push p) σ H ρ L ∧ PostT K (F.push p) W0 σ H L (ft ρ) Q
abbrev teCan (K : Frag) (F : Fm) (fe : DEf) : TE := fun σ H Q => ∃ p ρ L, StR K (F.push p) σ H ρ L ∧ PostE K (F.push p) W0 σ H L (fe ρ) Q
theorem df_lcHot {scope : Scope} {own : List (Str × Nat)} (hot : HotS X) (hN : X.N.Nodup) (hi : DE F X W it fi) (ok : BlkOk X.N X.env.scope scope own) (hix : ∀ i ∈ ix, i ∈ own.map (·.2))
    (hg : ∀ (s : Shared) (H : Hp) (C : Addr) (cl : List (Str × Addr)) (fp : List Addr) (p : Addr), HotD (X.blk s H scope (compEnvC scope cl C X.env) fp) → DG (F.push p) (X.blk s H scope (compEnvC scope cl C X.env) fp) tg ix g)
    (ht : ∀ (s : Shared) (H : Hp) (C : Addr) (cl : List (Str × Addr)) (fp : List Addr) (p : Addr), DTs (F.push p) (X.blk s H scope (compEnvC scope cl C X.env) fp) W0 ifs ft)
    (he : ∀ (s : Shared) (H : Hp) (C : Addr) (cl : List (Str × Addr)) (fp : List Addr) (p : Addr), DE (F.push p) (X.blk s H scope (compEnvC scope cl C X.env) fp) W0 e fe) (hs : ∀ x, foldedSetIterable it X.env x = pure x := by intro _; rfl) :
    DF F X W (.ListComp e [⟨tg, it, ifs, 0⟩] scope pos) (fComp (own.map (·.2)) (iLst fi) g ft fe) := by
  obtain ⟨wi, pi, ri⟩ := hi.ex
  exact ⟨_, pe_lcHot (g := tgCan X.K F ix g) (tt := ttCan X.K F ft) (te := teCan X.K F fe) hot hN pi ok (fun s H C cl fp hd => DG.can (fun p => hg s H C cl fp p hd)) (fun s H C cl fp _ => DTs.can (ht s H C cl fp)) (fun s H C cl fp _ => DE.can (he s H C cl fp)) hs,
    fun σ H ρ L Q st P => comp_read (iLst_read ri) hix st P⟩
/-- name = [..] -/
theorem ds_setLcHot {scope : Scope} {own : List (Str × Nat)} {i : Nat} {y : Str} {py spos : Pos} (hot : HotS X) (hN : X.N.Nodup) (hy : X.N[i]? = some y) (hyl : X.env.scope.names.lookup y = some .local) (hsw : swapsWith (.ListComp e [⟨tg, it, ifs, 0⟩] scope pos) (some (.Name y py)) spos.line X.env = pure true)
    (hi : DE F X W it fi) (ok : BlkOk X.N X.env.scope scope own) (hix : ∀ i ∈ ix, i ∈ own.map (·.2))
    (hg : ∀ (s : Shared) (H : Hp) (C : Addr) (cl : List (Str × Addr)) (fp : List Addr) (p : Addr), HotD (X.blk s H scope (compEnvC scope cl C X.env) fp) → DG (F.push p) (X.blk s H scope (compEnvC scope cl C X.env) fp) tg ix g)
    (ht : ∀ (s : Shared) (H : Hp) (C : Addr) (cl : List (Str × Addr)) (fp : List Addr) (p : Addr), DTs (F.push p) (X.blk s H scope (compEnvC scope cl C X.env) fp) W0 ifs ft)
    (he : ∀ (s : Shared) (H : Hp) (C : Addr) (cl : List (Str × Addr)) (fp : List Addr) (p : Addr), DE (F.push p) (X.blk s H scope (compEnvC scope cl C X.env) fp) W0 e fe) (hs : ∀ x, foldedSetIterable it X.env x = pure x := by intro _; rfl) :
    DS F X W (.Assign [.Name y py] (.ListComp e [⟨tg, it, ifs, 0⟩] scope pos) spos) (sSet i (dOfF (fComp (own.map (·.2)) (iLst fi) g ft fe))) := by
  obtain ⟨wi, pi, ri⟩ := hi.ex
  refine ⟨_, ps_lcHot (g := tgCan X.K F ix g) (tt := ttCan X.K F ft) (te := teCan X.K F fe) hot hN hy hyl hsw pi ok (fun s H C cl fp hd => DG.can (fun p => hg s H C cl fp p hd)) (fun s H C cl fp _ => DTs.can (ht s H C cl fp)) (fun s H C cl fp _ => DE.can (he s H C cl fp)) hs, fun En σ H ρ L st P => ?_⟩
  refine comp_read (W := W) (iLst_read ri) hix st ?_
  unfold sSet dOfF at P
  cases e1 : fComp (own.map (·.2)) (iLst fi) g ft fe ρ with
  | exc k ρ1 => rw [e1] at P; exact fun H1 La st1 s1 => P σ H1 La st1 s1
  | stuck => rw [e1] at P; exact P
  | ok z =>
    obtain ⟨xs, ρ1⟩ := z
    rw [e1] at P
    intro p us H1 La st1 s1 hp dn
    exact P _ _ La ((st1.same (Same.upd hp)).setV i (newLst st1.bd hp dn)) (s1.trans (Step.same (Same.upd hp)))
end
end DL

set_option maxHeartbeats 1000000
namespace DL
open PySem PySem.Spec PyProof.Rows L2
open LamX (Tabs CodeO LamS lamEnv lamCx TabB ExtN)

/-! ### a lambda without parameters, handed to a def that calls it once -/
inductive LamO where
  | fine | exc (k : Nat) | stuck
def lamO (r : Res (Arg × Rho)) : LamO := match r with
  | .ok _ => .fine
  | .exc k _ => .exc k
  | .stuck => .stuck
def onlyV (ρ : Rho) : Rho := ρ.map fun s => match s with
  | some (.val d) => some (.val d)
  | _ => none
theorem onlyV_get {ρ : Rho} {i : Nat} {s : Slot} (h : (onlyV ρ)[i]? = some (some s)) : ∃ d, s = .val d ∧ ρ[i]? = some (some (.val d)) := by
  unfold onlyV at h
  rw [List.getElem?_map, Option.map_eq_some_iff] at h
  obtain ⟨o, e, q⟩ := h
  cases o with
  | none => cases q
  | some t => cases t <;> cases q <;> exact ⟨_, rfl, e⟩
theorem StR.onlyV {K : Frag} {F : Fm} {σ : L2.St} {H : Hp} {ρ : Rho} {L : List Addr} (st : StR K F σ H ρ L) : StR K (frm F.fa F.T H (F.bad L)) σ H (DL.onlyV ρ) [] where
  len := by unfold DL.onlyV; rw [List.length_map]; exact st.len
  sl := fun i s e => by
    obtain ⟨d, rfl, e1⟩ := onlyV_get e
    exact st.sl i _ e1
  di := fun i j xs ys a e _ _ _ => by
    obtain ⟨d, z, _⟩ := onlyV_get e
    cases z
  bd := st.bd
  ld := fun _ m => nomatch m
  pj := fun _ m => nomatch m
  pb := fun _ m => nomatch m
  en := fun _ _ e _ _ => e
  tr := fun _ e => e
  tb := st.tb
/-- the context of the lambda's body -/
abbrev lamN (X : Cx) (A : Around) (outer : List Env) (s : Shared) (H : Hp) (E : XK) (scope : Scope) (f c' : Addr) : Cx :=
  (lamCx X A outer s H E scope f c').tr [] fun e s' => wpAny (model X.prog X.w) (A.deeper (lamEnv X scope s.heap.objs.size f c')) (leaving (lamEnv X scope s.heap.objs.size f c') e) (fun _ s'' => L2N.CX X.prog X.w outer H s E e s'') (fun e' s'' => L2N.CX X.prog X.w outer H s E e' s'') s'
/-- the context of the def that calls it -/
abbrev gvCx (P : Program) (w : World) (K : Frag) (mg : Str → Option Value) (base : Heap) (Ng : List Str) (x : Str) (sg : Scope) (g : Addr) (cdg : Value) (A : Around) (outer : List Env) (s : Shared) (H : Hp) (E : XK) : Cx := cxOf (L2N.CX P w) P w K mg base Ng x sg g cdg A outer s H E
section
variable {X : Cx} {pins : List (Addr × Obj)} {σ : L2.St} {H : Hp} {s : Shared}
theorem pe_actN {Eg : XK} {Ng : List Str} {qg : Str} {sg : Scope} {g f c' : Addr} {cdg pm ctv : Value} {params : Arguments} {body : Expr} {scope : Scope} {k : Nat} {a : Str} {pn : List (Addr × Obj)} {xe : Value → Shared → Prop} {W : WX} {tb : XK → TE} {p1 p2 : Pos}
    (I : Inv X pins σ H s) (L : LamS X.env.scope scope) (hf : s.heap.get? f = some (PySem.W.kla_obj "<lambda>" (X.env.qual ++ "<lambda>") params body scope (cloFrom X.env.cells scope.names []) pm c' ctv)) (hfn : H f = none) (hfr : f ∉ frs X.stack)
    (hbind : bindArgs (PySem.W.kla_fn "<lambda>" (X.env.qual ++ "<lambda>") params body scope (cloFrom X.env.cells scope.names []) pm (.ref c') ctv) ⟨[], []⟩ = pure [])
    (tk : L2N.Takes ((gvCx X.prog X.w X.K X.mg X.base Ng qg sg g cdg X.A X.stack s H Eg).tr pn xe) W) (hr : Room (k + 1) (X.A.deeper (envOfC qg sg s.heap.objs.size g cdg)))
    (hbody : ∀ (A : Around) (outer : List Env) (s : Shared) (H : Hp) (E : XK), Room k (A.deeper (lamEnv X scope s.heap.objs.size f c')) → PE (lamN X A outer s H E scope f c') body (tb E))
    (hN : Ng[0]? = some a) (hv : Vis sg a) (hd : (a == ("__debug__" : Str)) = false) (hcd : (a == ("__classdict__" : Str)) = false) :
    PE ((gvCx X.prog X.w X.K X.mg X.base Ng qg sg g cdg X.A X.stack s H Eg).tr pn xe) (.Call (.Name a p1) [] [] p2) (fun σZ HZ Q => σZ[0]? = some (some (.ref f)) ∧ HZ c' = some (CodeO c' (X.env.qual ++ "<lambda>")) ∧ tb (WE W σZ) σ HZ Q) := by
  refine ⟨fun pinsZ sZ σZ HZ Q IZ h => ?_⟩
  obtain ⟨h0, hc, ht⟩ := h
  refine wpAny_Call_Name_kw (thn ((pe_var (pos := p1) (i := 0) hN hv hd hcd).run pinsZ sZ σZ HZ (fun v H1 => v = .ref f ∧ H1 = HZ) IZ ⟨.ref f, h0, rfl, rfl⟩) fun u s1 ⟨v, H1, I1, r1, ev, eH⟩ => ?_)
  subst ev eH
  obtain rfl : u = Value.ref f := r1
  have un : Un (frs X.stack) [] H H1 s.heap s1.heap := I1.base
  have of1 := un.keep f _ hf hfn hfr (fun z => nomatch z)
  refine PySem.W.callWith_F0 ⟨_, _, _, _, of1⟩ ?_
  obtain ⟨⟨oc, vs, t, hoc, hdc, hvc⟩, _, _⟩ := I1.hok c' _ hc
  have rc : codeAny (model X.prog X.w) (X.A.deeper (envOfC qg sg s.heap.objs.size g cdg)) (.call (.ref f) ⟨[], []⟩) (CR (L2N.CX X.prog X.w) (envOfC qg sg s.heap.objs.size g cdg :: X.stack) X.prog X.w H1 s1 Q (WE W σZ)) s1 := by
    refine PySem.W.kla_callFunE hr.depth of1 rfl L.co L.gen rfl ⟨c', oc, vs, t, rfl, hoc, hdc, hvc⟩ ?_
    rw [hbind]
    refine wpAny_pure (wpAny_newFunctionEnv (fun y hy => (L.own y hy).2) (fun y hy => nomatch hy) (fun h₁ hns hsb => ⟨I1.nolimit.fresh _ hsb, ?_⟩) L.kind)
    show codeAny _ _ (.expr body (lamEnv X scope s1.heap.objs.size f c')) _ _
    have old : ∀ b o, s1.heap.get? b = some o → h₁.get? b = some o := fun b o e => hsb.extBut b o (Nat.ne_of_lt (Heap.lt_size e)) (Heap.get?_push_of_some _ e)
    have J0 : Inv (lamCx X (X.A.deeper (envOfC qg sg s.heap.objs.size g cdg)) (envOfC qg sg s.heap.objs.size g cdg :: X.stack) s1 H1 (WE W σZ) scope f c') [] σ H1 { s1 with heap := h₁, toks := s1.toks + ([] : List (Str × Value)).length } := LamX.lam_start2 I L I1.env0 hr.hd un hns old
    have J : Inv (lamN X (X.A.deeper (envOfC qg sg s.heap.objs.size g cdg)) (envOfC qg sg s.heap.objs.size g cdg :: X.stack) s1 H1 (WE W σZ) scope f c') [] σ H1 { s1 with heap := h₁, toks := s1.toks + ([] : List (Str × Value)).length } := J0.toTry _
    refine PySem.W.kla_codeExpr (wpAny_mono ((hbody _ _ s1 H1 (WE W σZ) (hr.deeper _)).run [] _ σ H1 Q J ht) (fun v s' hq => ?_) fun e s' hq => hq)
    obtain ⟨v', H', J', rv, q⟩ := hq
    exact ⟨v', H', J'.os, J'.bare, J'.base, J'.hok, rv, q⟩
  refine wpAny_call (codeAny_mono rc fun r s' hq => ?_)
  cases r with
  | error e => exact L2N.passAt tk σZ pinsZ H1 s1 e s' I1 hq
  | ok fl =>
    cases fl with
    | ret u => exact I1.after hq
    | next => exact hq.elim
    | brk => exact hq.elim
    | cont => exact hq.elim
end
def sAct (o : LamO) : DSf := fun ρ => match ρ[(0 : Nat)]? with
  | some (some (.err _)) => (match o with
    | .fine => .next ρ
    | .exc k => .exc k ρ
    | .stuck => .stuck)
  | _ => .stuck
/-- the def called x, its first name a: h tells what it makes of the lambda's end -/
def GivesL (P : Program) (w : World) (K : Frag) (mg : Str → Option Value) (base : Heap) (k : Nat) (Ng : List Str) (x : Str) (sg : Scope) (g : Addr) (cdg : Value) (bg : List Stmt) (a : Str) (fa : Nat → Addr) (T : List (Addr × Str)) (h : LamO → Out) : Prop :=
  ∀ (A : Around) (outer : List Env) (s : Shared) (H : Hp) (E : XK) (f : Addr) (o : LamO) (B : List Addr), Room k (A.deeper (envOfC x sg s.heap.objs.size g cdg)) →
    (∀ (W : WX) (pn : List (Addr × Obj)) (xe : Value → Shared → Prop) (p1 p2 pos : Pos), L2N.Takes ((gvCx P w K mg base Ng x sg g cdg A outer s H E).tr pn xe) W →
      DS ((frm fa T H B).err f) ((gvCx P w K mg base Ng x sg g cdg A outer s H E).tr pn xe) W (.Expr (.Call (.Name a p1) [] [] p2) pos) (sAct o)) →
    ∃ fb, DSs ((frm fa T H B).err f) (gvCx P w K mg base Ng x sg g cdg A outer s H E) (WO E) bg fb ∧ h o = (match fb (some (Slot.err 0) :: valsR (Ng.length - 1) []) with
      | .ret d _ => .ok d
      | .next _ => .ok .non
      | .exc k _ => .exc k
      | _ => .stuck)
def dLam (h : LamO → Out) (fb : DEf) : DEf := fun ρ => outR (h (lamO (fb (onlyV ρ)))) ρ
section
variable {F : Fm} {X : Cx} {W : WX}
theorem str_lam {K : Frag} {fa : Nat → Addr} {T : List (Addr × Str)} {H : Hp} {B : List Addr} {N : List Str} {f : Addr} (hn : 1 ≤ N.length) (hb : ∀ b ∈ B, ∃ us, H b = some (.lst us)) (ht : Tabs T H) :
    StR K ((frm fa T H B).err f) (L2.start N [.ref f]) H (some (.err 0) :: valsR (N.length - 1) []) [] where
  len := by
    rw [List.length_cons, valsR_len (by simp)]
    unfold L2.start
    rw [List.length_append, List.length_map, List.length_replicate, List.length_singleton]
    omega
  sl := fun i t e => by
    cases i with
    | zero => cases e; exact ⟨.ref f, rfl, rfl⟩
    | succ i =>
      rw [List.getElem?_cons_succ] at e
      obtain ⟨d, e1, _⟩ := valsR_get e
      cases e1
  di := fun i j xs ys a e _ _ _ => by
    cases i with
    | zero => cases e
    | succ i =>
      rw [List.getElem?_cons_succ] at e
      obtain ⟨d, e1, _⟩ := valsR_get e
      cases e1
  bd := hb
  ld := fun _ m => nomatch m
  pj := fun _ m => nomatch m
  pb := fun _ m => nomatch m
  en := fun _ _ e _ _ => e
  tr := fun _ e => e
  tb := ht
/-- x(lambda: body) -/
theorem de_lam {x a : Str} {g c P : Addr} {k : Nat} {pg : Arguments} {bg : List Stmt} {sg : Scope} {fd : FuncData} {Ng : List Str} {params : Arguments} {body : Expr} {scope : Scope} {fb : DEf} {h : LamO → Out} {p lpos pos : Pos} (FD : FunD X.K x x pg bg sg [] [] g fd) (tk : L2N.Takes X W) (hg : Gl X x) (hm : X.mg x = some (.ref g))
    (hb : Binds X.K fd [a] []) (Sg : FnScope Ng [a] sg) (hNg : Ng[0]? = some a) (hva : Vis sg a)
    (G : ∀ cdg, GivesL X.prog X.w X.K X.mg X.base (k + 1) Ng x sg g cdg bg a F.fa F.T h)
    (TB : TabB X.base X.mg c P) (hcode : X.env.code = .ref c) (hmT : (P, X.env.qual ++ "<lambda>") ∈ F.T) (hu : ∀ p ∈ F.T, p.1 = P → p.2 = X.env.qual ++ "<lambda>") (hr : Room (k + 2) X.A) (L : LamS X.env.scope scope) (hdef : defaultsOf params X.env = ([], []))
    (hbind : ∀ (q : Str) (cl : List (Str × Addr)) (pm cv ctv : Value), bindArgs (PySem.W.kla_fn "<lambda>" q params body scope cl pm cv ctv) ⟨[], []⟩ = pure [])
    (hbody : ∀ (A : Around) (outer : List Env) (s : Shared) (H : Hp) (E : XK) (f c' : Addr) (H0 : Hp) (B : List Addr), Room k (A.deeper (lamEnv X scope s.heap.objs.size f c')) → DE (frm F.fa F.T H0 B) (lamN X A outer s H E scope f c') (WO E) body fb)
    (hdb : (x == ("__debug__" : Str)) = false := by decide) (hd : (a == ("__debug__" : Str)) = false := by decide) (hcd : (a == ("__classdict__" : Str)) = false := by decide) :
    DE F X W (.Call (.Name x p) [.Lambda params body scope lpos] [] pos) (dLam h fb) := by
  refine ⟨fun σ H Q => ∃ ρ L, StR X.K F σ H ρ L ∧ PostE X.K F W σ H L (dLam h fb ρ) Q, ⟨fun pins s σ H Q I hq => ?_⟩, fun σ H ρ L Q st P => ⟨ρ, L, st, P⟩⟩
  obtain ⟨ρ, La, st, P0⟩ := hq
  obtain ⟨oc, od, dV, kV, doc, pm0, an, cdv, ct, osl, rfl, lk, hcg, _, _⟩ := FD.ex
  refine wpAny_Call_Name_kw (ld_glob I hg hm ?_ hdb)
  refine PySem.W.callWith_K (h₀ := X.base) I.ok.mod.kin FD.kp ?_ (by rfl) (by rfl)
  show wpAny _ _ (spliced ((false, eval (.Lambda params body scope lpos) X.env) :: backTo pos (starEach [] X.env))) _ _ s
  refine Calls.spliced_cons (LamX.lam_make2 I TB hcode hmT hu st.tb hdef (L.has I.ok) fun f c' pm' ctv H1 s' I1 eN T1 hf hfn hfr hco => ?_)
  refine Calls.spliced_nil ⟨I1.kIn, ?_⟩
  have kp : Kp F.T H H1 := ⟨eN, fun b z o e nt => z o (eN b o e nt) nt, T1⟩
  obtain ⟨st1, s1⟩ := st.kp kp
  have stV := st1.onlyV
  have rc : codeAny (model X.prog X.w) X.A (.call (.ref g) ⟨[.ref f], []⟩) (CR (L2N.CX X.prog X.w) X.stack X.prog X.w H1 s' Q (WE W σ)) s' := by
    refine LamX.run_ofS (N := Ng) (ps := [a]) (us := [.ref f]) (vs := [.ref f]) lk hcg Sg hr I1.env0 (hb s' [.ref f] I1.kIn rfl) (.cons rfl .nil) rfl fun hr' => ?_
    have act : ∀ (W' : WX) (pn : List (Addr × Obj)) (xe : Value → Shared → Prop) (p1 p2 pos : Pos), L2N.Takes ((gvCx X.prog X.w X.K X.mg X.base Ng x sg g cdv X.A X.stack s' H1 (WE W σ)).tr pn xe) W' →
        DS ((frm F.fa F.T H1 (F.bad La)).err f) ((gvCx X.prog X.w X.K X.mg X.base Ng x sg g cdv X.A X.stack s' H1 (WE W σ)).tr pn xe) W' (.Expr (.Call (.Name a p1) [] [] p2) pos) (sAct (lamO (fb (onlyV ρ)))) := fun W' pn xe p1 p2 pos tk' => by
      refine ⟨_, ps_expr (pe_actN (tb := fun E σ H Q => ∃ ρ L H0 B, StR X.K (frm F.fa F.T H0 B) σ H ρ L ∧ PostE X.K (frm F.fa F.T H0 B) (WO E) σ H L (fb ρ) Q) I1 L hf hfn hfr (hbind _ _ _ _ _) tk' hr' (fun A outer s H E hr2 => ⟨fun pins s2 σ2 H2 Q2 I2 hq => ?_⟩) hNg hva hd hcd), fun D σZ HZ ρZ LZ stZ PZ => ?_⟩
      · obtain ⟨ρ2, L2, H0, B0, st2, P2⟩ := hq
        obtain ⟨t, pt, r⟩ := (hbody A outer s H E f c' H0 B0 hr2).ex
        exact pt.run pins s2 σ2 H2 Q2 I2 (r _ _ _ _ _ st2 P2)
      · unfold sAct at PZ
        split at PZ
        · rename_i k0 e0
          obtain ⟨v, e1, r⟩ := stZ.sl 0 _ e0
          have r : v = .ref f := r
          subst r
          have kz : Kp F.T H1 HZ := ⟨fun b o e nt => stZ.en b o e (fun m => nomatch m) nt, stZ.tr, stZ.tb⟩
          refine ⟨e1, kz.keep _ _ hco (fun ps z => LamX.codeO_ne ps z), onlyV ρ, [], H1, F.bad La, (stV.kp kz).1, ?_⟩
          have kh : ∀ {H2 : Hp} {L2 : List Addr} {ρ2 : Rho}, StR X.K (frm F.fa F.T H1 (F.bad La)) σ H2 ρ2 L2 → Step (frm F.fa F.T H1 (F.bad La)) HZ [] H2 L2 → Kp F.T HZ H2 := fun st2 s2 => ⟨fun b o e nt => s2.keep b o e (fun m => nomatch m) (fun m => nomatch m) nt, s2.tr, st2.tb⟩
          cases e2 : fb (onlyV ρ) with
          | ok z =>
            rw [e2] at PZ
            intro v2 H2 L2 st2 s2 _
            obtain ⟨st3, s3⟩ := stZ.kp (kh st2 s2)
            exact PZ σZ H2 LZ st3 s3
          | exc k ρ2 =>
            rw [e2] at PZ
            intro H2 L2 st2 s2
            obtain ⟨st3, s3⟩ := stZ.kp (kh st2 s2)
            exact PZ σZ H2 LZ st3 s3
          | stuck => rw [e2] at PZ; exact PZ.elim
        · exact PZ.elim
    obtain ⟨fbg, dss, eh⟩ := G cdv X.A X.stack s' H1 (WE W σ) f (lamO (fb (onlyV ρ))) (F.bad La) hr' act
    obtain ⟨t, pt, r⟩ := dss.ex
    refine ⟨t, pt, r _ _ _ _ _ (str_lam (by rw [List.getElem?_eq_some_iff] at hNg; exact hNg.1) st1.bd T1) ?_⟩
    have P1 := PostE.trans s1 P0
    unfold dLam at P1
    rw [eh] at P1
    have kg : ∀ {σ2 : L2.St} {H2 : Hp} {L2 : List Addr} {ρ2 : Rho}, StR X.K ((frm F.fa F.T H1 (F.bad La)).err f) σ2 H2 ρ2 L2 → Step ((frm F.fa F.T H1 (F.bad La)).err f) H1 [] H2 L2 → Kp F.T H1 H2 := fun st2 s2 => ⟨fun b o e nt => s2.keep b o e (fun m => nomatch m) (fun m => nomatch m) nt, s2.tr, st2.tb⟩
    cases e3 : fbg (some (.err 0) :: valsR (Ng.length - 1) []) with
    | ret d ρ2 =>
      rw [e3] at P1
      intro v σ2 H2 L2 st2 s2 dn
      obtain ⟨st3, s3⟩ := st1.kp (kg st2 s2)
      exact P1 v H2 La st3 s3 (dn.mono (fun b m => List.mem_append_right _ (List.mem_append_right _ m)) st2.bd)
    | next ρ2 =>
      rw [e3] at P1
      intro σ2 H2 L2 st2 s2
      obtain ⟨st3, s3⟩ := st1.kp (kg st2 s2)
      exact P1 .non H2 La st3 s3 .non
    | exc k ρ2 =>
      rw [e3] at P1
      intro σ2 H2 L2 st2 s2
      obtain ⟨st3, s3⟩ := st1.kp (kg st2 s2)
      exact P1 H2 La st3 s3
    | brk ρ2 => rw [e3] at P1; exact P1.elim
    | cont ρ2 => rw [e3] at P1; exact P1.elim
    | stuck => rw [e3] at P1; exact P1.elim
  refine wpAny_call (codeAny_mono rc fun r s2 hq => ?_)
  cases r with
  | error e => exact L2N.passAt tk σ pins H1 s' e s2 I1 hq
  | ok fl =>
    cases fl with
    | ret u => exact I1.after hq
    | next => exact hq.elim
    | brk => exact hq.elim
    | cont => exact hq.elim
end
end DL

set_option maxHeartbeats 1000000
namespace DL
open PySem PySem.Spec PyProof.Rows L2
open LamX (Tabs)

/-! ### t[::-1] of a tuple -/
section
variable {prog : Program} {w : World} {A : Around} {E : Value → Shared → Prop} {s : Shared}
theorem adj_back (n : Nat) : Builtin.Slice.sliceAdjust none none (-1) (n : Int) = ((n : Int) - 1, -1) := rfl
theorem plc_back (n : Nat) : Builtin.Slice.slicePlaces ((n : Int) - 1) (-1) (-1) = n := by
  unfold Builtin.Slice.slicePlaces
  rw [if_neg (by decide)]
  split
  · rw [show (-(-1) : Int) = 1 from rfl, Int.ediv_one]
    omega
  · omega
theorem fm_all {α β : Type} {f : α → Option β} {g : α → β} : ∀ l : List α, (∀ m ∈ l, f m = some (g m)) → l.filterMap f = l.map g
  | [], _ => rfl
  | a :: l, h => by
    rw [List.filterMap_cons, h a List.mem_cons_self, List.map_cons]
    exact congrArg _ (fm_all l fun m hm => h m (List.mem_cons_of_mem _ hm))
theorem back_all (xs : Array Value) : ((List.range xs.size).filterMap fun (m : Nat) => xs[(((xs.size : Nat) : Int) - 1 + (m : Int) * (-1)).toNat]?).toArray = xs.toList.reverse.toArray := by
  apply congrArg
  apply List.ext_getElem?
  intro i
  have e : (List.range xs.size).filterMap (fun (m : Nat) => xs[(((xs.size : Nat) : Int) - 1 + (m : Int) * (-1)).toNat]?) = (List.range xs.size).map (fun (m : Nat) => xs.getD (xs.size - 1 - m) .none) := by
    refine fm_all _ fun m hm => ?_
    have hm' : m < xs.size := List.mem_range.mp hm
    have e1 : (((xs.size : Nat) : Int) - 1 + (m : Int) * (-1)).toNat = xs.size - 1 - m := by omega
    rw [e1]
    have h2 : xs.size - 1 - m < xs.size := by omega
    simp [h2, Array.getD]
  rw [e, List.getElem?_map]
  by_cases hi : i < xs.size
  · rw [List.getElem?_range hi, List.getElem?_reverse (by simpa using hi)]
    have h2 : xs.size - 1 - i < xs.size := by omega
    simp [h2, Array.getD]
  · rw [List.getElem?_eq_none (by simpa using hi), List.getElem?_eq_none (by simpa using hi)]
    rfl
theorem item_back {t sl : Addr} {items : Array Value} {vs : Value} {Q : Value → Shared → Prop} (ht : IsTup s.heap t items) (hs : s.heap.IsSliceOf sl .none .none vs) (ps : IsPart vs (some (-1)))
    (h : Q (.ref s.heap.objs.size) { s with heap := s.heap.push { cls := .type "tuple", data := .seq items.toList.reverse.toArray } }) (hsz : items.size ≤ sizeLine) : wpAny (model prog w) A (getItem (.ref t) (.ref sl)) Q E s := by
  have hz : sizeOk (.seq items.toList.reverse.toArray) := by
    show items.toList.reverse.toArray.size ≤ sizeLine
    rw [List.size_toArray, List.length_reverse, Array.length_toList]
    exact hsz
  obtain ⟨os, hos, hcs, hds⟩ := id hs
  have hTs : s.TypeIs (.ref sl) "slice" := ⟨os, hos, hcs⟩
  unfold getItem
  try with_reducible refine wpAny_holding ?_
  first | refine wpAny_bind (wpAny_pure ?_) | skip
  refine wpAny_bind (wpAny_sequenceKey ht.typeIs (by decide) ?_)
  refine wpAny_bind (wpAny_callSpecial?_slot (name := Str.ofString "__getitem__") ht.typeIs PyProof.Rows.slot_tuple_getitem (wpAny_call_entry PyProof.Rows.slot_tuple_getitem ht.typeIs entry_tuple_getitem ?_ (args_tuple_getitem _ _)))
  show wpAny _ _ (Builtin.Tuple.tupleItemsOf (.ref t) >>= _) _ _ s
  refine wpAny_bind (tupleItemsOf_ ht ?_); refine wpAny_bind (wpAny_typeOf hTs ?_)
  rw [if_pos (by decide)]
  have app : ∀ {A' : Around} {E' : Value → Shared → Prop} {Q : Int × Int × Nat → Shared → Prop}, Q (((items.size : Nat) : Int) - 1, -1, items.size) s → wpAny (model prog w) A' (Builtin.Slice.sliceApplied (.ref sl) (pure ((items.size : Nat) : Int))) Q E' s := fun {A' E' Q} q => by
    unfold Builtin.Slice.sliceApplied Builtin.Slice.sliceFields
    refine wpAny_bind (wpAny_bind (wpAny_field hos hds (x := .none) rfl (wpAny_bind (wpAny_field hos hds (x := .none) rfl (wpAny_bind (wpAny_field hos hds (x := vs) rfl (wpAny_pure ?_)))))))
    refine wpAny_bind (HT.slicePart_ ps ?_)
    show wpAny _ _ (if ((-1 : Int) == 0) = true then _ else _) _ _ s
    rw [if_neg (by decide)]
    refine wpAny_bind (slicePart_none (wpAny_bind (slicePart_none (wpAny_bind (wpAny_pure ?_)))))
    show wpAny _ _ (match Builtin.Slice.sliceAdjust none none (-1) ((items.size : Nat) : Int) with | (lo, hi) => pure (lo, (-1 : Int), Builtin.Slice.slicePlaces lo hi (-1))) _ _ s
    rw [adj_back]
    show wpAny _ _ (pure (((items.size : Nat) : Int) - 1, (-1 : Int), Builtin.Slice.slicePlaces (((items.size : Nat) : Int) - 1) (-1) (-1))) _ _ s
    rw [plc_back]
    exact wpAny_pure q
  refine wpAny_bind (app ?_)
  show wpAny _ _ (if ((((items.size : Nat) : Int) - 1) == 0 && (-1 : Int) == 1 && items.size == items.size) = true then _ else _) _ _ s
  rw [if_neg (by simp), back_all]
  first
    | exact wpAny_bind (m := Builtin.Tuple.tupleExact _) (wpAny_newObj_type (wpAny_pure ⟨_, rfl, wpAny_pure h⟩) hz)
    | exact wpAny_bind (m := Builtin.Tuple.tupleExact _) (wpAny_newObj_type (wpAny_bind (wpAny_pure (wpAny_pure ⟨_, rfl, wpAny_pure h⟩))) hz)
    | exact wpAny_bind (wpAny_bind (m := Builtin.Tuple.tupleExact _) (wpAny_newObj_type (wpAny_pure (wpAny_pure ⟨_, rfl, wpAny_pure h⟩)) hz))
    | exact wpAny_bind (wpAny_bind (m := Builtin.Tuple.tupleExact _) (wpAny_newObj_type (wpAny_pure ⟨_, rfl, wpAny_pure h⟩) hz))
end
def rBackT (K : Frag) : V → Hp → VK → Prop := fun x H Q => ∃ a xs, x = .ref a ∧ SqT K H a xs ∧ ∀ p, H p = none → Q (.ref p) (upd H p (.tup xs.reverse))
theorem pe_backT {X : Cx} {e : Expr} {te : TE} {k : Nat} {p1 p2 p3 pos : Pos} (he : PE X e te) : PE X (.Subscript e (.Slice none none (some (.UnaryOp .USub (.Constant (.int 1) k p1) p2)) p3) pos) (tUn (rBackT X.K) te) := by
  refine ⟨fun pins s σ H Q I h => ?_⟩
  refine Subscript_ (thn (he.run pins s σ H _ I h) fun v s1 hv => ?_)
  obtain ⟨x, H1, I1, r1, a, xs, rfl, hx, q⟩ := hv
  cases r1
  have part : PO X (some (.UnaryOp .USub (.Constant (.int 1) k p1) p2)) (tPart (tUn (rU fun i => .int (-i)) (tC (.int 1)))) := po_some (pe_un un_neg pe_int)
  refine wpAny_Slice (thn (po_none.run pins s1 σ H1 (fun o H2 => o = none ∧ H2 = H1) I1 ⟨rfl, rfl⟩) fun vl s2 h2 => ?_)
  obtain ⟨l, H2, I2, pl, rfl, rfl⟩ := h2
  refine thn (po_none.run pins s2 σ H2 (fun o H3 => o = none ∧ H3 = H2) I2 ⟨rfl, rfl⟩) fun vu s3 h3 => ?_
  obtain ⟨u, H3, I3, pu, rfl, rfl⟩ := h3
  refine thn (part.run pins s3 σ H3 (fun o H4 => o = some (-1) ∧ H4 = H3) I3 ⟨1, rfl, -1, rfl, rfl, rfl⟩) fun vs s4 h4 => ?_
  obtain ⟨o, H4, I4, ps, rfl, rfl⟩ := h4
  cases pl; cases pu
  have I5 : Inv X pins σ H4 { s4 with heap := s4.heap.push { cls := .type "slice", data := .fields #[.none, .none, vs] } } := I4.kept (t' := s4.toks) fun b ob q => Heap.get?_push_of_some _ q
  obtain ⟨its, r, ht, hz⟩ := I5.tuple hx
  have hl := r.length
  show wpAny (model X.prog X.w) X.A (subscriptTail e (.Slice none none (some (.UnaryOp .USub (.Constant (.int 1) k p1) p2)) p3) (.ref a) (.ref s4.heap.objs.size)) (EP X pins σ Q) X.xe { s4 with heap := s4.heap.push { cls := .type "slice", data := .fields #[.none, .none, vs] } }
  refine tail_any (ops := [.ref a, .ref s4.heap.objs.size]) ht.typeIs (PyProof.Rows.slot_tuple_getitem.lookup) ?_ (by with_unfolding_all rfl)
  refine item_back ht (Heap.IsSliceOf.new _ .none .none vs) ps ?_ (by rw [List.size_toArray]; omega)
  refine ⟨.ref _, _, I5.laid (t' := s4.toks) (o := .tup xs.reverse) (fun b ob q => Heap.get?_push_of_some _ q) (Nat.le_refl _) ?_, rfl, q _ (I5.hok.fresh (Nat.le_refl _))⟩
  exact ⟨by rw [List.length_reverse]; exact hz, _, r.reverse, IsTup.new _ _⟩
end DL

set_option maxHeartbeats 1000000
namespace DL
open PySem PySem.Spec PyProof.Rows L2
open LamX (Tabs)

def dBack : D → Option D
  | .tup xs => some (.tup xs.reverse)
  | _ => none
theorem snd_back {K : Frag} {fa : Nat → Addr} : Snd1 K fa (rBackT K) dBack := by
  intro H B x u d Q hB hx hd k
  unfold dBack at hd
  split at hd
  · obtain ⟨a, us, rfl, ha, la⟩ := hx.tupv
    obtain rfl := Option.some.inj hd
    exact ⟨a, us, rfl, ha, fun p hp => k _ _ (Same.upd hp) (newTup hB hp la.reverse)⟩
  · cases hd
/-! ### texts joined -/
def strsD : List D → Option (List Str)
  | [] => some []
  | .str x :: r => (strsD r).map (x :: ·)
  | _ => none
theorem strsD_v {K : Frag} {fa : Nat → Addr} {H : Hp} {B : List Addr} : ∀ {ds : List D} {vs : List V} {ys : List Str}, DenL K fa H B ds vs → strsD ds = some ys → vs = ys.map V.str
  | [], _, _, h, e => by
    cases h
    cases e
    rfl
  | d :: ds, _, ys, h, e => by
    cases h with
    | cons h1 h2 =>
      cases d with
      | str x =>
        cases h1
        simp only [strsD, Option.map_eq_some_iff] at e
        obtain ⟨zs, e1, rfl⟩ := e
        rw [strsD_v h2 e1]
        rfl
      | _ => cases e
def dJoin (a : Str) (x : D) : Option D := match x with
  | .lst ds => (match strsD ds with
    | some ys => if (ys.map (·.length)).sum + ys.length * a.length ≤ 16777216 then some (.str (Txt.join a ys)) else none
    | none => none)
  | .tup ds => (match strsD ds with
    | some ys => if (ys.map (·.length)).sum + ys.length * a.length ≤ 16777216 then some (.str (Txt.join a ys)) else none
    | none => none)
  | _ => none
section
variable {F : Fm} {X : Cx} {W : WX} {e : Expr} {fe : DEf}
theorem de_join {a : Str} {j : Nat} {p1 apos pos : Pos} (he : DE F X W e fe) (hs : starEach [e] X.env = [(false, eval e X.env)] := by rfl)
    (hbase : attributeBase (.Constant (.str a) j p1) "join" X.env (eval (.Constant (.str a) j p1) X.env) = eval (.Constant (.str a) j p1) X.env := by rfl) (hline : (apos.endLine == pos.line) = true := by rfl) :
    DE F X W (.Call (.Attribute (.Constant (.str a) j p1) "join" apos) [e] [] pos) (dO1 (dJoin a) fe) := by
  obtain ⟨te, pt, rt⟩ := he.ex
  refine ⟨_, pe_join pe_str pt hs hbase hline, fun σ H ρ L Q st P => ?_⟩
  refine ⟨⟨a, rfl⟩, rt _ _ _ _ _ st (PostE.ofBind P fun x ρ1 v H1 La _ st1 s1 ar P1 => ?_)⟩
  dsimp only [resU] at P1
  split at P1
  · rename_i xd e1
    have vw := ar.view st1 e1
    cases hd : dJoin a xd with
    | none => rw [hd] at P1; exact P1.elim
    | some d =>
      rw [hd] at P1
      unfold dJoin at hd
      split at hd
      · split at hd
        · rename_i ys ey
          split at hd
          · rename_i hl
            obtain rfl := Option.some.inj hd
            obtain ⟨l, us, rfl, hl1, la⟩ := vw.lstv
            rw [strsD_v la ey] at hl1
            exact ⟨a, l, ys, rfl, rfl, .inl (SqL.of hl1), hl, P1 _ H1 La st1 .refl (.str _)⟩
          · cases hd
        · cases hd
      · split at hd
        · rename_i ys ey
          split at hd
          · rename_i hl
            obtain rfl := Option.some.inj hd
            obtain ⟨l, us, rfl, hl1, la⟩ := vw.tupv
            rw [strsD_v la ey] at hl1
            exact ⟨a, l, ys, rfl, rfl, .inr hl1, hl, P1 _ H1 La st1 .refl (.str _)⟩
          · cases hd
        · cases hd
      · cases hd
  · exact P1.elim
/-! ### names of the program -/
theorem de_fn {x : Str} {j : Nat} {pos : Pos} (hg : Gl X x) (hm : X.mg x = some (.ref (F.fa j))) (hd : (x == ("__debug__" : Str)) = false := by decide) : DE F X W (.Name x pos) (dC (.fn j)) := de_c (pe_glob (v := .ref (F.fa j)) hg hm rfl hd) fun _ _ => .fn j
theorem de_gi {x : Str} {i : Int} {pos : Pos} (hg : Gl X x) (hm : ∃ t, X.mg x = some (.int i t)) (hd : (x == ("__debug__" : Str)) = false := by decide) : DE F X W (.Name x pos) (dC (.int i)) := by
  obtain ⟨t, e⟩ := hm
  exact de_c (pe_glob (v := .int i) hg e ⟨t, rfl⟩ hd) fun _ _ => .int i
theorem de_ty {x : Str} {n : String} {pos : Pos} (hg : Gl X x) (hm : X.mg x = none) (hv : bootBuiltins x = some (.type n)) (hn : x ≠ "__name__" := by decide) (hd : (x == ("__debug__" : Str)) = false := by decide) : DE F X W (.Name x pos) (dC (.ty n)) := de_c (pe_bltn (v := .ty n) hg hm hv rfl hn hd) fun _ _ => .ty n
theorem boot_tint : bootBuiltins "int" = some (.type "int") := by decide +kernel
theorem boot_tbool : bootBuiltins "bool" = some (.type "bool") := by decide +kernel
theorem boot_tstr : bootBuiltins "str" = some (.type "str") := by decide +kernel
theorem boot_ttuple : bootBuiltins "tuple" = some (.type "tuple") := by decide +kernel
theorem boot_tlist : bootBuiltins "list" = some (.type "list") := by decide +kernel
end
/-! ### a def that hands back a list of its own making -/
def PostG (K : Frag) (fa : Nat → Addr) (T : List (Addr × Str)) (B : List Addr) (H : Hp) (Q : VK) : Option (List D) → Prop
  | some xs => ∀ p us H', Kp T H H' → H' p = none → DenL K fa H' B xs us → Q (.ref p) (upd H' p (.lst us))
  | none => False
def spF (K : Frag) (fa : Nat → Addr) (T : List (Addr × Str)) (n : Nat) (g : List D → Option (List D)) : Sp := fun vs H Q _ =>
  ∃ ds B, ds.length = n ∧ DenL K fa H B ds vs ∧ (∀ b ∈ B, ∃ us, H b = some (.lst us)) ∧ Tabs T H ∧ PostG K fa T B H Q (g ds)
structure DefF (P : Program) (w : World) (K : Frag) (mg : Str → Option Value) (base : Heap) (k : Nat) (fa : Nat → Addr) (T : List (Addr × Str)) (x : Str) (n : Nat) (g : List D → Option (List D)) : Prop where
  ex : ∃ f fd ps, mg x = some (.ref f) ∧ FnOk P w K mg base (L2N.CX P w) k f fd ps (spF K fa T n g) ∧ PySem.W.keepIn K (.ref f) = true ∧ Binds K fd ps []
def rawF (N : Nat) (f1 : DSf) (ff : DFf) (ds : List D) : Option (List D) := match f1 (valsR N ds) with
  | .next ρ => (match ff ρ with
    | .ok (xs, _) => some xs
    | _ => none)
  | _ => none
section
variable {P : Program} {w : World} {K : Frag} {mg : Str → Option Value} {base : Heap} {j k n : Nat} {fa : Nat → Addr} {T : List (Addr × Str)} {x : Str} {g : List D → Option (List D)}
theorem DefF.mono (h : DefF P w K mg base j fa T x n g) (hk : j ≤ k) : DefF P w K mg base k fa T x n g := by
  obtain ⟨f, fd, ps, e, F, h1, h2⟩ := h.ex
  exact ⟨f, fd, ps, e, F.mono hk, h1, h2⟩
/-- its body: one statement, then return of a new list -/
theorem DefF.of {N ps : List Str} {params : Arguments} {s1 : Stmt} {e : Expr} {rp : Pos} {scope : Scope} {f : Addr} {fd : FuncData} {f1 : DSf} {ff : DFf} (FD : FunD K x x params [s1, .Return (some e) rp] scope [] [] f fd) (hm : mg x = some (.ref f)) (S : FnScope N ps scope) (hb : Binds K fd ps []) (hn : ps.length = n) (hN : n ≤ N.length)
    (h : ∀ (cdv : Value) (A : Around) (outer : List Env) (s : Shared) (H : Hp) (E : XK) (H0 : Hp) (B : List Addr), Room k (A.deeper (envOfC x scope s.heap.objs.size f cdv)) →
      DS (frm fa T H0 B) (cxOf (L2N.CX P w) P w K mg base N x scope f cdv A outer s H E) (WO E) s1 f1 ∧ DF (frm fa T H0 B) (cxOf (L2N.CX P w) P w K mg base N x scope f cdv A outer s H E) (WO E) e ff) :
    DefF P w K mg base (k + 1) fa T x n (rawF N.length f1 ff) := by
  refine ⟨f, fd, ps, hm, FD.ok S (fun vs H Q E h => ?_) (fun cdv A outer s H vs Q E hr hsp => ?_), FD.kp, hb⟩
  · obtain ⟨ds, B, h1, h2, _⟩ := h
    rw [← h2.length, h1, hn]
  · obtain ⟨ds, B, h1, h2, h3, h4, h5⟩ := hsp
    obtain ⟨⟨t1, p1, r1⟩, ⟨t2, p2, r2⟩⟩ := h cdv A outer s H E H B hr
    refine ⟨_, pss_cons p1 (pss_one (ps_ret p2)), ?_⟩
    refine r1 _ _ _ _ _ (str_start (by rw [h1]; exact hN) h2 h3 h4) ?_
    unfold rawF at h5
    cases e1 : f1 (valsR N.length ds) with
    | next ρ =>
      rw [e1] at h5
      dsimp only at h5
      intro σ1 H1 L1 st1 s1
      refine r2 _ _ _ _ _ st1 ?_
      cases e2 : ff ρ with
      | ok z =>
        obtain ⟨xs, ρ2⟩ := z
        rw [e2] at h5
        intro p us H2 L2 st2 s2 hp dn
        exact h5 p us H2 (Kp.of st2 (s1.trans s2)) hp (dn.mono (fun b m => List.mem_append_right _ (List.mem_append_right _ m)) st2.bd)
      | exc k ρ2 => rw [e2] at h5; exact h5.elim
      | stuck => rw [e2] at h5; exact h5.elim
    | ret d ρ => rw [e1] at h5; exact h5.elim
    | brk ρ => rw [e1] at h5; exact h5.elim
    | cont ρ => rw [e1] at h5; exact h5.elim
    | exc k ρ => rw [e1] at h5; exact h5.elim
    | stuck => rw [e1] at h5; exact h5.elim
/-- .. whose code object is known -/
theorem DefN.ofC {N ps : List Str} {params : Arguments} {body : List Stmt} {scope : Scope} {f c0 : Addr} {fd : FuncData} {fb : DSf} (FD : FunD K x x params body scope [] [] f fd) (hc : fd.code = .ref c0) (hm : mg x = some (.ref f)) (S : FnScope N ps scope) (hb : Binds K fd ps []) (hn : ps.length = n) (hN : n ≤ N.length)
    (h : ∀ (A : Around) (outer : List Env) (s : Shared) (H : Hp) (E : XK) (H0 : Hp) (B : List Addr), Room k (A.deeper (envOfC x scope s.heap.objs.size f (.ref c0))) → DSs (frm fa T H0 B) (cxOf (L2N.CX P w) P w K mg base N x scope f (.ref c0) A outer s H E) (WO E) body fb) :
    DefN P w K mg base (k + 1) fa T x n (rawN N.length fb) := by
  obtain ⟨oc, od, dV, kV, doc, pm, an, cdv, ct, osl, rfl, lk, hcd, _, _⟩ := FD.ex
  have hc : cdv = .ref c0 := hc
  subst hc
  refine ⟨f, _, ps, hm, fn_of lk hcd S (fun vs H Q E h => ?_) (fun A outer s H vs Q E hr hsp => ?_), FD.kp, hb⟩
  · obtain ⟨ds, B, h1, h2, _⟩ := h
    rw [← h2.length, h1, hn]
  · obtain ⟨ds, B, h1, h2, h3, h4, h5⟩ := hsp
    obtain ⟨t, p, r⟩ := (h A outer s H E H B hr).ex
    exact ⟨t, p, r _ _ _ _ _ (str_start (by rw [h1]; exact hN) h2 h3 h4) (rawN_post h5)⟩
end
def fCall (n : Nat) (g : List D → Option (List D)) (fs : DAf) : DFf := fun ρ => (fs ρ).bind fun p => match frzL p.1 p.2 with
  | some (ds, ρ2) => if ds.length = n then (match g ds with
    | some xs => .ok (xs, ρ2)
    | none => .stuck) else .stuck
  | none => .stuck
section
variable {F : Fm} {X : Cx} {W : WX} {e : Expr} {es : List Expr} {fs : DAf} {pos p : Pos} {k n : Nat} {x : Str} {g : List D → Option (List D)}
theorem tabs_less {T : List (Addr × Str)} {H : Hp} {p : Addr} {us : List V} (t : Tabs T H) (hp : H p = some (.lst us)) : Tabs T (less H p) := fun q hq => by
  obtain ⟨ps, h1, h2, h3⟩ := t q hq
  have n1 : ∀ b o, H b = some o → (∀ zs, o ≠ .lst zs) → less H p b = some o := fun b o e n => by
    rw [less_ne (fun z => by subst z; rw [hp] at e; exact n us (Option.some.inj e).symm)]
    exact e
  refine ⟨ps, n1 _ _ h1 (fun _ z => nomatch z), h2, fun pos cv hc => ?_⟩
  obtain ⟨c, e1, e2⟩ := h3 pos cv hc
  exact ⟨c, e1, n1 _ _ e2 fun _ z => by unfold LamX.CodeO at z; cases z⟩
theorem df_call (D : DefF X.prog X.w X.K X.mg X.base k F.fa F.T x n g) (tk : L2N.Takes X W) (hr : Room k X.A) (hg : Gl X x) (hs : DA F X W (e :: es) fs) (hdb : (x == ("__debug__" : Str)) = false := by decide)
    (he : starEach (e :: es) X.env = (false, eval e X.env) :: starEach es X.env := by rfl) (hpl : (backTo pos (starEach es X.env)).any (·.1) = false := by rfl) : DF F X W (.Call (.Name x p) (e :: es) [] pos) (fCall n g fs) := by
  obtain ⟨f, fd, ps, hm, FO, hk, hb⟩ := D.ex
  obtain ⟨ta, pa, ra⟩ := hs.ex
  refine ⟨_, pe_callS FO hr hg hm hk hb (L2N.passAt tk) pa hdb he hpl, fun σ H ρ L Q st P => ?_⟩
  refine ra _ _ _ _ _ st (PostF.ofBindA P fun as ρ1 vs H1 La _ st1 s1 ar P1 => ?_)
  dsimp only at P1
  split at P1
  · rename_i ds ρ2 e1
    obtain ⟨Lc, st2, s2, dn⟩ := frzL_ok st1 ar e1
    split at P1
    · rename_i hl
      refine ⟨ds, _, hl, dn, st2.bd, st2.tb, ?_⟩
      cases e2 : g ds with
      | some xs =>
        rw [e2] at P1
        intro p us H' kp hp dx
        obtain ⟨st3, s3⟩ := st2.kp kp
        exact P1 p us H' Lc st3 (s2.trans s3) hp dx
      | none => rw [e2] at P1; exact P1.elim
    · exact P1.elim
  · exact P1.elim
end
end DL

set_option maxHeartbeats 1000000
namespace DL
open PySem PySem.Spec PyProof.Rows L2
open LamX (Tabs TabB LamS lamEnv)

theorem room65 {k : Nat} {A : Around} (h : Room k A) : A.units + 65 < cLine := by
  have := h.un
  omega
/-! ### defs that a name may hold -/
def lookS (l : List (Nat × (Nat × (List D → Out)))) (j : Nat) : Option (Nat × (List D → Out)) := match l with
  | [] => none
  | e :: r => if j = e.1 then some e.2 else lookS r j
def HeldL (P : Program) (w : World) (K : Frag) (mg : Str → Option Value) (base : Heap) (k : Nat) (fa : Nat → Addr) (T : List (Addr × Str)) : List (Nat × (Nat × (List D → Out))) → Prop
  | [] => True
  | e :: r => (∃ x, DefN P w K mg base k fa T x e.2.1 e.2.2 ∧ mg x = some (.ref (fa e.1))) ∧ HeldL P w K mg base k fa T r
theorem held_look {X : Cx} {F : Fm} {k : Nat} : ∀ {l : List (Nat × (Nat × (List D → Out)))}, HeldL X.prog X.w X.K X.mg X.base k F.fa F.T l → ∀ (j n : Nat) (g : List D → Out), lookS l j = some (n, g) → HeldN X F k j n g
  | [], _, _, _, _, e => nomatch e
  | e :: r, h, j, n, g, q => by
    unfold lookS at q
    split at q
    · rename_i ej
      subst ej
      obtain ⟨⟨x, D, hm⟩, _⟩ := h
      have q := Option.some.inj q
      rw [q] at D
      exact D.held hm
    · exact held_look h.2 j n g q
/-! ### the def that takes a lambda -/
structure LamDef (P : Program) (w : World) (K : Frag) (mg : Str → Option Value) (base : Heap) (k : Nat) (fa : Nat → Addr) (T : List (Addr × Str)) (x a : Str) (h : LamO → Out) : Prop where
  ex : ∃ g pg bg sg fd Ng, FunD K x x pg bg sg [] [] g fd ∧ mg x = some (.ref g) ∧ Binds K fd [a] [] ∧ FnScope Ng [a] sg ∧ Ng[0]? = some a ∧ Vis sg a ∧ ∀ cdg, GivesL P w K mg base k Ng x sg g cdg bg a fa T h
theorem LamDef.mono {P : Program} {w : World} {K : Frag} {mg : Str → Option Value} {base : Heap} {j k : Nat} {fa : Nat → Addr} {T : List (Addr × Str)} {x a : Str} {h : LamO → Out} (L : LamDef P w K mg base j fa T x a h) (hk : j ≤ k) : LamDef P w K mg base k fa T x a h := by
  obtain ⟨g, pg, bg, sg, fd, Ng, h1, h2, h3, h4, h5, h6, h7⟩ := L.ex
  exact ⟨g, pg, bg, sg, fd, Ng, h1, h2, h3, h4, h5, h6, fun cdg A outer s H E f o B hr act => h7 cdg A outer s H E f o B (hr.mono hk) act⟩
/-- the table of a def that makes lambdas -/
structure TabF (base : Heap) (mg : Str → Option Value) (T : List (Addr × Str)) (c P : Addr) (x : Str) (sc : Scope) : Prop where
  tb : TabB base mg c P
  m : (P, (envOfC x sc 0 0 .none).qual ++ "<lambda>") ∈ T
  u : ∀ p ∈ T, p.1 = P → p.2 = (envOfC x sc 0 0 .none).qual ++ "<lambda>"
theorem de_lamD {F : Fm} {X : Cx} {W : WX} {x a y : Str} {c P : Addr} {k : Nat} {sc : Scope} {params : Arguments} {body : Expr} {scope : Scope} {fb : DEf} {h : LamO → Out} {p lpos pos : Pos} (LD : LamDef X.prog X.w X.K X.mg X.base (k + 1) F.fa F.T x a h) (tk : L2N.Takes X W) (hg : Gl X x)
    (TB : TabF X.base X.mg F.T c P y sc) (hq : (envOfC y sc 0 0 .none).qual = X.env.qual) (hcode : X.env.code = .ref c) (hr : Room (k + 2) X.A) (L : LamS X.env.scope scope) (hdef : defaultsOf params X.env = ([], []))
    (hbind : ∀ (q : Str) (cl : List (Str × Addr)) (pm cv ctv : Value), bindArgs (PySem.W.kla_fn "<lambda>" q params body scope cl pm cv ctv) ⟨[], []⟩ = pure [])
    (hbody : ∀ (A : Around) (outer : List Env) (s : Shared) (H : Hp) (E : XK) (f c' : Addr) (H0 : Hp) (B : List Addr), Room k (A.deeper (lamEnv X scope s.heap.objs.size f c')) → DE (frm F.fa F.T H0 B) (lamN X A outer s H E scope f c') (WO E) body fb)
    (hdb : (x == ("__debug__" : Str)) = false := by decide) (hd : (a == ("__debug__" : Str)) = false := by decide) (hcd : (a == ("__classdict__" : Str)) = false := by decide) :
    DE F X W (.Call (.Name x p) [.Lambda params body scope lpos] [] pos) (dLam h fb) := by
  obtain ⟨g, pg, bg, sg, fd, Ng, h1, h2, h3, h4, h5, h6, h7⟩ := LD.ex
  exact de_lam h1 tk hg h2 h3 h4 h5 h6 h7 TB.tb hcode (by rw [← hq]; exact TB.m) (by rw [← hq]; exact TB.u) hr L hdef hbind hbody hdb hd hcd
/-- a def of which nothing is known -/
theorem defN_stuck {P : Program} {w : World} {K : Frag} {mg : Str → Option Value} {base : Heap} {k n : Nat} {fa : Nat → Addr} {T : List (Addr × Str)} {x : Str} {params : Arguments} {body : List Stmt} {scope : Scope} {f : Addr} {fd : FuncData} {ps : List Str}
    (FD : FunD K x x params body scope [] [] f fd) (hm : mg x = some (.ref f)) (hb : Binds K fd ps []) (hn : ps.length = n) : DefN P w K mg base k fa T x n (fun _ => .stuck) := by
  refine ⟨f, fd, ps, hm, ⟨fun vs H Q E h => ?_, fun A outer s H args us vs Q E hr he hb' hv h => ?_⟩, FD.kp, hb⟩
  · obtain ⟨ds, B, h1, h2, _⟩ := h
    rw [← h2.length, h1, hn]
  · obtain ⟨ds, B, _, _, _, _, h5⟩ := h
    exact h5.elim
end DL

set_option maxHeartbeats 1000000
namespace DL
open PySem PySem.Spec PyProof.Rows L2
open LamX (Tabs TabB TabS)

/-! ### what the head tells of classes and tables -/
def excCB (K : Frag) (D : Addr) : Bool := decide (PySem.W.findIn K (.ref D) "__getattribute__" = some (some (.builtin "BaseException.__getattribute__"))) && decide (PySem.W.findIn K (.ref D) "__getattr__" = some none) &&
  decide (PySem.W.subIn K (.ref D) (.type "BaseException") = some true) && decide (PySem.W.hasDictIn K D = true) && decide (PySem.W.findIn K (.ref D) "__class__" = some (some (.builtin "object.__class__"))) &&
  decide (PySem.W.specialIn K (.builtin "object.__class__") "__get__" = some (some (.builtin "getset_descriptor.__get__"))) && decide (PySem.W.takesIn K (.builtin "object.__class__") = some true) && decide (PySem.W.mroIn K D (.type "object") = some true)
theorem excCB_ok {K : Frag} {D : Addr} (h : excCB K D = true) : ExcC K D := by
  unfold excCB at h
  simp only [Bool.and_eq_true, decide_eq_true_eq] at h
  obtain ⟨⟨⟨⟨⟨⟨⟨h1, h2⟩, h3⟩, h4⟩, h5⟩, h6⟩, h7⟩, h8⟩ := h
  exact ⟨h1, h2, h3, h4, h5, h6, h7, h8⟩
theorem all_rg {n k : Nat} {p : Nat → Bool} (h : (List.range n).all p = true) (hk : k < n) : p k = true := List.all_eq_true.mp h k (List.mem_range.mpr hk)
theorem excN_of {K : Frag} {h : Heap} {mg : Str → Option Value} {fa : Nat → Addr} {x : Str} {j : Nat} (X : K.In h) (G : h.Ns mainGlobals mg) (c1 : (He.Fa.glo x).ok K = true) (c2 : (He.Fa.exc x).ok K = true) (e : fa j = He.ga K x) : ExcN K mg fa x j := by
  obtain ⟨h1, h2, h3, h4⟩ := He.exc_ok c2
  exact ⟨by rw [e]; exact He.glo_ok X G c1, by rw [e]; exact h1, by rw [e]; exact h2, by rw [e]; exact h3, by rw [e]; exact h4⟩
theorem funD_code {K : Frag} {x q : Str} {params : Arguments} {body : List Stmt} {scope : Scope} {dv : List V} {kw : List (Str × V)} {p : Str × Option Str} {fd : FuncData} (FD : FunD K x q params body scope dv kw (He.fAd K p) fd) : fd.code = .ref (He.codeOf K p) := by
  obtain ⟨oc, od, dV, kV, doc, pm, an, cdv, ct, osl, rfl, lk, hcd, _, _⟩ := FD.ex
  obtain ⟨c, rfl⟩ := He.codeIn_ref hcd
  rw [He.codeOf_eq lk rfl]
/-- the tables of the defs that make lambdas; q: what they call them -/
def tabT (K : Frag) (q : Str → Str) (tf : List He.Defn) : List (Addr × Str) := tf.map fun p => ((He.cT K p).2, q p.1)
theorem tabT_u {K : Frag} {q : Str → Str} {tf : List He.Defn} (nd : (tf.map fun p => (He.cT K p).2).Nodup) {p : He.Defn} (hp : p ∈ tf) : ∀ z ∈ tabT K q tf, z.1 = (He.cT K p).2 → z.2 = q p.1 := fun z hz e => by
  unfold tabT at hz
  obtain ⟨p', hp', rfl⟩ := List.mem_map.mp hz
  have : p' = p := by
    obtain ⟨i, hi, rfl⟩ := List.mem_iff_getElem.mp hp
    obtain ⟨j, hj, rfl⟩ := List.mem_iff_getElem.mp hp'
    have hij : j = i := by
      refine (List.getElem_inj (xs := tf.map fun p => (He.cT K p).2) (h₀ := by simpa using hj) (h₁ := by simpa using hi) nd).mp ?_
      simpa using e
    subst hij
    rfl
  rw [this]
theorem tabF_of {K : Frag} {base : Heap} {mg : Str → Option Value} {q : Str → Str} {tf : List He.Defn} {p : He.Defn} {sc : Scope} (nd : (tf.map fun p => (He.cT K p).2).Nodup) (hp : p ∈ tf) (hTB : ∀ z ∈ tf.map (He.cT K), TabB base mg z.1 z.2) (hq : q p.1 = (envOfC p.1 sc 0 0 .none).qual ++ "<lambda>") :
    TabF base mg (tabT K q tf) (He.cT K p).1 (He.cT K p).2 p.1 sc := by
  refine ⟨hTB _ (List.mem_map.mpr ⟨p, hp, rfl⟩), List.mem_map.mpr ⟨p, hp, by rw [hq]⟩, fun z hz e => ?_⟩
  rw [← hq]
  exact tabT_u nd hp z hz e
theorem tabs_start {K : Frag} {q : Str → Str} {tf : List He.Defn} {H : Hp} (h : ∀ z ∈ tf.map (He.cT K), H z.2 = some (.tbl #[])) : Tabs (tabT K q tf) H := fun z hz => by
  obtain ⟨p, hp, rfl⟩ := List.mem_map.mp hz
  exact TabS.nil (h _ (List.mem_map.mpr ⟨p, hp, rfl⟩))
/-- the law's promise, at its start -/
theorem law_sp {K : Frag} {fa : Nat → Addr} {T : List (Addr × Str)} {g : List D → Out} {H : Hp} {a : Addr} {ns : List Int} {E : XK} (hT : Tabs T H) (hS : SqL K H a (ns.map V.int)) (hg : g [.scr ns] = .ok (.bl true)) : spN K fa T 1 g [.ref a] H (fun v _ => v = .bl true) E := by
  refine ⟨[.scr ns], [], rfl, .cons (Den.ofScr hS) .nil, fun _ m => (nomatch m), hT, ?_⟩
  rw [hg]
  intro v H' _ dn
  cases dn
  rfl
end DL

namespace DL
open PySem PySem.Spec L2

/-! ### plain laws that every law of this shape asks -/
theorem wipeR_get {ρ : Rho} {i : Nat} {vs : List Nat} : (wipeR ρ vs)[i]? = if i ∈ vs ∧ i < ρ.length then some none else ρ[i]? := by
  induction vs with
  | nil => simp [wipeR]
  | cons v vs ih =>
    unfold wipeR
    rw [List.getElem?_set, wipeR_len, ih]
    by_cases h : v = i
    · subst h
      by_cases hl : v < ρ.length
      · simp [hl]
      · simp [hl, List.getElem?_eq_none (Nat.le_of_not_lt hl)]
    · simp [h, Ne.symm h]
def keepO : Option (Option Slot) → Option Slot
  | some (some (.val d)) => some (.val d)
  | _ => none
theorem keepR_cons (ρ1 ρ2 : Rho) (v : Nat) (vs : List Nat) : keepR ρ1 ρ2 (v :: vs) = (keepR ρ1 ρ2 vs).set v (keepO ρ1[v]?) := by
  unfold keepO
  rfl
theorem keepR_at {ρ1 ρ2 : Rho} {i : Nat} {vs : List Nat} : (keepR ρ1 ρ2 vs)[i]? = if i ∈ vs ∧ i < ρ2.length then some (keepO ρ1[i]?) else ρ2[i]? := by
  induction vs with
  | nil => simp [keepR]
  | cons v vs ih =>
    rw [keepR_cons, List.getElem?_set, keepR_len, ih]
    by_cases h : v = i
    · subst h
      by_cases hl : v < ρ2.length
      · simp [hl]
      · simp [hl, List.getElem?_eq_none (Nat.le_of_not_lt hl)]
    · simp [h, Ne.symm h]
theorem keepR_wipe (ρ1 ρ2 : Rho) (vs : List Nat) : keepR ρ1 ρ2 vs = keepR ρ1 (wipeR ρ2 vs) vs := by
  apply List.ext_getElem?
  intro i
  rw [keepR_at, keepR_at, wipeR_len, wipeR_get]
  by_cases h : i ∈ vs ∧ i < ρ2.length
  · rw [if_pos h, if_pos h]
  · rw [if_neg h, if_neg h, if_neg h]
/-- a comprehension that changes nothing else: what is picked, what is made of it -/
theorem compD_pick {vs : List Nat} {g : DGf} {t : DTf} {elt : DEf} {base : Rho} {p : D → Bool} {h : D → D} :
    ∀ (ds : List D) (ρ : Rho) (acc : List D), (∀ d ∈ ds, ∃ ρ1, g d base = some ρ1 ∧ wipeR ρ1 vs = base ∧ t ρ1 = .ok (p d, ρ1) ∧ (p d = true → elt ρ1 = .ok (.val (h d), ρ1))) →
      wipeR ρ vs = base → acc.length + ds.length ≤ 16777216 → ∃ ρ', compD vs g t elt ds ρ acc = .ok (acc ++ (ds.filter p).map h, ρ') ∧ wipeR ρ' vs = base
  | [], ρ, acc, _, hb, _ => ⟨ρ, by simp [compD], hb⟩
  | d :: ds, ρ, acc, H, hb, hl => by
    obtain ⟨ρ1, e1, e2, e3, e4⟩ := H d List.mem_cons_self
    unfold compD
    rw [hb, e1]
    dsimp only
    rw [e3]
    cases hp : p d with
    | false =>
      dsimp only
      obtain ⟨ρ', q, qb⟩ := compD_pick ds ρ1 acc (fun d hd => H d (List.mem_cons_of_mem _ hd)) e2 (by simp at hl; omega)
      exact ⟨ρ', by rw [q, List.filter_cons_of_neg (by simp [hp])], qb⟩
    | true =>
      dsimp only
      rw [e4 hp]
      dsimp only [frz1]
      rw [if_pos (by simp at hl; omega)]
      obtain ⟨ρ', q, qb⟩ := compD_pick ds ρ1 (acc ++ [h d]) (fun d hd => H d (List.mem_cons_of_mem _ hd)) e2 (by simp at hl ⊢; omega)
      exact ⟨ρ', by rw [q, List.filter_cons_of_pos hp]; simp, qb⟩
theorem fComp_pick {vs : List Nat} {fi : DIf} {g : DGf} {t : DTf} {elt : DEf} {p : D → Bool} {h : D → D} {ρ ρ0 : Rho} {ds : List D} (hi : fi ρ = .ok (ds, ρ0))
    (H : ∀ d ∈ ds, ∃ ρ1, g d (wipeR ρ0 vs) = some ρ1 ∧ wipeR ρ1 vs = wipeR ρ0 vs ∧ t ρ1 = .ok (p d, ρ1) ∧ (p d = true → elt ρ1 = .ok (.val (h d), ρ1))) (hl : ds.length ≤ 16777216) :
    fComp vs fi g t elt ρ = .ok ((ds.filter p).map h, keepR ρ0 (wipeR ρ0 vs) vs) := by
  obtain ⟨ρ', e, eb⟩ := compD_pick (p := p) (h := h) ds ρ0 [] H rfl (by simpa using hl)
  unfold fComp
  rw [hi]
  dsimp only [Res.bind]
  rw [e]
  dsimp only
  rw [keepR_wipe, eb]
  simp
/-! #### numbers drawn -/
def cupG : List D → Option (List D) := rawF 2 (sSet 1 (dCB bAbs (aCons (dO2 dIx (dO2 dAdd (dCB bList (aCons (dVar 0) aNil)) (dDisp .lst (aCons (dC (.int 0)) aNil))) (dC (.int 0))) aNil))) (fDisp (aCons (dIf (tCmpD dGe (dVar 1) (dO2 dPow (dC (.int 10)) (dC (.int 18)))) (dO2 dFdiv (dVar 1) (dC (.int 127))) (dC (.int 0))) (aCons (dO2 dAdd (dO2 dMod (dCB bInt (aCons (dO2 dAdd (dO2 dMul (dVar 1) (dC (.int 373))) (dC (.int 5407))) aNil)) (dC (.int 1974129427))) (dC (.int 229))) aNil)))
def rollB : DSf := (sSeq (sIf (tCmpD dGt (dO2 dIx (dVar 0) (dC (.int 0))) (dC (.int 0))) (sSeq (sSet 2 (dO2 dMod (dCB bInt (aCons (dO2 dIx (dVar 0) (dC (.int 0))) aNil)) (dVar 1)))
  (sSeq (sItem 0 (dC (.int 0)) (dO2 dFdiv (dO2 dIx (dVar 0) (dC (.int 0))) (dVar 1)))
  (sRet (dVar 2)))) sNext)
  (sSeq (sItem 0 (dC (.int 1)) (dO2 dMod (dCB bInt (aCons (dO2 dAdd (dO2 dMul (dO2 dIx (dVar 0) (dC (.int 1))) (dC (.int 29917))) (dC (.int 9103))) aNil)) (dC (.int 2147483543))))
  (sSeq (sSet 3 (dO2 dMod (dCB bInt (aCons (dO2 dMul (dO2 dIx (dVar 0) (dC (.int 1))) (dO2 dAdd (dO2 dIx (dVar 0) (dC (.int 1))) (dC (.int 307)))) aNil)) (dC (.int 2147483587))))
  (sRet (dO2 dMod (dCB bInt (aCons (dO2 dFdiv (dVar 3) (dC (.int 887))) aNil)) (dVar 1))))))
def rollG : List D → List D → OutB := rawB 4 rollB
def someB : DSf := (sRet (dO2 dIx (dVar 1) (dCallB 1 rollG (aCons (dVar 0) (aCons (dCB bLen (aCons (dVar 1) aNil)) aNil)))))
def someG : List D → List D → OutB := rawB 2 someB
def sortB : DSf := (sSeq (sIf (tOrD (tCmpD dIs (dVar 0) (dC .non)) (tTru (dCB bIsa (aCons (dVar 0) (aCons (dC (.ty "bool")) aNil))))) (sRet (dIf (tCmpD dIs (dVar 0) (dC .non)) (dC (.int 0)) (dC (.int 1)))) sNext)
  (sSeq (sIf (tOrD (tTru (dCB bIsa (aCons (dVar 0) (aCons (dC (.ty "int")) aNil)))) (tTru (dCB bIsa (aCons (dVar 0) (aCons (dC (.ty "str")) aNil))))) (sRet (dIf (tTru (dCB bIsa (aCons (dVar 0) (aCons (dC (.ty "int")) aNil)))) (dC (.int 2)) (dC (.int 3)))) sNext)
  (sRet (dIf (tTru (dCB bIsa (aCons (dVar 0) (aCons (dC (.ty "tuple")) aNil)))) (dC (.int 4)) (dIf (tTru (dCB bIsa (aCons (dVar 0) (aCons (dC (.ty "list")) aNil)))) (dC (.int 5)) (dC (.int 6)))))))
def sortG : List D → Out := rawN 1 sortB
def likeB (g : List D → Out) : DSf := (sSeq (sSet 2 (dCall 1 sortG (aCons (dVar 1) aNil)))
  (sSeq (sIf (tOrD (tCmpD dNe (dCall 1 sortG (aCons (dVar 0) aNil)) (dVar 2)) (tCmpD dEq (dVar 2) (dC (.int 6)))) (sRet (dC (.bl false))) sNext)
  (sSeq (sIf (tCmpD dIn (dVar 2) (dDisp .tup (aCons (dC (.int 4)) (aCons (dC (.int 5)) aNil)))) (sRet (dAndV (dO2 dEq (dCB bLen (aCons (dVar 0) aNil)) (dCB bLen (aCons (dVar 1) aNil))) (dO2 dEq (dOfF (fComp [3, 4] (iZip (aCons (dVar 0) (aCons (dVar 1) aNil))) (gT 2 (gsCons (gN 3) (gsCons (gN 4) gsNil))) (tNotD (tTru (dCall 2 g (aCons (dVar 3) (aCons (dVar 4) aNil))))) (dC (.int 1)))) (dDisp .lst aNil)))) sNext)
  (sRet (dO2 dEq (dVar 0) (dVar 1))))))
def likeG_ : Nat → List D → Out
  | 0 => fun _ => .stuck
  | m + 1 => rawN 5 (likeB (likeG_ m))
theorem mulOk_r (i : Int) {j : Int} (h : j.natAbs < 2 ^ 64) : mulOk i j = true := by
  unfold mulOk
  simp [h]
theorem mulOk_l {i : Int} (j : Int) (h : i.natAbs < 2 ^ 64) : mulOk i j = true := by
  unfold mulOk
  simp [h]
/-- the bound of a draw -/
def drawn (m : Int) : Prop := 0 < m ∧ m.natAbs.log2 < 9000
theorem drawn_of {m : Int} (h : 0 < m) (h2 : m < 2 ^ 63) : drawn m := ⟨h, by
  have : m.natAbs < 2 ^ 63 := by omega
  by_cases h0 : m.natAbs = 0
  · simp [h0]
  · have := (Nat.log2_lt h0).mpr this
    omega⟩
theorem roll_ok (a b m : Int) (h : drawn m) : ∃ a' b' r : Int, rollG [.int a, .int b] [.int m] = .ok (.int r) [.int a', .int b'] ∧ 0 ≤ r ∧ r < m := by
  obtain ⟨h0, h1⟩ := h
  by_cases ha : 0 < a
  · refine ⟨a / m, b, a % m, ?_, Int.emod_nonneg _ (by omega), Int.emod_lt_of_pos _ h0⟩
    simp [rollG, rollB, DL.Res.bind, DL.Arg.res, DL.sBind, DL.Rho.cont, DL.Rho.put, DL.frz1, DL.frzL, DL.dVar, DL.dC, DL.resB, DL.resU, DL.dO2, DL.dO1, DL.resL, DL.resC, DL.dCB, DL.aNil, DL.aCons, DL.dDisp, DL.oNone, DL.oSome, DL.dSlice, DL.tTru, DL.tBl, DL.tNotD, DL.tAndD, DL.tOrD, DL.tCmpD, DL.tChn, DL.dChn, DL.dAndV, DL.dOrV, DL.dNotV, DL.dIf, DL.fDisp, DL.asL, DL.fO2, DL.fCB, DL.dOfF, DL.sNext, DL.sSeq, DL.sSet, DL.sSetO, DL.sRet, DL.sRetN, DL.sDrop, DL.sIf, DL.sApp, DL.sItem, DL.dPopAt, DL.gN, DL.gsNil, DL.gsCons, DL.gT, DL.sAsg, DL.pNil, DL.pVal, DL.pOwn, DL.putS, DL.sPar, DL.iSeq, DL.iRg1, DL.iRg2, DL.iZip, DL.iEnumL, DL.tYesD, DL.bor0, DL.outR, DL.callK, DL.dCall, DL.dCall0, DL.callB, DL.dCallB, DL.dCallL, DL.sExc, DL.iLst, DL.fCall, DL.lookS, DL.rawN, DL.rawB, DL.rawF, DL.valsR, DL.D.tru, DL.dAdd, DL.dSub, DL.dMul, DL.dFdiv, DL.dMod, DL.dNeg, DL.dCmp, DL.dIs, DL.dIsNot, DL.D.isNon, DL.dIx, DL.dBack, DL.bLen, DL.bAbs, DL.bInt, DL.bTuple, DL.bList, DL.bIsa, DL.isaOf, DL.D.kind, L2.atI, L2.ixN, ha, h0, h1]
  · have k1 : 0 ≤ (b * 29917 + 9103) % 2147483543 := Int.emod_nonneg _ (by decide)
    have k2 : (b * 29917 + 9103) % 2147483543 < 2147483543 := Int.emod_lt_of_pos _ (by decide)
    have m1 : mulOk b 29917 = true := mulOk_r _ (by decide)
    have m2 : mulOk ((b * 29917 + 9103) % 2147483543) ((b * 29917 + 9103) % 2147483543 + 307) = true := mulOk_l _ (by omega)
    have l1 : Nat.log2 887 < 9000 := by decide
    refine ⟨a, (b * 29917 + 9103) % 2147483543, (b * 29917 + 9103) % 2147483543 * ((b * 29917 + 9103) % 2147483543 + 307) % 2147483587 / 887 % m, ?_, Int.emod_nonneg _ (by omega), Int.emod_lt_of_pos _ h0⟩
    simp [rollG, rollB, DL.Res.bind, DL.Arg.res, DL.sBind, DL.Rho.cont, DL.Rho.put, DL.frz1, DL.frzL, DL.dVar, DL.dC, DL.resB, DL.resU, DL.dO2, DL.dO1, DL.resL, DL.resC, DL.dCB, DL.aNil, DL.aCons, DL.dDisp, DL.oNone, DL.oSome, DL.dSlice, DL.tTru, DL.tBl, DL.tNotD, DL.tAndD, DL.tOrD, DL.tCmpD, DL.tChn, DL.dChn, DL.dAndV, DL.dOrV, DL.dNotV, DL.dIf, DL.fDisp, DL.asL, DL.fO2, DL.fCB, DL.dOfF, DL.sNext, DL.sSeq, DL.sSet, DL.sSetO, DL.sRet, DL.sRetN, DL.sDrop, DL.sIf, DL.sApp, DL.sItem, DL.dPopAt, DL.gN, DL.gsNil, DL.gsCons, DL.gT, DL.sAsg, DL.pNil, DL.pVal, DL.pOwn, DL.putS, DL.sPar, DL.iSeq, DL.iRg1, DL.iRg2, DL.iZip, DL.iEnumL, DL.tYesD, DL.bor0, DL.outR, DL.callK, DL.dCall, DL.dCall0, DL.callB, DL.dCallB, DL.dCallL, DL.sExc, DL.iLst, DL.fCall, DL.lookS, DL.rawN, DL.rawB, DL.rawF, DL.valsR, DL.D.tru, DL.dAdd, DL.dSub, DL.dMul, DL.dFdiv, DL.dMod, DL.dNeg, DL.dCmp, DL.dIs, DL.dIsNot, DL.D.isNon, DL.dIx, DL.dBack, DL.bLen, DL.bAbs, DL.bInt, DL.bTuple, DL.bList, DL.bIsa, DL.isaOf, DL.D.kind, L2.atI, L2.ixN, ha, h0, h1, m1, m2, l1]
end DL

namespace DL
open PySem PySem.Spec L2

theorem atI_zero {α : Type} (x : α) (xs : List α) : L2.atI (x :: xs) 0 = some x := by
  unfold L2.atI L2.ixN
  simp
theorem atI_nat {α : Type} {xs : List α} {i : Int} {x : α} (h0 : 0 ≤ i) (h : xs[i.toNat]? = some x) : L2.atI xs i = some x := by
  have hl : i.toNat < xs.length := by
    rw [List.getElem?_eq_some_iff] at h
    exact h.1
  unfold L2.atI L2.ixN
  rw [if_pos h0, if_pos (by omega)]
  exact h
theorem cup_ok (ns : List Int) (h : ns.length ≤ 63) : ∃ a b : Int, cupG [.scr ns] = some [.int a, .int b] := by
  have m1 : ∀ i : Int, mulOk i 373 = true := fun i => mulOk_r i (by decide)
  have l1 : Nat.log2 127 < 9000 := by decide
  obtain ⟨c, r, e⟩ : ∃ c r, ns.map D.int ++ [D.int 0] = D.int c :: r := by
    cases ns with
    | nil => exact ⟨0, [], rfl⟩
    | cons n ns => exact ⟨n, ns.map D.int ++ [D.int 0], rfl⟩
  have hl : ns.length + 1 ≤ 16777216 := by omega
  by_cases hc : (1000000000000000000 : Int) ≤ (if c < 0 then -c else c)
  · refine ⟨(if c < 0 then -c else c) / 127, ((if c < 0 then -c else c) * 373 + 5407) % 1974129427 + 229, ?_⟩
    simp [cupG, dPow, DL.Res.bind, DL.Arg.res, DL.sBind, DL.Rho.cont, DL.Rho.put, DL.frz1, DL.frzL, DL.dVar, DL.dC, DL.resB, DL.resU, DL.dO2, DL.dO1, DL.resL, DL.resC, DL.dCB, DL.aNil, DL.aCons, DL.dDisp, DL.oNone, DL.oSome, DL.dSlice, DL.tTru, DL.tBl, DL.tNotD, DL.tAndD, DL.tOrD, DL.tCmpD, DL.tChn, DL.dChn, DL.dAndV, DL.dOrV, DL.dNotV, DL.dIf, DL.fDisp, DL.asL, DL.fO2, DL.fCB, DL.dOfF, DL.sNext, DL.sSeq, DL.sSet, DL.sSetO, DL.sRet, DL.sRetN, DL.sDrop, DL.sIf, DL.sApp, DL.sItem, DL.dPopAt, DL.gN, DL.gsNil, DL.gsCons, DL.gT, DL.sAsg, DL.pNil, DL.pVal, DL.pOwn, DL.putS, DL.sPar, DL.iSeq, DL.iRg1, DL.iRg2, DL.iZip, DL.iEnumL, DL.tYesD, DL.bor0, DL.outR, DL.callK, DL.dCall, DL.dCall0, DL.callB, DL.dCallB, DL.dCallL, DL.sExc, DL.iLst, DL.fCall, DL.lookS, DL.rawN, DL.rawB, DL.rawF, DL.valsR, DL.D.tru, DL.dAdd, DL.dSub, DL.dMul, DL.dFdiv, DL.dMod, DL.dNeg, DL.dCmp, DL.dIs, DL.dIsNot, DL.D.isNon, DL.dIx, DL.dBack, DL.bLen, DL.bAbs, DL.bInt, DL.bTuple, DL.bList, DL.bIsa, DL.isaOf, DL.D.kind, hl, e, atI_zero, hc, m1, l1]
  · refine ⟨0, ((if c < 0 then -c else c) * 373 + 5407) % 1974129427 + 229, ?_⟩
    simp [cupG, dPow, DL.Res.bind, DL.Arg.res, DL.sBind, DL.Rho.cont, DL.Rho.put, DL.frz1, DL.frzL, DL.dVar, DL.dC, DL.resB, DL.resU, DL.dO2, DL.dO1, DL.resL, DL.resC, DL.dCB, DL.aNil, DL.aCons, DL.dDisp, DL.oNone, DL.oSome, DL.dSlice, DL.tTru, DL.tBl, DL.tNotD, DL.tAndD, DL.tOrD, DL.tCmpD, DL.tChn, DL.dChn, DL.dAndV, DL.dOrV, DL.dNotV, DL.dIf, DL.fDisp, DL.asL, DL.fO2, DL.fCB, DL.dOfF, DL.sNext, DL.sSeq, DL.sSet, DL.sSetO, DL.sRet, DL.sRetN, DL.sDrop, DL.sIf, DL.sApp, DL.sItem, DL.dPopAt, DL.gN, DL.gsNil, DL.gsCons, DL.gT, DL.sAsg, DL.pNil, DL.pVal, DL.pOwn, DL.putS, DL.sPar, DL.iSeq, DL.iRg1, DL.iRg2, DL.iZip, DL.iEnumL, DL.tYesD, DL.bor0, DL.outR, DL.callK, DL.dCall, DL.dCall0, DL.callB, DL.dCallB, DL.dCallL, DL.sExc, DL.iLst, DL.fCall, DL.lookS, DL.rawN, DL.rawB, DL.rawF, DL.valsR, DL.D.tru, DL.dAdd, DL.dSub, DL.dMul, DL.dFdiv, DL.dMod, DL.dNeg, DL.dCmp, DL.dIs, DL.dIsNot, DL.D.isNon, DL.dIx, DL.dBack, DL.bLen, DL.bAbs, DL.bInt, DL.bTuple, DL.bList, DL.bIsa, DL.isaOf, DL.D.kind, hl, e, atI_zero, hc, m1, l1]
theorem some_ok (a b : Int) (xs : List D) (hne : xs ≠ []) (hl : xs.length ≤ 16777216) : ∃ (a' b' : Int) (x : D), someG [.int a, .int b] [.lst xs] = .ok x [.int a', .int b'] ∧ x ∈ xs := by
  have hp : 0 < xs.length := List.length_pos_iff.mpr hne
  obtain ⟨a', b', r, e, h0, h1⟩ := roll_ok a b xs.length (drawn_of (by omega) (by omega))
  have hr : r.toNat < xs.length := by omega
  refine ⟨a', b', xs[r.toNat], ?_, List.getElem_mem _⟩
  have e2 : L2.atI xs r = some xs[r.toNat] := atI_nat h0 (by rw [List.getElem?_eq_getElem hr])
  simp [someG, someB, DL.Res.bind, DL.Arg.res, DL.sBind, DL.Rho.cont, DL.Rho.put, DL.frz1, DL.frzL, DL.dVar, DL.dC, DL.resB, DL.resU, DL.dO2, DL.dO1, DL.resL, DL.resC, DL.dCB, DL.aNil, DL.aCons, DL.dDisp, DL.oNone, DL.oSome, DL.dSlice, DL.tTru, DL.tBl, DL.tNotD, DL.tAndD, DL.tOrD, DL.tCmpD, DL.tChn, DL.dChn, DL.dAndV, DL.dOrV, DL.dNotV, DL.dIf, DL.fDisp, DL.asL, DL.fO2, DL.fCB, DL.dOfF, DL.sNext, DL.sSeq, DL.sSet, DL.sSetO, DL.sRet, DL.sRetN, DL.sDrop, DL.sIf, DL.sApp, DL.sItem, DL.dPopAt, DL.gN, DL.gsNil, DL.gsCons, DL.gT, DL.sAsg, DL.pNil, DL.pVal, DL.pOwn, DL.putS, DL.sPar, DL.iSeq, DL.iRg1, DL.iRg2, DL.iZip, DL.iEnumL, DL.tYesD, DL.bor0, DL.outR, DL.callK, DL.dCall, DL.dCall0, DL.callB, DL.dCallB, DL.dCallL, DL.sExc, DL.iLst, DL.fCall, DL.lookS, DL.rawN, DL.rawB, DL.rawF, DL.valsR, DL.D.tru, DL.dAdd, DL.dSub, DL.dMul, DL.dFdiv, DL.dMod, DL.dNeg, DL.dCmp, DL.dIs, DL.dIsNot, DL.D.isNon, DL.dIx, DL.dBack, DL.bLen, DL.bAbs, DL.bInt, DL.bTuple, DL.bList, DL.bIsa, DL.isaOf, DL.D.kind, e, e2]
def sortOf : D → Int
  | .non => 0 | .bl _ => 1 | .int _ => 2 | .str _ => 3 | .tup _ => 4 | .lst _ => 5 | _ => 6
theorem sort_ok (v : D) (h : v.kind.isSome = true) : sortG [v] = .ok (.int (sortOf v)) := by
  cases v <;> first | rfl | (simp [D.kind] at h)
/-- plain, at most n deep, no line too long -/
def D.lk : Nat → D → Bool
  | 0, .lst _ => false
  | 0, .tup _ => false
  | n + 1, .lst xs => decide (xs.length ≤ 16777216) && xs.all fun x => D.lk n x
  | n + 1, .tup xs => decide (xs.length ≤ 16777216) && xs.all fun x => D.lk n x
  | _, .non => true
  | _, .bl _ => true
  | _, .int _ => true
  | _, .str z => PyData.strOk z
  | _, _ => false
theorem loop_next {g : DGf} {body : DSf} {d : D} {ds : List D} {ρ ρ1 ρ2 : Rho} (h1 : g d ρ = some ρ1) (h2 : body ρ1 = .next ρ2) : loopD g body (d :: ds) ρ = loopD g body ds ρ2 := by
  show (match g d ρ with | some ρ1 => _ | none => _) = _
  rw [h1]
  show (match body ρ1 with | .next ρ2 => _ | .cont ρ2 => _ | .brk ρ2 => _ | .ret d ρ2 => _ | .exc k ρ2 => _ | .stuck => _) = _
  rw [h2]
theorem loop_gN {i : Nat} {body : DSf} {d : D} {ds : List D} {ρ ρ2 : Rho} (h2 : body (ρ.set i (some (.val d))) = .next ρ2) : loopD (gN i) body (d :: ds) ρ = loopD (gN i) body ds ρ2 := loop_next rfl h2
theorem loop_nil {g : DGf} {body : DSf} {ρ : Rho} : loopD g body [] ρ = .next ρ := rfl
/-- a loop that leaves all but its own name -/
theorem loop_same {i : Nat} {body : DSf} {ρ : Rho} : ∀ (ds : List D), (∀ d ∈ ds, body (ρ.set i (some (.val d))) = .next (ρ.set i (some (.val d)))) → ∀ x, ∃ y, loopD (gN i) body ds (ρ.set i x) = .next (ρ.set i y)
  | [], _, x => ⟨x, rfl⟩
  | d :: ds, h, x => by
    have h1 : body ((ρ.set i x).set i (some (.val d))) = .next (ρ.set i (some (.val d))) := by
      rw [List.set_set]
      exact h d List.mem_cons_self
    obtain ⟨y, e⟩ := loop_same ds (fun d hd => h d (List.mem_cons_of_mem _ hd)) (some (.val d))
    exact ⟨y, by rw [loop_gN h1, e]⟩
theorem seq_next {f g : DSf} {ρ ρ' : Rho} (h : f ρ = .next ρ') : sSeq f g ρ = g ρ' := by
  unfold sSeq
  rw [h]
theorem zipD_self : ∀ {xs : List D} {d : D}, d ∈ zipD xs xs → ∃ y ∈ xs, d = .tup [y, y]
  | [], _, h => by simp [zipD] at h
  | x :: xs, d, h => by
    simp only [zipD, List.mem_cons] at h
    rcases h with rfl | h
    · exact ⟨x, List.mem_cons_self, rfl⟩
    · obtain ⟨y, hy, e⟩ := zipD_self h
      exact ⟨y, List.mem_cons_of_mem _ hy, e⟩
theorem like_comp {g : List D → Out} {xs : List D} {ρ : Rho} {x : D} (hx : x = .lst xs ∨ x = .tup xs) (hρ : ρ = [some (.val x), some (.val x), some (.val (.int (sortOf x))), none, none]) (hl : xs.length ≤ 16777216) (hg : ∀ y ∈ xs, g [y, y] = .ok (.bl true)) :
    fComp [3, 4] (iZip (aCons (dVar 0) (aCons (dVar 1) aNil))) (gT 2 (gsCons (gN 3) (gsCons (gN 4) gsNil))) (tNotD (tTru (dCall 2 g (aCons (dVar 3) (aCons (dVar 4) aNil))))) (dC (.int 1)) ρ = .ok ([], ρ) := by
  subst hρ
  have hi : iZip (aCons (dVar 0) (aCons (dVar 1) aNil)) [some (.val x), some (.val x), some (.val (.int (sortOf x))), none, none] = .ok (zipD xs xs, [some (.val x), some (.val x), some (.val (.int (sortOf x))), none, none]) := by
    rcases hx with rfl | rfl <;> simp [DL.Res.bind, DL.Arg.res, DL.sBind, DL.Rho.cont, DL.Rho.put, DL.frz1, DL.frzL, DL.dVar, DL.dC, DL.resB, DL.resU, DL.dO2, DL.dO1, DL.resL, DL.resC, DL.dCB, DL.aNil, DL.aCons, DL.dDisp, DL.oNone, DL.oSome, DL.dSlice, DL.tTru, DL.tBl, DL.tNotD, DL.tAndD, DL.tOrD, DL.tCmpD, DL.tChn, DL.dChn, DL.dAndV, DL.dOrV, DL.dNotV, DL.dIf, DL.fDisp, DL.asL, DL.fO2, DL.fCB, DL.dOfF, DL.sNext, DL.sSeq, DL.sSet, DL.sSetO, DL.sRet, DL.sRetN, DL.sDrop, DL.sIf, DL.sApp, DL.sItem, DL.dPopAt, DL.gN, DL.gsNil, DL.gsCons, DL.gT, DL.sAsg, DL.pNil, DL.pVal, DL.pOwn, DL.putS, DL.sPar, DL.iSeq, DL.iRg1, DL.iRg2, DL.iZip, DL.iEnumL, DL.tYesD, DL.bor0, DL.outR, DL.callK, DL.dCall, DL.dCall0, DL.callB, DL.dCallB, DL.dCallL, DL.sExc, DL.iLst, DL.fCall, DL.lookS, DL.rawN, DL.rawB, DL.rawF, DL.valsR, DL.D.tru, DL.dAdd, DL.dSub, DL.dMul, DL.dFdiv, DL.dMod, DL.dNeg, DL.dCmp, DL.dIs, DL.dIsNot, DL.D.isNon, DL.dIx, DL.dBack, DL.bLen, DL.bAbs, DL.bInt, DL.bTuple, DL.bList, DL.bIsa, DL.isaOf, DL.D.kind]
  have e := fComp_pick (vs := [3, 4]) (g := gT 2 (gsCons (gN 3) (gsCons (gN 4) gsNil))) (t := tNotD (tTru (dCall 2 g (aCons (dVar 3) (aCons (dVar 4) aNil))))) (elt := dC (.int 1)) (p := fun _ => false) (h := fun _ => .int 1) hi (fun d hd => ?_) (by rw [zipD_len, Nat.min_self]; exact hl)
  · rw [e]
    simp [wipeR, keepR]
  · obtain ⟨y, hy, rfl⟩ := zipD_self hd
    refine ⟨[some (.val x), some (.val x), some (.val (.int (sortOf x))), some (.val y), some (.val y)], ?_, ?_, ?_, fun z => by cases z⟩
    · simp [wipeR, DL.Res.bind, DL.Arg.res, DL.sBind, DL.Rho.cont, DL.Rho.put, DL.frz1, DL.frzL, DL.dVar, DL.dC, DL.resB, DL.resU, DL.dO2, DL.dO1, DL.resL, DL.resC, DL.dCB, DL.aNil, DL.aCons, DL.dDisp, DL.oNone, DL.oSome, DL.dSlice, DL.tTru, DL.tBl, DL.tNotD, DL.tAndD, DL.tOrD, DL.tCmpD, DL.tChn, DL.dChn, DL.dAndV, DL.dOrV, DL.dNotV, DL.dIf, DL.fDisp, DL.asL, DL.fO2, DL.fCB, DL.dOfF, DL.sNext, DL.sSeq, DL.sSet, DL.sSetO, DL.sRet, DL.sRetN, DL.sDrop, DL.sIf, DL.sApp, DL.sItem, DL.dPopAt, DL.gN, DL.gsNil, DL.gsCons, DL.gT, DL.sAsg, DL.pNil, DL.pVal, DL.pOwn, DL.putS, DL.sPar, DL.iSeq, DL.iRg1, DL.iRg2, DL.iZip, DL.iEnumL, DL.tYesD, DL.bor0, DL.outR, DL.callK, DL.dCall, DL.dCall0, DL.callB, DL.dCallB, DL.dCallL, DL.sExc, DL.iLst, DL.fCall, DL.lookS, DL.rawN, DL.rawB, DL.rawF, DL.valsR, DL.D.tru, DL.dAdd, DL.dSub, DL.dMul, DL.dFdiv, DL.dMod, DL.dNeg, DL.dCmp, DL.dIs, DL.dIsNot, DL.D.isNon, DL.dIx, DL.dBack, DL.bLen, DL.bAbs, DL.bInt, DL.bTuple, DL.bList, DL.bIsa, DL.isaOf, DL.D.kind]
    · simp [wipeR]
    · simp [DL.Res.bind, DL.Arg.res, DL.sBind, DL.Rho.cont, DL.Rho.put, DL.frz1, DL.frzL, DL.dVar, DL.dC, DL.resB, DL.resU, DL.dO2, DL.dO1, DL.resL, DL.resC, DL.dCB, DL.aNil, DL.aCons, DL.dDisp, DL.oNone, DL.oSome, DL.dSlice, DL.tTru, DL.tBl, DL.tNotD, DL.tAndD, DL.tOrD, DL.tCmpD, DL.tChn, DL.dChn, DL.dAndV, DL.dOrV, DL.dNotV, DL.dIf, DL.fDisp, DL.asL, DL.fO2, DL.fCB, DL.dOfF, DL.sNext, DL.sSeq, DL.sSet, DL.sSetO, DL.sRet, DL.sRetN, DL.sDrop, DL.sIf, DL.sApp, DL.sItem, DL.dPopAt, DL.gN, DL.gsNil, DL.gsCons, DL.gT, DL.sAsg, DL.pNil, DL.pVal, DL.pOwn, DL.putS, DL.sPar, DL.iSeq, DL.iRg1, DL.iRg2, DL.iZip, DL.iEnumL, DL.tYesD, DL.bor0, DL.outR, DL.callK, DL.dCall, DL.dCall0, DL.callB, DL.dCallB, DL.dCallL, DL.sExc, DL.iLst, DL.fCall, DL.lookS, DL.rawN, DL.rawB, DL.rawF, DL.valsR, DL.D.tru, DL.dAdd, DL.dSub, DL.dMul, DL.dFdiv, DL.dMod, DL.dNeg, DL.dCmp, DL.dIs, DL.dIsNot, DL.D.isNon, DL.dIx, DL.dBack, DL.bLen, DL.bAbs, DL.bInt, DL.bTuple, DL.bList, DL.bIsa, DL.isaOf, DL.D.kind, hg y hy]
theorem like_refl : ∀ (n : Nat) (x : D), x.lk n = true → ∀ m, n < m → likeG_ m [x, x] = .ok (.bl true)
  | n, x, hx, 0, hm => by omega
  | n, x, hx, m + 1, hm => by
    have hs : sortG [x] = .ok (.int (sortOf x)) := sort_ok x (by cases n <;> cases x <;> simp [D.lk, D.kind] at hx ⊢)
    show rawN 5 (likeB (likeG_ m)) [x, x] = _
    have leaf : ∀ k : Int, (k = 0 ∨ k = 1 ∨ k = 2 ∨ k = 3) → sortOf x = k → D.pl 60 x = true → x.eqv x = true → rawN 5 (likeB (likeG_ m)) [x, x] = .ok (.bl true) := fun k hk e hp hv => by
      rw [e] at hs
      rcases hk with rfl | rfl | rfl | rfl <;> simp [likeB, DL.Res.bind, DL.Arg.res, DL.sBind, DL.Rho.cont, DL.Rho.put, DL.frz1, DL.frzL, DL.dVar, DL.dC, DL.resB, DL.resU, DL.dO2, DL.dO1, DL.resL, DL.resC, DL.dCB, DL.aNil, DL.aCons, DL.dDisp, DL.oNone, DL.oSome, DL.dSlice, DL.tTru, DL.tBl, DL.tNotD, DL.tAndD, DL.tOrD, DL.tCmpD, DL.tChn, DL.dChn, DL.dAndV, DL.dOrV, DL.dNotV, DL.dIf, DL.fDisp, DL.asL, DL.fO2, DL.fCB, DL.dOfF, DL.sNext, DL.sSeq, DL.sSet, DL.sSetO, DL.sRet, DL.sRetN, DL.sDrop, DL.sIf, DL.sApp, DL.sItem, DL.dPopAt, DL.gN, DL.gsNil, DL.gsCons, DL.gT, DL.sAsg, DL.pNil, DL.pVal, DL.pOwn, DL.putS, DL.sPar, DL.iSeq, DL.iRg1, DL.iRg2, DL.iZip, DL.iEnumL, DL.tYesD, DL.bor0, DL.outR, DL.callK, DL.dCall, DL.dCall0, DL.callB, DL.dCallB, DL.dCallL, DL.sExc, DL.iLst, DL.fCall, DL.lookS, DL.rawN, DL.rawB, DL.rawF, DL.valsR, DL.D.tru, DL.dAdd, DL.dSub, DL.dMul, DL.dFdiv, DL.dMod, DL.dNeg, DL.dCmp, DL.dIs, DL.dIsNot, DL.D.isNon, DL.dIx, DL.dBack, DL.bLen, DL.bAbs, DL.bInt, DL.bTuple, DL.bList, DL.bIsa, DL.isaOf, DL.D.kind, hs, dNe, dEq, dIn, D.pl, D.flat, D.eqv, inAny, hp, hv]
    have node : ∀ xs : List D, (x = .lst xs ∨ x = .tup xs) → xs.length ≤ 16777216 → (∀ y ∈ xs, likeG_ m [y, y] = .ok (.bl true)) → rawN 5 (likeB (likeG_ m)) [x, x] = .ok (.bl true) := fun xs hxs hl hg => by
      have hc := like_comp (g := likeG_ m) hxs rfl hl hg
      rcases hxs with rfl | rfl
      · rw [show sortOf (.lst xs) = 5 from rfl] at hs hc
        simp [likeB, DL.Res.bind, DL.Arg.res, DL.sBind, DL.Rho.cont, DL.Rho.put, DL.frz1, DL.frzL, DL.dVar, DL.dC, DL.resB, DL.resU, DL.dO2, DL.dO1, DL.resL, DL.resC, DL.dCB, DL.aNil, DL.aCons, DL.dDisp, DL.oNone, DL.oSome, DL.dSlice, DL.tTru, DL.tBl, DL.tNotD, DL.tAndD, DL.tOrD, DL.tCmpD, DL.tChn, DL.dChn, DL.dAndV, DL.dOrV, DL.dNotV, DL.dIf, DL.fDisp, DL.asL, DL.fO2, DL.fCB, DL.dOfF, DL.sNext, DL.sSeq, DL.sSet, DL.sSetO, DL.sRet, DL.sRetN, DL.sDrop, DL.sIf, DL.sApp, DL.sItem, DL.dPopAt, DL.gN, DL.gsNil, DL.gsCons, DL.gT, DL.sAsg, DL.pNil, DL.pVal, DL.pOwn, DL.putS, DL.sPar, DL.iSeq, DL.iRg1, DL.iRg2, DL.iZip, DL.iEnumL, DL.tYesD, DL.bor0, DL.outR, DL.callK, DL.dCall, DL.dCall0, DL.callB, DL.dCallB, DL.dCallL, DL.sExc, DL.iLst, DL.fCall, DL.lookS, DL.rawN, DL.rawB, DL.rawF, DL.valsR, DL.D.tru, DL.dAdd, DL.dSub, DL.dMul, DL.dFdiv, DL.dMod, DL.dNeg, DL.dCmp, DL.dIs, DL.dIsNot, DL.D.isNon, DL.dIx, DL.dBack, DL.bLen, DL.bAbs, DL.bInt, DL.bTuple, DL.bList, DL.bIsa, DL.isaOf, DL.D.kind, hs, hc, dNe, dEq, dIn, D.pl, D.pls, D.flat, D.eqv, D.eqvs, inAny]
      · rw [show sortOf (.tup xs) = 4 from rfl] at hs hc
        simp [likeB, DL.Res.bind, DL.Arg.res, DL.sBind, DL.Rho.cont, DL.Rho.put, DL.frz1, DL.frzL, DL.dVar, DL.dC, DL.resB, DL.resU, DL.dO2, DL.dO1, DL.resL, DL.resC, DL.dCB, DL.aNil, DL.aCons, DL.dDisp, DL.oNone, DL.oSome, DL.dSlice, DL.tTru, DL.tBl, DL.tNotD, DL.tAndD, DL.tOrD, DL.tCmpD, DL.tChn, DL.dChn, DL.dAndV, DL.dOrV, DL.dNotV, DL.dIf, DL.fDisp, DL.asL, DL.fO2, DL.fCB, DL.dOfF, DL.sNext, DL.sSeq, DL.sSet, DL.sSetO, DL.sRet, DL.sRetN, DL.sDrop, DL.sIf, DL.sApp, DL.sItem, DL.dPopAt, DL.gN, DL.gsNil, DL.gsCons, DL.gT, DL.sAsg, DL.pNil, DL.pVal, DL.pOwn, DL.putS, DL.sPar, DL.iSeq, DL.iRg1, DL.iRg2, DL.iZip, DL.iEnumL, DL.tYesD, DL.bor0, DL.outR, DL.callK, DL.dCall, DL.dCall0, DL.callB, DL.dCallB, DL.dCallL, DL.sExc, DL.iLst, DL.fCall, DL.lookS, DL.rawN, DL.rawB, DL.rawF, DL.valsR, DL.D.tru, DL.dAdd, DL.dSub, DL.dMul, DL.dFdiv, DL.dMod, DL.dNeg, DL.dCmp, DL.dIs, DL.dIsNot, DL.D.isNon, DL.dIx, DL.dBack, DL.bLen, DL.bAbs, DL.bInt, DL.bTuple, DL.bList, DL.bIsa, DL.isaOf, DL.D.kind, hs, hc, dNe, dEq, dIn, D.pl, D.pls, D.flat, D.eqv, D.eqvs, inAny]
    cases x with
    | non => exact leaf 0 (by omega) rfl rfl rfl
    | bl b => exact leaf 1 (by omega) rfl rfl (by simp [D.eqv])
    | int i => exact leaf 2 (by omega) rfl rfl (by simp [D.eqv])
    | str z => exact leaf 3 (by omega) rfl (by cases n <;> simpa [D.lk, D.pl] using hx) (by simp [D.eqv])
    | lst xs =>
      cases n with
      | zero => simp [D.lk] at hx
      | succ n =>
        simp only [D.lk, Bool.and_eq_true, decide_eq_true_eq, List.all_eq_true] at hx
        exact node xs (.inl rfl) hx.1 fun y hy => like_refl n y (hx.2 y hy) m (by omega)
    | tup xs =>
      cases n with
      | zero => simp [D.lk] at hx
      | succ n =>
        simp only [D.lk, Bool.and_eq_true, decide_eq_true_eq, List.all_eq_true] at hx
        exact node xs (.inr rfl) hx.1 fun y hy => like_refl n y (hx.2 y hy) m (by omega)
    | ty n => cases n <;> simp [D.lk] at hx
    | fn k => cases n <;> simp [D.lk] at hx
    | scr ns => cases n <;> simp [D.lk] at hx
end DL

set_option maxHeartbeats 2000000
namespace K56
open PySem PySem.Spec PyProof.Rows L2 DL
open LamX (Tabs)
def topS (i : Nat) : Stmt := PySem.Challenge.pw_wheelmark_k56_whole_coarse_and_fine.main.body.getD i (.Pass ⟨0, 0, 0, 0⟩)
/-- which classes an except clause takes -/
def clT (k : Nat) : Option Bool := if k < 3 then some true else none
def isaT (k j : Nat) : Bool := [(0, 0), (1, 0), (1, 1), (2, 0), (2, 2)].contains (k, j)
/-- what the names of the program stand for -/
structure Gs (K : Frag) (mg : Str → Option Value) (fa : Nat → Addr) : Prop where
  b_int : mg "int" = none
  b_isinstance : mg "isinstance" = none
  b_bool : mg "bool" = none
  b_tuple : mg "tuple" = none
  b_len : mg "len" = none
  b_min : mg "min" = none
  b_range : mg "range" = none
  b_list : mg "list" = none
  b_abs : mg "abs" = none
  b_str : mg "str" = none
  b_zip : mg "zip" = none
  b_max : mg "max" = none
  v_InvalidMarks : mg "InvalidMarks" = some (.ref (fa 2))
  v_InvalidNumber : mg "InvalidNumber" = some (.ref (fa 1))
  v_ClockError : mg "ClockError" = some (.ref (fa 0))
  v_two_laps : mg "two_laps" = some (.ref (fa 4))
  v_leave_one : mg "leave_one" = some (.ref (fa 3))
  i_ERROR : ∃ t, mg "ERROR" = some (.int 1000 t)
  i_LAPS : ∃ t, mg "LAPS" = some (.int 100 t)
  i_LAP : ∃ t, mg "LAP" = some (.int 1000 t)
  e_InvalidNumber : ExcN K mg fa "InvalidNumber" 1
  e_InvalidMarks : ExcN K mg fa "InvalidMarks" 2
  x_cl : ∀ k b, clT k = some b → PySem.W.exmOne K (.ref (fa k)) (.ref (fa 0)) = some b
  x_exc : ∀ k, clT k = some true → ExcC K (fa k)
  x_isa : ∀ k j, clT k = some true → j < 3 → PySem.W.kitOne K (.ref (fa k)) (.ref (fa j)) = some (isaT k j)
section
variable {P : Program} {w : World} {K : Frag} {mg : Str → Option Value} {base : Heap} {fa : Nat → Addr} {T : List (Addr × Str)} {f : Addr} {fd : FuncData}
/-! #### is_whole -/
abbrev st_is_whole : Stmt := topS 5
theorem sc_is_whole : FnScope ["value", "low", "high"] ["value", "low", "high"] (defScope st_is_whole) := ⟨rfl, rfl, rfl, by decide +kernel, rfl, by decide +kernel, by decide +kernel⟩
def b_is_whole : DSf := (sRet (dAndV (dCB bIsa (aCons (dVar 0) (aCons (dC (.ty "int")) aNil))) (dAndV (dNotV (dCB bIsa (aCons (dVar 0) (aCons (dC (.ty "bool")) aNil)))) (dChn dLe dLe (dVar 1) (dVar 0) (dVar 2)))))
def g_is_whole : List D → Out := rawN 3 b_is_whole
theorem ok_is_whole (G : Gs K mg fa) (FD : FunD K "is_whole" "is_whole" (defArgs st_is_whole) (defBody st_is_whole) (defScope st_is_whole) [] [] f fd) (hm : mg "is_whole" = some (.ref f))  : DefN P w K mg base 1 fa T "is_whole" 3 g_is_whole := by
  have S := sc_is_whole
  exact DefN.of (k := 0) (N := ["value", "low", "high"]) FD hm S (FD.bindsN fun _ _ _ _ _ _ us hl => match us, hl with | [_, _, _], _ => rfl) rfl (by decide) fun cdv A outer s H E H0 B hr => (dss_one (ds_ret (de_and (de_cb (fun h => pe_callB call_isi rfl G.b_isinstance boot_isinstance h) snd_isa (da_cons (de_var (pe_var (i := 0) rfl (Or.inl rfl))) (da_cons (de_ty rfl G.b_int boot_tint) da_nil))) (de_and (de_not (de_cb (fun h => pe_callB call_isi rfl G.b_isinstance boot_isinstance h) snd_isa (da_cons (de_var (pe_var (i := 0) rfl (Or.inl rfl))) (da_cons (de_ty rfl G.b_bool boot_tbool) da_nil)))) (de_one (de_chain (fun h1 h2 h3 => pe_chain op_le op_le h1 h2 h3) (snd_cmp (fun i j => decide (i ≤ j))) (snd_cmp (fun i j => decide (i ≤ j))) (de_var (pe_var (i := 1) rfl (Or.inl rfl))) (de_var (pe_var (i := 0) rfl (Or.inl rfl))) (de_var (pe_var (i := 2) rfl (Or.inl rfl)))))))))
/-! #### need_whole -/
abbrev st_need_whole : Stmt := topS 6
theorem sc_need_whole : FnScope ["value", "low", "high"] ["value", "low", "high"] (defScope st_need_whole) := ⟨rfl, rfl, rfl, by decide +kernel, rfl, by decide +kernel, by decide +kernel⟩
def b_need_whole : DSf := (sIf (tNotD (tTru (dCall 3 g_is_whole (aCons (dVar 0) (aCons (dVar 1) (aCons (dVar 2) aNil)))))) (sExc 1) sNext)
def g_need_whole : List D → Out := rawN 3 b_need_whole
theorem ok_need_whole (G : Gs K mg fa) (FD : FunD K "need_whole" "need_whole" (defArgs st_need_whole) (defBody st_need_whole) (defScope st_need_whole) [] [] f fd) (hm : mg "need_whole" = some (.ref f)) (C_is_whole : DefN P w K mg base 1 fa T "is_whole" 3 g_is_whole) : DefN P w K mg base 2 fa T "need_whole" 3 g_need_whole := by
  have S := sc_need_whole
  exact DefN.of (k := 1) (N := ["value", "low", "high"]) FD hm S (FD.bindsN fun _ _ _ _ _ _ us hl => match us, hl with | [_, _, _], _ => rfl) rfl (by decide) fun cdv A outer s H E H0 B hr => (dss_one (ds_if (dt_not (dt_truth (de_call (C_is_whole.mono (by decide)) (L2N.takes_of rfl rfl rfl rfl) hr rfl (da_cons (de_var (pe_var (i := 0) rfl (Or.inl rfl))) (da_cons (de_var (pe_var (i := 1) rfl (Or.inl rfl))) (da_cons (de_var (pe_var (i := 2) rfl (Or.inl rfl))) da_nil)))))) (dss_one (ds_raise G.e_InvalidNumber rfl (L2N.takes_of rfl rfl rfl rfl) rfl)) dss_nil))
/-! #### is_tuple_of -/
abbrev st_is_tuple_of : Stmt := topS 7
theorem sc_is_tuple_of : FnScope ["value", "low", "high"] ["value", "low", "high"] (defScope st_is_tuple_of) := ⟨rfl, rfl, rfl, by decide +kernel, rfl, by decide +kernel, by decide +kernel⟩
def b_is_tuple_of : DSf := (sRet (dAndV (dCB bIsa (aCons (dVar 0) (aCons (dC (.ty "tuple")) aNil))) (dChn dLe dLe (dVar 1) (dCB bLen (aCons (dVar 0) aNil)) (dVar 2))))
def g_is_tuple_of : List D → Out := rawN 3 b_is_tuple_of
theorem ok_is_tuple_of (G : Gs K mg fa) (FD : FunD K "is_tuple_of" "is_tuple_of" (defArgs st_is_tuple_of) (defBody st_is_tuple_of) (defScope st_is_tuple_of) [] [] f fd) (hm : mg "is_tuple_of" = some (.ref f))  : DefN P w K mg base 1 fa T "is_tuple_of" 3 g_is_tuple_of := by
  have S := sc_is_tuple_of
  exact DefN.of (k := 0) (N := ["value", "low", "high"]) FD hm S (FD.bindsN fun _ _ _ _ _ _ us hl => match us, hl with | [_, _, _], _ => rfl) rfl (by decide) fun cdv A outer s H E H0 B hr => (dss_one (ds_ret (de_and (de_cb (fun h => pe_callB call_isi rfl G.b_isinstance boot_isinstance h) snd_isa (da_cons (de_var (pe_var (i := 0) rfl (Or.inl rfl))) (da_cons (de_ty rfl G.b_tuple boot_ttuple) da_nil))) (de_one (de_chain (fun h1 h2 h3 => pe_chain op_le op_le h1 h2 h3) (snd_cmp (fun i j => decide (i ≤ j))) (snd_cmp (fun i j => decide (i ≤ j))) (de_var (pe_var (i := 1) rfl (Or.inl rfl))) (de_cb (fun h => pe_callB call_len rfl G.b_len boot_len h) snd_len (da_cons (de_var (pe_var (i := 0) rfl (Or.inl rfl))) da_nil)) (de_var (pe_var (i := 2) rfl (Or.inl rfl))))))))
/-! #### distance -/
abbrev st_distance : Stmt := topS 9
theorem sc_distance : FnScope ["n", "one", "other", "way"] ["n", "one", "other"] (defScope st_distance) := ⟨rfl, rfl, rfl, by decide +kernel, rfl, by decide +kernel, by decide +kernel⟩
def b_distance : DSf := (sSeq (sSet 3 (dO2 dMod (dO2 dSub (dVar 1) (dVar 2)) (dVar 0)))
  (sRet (dCB bMin (aCons (dVar 3) (aCons (dO2 dSub (dVar 0) (dVar 3)) aNil)))))
def g_distance : List D → Out := rawN 4 b_distance
theorem ok_distance (G : Gs K mg fa) (FD : FunD K "distance" "distance" (defArgs st_distance) (defBody st_distance) (defScope st_distance) [] [] f fd) (hm : mg "distance" = some (.ref f))  : DefN P w K mg base 1 fa T "distance" 3 g_distance := by
  have S := sc_distance
  exact DefN.of (k := 0) (N := ["n", "one", "other", "way"]) FD hm S (FD.bindsN fun _ _ _ _ _ _ us hl => match us, hl with | [_, _, _], _ => rfl) rfl (by decide) fun cdv A outer s H E H0 B hr => (dss_cons (ds_set (i := 3) S.nd rfl (Or.inl rfl) (de_o2 (fun h1 h2 => pe_op op_mod h1 h2) snd_mod (de_o2 (fun h1 h2 => pe_op op_sub h1 h2) snd_sub (de_var (pe_var (i := 1) rfl (Or.inl rfl))) (de_var (pe_var (i := 2) rfl (Or.inl rfl)))) (de_var (pe_var (i := 0) rfl (Or.inl rfl)))))
  (dss_one (ds_ret (de_cb (fun h => pe_callB (orC (call_min2 rfl) (cr_min rfl)) rfl G.b_min (by decide +kernel) h) snd_min (da_cons (de_var (pe_var (i := 3) rfl (Or.inl rfl))) (da_cons (de_o2 (fun h1 h2 => pe_op op_sub h1 h2) snd_sub (de_var (pe_var (i := 0) rfl (Or.inl rfl))) (de_var (pe_var (i := 3) rfl (Or.inl rfl)))) da_nil))))))
/-! #### need_pair -/
abbrev st_need_pair : Stmt := topS 14
theorem sc_need_pair : FnScope ["p", "n", "f", "c"] ["p", "n", "f", "c"] (defScope st_need_pair) := ⟨rfl, rfl, rfl, by decide +kernel, rfl, by decide +kernel, by decide +kernel⟩
def b_need_pair : DSf := (sSeq (sDrop (dCall 3 g_need_whole (aCons (dVar 0) (aCons (dC (.int 2)) (aCons (dC (.int 1000)) aNil)))))
  (sSeq (sDrop (dCall 3 g_need_whole (aCons (dVar 1) (aCons (dC (.int 1)) (aCons (dC (.int 100)) aNil)))))
  (sSeq (sDrop (dCall 3 g_need_whole (aCons (dVar 2) (aCons (dC (.int 0)) (aCons (dC (.int 1000)) aNil)))))
  (sDrop (dCall 3 g_need_whole (aCons (dVar 3) (aCons (dC (.int 0)) (aCons (dC (.int 1000)) aNil))))))))
def g_need_pair : List D → Out := rawN 4 b_need_pair
theorem ok_need_pair (G : Gs K mg fa) (FD : FunD K "need_pair" "need_pair" (defArgs st_need_pair) (defBody st_need_pair) (defScope st_need_pair) [] [] f fd) (hm : mg "need_pair" = some (.ref f)) (C_need_whole : DefN P w K mg base 2 fa T "need_whole" 3 g_need_whole) : DefN P w K mg base 3 fa T "need_pair" 4 g_need_pair := by
  have S := sc_need_pair
  exact DefN.of (k := 2) (N := ["p", "n", "f", "c"]) FD hm S (FD.bindsN fun _ _ _ _ _ _ us hl => match us, hl with | [_, _, _, _], _ => rfl) rfl (by decide) fun cdv A outer s H E H0 B hr => (dss_cons (ds_expr (de_call (C_need_whole.mono (by decide)) (L2N.takes_of rfl rfl rfl rfl) hr rfl (da_cons (de_var (pe_var (i := 0) rfl (Or.inl rfl))) (da_cons de_int (da_cons (de_gi rfl G.i_LAP) da_nil)))))
  (dss_cons (ds_expr (de_call (C_need_whole.mono (by decide)) (L2N.takes_of rfl rfl rfl rfl) hr rfl (da_cons (de_var (pe_var (i := 1) rfl (Or.inl rfl))) (da_cons de_int (da_cons (de_gi rfl G.i_LAPS) da_nil)))))
  (dss_cons (ds_expr (de_call (C_need_whole.mono (by decide)) (L2N.takes_of rfl rfl rfl rfl) hr rfl (da_cons (de_var (pe_var (i := 2) rfl (Or.inl rfl))) (da_cons de_int (da_cons (de_gi rfl G.i_ERROR) da_nil)))))
  (dss_one (ds_expr (de_call (C_need_whole.mono (by decide)) (L2N.takes_of rfl rfl rfl rfl) hr rfl (da_cons (de_var (pe_var (i := 3) rfl (Or.inl rfl))) (da_cons de_int (da_cons (de_gi rfl G.i_ERROR) da_nil)))))))))
/-! #### laps_in -/
abbrev st_laps_in : Stmt := topS 15
theorem sc_laps_in : FnScope ["p", "n", "most", "fine", "coarse", "lap"] ["p", "n", "most", "fine", "coarse"] (defScope st_laps_in) := ⟨rfl, rfl, rfl, by decide +kernel, rfl, by decide +kernel, by decide +kernel⟩
def T1_laps_in : DTf := (tCmpD dLe (dCall 3 g_distance (aCons (dO2 dMul (dVar 0) (dVar 1)) (aCons (dO2 dAdd (dO2 dMul (dVar 5) (dVar 0)) (dVar 3)) (aCons (dVar 4) aNil)))) (dVar 2))
def b_laps_in : DSf := (sRet (dOfF (fComp [5] (iRg1 (aCons (dVar 1) aNil)) (gN 5) T1_laps_in (dVar 5))))
def g_laps_in : List D → Out := rawN 6 b_laps_in
theorem ok_laps_in (G : Gs K mg fa) (FD : FunD K "laps_in" "laps_in" (defArgs st_laps_in) (defBody st_laps_in) (defScope st_laps_in) [] [] f fd) (hm : mg "laps_in" = some (.ref f)) (C_distance : DefN P w K mg base 1 fa T "distance" 3 g_distance) : DefN P w K mg base 2 fa T "laps_in" 5 g_laps_in := by
  have S := sc_laps_in
  exact DefN.of (k := 1) (N := ["p", "n", "most", "fine", "coarse", "lap"]) FD hm S (FD.bindsN fun _ _ _ _ _ _ us hl => match us, hl with | [_, _, _, _, _], _ => rfl) rfl (by decide) fun cdv A outer s H E H0 B hr => (dss_one (ds_ret (de_ofF (df_lc (own := [("lap", 5)]) rfl S.nd (di_range1 rfl G.b_range (da_cons (de_var (pe_var (i := 1) rfl (Or.inr (Or.inl rfl)))) da_nil)) (blkOk_by rfl) (by decide) (fun _ _ _ _ _ _ => (dg_name (pg_name (i := 5) S.nd rfl (Or.inl rfl)))) (fun _ _ _ _ _ _ => (dts_one (dt_cmp (fun h1 h2 => pt_cmpR op_le h1 h2 (nomark _)) (snd_cmp (fun i j => decide (i ≤ j))) (de_call (C_distance.mono (by decide)) takesN0 hr rfl (da_cons (de_o2 (fun h1 h2 => pe_op op_mulD h1 h2) snd_mul (de_var (pe_var (i := 0) rfl (Or.inr (Or.inl rfl)))) (de_var (pe_var (i := 1) rfl (Or.inr (Or.inl rfl))))) (da_cons (de_o2 (fun h1 h2 => pe_op op_addD h1 h2) snd_add (de_o2 (fun h1 h2 => pe_op op_mulD h1 h2) snd_mul (de_var (pe_var (i := 5) rfl (Or.inl rfl))) (de_var (pe_var (i := 0) rfl (Or.inr (Or.inl rfl))))) (de_var (pe_var (i := 3) rfl (Or.inr (Or.inl rfl))))) (da_cons (de_var (pe_var (i := 4) rfl (Or.inr (Or.inl rfl)))) da_nil)))) (de_var (pe_var (i := 2) rfl (Or.inr (Or.inl rfl))))))) (fun _ _ _ _ _ _ => (de_var (pe_var (i := 5) rfl (Or.inl rfl))))))))
/-! #### laps_left -/
abbrev st_laps_left : Stmt := topS 16
theorem sc_laps_left : FnScope ["p", "n", "f", "c", "fine", "coarse"] ["p", "n", "f", "c", "fine", "coarse"] (defScope st_laps_left) := ⟨rfl, rfl, rfl, by decide +kernel, rfl, by decide +kernel, by decide +kernel⟩
def b_laps_left : DSf := (sSeq (sDrop (dCall 4 g_need_pair (aCons (dVar 0) (aCons (dVar 1) (aCons (dVar 2) (aCons (dVar 3) aNil))))))
  (sSeq (sIf (tOrD (tNotD (tTru (dCall 3 g_is_whole (aCons (dVar 4) (aCons (dC (.int 0)) (aCons (dO2 dSub (dVar 0) (dC (.int 1))) aNil)))))) (tNotD (tTru (dCall 3 g_is_whole (aCons (dVar 5) (aCons (dC (.int 0)) (aCons (dO2 dSub (dO2 dMul (dVar 0) (dVar 1)) (dC (.int 1))) aNil))))))) (sExc 2) sNext)
  (sRet (dCB bTuple (aCons (dCall 5 g_laps_in (aCons (dVar 0) (aCons (dVar 1) (aCons (dO2 dAdd (dVar 2) (dVar 3)) (aCons (dVar 4) (aCons (dVar 5) aNil)))))) aNil)))))
def g_laps_left : List D → Out := rawN 6 b_laps_left
theorem ok_laps_left (G : Gs K mg fa) (FD : FunD K "laps_left" "laps_left" (defArgs st_laps_left) (defBody st_laps_left) (defScope st_laps_left) [] [] f fd) (hm : mg "laps_left" = some (.ref f)) (C_is_whole : DefN P w K mg base 1 fa T "is_whole" 3 g_is_whole) (C_need_pair : DefN P w K mg base 3 fa T "need_pair" 4 g_need_pair) (C_laps_in : DefN P w K mg base 2 fa T "laps_in" 5 g_laps_in) : DefN P w K mg base 4 fa T "laps_left" 6 g_laps_left := by
  have S := sc_laps_left
  exact DefN.of (k := 3) (N := ["p", "n", "f", "c", "fine", "coarse"]) FD hm S (FD.bindsN fun _ _ _ _ _ _ us hl => match us, hl with | [_, _, _, _, _, _], _ => rfl) rfl (by decide) fun cdv A outer s H E H0 B hr => (dss_cons (ds_expr (de_call (C_need_pair.mono (by decide)) (L2N.takes_of rfl rfl rfl rfl) hr rfl (da_cons (de_var (pe_var (i := 0) rfl (Or.inl rfl))) (da_cons (de_var (pe_var (i := 1) rfl (Or.inl rfl))) (da_cons (de_var (pe_var (i := 2) rfl (Or.inl rfl))) (da_cons (de_var (pe_var (i := 3) rfl (Or.inl rfl))) da_nil))))))
  (dss_cons (ds_if (dw_pt (dw_or (dt_not (dt_truth (de_call (C_is_whole.mono (by decide)) (L2N.takes_of rfl rfl rfl rfl) hr rfl (da_cons (de_var (pe_var (i := 4) rfl (Or.inl rfl))) (da_cons de_int (da_cons (de_o2 (fun h1 h2 => pe_op op_sub h1 h2) snd_sub (de_var (pe_var (i := 0) rfl (Or.inl rfl))) de_int) da_nil)))))) (dw_or1 (dt_not (dt_truth (de_call (C_is_whole.mono (by decide)) (L2N.takes_of rfl rfl rfl rfl) hr rfl (da_cons (de_var (pe_var (i := 5) rfl (Or.inl rfl))) (da_cons de_int (da_cons (de_o2 (fun h1 h2 => pe_op op_sub h1 h2) snd_sub (de_o2 (fun h1 h2 => pe_op op_mulD h1 h2) snd_mul (de_var (pe_var (i := 0) rfl (Or.inl rfl))) (de_var (pe_var (i := 1) rfl (Or.inl rfl)))) de_int) da_nil))))))))) (dss_one (ds_raise G.e_InvalidMarks rfl (L2N.takes_of rfl rfl rfl rfl) rfl)) dss_nil)
  (dss_one (ds_ret (de_cb (fun h => pe_callTy call_tuple_of rfl G.b_tuple boot_ttuple h) snd_tuple (da_cons (de_call (C_laps_in.mono (by decide)) (L2N.takes_of rfl rfl rfl rfl) hr rfl (da_cons (de_var (pe_var (i := 0) rfl (Or.inl rfl))) (da_cons (de_var (pe_var (i := 1) rfl (Or.inl rfl))) (da_cons (de_o2 (fun h1 h2 => pe_op op_addD h1 h2) snd_add (de_var (pe_var (i := 2) rfl (Or.inl rfl))) (de_var (pe_var (i := 3) rfl (Or.inl rfl)))) (da_cons (de_var (pe_var (i := 4) rfl (Or.inl rfl))) (da_cons (de_var (pe_var (i := 5) rfl (Or.inl rfl))) da_nil)))))) da_nil))))))
/-! #### is_one -/
abbrev st_is_one : Stmt := topS 17
theorem sc_is_one : FnScope ["p", "n", "f", "c"] ["p", "n", "f", "c"] (defScope st_is_one) := ⟨rfl, rfl, rfl, by decide +kernel, rfl, by decide +kernel, by decide +kernel⟩
def b_is_one : DSf := (sRet (dOrV (dO2 dEq (dVar 1) (dC (.int 1))) (dO2 dLt (dO2 dMul (dC (.int 2)) (dO2 dAdd (dVar 2) (dVar 3))) (dVar 0))))
def g_is_one : List D → Out := rawN 4 b_is_one
theorem ok_is_one (G : Gs K mg fa) (FD : FunD K "is_one" "is_one" (defArgs st_is_one) (defBody st_is_one) (defScope st_is_one) [] [] f fd) (hm : mg "is_one" = some (.ref f))  : DefN P w K mg base 1 fa T "is_one" 4 g_is_one := by
  have S := sc_is_one
  exact DefN.of (k := 0) (N := ["p", "n", "f", "c"]) FD hm S (FD.bindsN fun _ _ _ _ _ _ us hl => match us, hl with | [_, _, _, _], _ => rfl) rfl (by decide) fun cdv A outer s H E H0 B hr => (dss_one (ds_ret (de_or (de_o2 (fun h1 h2 => pe_cmpR (op_eqD hr.units) h1 h2 (nomark _)) snd_eq (de_var (pe_var (i := 1) rfl (Or.inl rfl))) de_int) (de_one (de_o2 (fun h1 h2 => pe_cmpR op_lt h1 h2 (nomark _)) (snd_cmp (fun i j => decide (i < j))) (de_o2 (fun h1 h2 => pe_op op_mulD h1 h2) snd_mul de_int (de_o2 (fun h1 h2 => pe_op op_addD h1 h2) snd_add (de_var (pe_var (i := 2) rfl (Or.inl rfl))) (de_var (pe_var (i := 3) rfl (Or.inl rfl))))) (de_var (pe_var (i := 0) rfl (Or.inl rfl))))))))
/-! #### leave_one -/
abbrev st_leave_one : Stmt := topS 18
theorem sc_leave_one : FnScope ["p", "n", "f", "c"] ["p", "n", "f", "c"] (defScope st_leave_one) := ⟨rfl, rfl, rfl, by decide +kernel, rfl, by decide +kernel, by decide +kernel⟩
def b_leave_one : DSf := (sSeq (sDrop (dCall 4 g_need_pair (aCons (dVar 0) (aCons (dVar 1) (aCons (dVar 2) (aCons (dVar 3) aNil))))))
  (sRet (dCall 4 g_is_one (aCons (dVar 0) (aCons (dVar 1) (aCons (dVar 2) (aCons (dVar 3) aNil)))))))
def g_leave_one : List D → Out := rawN 4 b_leave_one
theorem ok_leave_one (G : Gs K mg fa) (FD : FunD K "leave_one" "leave_one" (defArgs st_leave_one) (defBody st_leave_one) (defScope st_leave_one) [] [] f fd) (hm : mg "leave_one" = some (.ref f)) (C_need_pair : DefN P w K mg base 3 fa T "need_pair" 4 g_need_pair) (C_is_one : DefN P w K mg base 1 fa T "is_one" 4 g_is_one) : DefN P w K mg base 4 fa T "leave_one" 4 g_leave_one := by
  have S := sc_leave_one
  exact DefN.of (k := 3) (N := ["p", "n", "f", "c"]) FD hm S (FD.bindsN fun _ _ _ _ _ _ us hl => match us, hl with | [_, _, _, _], _ => rfl) rfl (by decide) fun cdv A outer s H E H0 B hr => (dss_cons (ds_expr (de_call (C_need_pair.mono (by decide)) (L2N.takes_of rfl rfl rfl rfl) hr rfl (da_cons (de_var (pe_var (i := 0) rfl (Or.inl rfl))) (da_cons (de_var (pe_var (i := 1) rfl (Or.inl rfl))) (da_cons (de_var (pe_var (i := 2) rfl (Or.inl rfl))) (da_cons (de_var (pe_var (i := 3) rfl (Or.inl rfl))) da_nil))))))
  (dss_one (ds_ret (de_call (C_is_one.mono (by decide)) (L2N.takes_of rfl rfl rfl rfl) hr rfl (da_cons (de_var (pe_var (i := 0) rfl (Or.inl rfl))) (da_cons (de_var (pe_var (i := 1) rfl (Or.inl rfl))) (da_cons (de_var (pe_var (i := 2) rfl (Or.inl rfl))) (da_cons (de_var (pe_var (i := 3) rfl (Or.inl rfl))) da_nil))))))))
/-! #### two_laps -/
abbrev st_two_laps : Stmt := topS 19
theorem sc_two_laps : FnScope ["p", "n", "f", "c"] ["p", "n", "f", "c"] (defScope st_two_laps) := ⟨rfl, rfl, rfl, by decide +kernel, rfl, by decide +kernel, by decide +kernel⟩
def b_two_laps : DSf := (sSeq (sDrop (dCall 4 g_need_pair (aCons (dVar 0) (aCons (dVar 1) (aCons (dVar 2) (aCons (dVar 3) aNil))))))
  (sRet (dIf (tTru (dCall 4 g_is_one (aCons (dVar 0) (aCons (dVar 1) (aCons (dVar 2) (aCons (dVar 3) aNil)))))) (dC .non) (dDisp .tup (aCons (dC (.int 0)) (aCons (dO2 dFdiv (dVar 0) (dC (.int 2))) aNil))))))
def g_two_laps : List D → Out := rawN 4 b_two_laps
theorem ok_two_laps (G : Gs K mg fa) (FD : FunD K "two_laps" "two_laps" (defArgs st_two_laps) (defBody st_two_laps) (defScope st_two_laps) [] [] f fd) (hm : mg "two_laps" = some (.ref f)) (C_need_pair : DefN P w K mg base 3 fa T "need_pair" 4 g_need_pair) (C_is_one : DefN P w K mg base 1 fa T "is_one" 4 g_is_one) : DefN P w K mg base 4 fa T "two_laps" 4 g_two_laps := by
  have S := sc_two_laps
  exact DefN.of (k := 3) (N := ["p", "n", "f", "c"]) FD hm S (FD.bindsN fun _ _ _ _ _ _ us hl => match us, hl with | [_, _, _, _], _ => rfl) rfl (by decide) fun cdv A outer s H E H0 B hr => (dss_cons (ds_expr (de_call (C_need_pair.mono (by decide)) (L2N.takes_of rfl rfl rfl rfl) hr rfl (da_cons (de_var (pe_var (i := 0) rfl (Or.inl rfl))) (da_cons (de_var (pe_var (i := 1) rfl (Or.inl rfl))) (da_cons (de_var (pe_var (i := 2) rfl (Or.inl rfl))) (da_cons (de_var (pe_var (i := 3) rfl (Or.inl rfl))) da_nil))))))
  (dss_one (ds_ret (de_if (dt_truth (de_call (C_is_one.mono (by decide)) (L2N.takes_of rfl rfl rfl rfl) hr rfl (da_cons (de_var (pe_var (i := 0) rfl (Or.inl rfl))) (da_cons (de_var (pe_var (i := 1) rfl (Or.inl rfl))) (da_cons (de_var (pe_var (i := 2) rfl (Or.inl rfl))) (da_cons (de_var (pe_var (i := 3) rfl (Or.inl rfl))) da_nil)))))) de_non (de_tup (da_cons de_int (da_cons (de_o2 (fun h1 h2 => pe_op op_fdivW h1 h2) snd_fdiv (de_var (pe_var (i := 0) rfl (Or.inl rfl))) de_int) da_nil)))))))
/-! #### is_two_laps -/
abbrev st_is_two_laps : Stmt := topS 20
theorem sc_is_two_laps : FnScope ["p", "n", "f", "c", "value"] ["p", "n", "f", "c", "value"] (defScope st_is_two_laps) := ⟨rfl, rfl, rfl, by decide +kernel, rfl, by decide +kernel, by decide +kernel⟩
def b_is_two_laps : DSf := (sSeq (sDrop (dCall 4 g_need_pair (aCons (dVar 0) (aCons (dVar 1) (aCons (dVar 2) (aCons (dVar 3) aNil))))))
  (sSeq (sIf (tOrD (tNotD (tTru (dCall 3 g_is_tuple_of (aCons (dVar 4) (aCons (dC (.int 2)) (aCons (dC (.int 2)) aNil)))))) (tOrD (tNotD (tTru (dCall 3 g_is_whole (aCons (dO2 dIx (dVar 4) (dC (.int 0))) (aCons (dC (.int 0)) (aCons (dO2 dSub (dVar 0) (dC (.int 1))) aNil)))))) (tNotD (tTru (dCall 3 g_is_whole (aCons (dO2 dIx (dVar 4) (dC (.int 1))) (aCons (dC (.int 0)) (aCons (dO2 dSub (dO2 dMul (dVar 0) (dVar 1)) (dC (.int 1))) aNil)))))))) (sRet (dC (.bl false))) sNext)
  (sRet (dO2 dGt (dCB bLen (aCons (dCall 5 g_laps_in (aCons (dVar 0) (aCons (dVar 1) (aCons (dO2 dAdd (dVar 2) (dVar 3)) (aCons (dO2 dIx (dVar 4) (dC (.int 0))) (aCons (dO2 dIx (dVar 4) (dC (.int 1))) aNil)))))) aNil)) (dC (.int 1))))))
def g_is_two_laps : List D → Out := rawN 5 b_is_two_laps
theorem ok_is_two_laps (G : Gs K mg fa) (FD : FunD K "is_two_laps" "is_two_laps" (defArgs st_is_two_laps) (defBody st_is_two_laps) (defScope st_is_two_laps) [] [] f fd) (hm : mg "is_two_laps" = some (.ref f)) (C_is_whole : DefN P w K mg base 1 fa T "is_whole" 3 g_is_whole) (C_is_tuple_of : DefN P w K mg base 1 fa T "is_tuple_of" 3 g_is_tuple_of) (C_need_pair : DefN P w K mg base 3 fa T "need_pair" 4 g_need_pair) (C_laps_in : DefN P w K mg base 2 fa T "laps_in" 5 g_laps_in) : DefN P w K mg base 4 fa T "is_two_laps" 5 g_is_two_laps := by
  have S := sc_is_two_laps
  exact DefN.of (k := 3) (N := ["p", "n", "f", "c", "value"]) FD hm S (FD.bindsN fun _ _ _ _ _ _ us hl => match us, hl with | [_, _, _, _, _], _ => rfl) rfl (by decide) fun cdv A outer s H E H0 B hr => (dss_cons (ds_expr (de_call (C_need_pair.mono (by decide)) (L2N.takes_of rfl rfl rfl rfl) hr rfl (da_cons (de_var (pe_var (i := 0) rfl (Or.inl rfl))) (da_cons (de_var (pe_var (i := 1) rfl (Or.inl rfl))) (da_cons (de_var (pe_var (i := 2) rfl (Or.inl rfl))) (da_cons (de_var (pe_var (i := 3) rfl (Or.inl rfl))) da_nil))))))
  (dss_cons (ds_if (dw_pt (dw_or (dt_not (dt_truth (de_call (C_is_tuple_of.mono (by decide)) (L2N.takes_of rfl rfl rfl rfl) hr rfl (da_cons (de_var (pe_var (i := 4) rfl (Or.inl rfl))) (da_cons de_int (da_cons de_int da_nil)))))) (dw_or (dt_not (dt_truth (de_call (C_is_whole.mono (by decide)) (L2N.takes_of rfl rfl rfl rfl) hr rfl (da_cons (de_o2 (fun h1 h2 => pe_ix ix_seq h1 h2 fun _ _ => rfl) snd_ix (de_var (pe_var (i := 4) rfl (Or.inl rfl))) de_int) (da_cons de_int (da_cons (de_o2 (fun h1 h2 => pe_op op_sub h1 h2) snd_sub (de_var (pe_var (i := 0) rfl (Or.inl rfl))) de_int) da_nil)))))) (dw_or1 (dt_not (dt_truth (de_call (C_is_whole.mono (by decide)) (L2N.takes_of rfl rfl rfl rfl) hr rfl (da_cons (de_o2 (fun h1 h2 => pe_ix ix_seq h1 h2 fun _ _ => rfl) snd_ix (de_var (pe_var (i := 4) rfl (Or.inl rfl))) de_int) (da_cons de_int (da_cons (de_o2 (fun h1 h2 => pe_op op_sub h1 h2) snd_sub (de_o2 (fun h1 h2 => pe_op op_mulD h1 h2) snd_mul (de_var (pe_var (i := 0) rfl (Or.inl rfl))) (de_var (pe_var (i := 1) rfl (Or.inl rfl)))) de_int) da_nil)))))))))) (dss_one (ds_ret de_bl)) dss_nil)
  (dss_one (ds_ret (de_o2 (fun h1 h2 => pe_cmpR op_gt h1 h2 (nomark _)) (snd_cmp (fun i j => decide (j < i))) (de_cb (fun h => pe_callB call_len rfl G.b_len boot_len h) snd_len (da_cons (de_call (C_laps_in.mono (by decide)) (L2N.takes_of rfl rfl rfl rfl) hr rfl (da_cons (de_var (pe_var (i := 0) rfl (Or.inl rfl))) (da_cons (de_var (pe_var (i := 1) rfl (Or.inl rfl))) (da_cons (de_o2 (fun h1 h2 => pe_op op_addD h1 h2) snd_add (de_var (pe_var (i := 2) rfl (Or.inl rfl))) (de_var (pe_var (i := 3) rfl (Or.inl rfl)))) (da_cons (de_o2 (fun h1 h2 => pe_ix ix_seq h1 h2 fun _ _ => rfl) snd_ix (de_var (pe_var (i := 4) rfl (Or.inl rfl))) de_int) (da_cons (de_o2 (fun h1 h2 => pe_ix ix_seq h1 h2 fun _ _ => rfl) snd_ix (de_var (pe_var (i := 4) rfl (Or.inl rfl))) de_int) da_nil)))))) da_nil)) de_int)))))
/-! #### _law_cup -/
abbrev st__law_cup : Stmt := topS 22
theorem sc__law_cup : FnScope ["script", "cell"] ["script"] (defScope st__law_cup) := ⟨rfl, rfl, rfl, by decide +kernel, rfl, by decide +kernel, by decide +kernel⟩
def g__law_cup : List D → Option (List D) := rawF 2 (sSet 1 (dCB bAbs (aCons (dO2 dIx (dO2 dAdd (dCB bList (aCons (dVar 0) aNil)) (dDisp .lst (aCons (dC (.int 0)) aNil))) (dC (.int 0))) aNil))) (fDisp (aCons (dIf (tCmpD dGe (dVar 1) (dO2 dPow (dC (.int 10)) (dC (.int 18)))) (dO2 dFdiv (dVar 1) (dC (.int 127))) (dC (.int 0))) (aCons (dO2 dAdd (dO2 dMod (dCB bInt (aCons (dO2 dAdd (dO2 dMul (dVar 1) (dC (.int 373))) (dC (.int 5407))) aNil)) (dC (.int 1974129427))) (dC (.int 229))) aNil)))
theorem ok__law_cup (G : Gs K mg fa) (FD : FunD K "_law_cup" "_law_cup" (defArgs st__law_cup) (defBody st__law_cup) (defScope st__law_cup) [] [] f fd) (hm : mg "_law_cup" = some (.ref f))  : DefF P w K mg base 1 fa T "_law_cup" 1 g__law_cup := by
  have S := sc__law_cup
  exact DefF.of (k := 0) (N := ["script", "cell"]) FD hm S (FD.bindsN fun _ _ _ _ _ _ us hl => match us, hl with | [_], _ => rfl) rfl (by decide) fun cdv A outer s H E H0 B hr => ⟨(ds_set (i := 1) S.nd rfl (Or.inl rfl) (de_cb (fun h => pe_callB call_abs rfl G.b_abs (by decide +kernel) h) snd_abs (da_cons (de_o2 (fun h1 h2 => pe_ix ix_seq h1 h2 fun _ _ => rfl) snd_ix (de_o2 (fun h1 h2 => pe_op op_addD h1 h2) snd_add (de_cb (fun h => pe_callTy call_list_of rfl G.b_list boot_tlist h) snd_list (da_cons (de_var (pe_var (i := 0) rfl (Or.inl rfl))) da_nil)) (de_lst (da_cons de_int da_nil))) de_int) da_nil))), (df_lst (da_cons (de_if (dt_cmp (fun h1 h2 => pt_cmpR op_ge h1 h2 (nomark _)) (snd_cmp (fun i j => decide (j ≤ i))) (de_var (pe_var (i := 1) rfl (Or.inl rfl))) (de_o2 (fun h1 h2 => pe_op op_pow h1 h2) snd_pow de_int de_int)) (de_o2 (fun h1 h2 => pe_op op_fdivW h1 h2) snd_fdiv (de_var (pe_var (i := 1) rfl (Or.inl rfl))) de_int) de_int) (da_cons (de_o2 (fun h1 h2 => pe_op op_addD h1 h2) snd_add (de_o2 (fun h1 h2 => pe_op op_mod h1 h2) snd_mod (de_cb (fun h => pe_callTy call_int1 rfl G.b_int boot_tint h) snd_int (da_cons (de_o2 (fun h1 h2 => pe_op op_addD h1 h2) snd_add (de_o2 (fun h1 h2 => pe_op op_mulD h1 h2) snd_mul (de_var (pe_var (i := 1) rfl (Or.inl rfl))) de_int) de_int) da_nil)) de_int) de_int) da_nil)))⟩
/-! #### _law_roll -/
abbrev st__law_roll : Stmt := topS 23
theorem sc__law_roll : FnScope ["cup", "many", "found", "deep"] ["cup", "many"] (defScope st__law_roll) := ⟨rfl, rfl, rfl, by decide +kernel, rfl, by decide +kernel, by decide +kernel⟩
def b__law_roll : DSf := (sSeq (sIf (tCmpD dGt (dO2 dIx (dVar 0) (dC (.int 0))) (dC (.int 0))) (sSeq (sSet 2 (dO2 dMod (dCB bInt (aCons (dO2 dIx (dVar 0) (dC (.int 0))) aNil)) (dVar 1)))
  (sSeq (sItem 0 (dC (.int 0)) (dO2 dFdiv (dO2 dIx (dVar 0) (dC (.int 0))) (dVar 1)))
  (sRet (dVar 2)))) sNext)
  (sSeq (sItem 0 (dC (.int 1)) (dO2 dMod (dCB bInt (aCons (dO2 dAdd (dO2 dMul (dO2 dIx (dVar 0) (dC (.int 1))) (dC (.int 29917))) (dC (.int 9103))) aNil)) (dC (.int 2147483543))))
  (sSeq (sSet 3 (dO2 dMod (dCB bInt (aCons (dO2 dMul (dO2 dIx (dVar 0) (dC (.int 1))) (dO2 dAdd (dO2 dIx (dVar 0) (dC (.int 1))) (dC (.int 307)))) aNil)) (dC (.int 2147483587))))
  (sRet (dO2 dMod (dCB bInt (aCons (dO2 dFdiv (dVar 3) (dC (.int 887))) aNil)) (dVar 1))))))
def g__law_roll : List D → List D → OutB := rawB 4 b__law_roll
theorem ok__law_roll (G : Gs K mg fa) (FD : FunD K "_law_roll" "_law_roll" (defArgs st__law_roll) (defBody st__law_roll) (defScope st__law_roll) [] [] f fd) (hm : mg "_law_roll" = some (.ref f))  : DefB P w K mg base 1 fa T "_law_roll" 1 g__law_roll := by
  have S := sc__law_roll
  exact DefB.of (k := 0) (N := ["cup", "many", "found", "deep"]) FD hm S (FD.bindsN fun _ _ _ _ _ _ us hl => match us, hl with | [_, _], _ => rfl) rfl (by decide) fun cdv A outer s H E H0 B p hr => (dss_cons (ds_if (dt_cmp (fun h1 h2 => pt_cmpR op_gt h1 h2 (nomark _)) (snd_cmp (fun i j => decide (j < i))) (de_o2 (fun h1 h2 => pe_ix ix_seq h1 h2 fun _ _ => rfl) snd_ix (de_var (pe_var (i := 0) rfl (Or.inl rfl))) de_int) de_int) (dss_cons (ds_set (i := 2) S.nd rfl (Or.inl rfl) (de_o2 (fun h1 h2 => pe_op op_mod h1 h2) snd_mod (de_cb (fun h => pe_callTy call_int1 rfl G.b_int boot_tint h) snd_int (da_cons (de_o2 (fun h1 h2 => pe_ix ix_seq h1 h2 fun _ _ => rfl) snd_ix (de_var (pe_var (i := 0) rfl (Or.inl rfl))) de_int) da_nil)) (de_var (pe_var (i := 1) rfl (Or.inl rfl)))))
  (dss_cons (ds_item (i := 0) (pe_var rfl (Or.inl rfl)) de_int (de_o2 (fun h1 h2 => pe_op op_fdivW h1 h2) snd_fdiv (de_o2 (fun h1 h2 => pe_ix ix_seq h1 h2 fun _ _ => rfl) snd_ix (de_var (pe_var (i := 0) rfl (Or.inl rfl))) de_int) (de_var (pe_var (i := 1) rfl (Or.inl rfl)))))
  (dss_one (ds_ret (de_var (pe_var (i := 2) rfl (Or.inl rfl))))))) dss_nil)
  (dss_cons (ds_item (i := 0) (pe_var rfl (Or.inl rfl)) de_int (de_o2 (fun h1 h2 => pe_op op_mod h1 h2) snd_mod (de_cb (fun h => pe_callTy call_int1 rfl G.b_int boot_tint h) snd_int (da_cons (de_o2 (fun h1 h2 => pe_op op_addD h1 h2) snd_add (de_o2 (fun h1 h2 => pe_op op_mulD h1 h2) snd_mul (de_o2 (fun h1 h2 => pe_ix ix_seq h1 h2 fun _ _ => rfl) snd_ix (de_var (pe_var (i := 0) rfl (Or.inl rfl))) de_int) de_int) de_int) da_nil)) de_int))
  (dss_cons (ds_set (i := 3) S.nd rfl (Or.inl rfl) (de_o2 (fun h1 h2 => pe_op op_mod h1 h2) snd_mod (de_cb (fun h => pe_callTy call_int1 rfl G.b_int boot_tint h) snd_int (da_cons (de_o2 (fun h1 h2 => pe_op op_mulD h1 h2) snd_mul (de_o2 (fun h1 h2 => pe_ix ix_seq h1 h2 fun _ _ => rfl) snd_ix (de_var (pe_var (i := 0) rfl (Or.inl rfl))) de_int) (de_o2 (fun h1 h2 => pe_op op_addD h1 h2) snd_add (de_o2 (fun h1 h2 => pe_ix ix_seq h1 h2 fun _ _ => rfl) snd_ix (de_var (pe_var (i := 0) rfl (Or.inl rfl))) de_int) de_int)) da_nil)) de_int))
  (dss_one (ds_ret (de_o2 (fun h1 h2 => pe_op op_mod h1 h2) snd_mod (de_cb (fun h => pe_callTy call_int1 rfl G.b_int boot_tint h) snd_int (da_cons (de_o2 (fun h1 h2 => pe_op op_fdivW h1 h2) snd_fdiv (de_var (pe_var (i := 3) rfl (Or.inl rfl))) de_int) da_nil)) (de_var (pe_var (i := 1) rfl (Or.inl rfl)))))))))
/-! #### _law_some -/
abbrev st__law_some : Stmt := topS 24
theorem sc__law_some : FnScope ["cup", "things"] ["cup", "things"] (defScope st__law_some) := ⟨rfl, rfl, rfl, by decide +kernel, rfl, by decide +kernel, by decide +kernel⟩
def b__law_some : DSf := (sRet (dO2 dIx (dVar 1) (dCallB 1 g__law_roll (aCons (dVar 0) (aCons (dCB bLen (aCons (dVar 1) aNil)) aNil)))))
def g__law_some : List D → List D → OutB := rawB 2 b__law_some
theorem ok__law_some (G : Gs K mg fa) (FD : FunD K "_law_some" "_law_some" (defArgs st__law_some) (defBody st__law_some) (defScope st__law_some) [] [] f fd) (hm : mg "_law_some" = some (.ref f)) (C__law_roll : DefB P w K mg base 1 fa T "_law_roll" 1 g__law_roll) : DefB P w K mg base 2 fa T "_law_some" 1 g__law_some := by
  have S := sc__law_some
  exact DefB.of (k := 1) (N := ["cup", "things"]) FD hm S (FD.bindsN fun _ _ _ _ _ _ us hl => match us, hl with | [_, _], _ => rfl) rfl (by decide) fun cdv A outer s H E H0 B p hr => (dss_one (ds_ret (de_o2 (fun h1 h2 => pe_ix ix_seq h1 h2 fun _ _ => rfl) snd_ix (de_var (pe_var (i := 1) rfl (Or.inl rfl))) (de_callB (C__law_roll.mono (by decide)) (L2N.takes_of rfl rfl rfl rfl) hr rfl (da_cons (de_var (pe_var (i := 0) rfl (Or.inl rfl))) (da_cons (de_cb (fun h => pe_callB call_len rfl G.b_len boot_len h) snd_len (da_cons (de_var (pe_var (i := 1) rfl (Or.inl rfl))) da_nil)) da_nil))))))
/-! #### _law_sort -/
abbrev st__law_sort : Stmt := topS 25
theorem sc__law_sort : FnScope ["value"] ["value"] (defScope st__law_sort) := ⟨rfl, rfl, rfl, by decide +kernel, rfl, by decide +kernel, by decide +kernel⟩
def b__law_sort : DSf := (sSeq (sIf (tOrD (tCmpD dIs (dVar 0) (dC .non)) (tTru (dCB bIsa (aCons (dVar 0) (aCons (dC (.ty "bool")) aNil))))) (sRet (dIf (tCmpD dIs (dVar 0) (dC .non)) (dC (.int 0)) (dC (.int 1)))) sNext)
  (sSeq (sIf (tOrD (tTru (dCB bIsa (aCons (dVar 0) (aCons (dC (.ty "int")) aNil)))) (tTru (dCB bIsa (aCons (dVar 0) (aCons (dC (.ty "str")) aNil))))) (sRet (dIf (tTru (dCB bIsa (aCons (dVar 0) (aCons (dC (.ty "int")) aNil)))) (dC (.int 2)) (dC (.int 3)))) sNext)
  (sRet (dIf (tTru (dCB bIsa (aCons (dVar 0) (aCons (dC (.ty "tuple")) aNil)))) (dC (.int 4)) (dIf (tTru (dCB bIsa (aCons (dVar 0) (aCons (dC (.ty "list")) aNil)))) (dC (.int 5)) (dC (.int 6)))))))
def g__law_sort : List D → Out := rawN 1 b__law_sort
theorem ok__law_sort (G : Gs K mg fa) (FD : FunD K "_law_sort" "_law_sort" (defArgs st__law_sort) (defBody st__law_sort) (defScope st__law_sort) [] [] f fd) (hm : mg "_law_sort" = some (.ref f))  : DefN P w K mg base 1 fa T "_law_sort" 1 g__law_sort := by
  have S := sc__law_sort
  exact DefN.of (k := 0) (N := ["value"]) FD hm S (FD.bindsN fun _ _ _ _ _ _ us hl => match us, hl with | [_], _ => rfl) rfl (by decide) fun cdv A outer s H E H0 B hr => (dss_cons (ds_if (dw_pt (dw_or (dt_cmp (fun h1 h2 => pt_cmpR op_isD h1 h2 (nomark _)) snd_is (de_var (pe_var (i := 0) rfl (Or.inl rfl))) de_non) (dw_or1 (dt_truth (de_cb (fun h => pe_callB call_isi rfl G.b_isinstance boot_isinstance h) snd_isa (da_cons (de_var (pe_var (i := 0) rfl (Or.inl rfl))) (da_cons (de_ty rfl G.b_bool boot_tbool) da_nil))))))) (dss_one (ds_ret (de_if (dt_cmp (fun h1 h2 => pt_cmpR op_isD h1 h2 (nomark _)) snd_is (de_var (pe_var (i := 0) rfl (Or.inl rfl))) de_non) de_int de_int))) dss_nil)
  (dss_cons (ds_if (dw_pt (dw_or (dt_truth (de_cb (fun h => pe_callB call_isi rfl G.b_isinstance boot_isinstance h) snd_isa (da_cons (de_var (pe_var (i := 0) rfl (Or.inl rfl))) (da_cons (de_ty rfl G.b_int boot_tint) da_nil)))) (dw_or1 (dt_truth (de_cb (fun h => pe_callB call_isi rfl G.b_isinstance boot_isinstance h) snd_isa (da_cons (de_var (pe_var (i := 0) rfl (Or.inl rfl))) (da_cons (de_ty rfl G.b_str boot_tstr) da_nil))))))) (dss_one (ds_ret (de_if (dt_truth (de_cb (fun h => pe_callB call_isi rfl G.b_isinstance boot_isinstance h) snd_isa (da_cons (de_var (pe_var (i := 0) rfl (Or.inl rfl))) (da_cons (de_ty rfl G.b_int boot_tint) da_nil)))) de_int de_int))) dss_nil)
  (dss_one (ds_ret (de_if (dt_truth (de_cb (fun h => pe_callB call_isi rfl G.b_isinstance boot_isinstance h) snd_isa (da_cons (de_var (pe_var (i := 0) rfl (Or.inl rfl))) (da_cons (de_ty rfl G.b_tuple boot_ttuple) da_nil)))) de_int (de_if (dt_truth (de_cb (fun h => pe_callB call_isi rfl G.b_isinstance boot_isinstance h) snd_isa (da_cons (de_var (pe_var (i := 0) rfl (Or.inl rfl))) (da_cons (de_ty rfl G.b_list boot_tlist) da_nil)))) de_int de_int))))))
/-! #### _law_like -/
abbrev st__law_like : Stmt := topS 26
theorem sc__law_like : FnScope ["one", "other", "sort", "first", "second"] ["one", "other"] (defScope st__law_like) := ⟨rfl, rfl, rfl, by decide +kernel, rfl, by decide +kernel, by decide +kernel⟩
def b__law_like (g : List D → Out) : DSf := (sSeq (sSet 2 (dCall 1 g__law_sort (aCons (dVar 1) aNil)))
  (sSeq (sIf (tOrD (tCmpD dNe (dCall 1 g__law_sort (aCons (dVar 0) aNil)) (dVar 2)) (tCmpD dEq (dVar 2) (dC (.int 6)))) (sRet (dC (.bl false))) sNext)
  (sSeq (sIf (tCmpD dIn (dVar 2) (dDisp .tup (aCons (dC (.int 4)) (aCons (dC (.int 5)) aNil)))) (sRet (dAndV (dO2 dEq (dCB bLen (aCons (dVar 0) aNil)) (dCB bLen (aCons (dVar 1) aNil))) (dO2 dEq (dOfF (fComp [3, 4] (iZip (aCons (dVar 0) (aCons (dVar 1) aNil))) (gT 2 (gsCons (gN 3) (gsCons (gN 4) gsNil))) (tNotD (tTru (dCall 2 g (aCons (dVar 3) (aCons (dVar 4) aNil))))) (dC (.int 1)))) (dDisp .lst aNil)))) sNext)
  (sRet (dO2 dEq (dVar 0) (dVar 1))))))
def g__law_like_ : Nat → List D → Out
  | 0 => fun _ => .stuck
  | m + 1 => rawN 5 (b__law_like (g__law_like_ m))
abbrev g__law_like : List D → Out := g__law_like_ 7
theorem ok1__law_like (G : Gs K mg fa) (FD : FunD K "_law_like" "_law_like" (defArgs st__law_like) (defBody st__law_like) (defScope st__law_like) [] [] f fd) (hm : mg "_law_like" = some (.ref f)) (C__law_sort : DefN P w K mg base 1 fa T "_law_sort" 1 g__law_sort) {g : List D → Out} {k : Nat} (hk0 : 1 ≤ k) (C : DefN P w K mg base k fa T "_law_like" 2 g) : DefN P w K mg base (k + 1) fa T "_law_like" 2 (rawN 5 (b__law_like g)) := by
  have S := sc__law_like
  exact DefN.of (k := k) (N := ["one", "other", "sort", "first", "second"]) FD hm S (FD.bindsN fun _ _ _ _ _ _ us hl => match us, hl with | [_, _], _ => rfl) rfl (by decide) fun cdv A outer s H E H0 B hr => (dss_cons (ds_set (i := 2) S.nd rfl (Or.inl rfl) (de_call (C__law_sort.mono (Nat.le_trans (by decide) hk0)) (L2N.takes_of rfl rfl rfl rfl) hr rfl (da_cons (de_var (pe_var (i := 1) rfl (Or.inl rfl))) da_nil)))
  (dss_cons (ds_if (dw_pt (dw_or (dt_cmp (fun h1 h2 => pt_cmpR (op_neD hr.units) h1 h2 (nomark _)) snd_ne (de_call (C__law_sort.mono (Nat.le_trans (by decide) hk0)) (L2N.takes_of rfl rfl rfl rfl) hr rfl (da_cons (de_var (pe_var (i := 0) rfl (Or.inl rfl))) da_nil)) (de_var (pe_var (i := 2) rfl (Or.inl rfl)))) (dw_or1 (dt_cmp (fun h1 h2 => pt_cmpR (op_eqD hr.units) h1 h2 (nomark _)) snd_eq (de_var (pe_var (i := 2) rfl (Or.inl rfl))) de_int)))) (dss_one (ds_ret de_bl)) dss_nil)
  (dss_cons (ds_if (dt_cmp (fun h1 h2 => pt_cmpR (op_inA (room65 hr)) h1 h2 rfl) snd_in (de_var (pe_var (i := 2) rfl (Or.inl rfl))) (de_tup (da_cons de_int (da_cons de_int da_nil)))) (dss_one (ds_ret (de_and (de_o2 (fun h1 h2 => pe_cmpR (op_eqD hr.units) h1 h2 (nomark _)) snd_eq (de_cb (fun h => pe_callB call_len rfl G.b_len boot_len h) snd_len (da_cons (de_var (pe_var (i := 0) rfl (Or.inl rfl))) da_nil)) (de_cb (fun h => pe_callB call_len rfl G.b_len boot_len h) snd_len (da_cons (de_var (pe_var (i := 1) rfl (Or.inl rfl))) da_nil))) (de_one (de_o2 (fun h1 h2 => pe_cmpR (op_eqD hr.units) h1 h2 (nomark _)) snd_eq (de_ofF (df_lc (own := [("first", 3), ("second", 4)]) rfl S.nd (di_zip rfl G.b_zip (da_cons (de_var (pe_var (i := 0) rfl (Or.inl rfl))) (da_cons (de_var (pe_var (i := 1) rfl (Or.inl rfl))) da_nil))) (blkOk_by rfl) (by decide) (fun _ _ _ _ _ _ => (dg_tup rfl (dgs_cons (dg_name (pg_name (i := 3) S.nd rfl (Or.inl rfl))) (dgs_cons (dg_name (pg_name (i := 4) S.nd rfl (Or.inl rfl))) dgs_nil)))) (fun _ _ _ _ _ _ => (dts_one (dt_not (dt_truth (de_call C takesN0 hr rfl (da_cons (de_var (pe_var (i := 3) rfl (Or.inl rfl))) (da_cons (de_var (pe_var (i := 4) rfl (Or.inl rfl))) da_nil))))))) (fun _ _ _ _ _ _ => de_int))) (de_lst da_nil)))))) dss_nil)
  (dss_one (ds_ret (de_o2 (fun h1 h2 => pe_cmpR (op_eqD hr.units) h1 h2 (nomark _)) snd_eq (de_var (pe_var (i := 0) rfl (Or.inl rfl))) (de_var (pe_var (i := 1) rfl (Or.inl rfl)))))))))
theorem ok__law_like (G : Gs K mg fa) (FD : FunD K "_law_like" "_law_like" (defArgs st__law_like) (defBody st__law_like) (defScope st__law_like) [] [] f fd) (hm : mg "_law_like" = some (.ref f)) (C__law_sort : DefN P w K mg base 1 fa T "_law_sort" 1 g__law_sort) : DefN P w K mg base 9 fa T "_law_like" 2 g__law_like := by
  have h0 : DefN P w K mg base 2 fa T "_law_like" 2 (g__law_like_ 0) := defN_stuck (ps := ["one", "other"]) FD hm (FD.bindsN fun _ _ _ _ _ _ us hl => match us, hl with | [_, _], _ => rfl) rfl
  have h1 := ok1__law_like (P := P) (w := w) (base := base) (T := T) G FD hm C__law_sort (by decide) h0
  have h2 := ok1__law_like (P := P) (w := w) (base := base) (T := T) G FD hm C__law_sort (by decide) h1
  have h3 := ok1__law_like (P := P) (w := w) (base := base) (T := T) G FD hm C__law_sort (by decide) h2
  have h4 := ok1__law_like (P := P) (w := w) (base := base) (T := T) G FD hm C__law_sort (by decide) h3
  have h5 := ok1__law_like (P := P) (w := w) (base := base) (T := T) G FD hm C__law_sort (by decide) h4
  have h6 := ok1__law_like (P := P) (w := w) (base := base) (T := T) G FD hm C__law_sort (by decide) h5
  have h7 := ok1__law_like (P := P) (w := w) (base := base) (T := T) G FD hm C__law_sort (by decide) h6
  exact h7
/-! #### _law_fails -/
abbrev st__law_fails : Stmt := topS 27
theorem sc__law_fails : FnScope ["call", "e", "some", "words", "word", "good"] ["call"] (defScope st__law_fails) := ⟨rfl, rfl, rfl, by decide +kernel, rfl, by decide +kernel, by decide +kernel⟩
def b__law_fails (o : LamO) : DSf := (sSeq (sTry 1 clT (sAct o) (fun k => (sSeq (sSetO 2 (fDisp aNil))
  (sSeq (sApp 2 (dDisp .tup (aCons (dC (.str "number")) (aCons (dIsE 1 (isaT k 1)) aNil))))
  (sSeq (sApp 2 (dDisp .tup (aCons (dC (.str "marks")) (aCons (dIsE 1 (isaT k 2)) aNil))))
  (sSeq (sSet 3 (dOfF (fComp [4, 5] (iLst (dVar 2)) (gT 2 (gsCons (gN 4) (gsCons (gN 5) gsNil))) (tTru (dVar 5)) (dVar 4))))
  (sRet (dIf (tCmpD dNe (dVar 3) (dDisp .lst aNil)) (dO1 (dJoin " ") (dVar 3)) (dC (.str "other"))))))))))
  (sRet (dC (.str ""))))
def g__law_fails (o : LamO) : Out := match b__law_fails o (some (Slot.err 0) :: valsR 5 []) with
  | .ret d _ => .ok d
  | .next _ => .ok .non
  | .exc k _ => .exc k
  | _ => .stuck
theorem ok__law_fails (G : Gs K mg fa) (FD : FunD K "_law_fails" "_law_fails" (defArgs st__law_fails) (defBody st__law_fails) (defScope st__law_fails) [] [] f fd) (hm : mg "_law_fails" = some (.ref f)) : LamDef P w K mg base 1 fa T "_law_fails" "call" g__law_fails := by
  have S := sc__law_fails
  refine ⟨f, _, _, _, fd, _, FD, hm, (FD.bindsN fun _ _ _ _ _ _ us hl => match us, hl with | [_], _ => rfl), S, rfl, (Or.inl rfl), fun cdg A outer s H E f o B hr act => ⟨b__law_fails o, ?_, rfl⟩⟩
  exact (dss_cons (ds_try (i := 1) rfl rfl S.nd rfl rfl ⟨rfl, by decide, .inl G.v_ClockError⟩ (L2N.takes_of rfl rfl rfl rfl) G.x_cl (fun W pn xe tk po => (dss_one (act W _ _ _ _ _ tk)))
  (fun a oe k pn vs hk hz hdt hct => (dss_cons (ds_setO (i := 2) S.nd rfl (Or.inl rfl) (df_lst da_nil))
  (dss_cons (ds_app (fun h => pe_bm PySem.F.plainAttrs_list PySem.F.slot_list_append PySem.F.type_list_append mt_append (pe_var (i := 2) rfl (Or.inl rfl)) (pa_cons h pa_nil)) (de_tup (da_cons de_str (da_cons (de_isE (G.x_exc k hk) hz hdt rfl G.b_isinstance (i := 1) rfl (Or.inl rfl) rfl G.v_InvalidNumber (G.x_isa k 1 hk (by decide))) da_nil))))
  (dss_cons (ds_app (fun h => pe_bm PySem.F.plainAttrs_list PySem.F.slot_list_append PySem.F.type_list_append mt_append (pe_var (i := 2) rfl (Or.inl rfl)) (pa_cons h pa_nil)) (de_tup (da_cons de_str (da_cons (de_isE (G.x_exc k hk) hz hdt rfl G.b_isinstance (i := 1) rfl (Or.inl rfl) rfl G.v_InvalidMarks (G.x_isa k 2 hk (by decide))) da_nil))))
  (dss_cons (ds_setLcHot (own := [("word", 4), ("good", 5)]) (i := 3) (hotS_suite hdt hct) S.nd rfl rfl (sw_true rfl rfl rfl rfl) (de_var (pe_var (i := 2) rfl (Or.inl rfl))) (blkOk_by rfl) (by decide) (fun _ _ _ _ _ _ hd => (dg_tupHot hd (dgs_cons (dg_name (pg_name (i := 4) S.nd rfl (Or.inl rfl))) (dgs_cons (dg_name (pg_name (i := 5) S.nd rfl (Or.inl rfl))) dgs_nil)))) (fun _ _ _ _ _ _ => (dts_one (dt_truth (de_var (pe_var (i := 5) rfl (Or.inl rfl)))))) (fun _ _ _ _ _ _ => (de_var (pe_var (i := 4) rfl (Or.inl rfl)))))
  (dss_one (ds_ret (de_if (dt_cmp (fun h1 h2 => pt_cmpR (op_neD hr.units) h1 h2 (nomark _)) snd_ne (de_var (pe_var (i := 3) rfl (Or.inl rfl))) (de_lst da_nil)) (de_join (de_var (pe_var (i := 3) rfl (Or.inl rfl)))) de_str)))))))))
  (dss_one (ds_ret de_str)))
/-! #### _law_left -/
abbrev st__law_left : Stmt := topS 28
theorem sc__law_left : FnScope ["pair", "fine", "coarse", "p", "n", "f", "c", "whole", "found", "lap", "way"] ["pair", "fine", "coarse"] (defScope st__law_left) := ⟨rfl, rfl, rfl, by decide +kernel, rfl, by decide +kernel, by decide +kernel⟩
def L1__law_left : DSf := (sSeq (sSet 10 (dO2 dMod (dCB bInt (aCons (dO2 dSub (dO2 dAdd (dO2 dMul (dVar 9) (dVar 3)) (dVar 1)) (dVar 2)) aNil)) (dVar 7)))
  (sIf (tCmpD dLe (dCB bMin (aCons (dVar 10) (aCons (dO2 dSub (dVar 7) (dVar 10)) aNil))) (dO2 dAdd (dVar 5) (dVar 6))) (sApp 8 (dVar 9)) sNext))
def b__law_left : DSf := (sSeq (sAsg (dVar 0) (gT 4 (gsCons (gN 3) (gsCons (gN 4) (gsCons (gN 5) (gsCons (gN 6) gsNil))))))
  (sSeq (sPar [7, 8] (pVal (dO2 dMul (dVar 3) (dVar 4)) (pOwn (fDisp aNil) pNil)))
  (sSeq (sFor (iRg1 (aCons (dVar 4) aNil)) (gN 9) L1__law_left)
  (sRet (dCB bTuple (aCons (dVar 8) aNil))))))
def g__law_left : List D → Out := rawN 11 b__law_left
theorem ok__law_left (G : Gs K mg fa) (FD : FunD K "_law_left" "_law_left" (defArgs st__law_left) (defBody st__law_left) (defScope st__law_left) [] [] f fd) (hm : mg "_law_left" = some (.ref f))  : DefN P w K mg base 1 fa T "_law_left" 3 g__law_left := by
  have S := sc__law_left
  exact DefN.of (k := 0) (N := ["pair", "fine", "coarse", "p", "n", "f", "c", "whole", "found", "lap", "way"]) FD hm S (FD.bindsN fun _ _ _ _ _ _ us hl => match us, hl with | [_, _, _], _ => rfl) rfl (by decide) fun cdv A outer s H E H0 B hr => (dss_cons (ds_asg (de_var (pe_var (i := 0) rfl (Or.inl rfl))) (dg_tup rfl (dgs_cons (dg_name (pg_name (i := 3) S.nd rfl (Or.inl rfl))) (dgs_cons (dg_name (pg_name (i := 4) S.nd rfl (Or.inl rfl))) (dgs_cons (dg_name (pg_name (i := 5) S.nd rfl (Or.inl rfl))) (dgs_cons (dg_name (pg_name (i := 6) S.nd rfl (Or.inl rfl))) dgs_nil))))))
  (dss_cons (ds_par2 (fun h => ps_par (i := 7) (j := 8) rfl S.nd rfl rfl (by decide) rfl rfl h rfl) (dp_val (de_o2 (fun h1 h2 => pe_op op_mulD h1 h2) snd_mul (de_var (pe_var (i := 3) rfl (Or.inl rfl))) (de_var (pe_var (i := 4) rfl (Or.inl rfl)))) (dp_own (df_lst da_nil) (fun _ => dp_nil))))
  (dss_cons (ds_for (passes_of rfl) rfl (di_range1 rfl G.b_range (da_cons (de_var (pe_var (i := 4) rfl (Or.inl rfl))) da_nil)) (dg_name (pg_name (i := 9) S.nd rfl (Or.inl rfl))) (dss_cons (ds_set (i := 10) S.nd rfl (Or.inl rfl) (de_o2 (fun h1 h2 => pe_op op_mod h1 h2) snd_mod (de_cb (fun h => pe_callTy call_int1 rfl G.b_int boot_tint h) snd_int (da_cons (de_o2 (fun h1 h2 => pe_op op_sub h1 h2) snd_sub (de_o2 (fun h1 h2 => pe_op op_addD h1 h2) snd_add (de_o2 (fun h1 h2 => pe_op op_mulD h1 h2) snd_mul (de_var (pe_var (i := 9) rfl (Or.inl rfl))) (de_var (pe_var (i := 3) rfl (Or.inl rfl)))) (de_var (pe_var (i := 1) rfl (Or.inl rfl)))) (de_var (pe_var (i := 2) rfl (Or.inl rfl)))) da_nil)) (de_var (pe_var (i := 7) rfl (Or.inl rfl)))))
  (dss_one (ds_if (dt_cmp (fun h1 h2 => pt_cmpR op_le h1 h2 (nomark _)) (snd_cmp (fun i j => decide (i ≤ j))) (de_cb (fun h => pe_callB (orC (call_min2 rfl) (cr_min rfl)) rfl G.b_min (by decide +kernel) h) snd_min (da_cons (de_var (pe_var (i := 10) rfl (Or.inl rfl))) (da_cons (de_o2 (fun h1 h2 => pe_op op_sub h1 h2) snd_sub (de_var (pe_var (i := 7) rfl (Or.inl rfl))) (de_var (pe_var (i := 10) rfl (Or.inl rfl)))) da_nil))) (de_o2 (fun h1 h2 => pe_op op_addD h1 h2) snd_add (de_var (pe_var (i := 5) rfl (Or.inl rfl))) (de_var (pe_var (i := 6) rfl (Or.inl rfl))))) (dss_one (ds_app (fun h => pe_bm PySem.F.plainAttrs_list PySem.F.slot_list_append PySem.F.type_list_append mt_append (pe_var (i := 8) rfl (Or.inl rfl)) (pa_cons h pa_nil)) (de_var (pe_var (i := 9) rfl (Or.inl rfl))))) dss_nil))))
  (dss_one (ds_ret (de_cb (fun h => pe_callTy call_tuple_of rfl G.b_tuple boot_ttuple h) snd_tuple (da_cons (de_var (pe_var (i := 8) rfl (Or.inl rfl))) da_nil)))))))
/-! #### _law_is_two -/
abbrev st__law_is_two : Stmt := topS 29
theorem sc__law_is_two : FnScope ["pair", "value", "p", "n", "f", "c"] ["pair", "value"] (defScope st__law_is_two) := ⟨rfl, rfl, rfl, by decide +kernel, rfl, by decide +kernel, by decide +kernel⟩
def b__law_is_two : DSf := (sSeq (sAsg (dVar 0) (gT 4 (gsCons (gN 2) (gsCons (gN 3) (gsCons (gN 4) (gsCons (gN 5) gsNil))))))
  (sSeq (sIf (tOrD (tCmpD dNe (dCall 1 g__law_sort (aCons (dVar 1) aNil)) (dC (.int 4))) (tOrD (tCmpD dNe (dCB bLen (aCons (dVar 1) aNil)) (dC (.int 2))) (tOrD (tCmpD dNe (dCall 1 g__law_sort (aCons (dO2 dIx (dVar 1) (dC (.int 0))) aNil)) (dC (.int 2))) (tCmpD dNe (dCall 1 g__law_sort (aCons (dO2 dIx (dVar 1) (dC (.int 1))) aNil)) (dC (.int 2)))))) (sRet (dC (.bl false))) sNext)
  (sSeq (sIf (tOrD (tNotD (tChn dLe dLt (dC (.int 0)) (dO2 dIx (dVar 1) (dC (.int 0))) (dVar 2))) (tNotD (tChn dLe dLt (dC (.int 0)) (dO2 dIx (dVar 1) (dC (.int 1))) (dO2 dMul (dVar 2) (dVar 3))))) (sRet (dC (.bl false))) sNext)
  (sRet (dO2 dGt (dCB bLen (aCons (dCall 3 g__law_left (aCons (dVar 0) (aCons (dO2 dIx (dVar 1) (dC (.int 0))) (aCons (dO2 dIx (dVar 1) (dC (.int 1))) aNil)))) aNil)) (dC (.int 1)))))))
def g__law_is_two : List D → Out := rawN 6 b__law_is_two
theorem ok__law_is_two (G : Gs K mg fa) (FD : FunD K "_law_is_two" "_law_is_two" (defArgs st__law_is_two) (defBody st__law_is_two) (defScope st__law_is_two) [] [] f fd) (hm : mg "_law_is_two" = some (.ref f)) (C__law_sort : DefN P w K mg base 1 fa T "_law_sort" 1 g__law_sort) (C__law_left : DefN P w K mg base 1 fa T "_law_left" 3 g__law_left) : DefN P w K mg base 2 fa T "_law_is_two" 2 g__law_is_two := by
  have S := sc__law_is_two
  exact DefN.of (k := 1) (N := ["pair", "value", "p", "n", "f", "c"]) FD hm S (FD.bindsN fun _ _ _ _ _ _ us hl => match us, hl with | [_, _], _ => rfl) rfl (by decide) fun cdv A outer s H E H0 B hr => (dss_cons (ds_asg (de_var (pe_var (i := 0) rfl (Or.inl rfl))) (dg_tup rfl (dgs_cons (dg_name (pg_name (i := 2) S.nd rfl (Or.inl rfl))) (dgs_cons (dg_name (pg_name (i := 3) S.nd rfl (Or.inl rfl))) (dgs_cons (dg_name (pg_name (i := 4) S.nd rfl (Or.inl rfl))) (dgs_cons (dg_name (pg_name (i := 5) S.nd rfl (Or.inl rfl))) dgs_nil))))))
  (dss_cons (ds_if (dw_pt (dw_or (dt_cmp (fun h1 h2 => pt_cmpR (op_neD hr.units) h1 h2 (nomark _)) snd_ne (de_call (C__law_sort.mono (by decide)) (L2N.takes_of rfl rfl rfl rfl) hr rfl (da_cons (de_var (pe_var (i := 1) rfl (Or.inl rfl))) da_nil)) de_int) (dw_or (dt_cmp (fun h1 h2 => pt_cmpR (op_neD hr.units) h1 h2 (nomark _)) snd_ne (de_cb (fun h => pe_callB call_len rfl G.b_len boot_len h) snd_len (da_cons (de_var (pe_var (i := 1) rfl (Or.inl rfl))) da_nil)) de_int) (dw_or (dt_cmp (fun h1 h2 => pt_cmpR (op_neD hr.units) h1 h2 (nomark _)) snd_ne (de_call (C__law_sort.mono (by decide)) (L2N.takes_of rfl rfl rfl rfl) hr rfl (da_cons (de_o2 (fun h1 h2 => pe_ix ix_seq h1 h2 fun _ _ => rfl) snd_ix (de_var (pe_var (i := 1) rfl (Or.inl rfl))) de_int) da_nil)) de_int) (dw_or1 (dt_cmp (fun h1 h2 => pt_cmpR (op_neD hr.units) h1 h2 (nomark _)) snd_ne (de_call (C__law_sort.mono (by decide)) (L2N.takes_of rfl rfl rfl rfl) hr rfl (da_cons (de_o2 (fun h1 h2 => pe_ix ix_seq h1 h2 fun _ _ => rfl) snd_ix (de_var (pe_var (i := 1) rfl (Or.inl rfl))) de_int) da_nil)) de_int)))))) (dss_one (ds_ret de_bl)) dss_nil)
  (dss_cons (ds_if (dw_pt (dw_or (dt_not (dt_chain (fun h1 h2 h3 => pt_chain op_le op_lt h1 h2 h3) (snd_cmp (fun i j => decide (i ≤ j))) (snd_cmp (fun i j => decide (i < j))) de_int (de_o2 (fun h1 h2 => pe_ix ix_seq h1 h2 fun _ _ => rfl) snd_ix (de_var (pe_var (i := 1) rfl (Or.inl rfl))) de_int) (de_var (pe_var (i := 2) rfl (Or.inl rfl))))) (dw_or1 (dt_not (dt_chain (fun h1 h2 h3 => pt_chain op_le op_lt h1 h2 h3) (snd_cmp (fun i j => decide (i ≤ j))) (snd_cmp (fun i j => decide (i < j))) de_int (de_o2 (fun h1 h2 => pe_ix ix_seq h1 h2 fun _ _ => rfl) snd_ix (de_var (pe_var (i := 1) rfl (Or.inl rfl))) de_int) (de_o2 (fun h1 h2 => pe_op op_mulD h1 h2) snd_mul (de_var (pe_var (i := 2) rfl (Or.inl rfl))) (de_var (pe_var (i := 3) rfl (Or.inl rfl))))))))) (dss_one (ds_ret de_bl)) dss_nil)
  (dss_one (ds_ret (de_o2 (fun h1 h2 => pe_cmpR op_gt h1 h2 (nomark _)) (snd_cmp (fun i j => decide (j < i))) (de_cb (fun h => pe_callB call_len rfl G.b_len boot_len h) snd_len (da_cons (de_call (C__law_left.mono (by decide)) (L2N.takes_of rfl rfl rfl rfl) hr rfl (da_cons (de_var (pe_var (i := 0) rfl (Or.inl rfl))) (da_cons (de_o2 (fun h1 h2 => pe_ix ix_seq h1 h2 fun _ _ => rfl) snd_ix (de_var (pe_var (i := 1) rfl (Or.inl rfl))) de_int) (da_cons (de_o2 (fun h1 h2 => pe_ix ix_seq h1 h2 fun _ _ => rfl) snd_ix (de_var (pe_var (i := 1) rfl (Or.inl rfl))) de_int) da_nil)))) da_nil)) de_int))))))
/-! #### _law_right -/
abbrev st__law_right : Stmt := topS 30
theorem sc__law_right : FnScope ["cup", "pair", "is_small", "p", "n", "f", "c", "told", "is_one_v", "time", "fine", "coarse", "one", "other", "left", "near", "lap", "way", "base", "values", "value", "mark"] ["cup", "pair", "is_small"] (defScope st__law_right) := ⟨rfl, rfl, rfl, by decide +kernel, rfl, by decide +kernel, by decide +kernel⟩
def S17__law_right : DSf := (sRet (dC (.bl true)))
def L1__law_right : DSf := (sIf (tNotD (tTru (dCall 2 g__law_like (aCons (dCall 5 g_is_two_laps (aCons (dVar 3) (aCons (dVar 4) (aCons (dVar 5) (aCons (dVar 6) (aCons (dVar 20) aNil)))))) (aCons (dCall 2 g__law_is_two (aCons (dVar 1) (aCons (dVar 20) aNil))) aNil))))) (sRet (dC (.bl false))) sNext)
def S16__law_right : DSf := (sFor (iSeq (dO2 dAdd (dVar 19) (dDisp .lst (aCons (dDisp .tup (aCons (dO2 dIx (dVar 18) (dC (.int 0))) (aCons (dC .non) aNil))) (aCons (dDisp .tup (aCons (dC (.bl true)) (aCons (dO2 dIx (dVar 18) (dC (.int 1))) aNil))) (aCons (dDisp .tup (aCons (dC (.int 0)) (aCons (dO1 dNeg (dC (.int 1))) aNil))) (aCons (dDisp .tup (aCons (dVar 10) (aCons (dVar 11) aNil))) aNil))))))) (gN 20) L1__law_right)
def S15__law_right : DSf := (sSet 19 (dDisp .lst (aCons (dVar 18) (aCons (dO1 dBack (dVar 18)) (aCons (dSlice (dVar 18) oNone (oSome (dC (.int 1)))) (aCons (dO2 dAdd (dVar 18) (dDisp .tup (aCons (dC (.int 0)) aNil))) (aCons (dCB bList (aCons (dVar 18) aNil)) (aCons (dC .non) (aCons (dDisp .tup aNil) (aCons (dC (.int 0)) (aCons (dDisp .tup (aCons (dC (.int 0)) (aCons (dO2 dFdiv (dVar 3) (dC (.int 2))) aNil))) (aCons (dDisp .tup (aCons (dVar 3) (aCons (dC (.int 0)) aNil))) (aCons (dDisp .tup (aCons (dC (.int 0)) (aCons (dO2 dMul (dVar 3) (dVar 4)) aNil))) (aCons (dDisp .tup (aCons (dO1 dNeg (dC (.int 1))) (aCons (dC (.int 0)) aNil))) aNil))))))))))))))
def S14__law_right : DSf := (sSet 18 (dIf (tCmpD dIsNot (dVar 7) (dC .non)) (dVar 7) (dDisp .tup (aCons (dVar 10) (aCons (dVar 11) aNil)))))
def S13__law_right : DSf := (sIf (tAndD (tCmpD dLt (dVar 5) (dVar 3)) (tCmpD dNotIn (dC (.bl true)) (dVar 15))) (sRet (dC (.bl false))) sNext)
def L2__law_right : DSf := (sSeq (sSet 17 (dO2 dMod (dCB bInt (aCons (dO2 dSub (dO2 dAdd (dO2 dMul (dVar 16) (dVar 3)) (dVar 10)) (dVar 9)) aNil)) (dO2 dMul (dVar 3) (dVar 4))))
  (sApp 15 (dO2 dLe (dCB bMin (aCons (dVar 17) (aCons (dO2 dSub (dO2 dMul (dVar 3) (dVar 4)) (dVar 17)) aNil))) (dVar 5))))
def S12__law_right : DSf := (sFor (iSeq (dVar 14)) (gN 16) L2__law_right)
def S11__law_right : DSf := (sSetO 15 (fDisp aNil))
def S10__law_right : DSf := (sSet 14 (dCall 6 g_laps_left (aCons (dVar 3) (aCons (dVar 4) (aCons (dVar 5) (aCons (dVar 6) (aCons (dVar 10) (aCons (dVar 11) aNil))))))))
def L3__law_right : DSf := (sSeq (sSet 14 (dCall 6 g_laps_left (aCons (dVar 3) (aCons (dVar 4) (aCons (dVar 5) (aCons (dVar 6) (aCons (dVar 12) (aCons (dVar 13) aNil))))))))
  (sIf (tOrD (tNotD (tTru (dCall 2 g__law_like (aCons (dVar 14) (aCons (dCall 3 g__law_left (aCons (dVar 1) (aCons (dVar 12) (aCons (dVar 13) aNil)))) aNil))))) (tAndD (tTru (dVar 8)) (tCmpD dGt (dCB bLen (aCons (dVar 14) aNil)) (dC (.int 1))))) (sRet (dC (.bl false))) sNext))
def S9__law_right : DSf := (sFor (iSeq (dDisp .tup (aCons (dDisp .tup (aCons (dVar 10) (aCons (dVar 11) aNil))) (aCons (dDisp .tup (aCons (dO2 dMod (dCB bInt (aCons (dVar 9) aNil)) (dVar 3)) (aCons (dVar 9) aNil))) (aCons (dDisp .tup (aCons (dCallB 1 g__law_roll (aCons (dVar 0) (aCons (dVar 3) aNil))) (aCons (dCallB 1 g__law_roll (aCons (dVar 0) (aCons (dO2 dMul (dVar 3) (dVar 4)) aNil))) aNil))) (aCons (dDisp .tup (aCons (dO2 dSub (dVar 3) (dC (.int 1))) (aCons (dO2 dSub (dO2 dMul (dVar 3) (dVar 4)) (dC (.int 1))) aNil))) aNil)))))) (gT 2 (gsCons (gN 12) (gsCons (gN 13) gsNil))) L3__law_right)
def S8__law_right : DSf := (sSet 11 (dO2 dMod (dCB bInt (aCons (dO2 dSub (dO2 dAdd (dVar 9) (dCallB 1 g__law_roll (aCons (dVar 0) (aCons (dO2 dAdd (dO2 dMul (dC (.int 2)) (dVar 6)) (dC (.int 1))) aNil)))) (dVar 6)) aNil)) (dO2 dMul (dVar 3) (dVar 4))))
def S7__law_right : DSf := (sSet 10 (dO2 dMod (dCB bInt (aCons (dO2 dSub (dO2 dAdd (dVar 9) (dCallB 1 g__law_roll (aCons (dVar 0) (aCons (dO2 dAdd (dO2 dMul (dC (.int 2)) (dVar 5)) (dC (.int 1))) aNil)))) (dVar 5)) aNil)) (dVar 3)))
def S6__law_right : DSf := (sSet 9 (dCallB 1 g__law_roll (aCons (dVar 0) (aCons (dO2 dMul (dVar 3) (dVar 4)) aNil))))
def T1__law_right : DTf := (tCmpD dGt (dCB bLen (aCons (dCall 3 g__law_left (aCons (dVar 1) (aCons (dC (.int 0)) (aCons (dVar 21) aNil)))) aNil)) (dC (.int 1)))
def S5__law_right : DSf := (sIf (tAndD (tTru (dVar 2)) (tCmpD dNe (dO2 dEq (dOfF (fComp [21] (iRg1 (aCons (dO2 dMul (dVar 3) (dVar 4)) aNil)) (gN 21) T1__law_right (dVar 21))) (dDisp .lst aNil)) (dVar 8))) (sRet (dC (.bl false))) sNext)
def S4__law_right : DSf := (sIf (tAndD (tCmpD dIsNot (dVar 7) (dC .non)) (tNotD (tTru (dCall 2 g__law_is_two (aCons (dVar 1) (aCons (dVar 7) aNil)))))) (sRet (dC (.bl false))) sNext)
def S3__law_right : DSf := (sIf (tOrD (tNotD (tTru (dCall 2 g__law_like (aCons (dVar 8) (aCons (dOrV (dO2 dEq (dVar 4) (dC (.int 1))) (dO2 dLt (dO2 dMul (dC (.int 2)) (dO2 dAdd (dVar 5) (dVar 6))) (dVar 3))) aNil))))) (tCmpD dNe (dO2 dIs (dVar 7) (dC .non)) (dVar 8))) (sRet (dC (.bl false))) sNext)
def S2__law_right : DSf := (sPar [7, 8] (pVal (dCall 4 g_two_laps (aCons (dVar 3) (aCons (dVar 4) (aCons (dVar 5) (aCons (dVar 6) aNil))))) (pVal (dCall 4 g_leave_one (aCons (dVar 3) (aCons (dVar 4) (aCons (dVar 5) (aCons (dVar 6) aNil))))) pNil)))
def S1__law_right : DSf := (sAsg (dVar 1) (gT 4 (gsCons (gN 3) (gsCons (gN 4) (gsCons (gN 5) (gsCons (gN 6) gsNil))))))
def b__law_right : DSf := (sSeq S1__law_right
  (sSeq S2__law_right
  (sSeq S3__law_right
  (sSeq S4__law_right
  (sSeq S5__law_right
  (sSeq S6__law_right
  (sSeq S7__law_right
  (sSeq S8__law_right
  (sSeq S9__law_right
  (sSeq S10__law_right
  (sSeq S11__law_right
  (sSeq S12__law_right
  (sSeq S13__law_right
  (sSeq S14__law_right
  (sSeq S15__law_right
  (sSeq S16__law_right
  S17__law_right))))))))))))))))
def g__law_right : List D → List D → OutB := rawB 22 b__law_right
theorem ok__law_right (G : Gs K mg fa) (FD : FunD K "_law_right" "_law_right" (defArgs st__law_right) (defBody st__law_right) (defScope st__law_right) [] [] f fd) (hm : mg "_law_right" = some (.ref f)) (C_laps_left : DefN P w K mg base 4 fa T "laps_left" 6 g_laps_left) (C_leave_one : DefN P w K mg base 4 fa T "leave_one" 4 g_leave_one) (C_two_laps : DefN P w K mg base 4 fa T "two_laps" 4 g_two_laps) (C_is_two_laps : DefN P w K mg base 4 fa T "is_two_laps" 5 g_is_two_laps) (C__law_roll : DefB P w K mg base 1 fa T "_law_roll" 1 g__law_roll) (C__law_like : DefN P w K mg base 9 fa T "_law_like" 2 g__law_like) (C__law_left : DefN P w K mg base 1 fa T "_law_left" 3 g__law_left) (C__law_is_two : DefN P w K mg base 2 fa T "_law_is_two" 2 g__law_is_two) : DefB P w K mg base 10 fa T "_law_right" 2 g__law_right := by
  have S := sc__law_right
  exact DefB.of (k := 9) (N := ["cup", "pair", "is_small", "p", "n", "f", "c", "told", "is_one_v", "time", "fine", "coarse", "one", "other", "left", "near", "lap", "way", "base", "values", "value", "mark"]) FD hm S (FD.bindsN fun _ _ _ _ _ _ us hl => match us, hl with | [_, _, _], _ => rfl) rfl (by decide) fun cdv A outer s H E H0 B p hr => (dss_cons (ds_asg (de_var (pe_var (i := 1) rfl (Or.inr (Or.inl rfl)))) (dg_tup rfl (dgs_cons (dg_name (pg_name (i := 3) S.nd rfl (Or.inl rfl))) (dgs_cons (dg_name (pg_name (i := 4) S.nd rfl (Or.inl rfl))) (dgs_cons (dg_name (pg_name (i := 5) S.nd rfl (Or.inl rfl))) (dgs_cons (dg_name (pg_name (i := 6) S.nd rfl (Or.inl rfl))) dgs_nil))))))
  (dss_cons (ds_par2 (fun h => ps_par (i := 7) (j := 8) rfl S.nd rfl rfl (by decide) rfl rfl h rfl) (dp_val (de_call (C_two_laps.mono (by decide)) (L2N.takes_of rfl rfl rfl rfl) hr rfl (da_cons (de_var (pe_var (i := 3) rfl (Or.inl rfl))) (da_cons (de_var (pe_var (i := 4) rfl (Or.inl rfl))) (da_cons (de_var (pe_var (i := 5) rfl (Or.inl rfl))) (da_cons (de_var (pe_var (i := 6) rfl (Or.inl rfl))) da_nil))))) (dp_val (de_call (C_leave_one.mono (by decide)) (L2N.takes_of rfl rfl rfl rfl) hr rfl (da_cons (de_var (pe_var (i := 3) rfl (Or.inl rfl))) (da_cons (de_var (pe_var (i := 4) rfl (Or.inl rfl))) (da_cons (de_var (pe_var (i := 5) rfl (Or.inl rfl))) (da_cons (de_var (pe_var (i := 6) rfl (Or.inl rfl))) da_nil))))) dp_nil)))
  (dss_cons (ds_if (dw_pt (dw_or (dt_not (dt_truth (de_call (C__law_like.mono (by decide)) (L2N.takes_of rfl rfl rfl rfl) hr rfl (da_cons (de_var (pe_var (i := 8) rfl (Or.inl rfl))) (da_cons (de_or (de_o2 (fun h1 h2 => pe_cmpR (op_eqD hr.units) h1 h2 (nomark _)) snd_eq (de_var (pe_var (i := 4) rfl (Or.inl rfl))) de_int) (de_one (de_o2 (fun h1 h2 => pe_cmpR op_lt h1 h2 (nomark _)) (snd_cmp (fun i j => decide (i < j))) (de_o2 (fun h1 h2 => pe_op op_mulD h1 h2) snd_mul de_int (de_o2 (fun h1 h2 => pe_op op_addD h1 h2) snd_add (de_var (pe_var (i := 5) rfl (Or.inl rfl))) (de_var (pe_var (i := 6) rfl (Or.inl rfl))))) (de_var (pe_var (i := 3) rfl (Or.inl rfl)))))) da_nil))))) (dw_or1 (dt_cmp (fun h1 h2 => pt_cmpR (op_neD hr.units) h1 h2 (nomark _)) snd_ne (de_o2 (fun h1 h2 => pe_cmpR op_isD h1 h2 (nomark _)) snd_is (de_var (pe_var (i := 7) rfl (Or.inl rfl))) de_non) (de_var (pe_var (i := 8) rfl (Or.inl rfl))))))) (dss_one (ds_ret de_bl)) dss_nil)
  (dss_cons (ds_if (dw_pt (dw_and (dt_cmp (fun h1 h2 => pt_cmpR op_isNotD h1 h2 (nomark _)) snd_isNot (de_var (pe_var (i := 7) rfl (Or.inl rfl))) de_non) (dw_and1 (dt_not (dt_truth (de_call (C__law_is_two.mono (by decide)) (L2N.takes_of rfl rfl rfl rfl) hr rfl (da_cons (de_var (pe_var (i := 1) rfl (Or.inr (Or.inl rfl)))) (da_cons (de_var (pe_var (i := 7) rfl (Or.inl rfl))) da_nil)))))))) (dss_one (ds_ret de_bl)) dss_nil)
  (dss_cons (ds_if (dw_pt (dw_and (dt_truth (de_var (pe_var (i := 2) rfl (Or.inl rfl)))) (dw_and1 (dt_cmp (fun h1 h2 => pt_cmpR (op_neD hr.units) h1 h2 (nomark _)) snd_ne (de_o2 (fun h1 h2 => pe_cmpR (op_eqD hr.units) h1 h2 (nomark _)) snd_eq (de_ofF (df_lc (own := [("mark", 21)]) rfl S.nd (di_range1 rfl G.b_range (da_cons (de_o2 (fun h1 h2 => pe_op op_mulD h1 h2) snd_mul (de_var (pe_var (i := 3) rfl (Or.inl rfl))) (de_var (pe_var (i := 4) rfl (Or.inl rfl)))) da_nil)) (blkOk_by rfl) (by decide) (fun _ _ _ _ _ _ => (dg_name (pg_name (i := 21) S.nd rfl (Or.inl rfl)))) (fun _ _ _ _ _ _ => (dts_one (dt_cmp (fun h1 h2 => pt_cmpR op_gt h1 h2 (nomark _)) (snd_cmp (fun i j => decide (j < i))) (de_cb (fun h => pe_callB call_len rfl G.b_len boot_len h) snd_len (da_cons (de_call (C__law_left.mono (by decide)) takesN0 hr rfl (da_cons (de_var (pe_var (i := 1) rfl (Or.inr (Or.inl rfl)))) (da_cons de_int (da_cons (de_var (pe_var (i := 21) rfl (Or.inl rfl))) da_nil)))) da_nil)) de_int))) (fun _ _ _ _ _ _ => (de_var (pe_var (i := 21) rfl (Or.inl rfl)))))) (de_lst da_nil)) (de_var (pe_var (i := 8) rfl (Or.inl rfl))))))) (dss_one (ds_ret de_bl)) dss_nil)
  (dss_cons (ds_set (i := 9) S.nd rfl (Or.inl rfl) (de_callB (C__law_roll.mono (by decide)) (L2N.takes_of rfl rfl rfl rfl) hr rfl (da_cons (de_var (pe_var (i := 0) rfl (Or.inl rfl))) (da_cons (de_o2 (fun h1 h2 => pe_op op_mulD h1 h2) snd_mul (de_var (pe_var (i := 3) rfl (Or.inl rfl))) (de_var (pe_var (i := 4) rfl (Or.inl rfl)))) da_nil))))
  (dss_cons (ds_set (i := 10) S.nd rfl (Or.inl rfl) (de_o2 (fun h1 h2 => pe_op op_mod h1 h2) snd_mod (de_cb (fun h => pe_callTy call_int1 rfl G.b_int boot_tint h) snd_int (da_cons (de_o2 (fun h1 h2 => pe_op op_sub h1 h2) snd_sub (de_o2 (fun h1 h2 => pe_op op_addD h1 h2) snd_add (de_var (pe_var (i := 9) rfl (Or.inl rfl))) (de_callB (C__law_roll.mono (by decide)) (L2N.takes_of rfl rfl rfl rfl) hr rfl (da_cons (de_var (pe_var (i := 0) rfl (Or.inl rfl))) (da_cons (de_o2 (fun h1 h2 => pe_op op_addD h1 h2) snd_add (de_o2 (fun h1 h2 => pe_op op_mulD h1 h2) snd_mul de_int (de_var (pe_var (i := 5) rfl (Or.inl rfl)))) de_int) da_nil)))) (de_var (pe_var (i := 5) rfl (Or.inl rfl)))) da_nil)) (de_var (pe_var (i := 3) rfl (Or.inl rfl)))))
  (dss_cons (ds_set (i := 11) S.nd rfl (Or.inl rfl) (de_o2 (fun h1 h2 => pe_op op_mod h1 h2) snd_mod (de_cb (fun h => pe_callTy call_int1 rfl G.b_int boot_tint h) snd_int (da_cons (de_o2 (fun h1 h2 => pe_op op_sub h1 h2) snd_sub (de_o2 (fun h1 h2 => pe_op op_addD h1 h2) snd_add (de_var (pe_var (i := 9) rfl (Or.inl rfl))) (de_callB (C__law_roll.mono (by decide)) (L2N.takes_of rfl rfl rfl rfl) hr rfl (da_cons (de_var (pe_var (i := 0) rfl (Or.inl rfl))) (da_cons (de_o2 (fun h1 h2 => pe_op op_addD h1 h2) snd_add (de_o2 (fun h1 h2 => pe_op op_mulD h1 h2) snd_mul de_int (de_var (pe_var (i := 6) rfl (Or.inl rfl)))) de_int) da_nil)))) (de_var (pe_var (i := 6) rfl (Or.inl rfl)))) da_nil)) (de_o2 (fun h1 h2 => pe_op op_mulD h1 h2) snd_mul (de_var (pe_var (i := 3) rfl (Or.inl rfl))) (de_var (pe_var (i := 4) rfl (Or.inl rfl))))))
  (dss_cons (ds_for (passes_of rfl) rfl (di_seq (de_tup (da_cons (de_tup (da_cons (de_var (pe_var (i := 10) rfl (Or.inl rfl))) (da_cons (de_var (pe_var (i := 11) rfl (Or.inl rfl))) da_nil))) (da_cons (de_tup (da_cons (de_o2 (fun h1 h2 => pe_op op_mod h1 h2) snd_mod (de_cb (fun h => pe_callTy call_int1 rfl G.b_int boot_tint h) snd_int (da_cons (de_var (pe_var (i := 9) rfl (Or.inl rfl))) da_nil)) (de_var (pe_var (i := 3) rfl (Or.inl rfl)))) (da_cons (de_var (pe_var (i := 9) rfl (Or.inl rfl))) da_nil))) (da_cons (de_tup (da_cons (de_callB (C__law_roll.mono (by decide)) (L2N.takes_of rfl rfl rfl rfl) hr rfl (da_cons (de_var (pe_var (i := 0) rfl (Or.inl rfl))) (da_cons (de_var (pe_var (i := 3) rfl (Or.inl rfl))) da_nil))) (da_cons (de_callB (C__law_roll.mono (by decide)) (L2N.takes_of rfl rfl rfl rfl) hr rfl (da_cons (de_var (pe_var (i := 0) rfl (Or.inl rfl))) (da_cons (de_o2 (fun h1 h2 => pe_op op_mulD h1 h2) snd_mul (de_var (pe_var (i := 3) rfl (Or.inl rfl))) (de_var (pe_var (i := 4) rfl (Or.inl rfl)))) da_nil))) da_nil))) (da_cons (de_tup (da_cons (de_o2 (fun h1 h2 => pe_op op_sub h1 h2) snd_sub (de_var (pe_var (i := 3) rfl (Or.inl rfl))) de_int) (da_cons (de_o2 (fun h1 h2 => pe_op op_sub h1 h2) snd_sub (de_o2 (fun h1 h2 => pe_op op_mulD h1 h2) snd_mul (de_var (pe_var (i := 3) rfl (Or.inl rfl))) (de_var (pe_var (i := 4) rfl (Or.inl rfl)))) de_int) da_nil))) da_nil)))))) (dg_tup rfl (dgs_cons (dg_name (pg_name (i := 12) S.nd rfl (Or.inl rfl))) (dgs_cons (dg_name (pg_name (i := 13) S.nd rfl (Or.inl rfl))) dgs_nil))) (dss_cons (ds_set (i := 14) S.nd rfl (Or.inl rfl) (de_call (C_laps_left.mono (by decide)) (L2N.takes_of rfl rfl rfl rfl) hr rfl (da_cons (de_var (pe_var (i := 3) rfl (Or.inl rfl))) (da_cons (de_var (pe_var (i := 4) rfl (Or.inl rfl))) (da_cons (de_var (pe_var (i := 5) rfl (Or.inl rfl))) (da_cons (de_var (pe_var (i := 6) rfl (Or.inl rfl))) (da_cons (de_var (pe_var (i := 12) rfl (Or.inl rfl))) (da_cons (de_var (pe_var (i := 13) rfl (Or.inl rfl))) da_nil))))))))
  (dss_one (ds_if (dw_pt (dw_or (dt_not (dt_truth (de_call (C__law_like.mono (by decide)) (L2N.takes_of rfl rfl rfl rfl) hr rfl (da_cons (de_var (pe_var (i := 14) rfl (Or.inl rfl))) (da_cons (de_call (C__law_left.mono (by decide)) (L2N.takes_of rfl rfl rfl rfl) hr rfl (da_cons (de_var (pe_var (i := 1) rfl (Or.inr (Or.inl rfl)))) (da_cons (de_var (pe_var (i := 12) rfl (Or.inl rfl))) (da_cons (de_var (pe_var (i := 13) rfl (Or.inl rfl))) da_nil)))) da_nil))))) (dw_or1 (dw_pt (dw_and (dt_truth (de_var (pe_var (i := 8) rfl (Or.inl rfl)))) (dw_and1 (dt_cmp (fun h1 h2 => pt_cmpR op_gt h1 h2 (nomark _)) (snd_cmp (fun i j => decide (j < i))) (de_cb (fun h => pe_callB call_len rfl G.b_len boot_len h) snd_len (da_cons (de_var (pe_var (i := 14) rfl (Or.inl rfl))) da_nil)) de_int))))))) (dss_one (ds_ret de_bl)) dss_nil))))
  (dss_cons (ds_set (i := 14) S.nd rfl (Or.inl rfl) (de_call (C_laps_left.mono (by decide)) (L2N.takes_of rfl rfl rfl rfl) hr rfl (da_cons (de_var (pe_var (i := 3) rfl (Or.inl rfl))) (da_cons (de_var (pe_var (i := 4) rfl (Or.inl rfl))) (da_cons (de_var (pe_var (i := 5) rfl (Or.inl rfl))) (da_cons (de_var (pe_var (i := 6) rfl (Or.inl rfl))) (da_cons (de_var (pe_var (i := 10) rfl (Or.inl rfl))) (da_cons (de_var (pe_var (i := 11) rfl (Or.inl rfl))) da_nil))))))))
  (dss_cons (ds_setO (i := 15) S.nd rfl (Or.inl rfl) (df_lst da_nil))
  (dss_cons (ds_for (passes_of rfl) rfl (di_seq (de_var (pe_var (i := 14) rfl (Or.inl rfl)))) (dg_name (pg_name (i := 16) S.nd rfl (Or.inl rfl))) (dss_cons (ds_set (i := 17) S.nd rfl (Or.inl rfl) (de_o2 (fun h1 h2 => pe_op op_mod h1 h2) snd_mod (de_cb (fun h => pe_callTy call_int1 rfl G.b_int boot_tint h) snd_int (da_cons (de_o2 (fun h1 h2 => pe_op op_sub h1 h2) snd_sub (de_o2 (fun h1 h2 => pe_op op_addD h1 h2) snd_add (de_o2 (fun h1 h2 => pe_op op_mulD h1 h2) snd_mul (de_var (pe_var (i := 16) rfl (Or.inl rfl))) (de_var (pe_var (i := 3) rfl (Or.inl rfl)))) (de_var (pe_var (i := 10) rfl (Or.inl rfl)))) (de_var (pe_var (i := 9) rfl (Or.inl rfl)))) da_nil)) (de_o2 (fun h1 h2 => pe_op op_mulD h1 h2) snd_mul (de_var (pe_var (i := 3) rfl (Or.inl rfl))) (de_var (pe_var (i := 4) rfl (Or.inl rfl))))))
  (dss_one (ds_app (fun h => pe_bm PySem.F.plainAttrs_list PySem.F.slot_list_append PySem.F.type_list_append mt_append (pe_var (i := 15) rfl (Or.inl rfl)) (pa_cons h pa_nil)) (de_o2 (fun h1 h2 => pe_cmpR op_le h1 h2 (nomark _)) (snd_cmp (fun i j => decide (i ≤ j))) (de_cb (fun h => pe_callB (orC (call_min2 rfl) (cr_min rfl)) rfl G.b_min (by decide +kernel) h) snd_min (da_cons (de_var (pe_var (i := 17) rfl (Or.inl rfl))) (da_cons (de_o2 (fun h1 h2 => pe_op op_sub h1 h2) snd_sub (de_o2 (fun h1 h2 => pe_op op_mulD h1 h2) snd_mul (de_var (pe_var (i := 3) rfl (Or.inl rfl))) (de_var (pe_var (i := 4) rfl (Or.inl rfl)))) (de_var (pe_var (i := 17) rfl (Or.inl rfl)))) da_nil))) (de_var (pe_var (i := 5) rfl (Or.inl rfl))))))))
  (dss_cons (ds_if (dw_pt (dw_and (dt_cmp (fun h1 h2 => pt_cmpR op_lt h1 h2 (nomark _)) (snd_cmp (fun i j => decide (i < j))) (de_var (pe_var (i := 5) rfl (Or.inl rfl))) (de_var (pe_var (i := 3) rfl (Or.inl rfl)))) (dw_and1 (dt_cmp (fun h1 h2 => pt_cmpR (op_notInA (room65 hr)) h1 h2 rfl) snd_notIn de_bl (de_var (pe_var (i := 15) rfl (Or.inl rfl))))))) (dss_one (ds_ret de_bl)) dss_nil)
  (dss_cons (ds_set (i := 18) S.nd rfl (Or.inl rfl) (de_if (dt_cmp (fun h1 h2 => pt_cmpR op_isNotD h1 h2 (nomark _)) snd_isNot (de_var (pe_var (i := 7) rfl (Or.inl rfl))) de_non) (de_var (pe_var (i := 7) rfl (Or.inl rfl))) (de_tup (da_cons (de_var (pe_var (i := 10) rfl (Or.inl rfl))) (da_cons (de_var (pe_var (i := 11) rfl (Or.inl rfl))) da_nil)))))
  (dss_cons (ds_set (i := 19) S.nd rfl (Or.inl rfl) (de_lst (da_cons (de_var (pe_var (i := 18) rfl (Or.inl rfl))) (da_cons (de_o1 (fun h => pe_backT h) snd_back (de_var (pe_var (i := 18) rfl (Or.inl rfl)))) (da_cons (de_slice (de_var (pe_var (i := 18) rfl (Or.inl rfl))) do_none (do_some de_int)) (da_cons (de_o2 (fun h1 h2 => pe_op op_addD h1 h2) snd_add (de_var (pe_var (i := 18) rfl (Or.inl rfl))) (de_tup (da_cons de_int da_nil))) (da_cons (de_cb (fun h => pe_callTy call_list_of rfl G.b_list boot_tlist h) snd_list (da_cons (de_var (pe_var (i := 18) rfl (Or.inl rfl))) da_nil)) (da_cons de_non (da_cons (de_tup da_nil) (da_cons de_int (da_cons (de_tup (da_cons de_int (da_cons (de_o2 (fun h1 h2 => pe_op op_fdivW h1 h2) snd_fdiv (de_var (pe_var (i := 3) rfl (Or.inl rfl))) de_int) da_nil))) (da_cons (de_tup (da_cons (de_var (pe_var (i := 3) rfl (Or.inl rfl))) (da_cons de_int da_nil))) (da_cons (de_tup (da_cons de_int (da_cons (de_o2 (fun h1 h2 => pe_op op_mulD h1 h2) snd_mul (de_var (pe_var (i := 3) rfl (Or.inl rfl))) (de_var (pe_var (i := 4) rfl (Or.inl rfl)))) da_nil))) (da_cons (de_tup (da_cons (de_o1 (fun h => pe_un un_neg h) snd_neg de_int) (da_cons de_int da_nil))) da_nil))))))))))))))
  (dss_cons (ds_for (passes_of rfl) rfl (di_seq (de_o2 (fun h1 h2 => pe_op op_addD h1 h2) snd_add (de_var (pe_var (i := 19) rfl (Or.inl rfl))) (de_lst (da_cons (de_tup (da_cons (de_o2 (fun h1 h2 => pe_ix ix_seq h1 h2 fun _ _ => rfl) snd_ix (de_var (pe_var (i := 18) rfl (Or.inl rfl))) de_int) (da_cons de_non da_nil))) (da_cons (de_tup (da_cons de_bl (da_cons (de_o2 (fun h1 h2 => pe_ix ix_seq h1 h2 fun _ _ => rfl) snd_ix (de_var (pe_var (i := 18) rfl (Or.inl rfl))) de_int) da_nil))) (da_cons (de_tup (da_cons de_int (da_cons (de_o1 (fun h => pe_un un_neg h) snd_neg de_int) da_nil))) (da_cons (de_tup (da_cons (de_var (pe_var (i := 10) rfl (Or.inl rfl))) (da_cons (de_var (pe_var (i := 11) rfl (Or.inl rfl))) da_nil))) da_nil))))))) (dg_name (pg_name (i := 20) S.nd rfl (Or.inl rfl))) (dss_one (ds_if (dt_not (dt_truth (de_call (C__law_like.mono (by decide)) (L2N.takes_of rfl rfl rfl rfl) hr rfl (da_cons (de_call (C_is_two_laps.mono (by decide)) (L2N.takes_of rfl rfl rfl rfl) hr rfl (da_cons (de_var (pe_var (i := 3) rfl (Or.inl rfl))) (da_cons (de_var (pe_var (i := 4) rfl (Or.inl rfl))) (da_cons (de_var (pe_var (i := 5) rfl (Or.inl rfl))) (da_cons (de_var (pe_var (i := 6) rfl (Or.inl rfl))) (da_cons (de_var (pe_var (i := 20) rfl (Or.inl rfl))) da_nil)))))) (da_cons (de_call (C__law_is_two.mono (by decide)) (L2N.takes_of rfl rfl rfl rfl) hr rfl (da_cons (de_var (pe_var (i := 1) rfl (Or.inr (Or.inl rfl)))) (da_cons (de_var (pe_var (i := 20) rfl (Or.inl rfl))) da_nil))) da_nil))))) (dss_one (ds_ret de_bl)) dss_nil)))
  (dss_one (ds_ret de_bl))))))))))))))))))
/-! #### _law_pair -/
abbrev st__law_pair : Stmt := topS 31
theorem sc__law_pair : FnScope ["cup", "most", "laps", "p", "n", "f", "rest", "c"] ["cup", "most", "laps"] (defScope st__law_pair) := ⟨rfl, rfl, rfl, by decide +kernel, rfl, by decide +kernel, by decide +kernel⟩
def S5__law_pair : DSf := (sRet (dDisp .tup (aCons (dVar 3) (aCons (dVar 4) (aCons (dCB bMin (aCons (dVar 5) (aCons (dC (.int 1000)) aNil))) (aCons (dCB bMin (aCons (dVar 7) (aCons (dC (.int 1000)) aNil))) aNil))))))
def S4__law_pair : DSf := (sSet 7 (dCallB 1 g__law_some (aCons (dVar 0) (aCons (dDisp .lst (aCons (dC (.int 0)) (aCons (dVar 6) (aCons (dO2 dAdd (dVar 6) (dC (.int 1))) (aCons (dCB bMax (aCons (dC (.int 0)) (aCons (dO2 dSub (dVar 6) (dC (.int 1))) aNil))) (aCons (dCallB 1 g__law_roll (aCons (dVar 0) (aCons (dVar 3) aNil))) aNil)))))) aNil))))
def S3__law_pair : DSf := (sSet 6 (dCB bMax (aCons (dC (.int 0)) (aCons (dO2 dSub (dO2 dFdiv (dVar 3) (dC (.int 2))) (dVar 5)) aNil))))
def S2__law_pair : DSf := (sSet 5 (dCallB 1 g__law_some (aCons (dVar 0) (aCons (dDisp .lst (aCons (dC (.int 0)) (aCons (dC (.int 1)) (aCons (dO2 dFdiv (dVar 3) (dC (.int 4))) (aCons (dCallB 1 g__law_roll (aCons (dVar 0) (aCons (dVar 3) aNil))) aNil))))) aNil))))
def S1__law_pair : DSf := (sPar [3, 4] (pVal (dO2 dAdd (dC (.int 2)) (dCallB 1 g__law_roll (aCons (dVar 0) (aCons (dO2 dSub (dVar 1) (dC (.int 1))) aNil)))) (pVal (dO2 dAdd (dC (.int 1)) (dCallB 1 g__law_roll (aCons (dVar 0) (aCons (dVar 2) aNil)))) pNil)))
def b__law_pair : DSf := (sSeq S1__law_pair
  (sSeq S2__law_pair
  (sSeq S3__law_pair
  (sSeq S4__law_pair
  S5__law_pair))))
def g__law_pair : List D → List D → OutB := rawB 8 b__law_pair
theorem ok__law_pair (G : Gs K mg fa) (FD : FunD K "_law_pair" "_law_pair" (defArgs st__law_pair) (defBody st__law_pair) (defScope st__law_pair) [] [] f fd) (hm : mg "_law_pair" = some (.ref f)) (C__law_roll : DefB P w K mg base 1 fa T "_law_roll" 1 g__law_roll) (C__law_some : DefB P w K mg base 2 fa T "_law_some" 1 g__law_some) : DefB P w K mg base 3 fa T "_law_pair" 2 g__law_pair := by
  have S := sc__law_pair
  exact DefB.of (k := 2) (N := ["cup", "most", "laps", "p", "n", "f", "rest", "c"]) FD hm S (FD.bindsN fun _ _ _ _ _ _ us hl => match us, hl with | [_, _, _], _ => rfl) rfl (by decide) fun cdv A outer s H E H0 B p hr => (dss_cons (ds_par2 (fun h => ps_par (i := 3) (j := 4) rfl S.nd rfl rfl (by decide) rfl rfl h rfl) (dp_val (de_o2 (fun h1 h2 => pe_op op_addD h1 h2) snd_add de_int (de_callB (C__law_roll.mono (by decide)) (L2N.takes_of rfl rfl rfl rfl) hr rfl (da_cons (de_var (pe_var (i := 0) rfl (Or.inl rfl))) (da_cons (de_o2 (fun h1 h2 => pe_op op_sub h1 h2) snd_sub (de_var (pe_var (i := 1) rfl (Or.inl rfl))) de_int) da_nil)))) (dp_val (de_o2 (fun h1 h2 => pe_op op_addD h1 h2) snd_add de_int (de_callB (C__law_roll.mono (by decide)) (L2N.takes_of rfl rfl rfl rfl) hr rfl (da_cons (de_var (pe_var (i := 0) rfl (Or.inl rfl))) (da_cons (de_var (pe_var (i := 2) rfl (Or.inl rfl))) da_nil)))) dp_nil)))
  (dss_cons (ds_set (i := 5) S.nd rfl (Or.inl rfl) (de_callB (C__law_some.mono (by decide)) (L2N.takes_of rfl rfl rfl rfl) hr rfl (da_cons (de_var (pe_var (i := 0) rfl (Or.inl rfl))) (da_cons (de_lst (da_cons de_int (da_cons de_int (da_cons (de_o2 (fun h1 h2 => pe_op op_fdivW h1 h2) snd_fdiv (de_var (pe_var (i := 3) rfl (Or.inl rfl))) de_int) (da_cons (de_callB (C__law_roll.mono (by decide)) (L2N.takes_of rfl rfl rfl rfl) hr rfl (da_cons (de_var (pe_var (i := 0) rfl (Or.inl rfl))) (da_cons (de_var (pe_var (i := 3) rfl (Or.inl rfl))) da_nil))) da_nil))))) da_nil))))
  (dss_cons (ds_set (i := 6) S.nd rfl (Or.inl rfl) (de_cb (fun h => pe_callB (orC (call_max2 rfl) (cr_max rfl)) rfl G.b_max (by decide +kernel) h) snd_max (da_cons de_int (da_cons (de_o2 (fun h1 h2 => pe_op op_sub h1 h2) snd_sub (de_o2 (fun h1 h2 => pe_op op_fdivW h1 h2) snd_fdiv (de_var (pe_var (i := 3) rfl (Or.inl rfl))) de_int) (de_var (pe_var (i := 5) rfl (Or.inl rfl)))) da_nil))))
  (dss_cons (ds_set (i := 7) S.nd rfl (Or.inl rfl) (de_callB (C__law_some.mono (by decide)) (L2N.takes_of rfl rfl rfl rfl) hr rfl (da_cons (de_var (pe_var (i := 0) rfl (Or.inl rfl))) (da_cons (de_lst (da_cons de_int (da_cons (de_var (pe_var (i := 6) rfl (Or.inl rfl))) (da_cons (de_o2 (fun h1 h2 => pe_op op_addD h1 h2) snd_add (de_var (pe_var (i := 6) rfl (Or.inl rfl))) de_int) (da_cons (de_cb (fun h => pe_callB (orC (call_max2 rfl) (cr_max rfl)) rfl G.b_max (by decide +kernel) h) snd_max (da_cons de_int (da_cons (de_o2 (fun h1 h2 => pe_op op_sub h1 h2) snd_sub (de_var (pe_var (i := 6) rfl (Or.inl rfl))) de_int) da_nil))) (da_cons (de_callB (C__law_roll.mono (by decide)) (L2N.takes_of rfl rfl rfl rfl) hr rfl (da_cons (de_var (pe_var (i := 0) rfl (Or.inl rfl))) (da_cons (de_var (pe_var (i := 3) rfl (Or.inl rfl))) da_nil))) da_nil)))))) da_nil))))
  (dss_one (ds_ret (de_tup (da_cons (de_var (pe_var (i := 3) rfl (Or.inl rfl))) (da_cons (de_var (pe_var (i := 4) rfl (Or.inl rfl))) (da_cons (de_cb (fun h => pe_callB (orC (call_min2 rfl) (cr_min rfl)) rfl G.b_min (by decide +kernel) h) snd_min (da_cons (de_var (pe_var (i := 5) rfl (Or.inl rfl))) (da_cons de_int da_nil))) (da_cons (de_cb (fun h => pe_callB (orC (call_min2 rfl) (cr_min rfl)) rfl G.b_min (by decide +kernel) h) snd_min (da_cons (de_var (pe_var (i := 7) rfl (Or.inl rfl))) (da_cons de_int da_nil))) da_nil)))))))))))
/-! #### _law_great -/
abbrev st__law_great : Stmt := topS 32
theorem sc__law_great : FnScope ["cup", "told", "due"] ["cup"] (defScope st__law_great) := ⟨rfl, rfl, rfl, by decide +kernel, rfl, by decide +kernel, by decide +kernel⟩
def S7__law_great : DSf := (sRet (dAndV (dCallB 2 g__law_right (aCons (dVar 0) (aCons (dDisp .tup (aCons (dC (.int 1000)) (aCons (dC (.int 100)) (aCons (dC (.int 250)) (aCons (dC (.int 249)) aNil))))) (aCons (dC (.bl false)) aNil)))) (dCallB 2 g__law_right (aCons (dVar 0) (aCons (dDisp .tup (aCons (dC (.int 999)) (aCons (dC (.int 100)) (aCons (dC (.int 300)) (aCons (dC (.int 200)) aNil))))) (aCons (dC (.bl false)) aNil))))))
def S6__law_great : DSf := (sIf (tOrD (tNotD (tTru (dCall 2 g__law_like (aCons (dVar 1) (aCons (dVar 2) aNil))))) (tOrD (tCmpD dIsNot (dCall 4 g_leave_one (aCons (dC (.int 2)) (aCons (dC (.int 1)) (aCons (dC (.int 1000)) (aCons (dC (.int 1000)) aNil))))) (dC (.bl true))) (tCmpD dIsNot (dCall 4 g_leave_one (aCons (dC (.int 2)) (aCons (dC (.int 2)) (aCons (dC (.int 1)) (aCons (dC (.int 0)) aNil))))) (dC (.bl false))))) (sRet (dC (.bl false))) sNext)
def S5__law_great : DSf := (sSet 2 (dDisp .lst (aCons (dC (.bl true)) (aCons (dC (.bl false)) (aCons (dC (.bl true)) (aCons (dC (.bl false)) (aCons (dDisp .tup (aCons (dC (.int 0)) (aCons (dC (.int 1)) aNil))) (aCons (dDisp .tup (aCons (dC (.int 99)) aNil)) (aCons (dDisp .tup (aCons (dC (.int 0)) (aCons (dC (.int 1)) (aCons (dC (.int 2)) (aCons (dC (.int 98)) (aCons (dC (.int 99)) aNil)))))) aNil)))))))))
def S4__law_great : DSf := (sSet 1 (dO2 dAdd (dVar 1) (dDisp .lst (aCons (dCall 6 g_laps_left (aCons (dC (.int 1000)) (aCons (dC (.int 100)) (aCons (dC (.int 1000)) (aCons (dC (.int 1000)) (aCons (dC (.int 0)) (aCons (dC (.int 0)) aNil))))))) aNil))))
def S3__law_great : DSf := (sSet 1 (dO2 dAdd (dVar 1) (dDisp .lst (aCons (dCall 6 g_laps_left (aCons (dC (.int 1000)) (aCons (dC (.int 100)) (aCons (dC (.int 250)) (aCons (dC (.int 250)) (aCons (dC (.int 0)) (aCons (dC (.int 500)) aNil))))))) (aCons (dCall 6 g_laps_left (aCons (dC (.int 1000)) (aCons (dC (.int 100)) (aCons (dC (.int 0)) (aCons (dC (.int 0)) (aCons (dC (.int 999)) (aCons (dC (.int 99999)) aNil))))))) aNil)))))
def S2__law_great : DSf := (sSet 1 (dO2 dAdd (dVar 1) (dDisp .lst (aCons (dCall 4 g_leave_one (aCons (dC (.int 999)) (aCons (dC (.int 100)) (aCons (dC (.int 250)) (aCons (dC (.int 249)) aNil))))) (aCons (dCall 4 g_leave_one (aCons (dC (.int 999)) (aCons (dC (.int 100)) (aCons (dC (.int 250)) (aCons (dC (.int 250)) aNil))))) aNil)))))
def S1__law_great : DSf := (sSet 1 (dDisp .lst (aCons (dCall 4 g_leave_one (aCons (dC (.int 1000)) (aCons (dC (.int 100)) (aCons (dC (.int 250)) (aCons (dC (.int 249)) aNil))))) (aCons (dCall 4 g_leave_one (aCons (dC (.int 1000)) (aCons (dC (.int 100)) (aCons (dC (.int 250)) (aCons (dC (.int 250)) aNil))))) aNil))))
def b__law_great : DSf := (sSeq S1__law_great
  (sSeq S2__law_great
  (sSeq S3__law_great
  (sSeq S4__law_great
  (sSeq S5__law_great
  (sSeq S6__law_great
  S7__law_great))))))
def g__law_great : List D → List D → OutB := rawB 3 b__law_great
theorem ok__law_great (G : Gs K mg fa) (FD : FunD K "_law_great" "_law_great" (defArgs st__law_great) (defBody st__law_great) (defScope st__law_great) [] [] f fd) (hm : mg "_law_great" = some (.ref f)) (C_laps_left : DefN P w K mg base 4 fa T "laps_left" 6 g_laps_left) (C_leave_one : DefN P w K mg base 4 fa T "leave_one" 4 g_leave_one) (C__law_like : DefN P w K mg base 9 fa T "_law_like" 2 g__law_like) (C__law_right : DefB P w K mg base 10 fa T "_law_right" 2 g__law_right) : DefB P w K mg base 11 fa T "_law_great" 0 g__law_great := by
  have S := sc__law_great
  exact DefB.of (k := 10) (N := ["cup", "told", "due"]) FD hm S (FD.bindsN fun _ _ _ _ _ _ us hl => match us, hl with | [_], _ => rfl) rfl (by decide) fun cdv A outer s H E H0 B p hr => (dss_cons (ds_set (i := 1) S.nd rfl (Or.inl rfl) (de_lst (da_cons (de_call (C_leave_one.mono (by decide)) (L2N.takes_of rfl rfl rfl rfl) hr rfl (da_cons de_int (da_cons de_int (da_cons de_int (da_cons de_int da_nil))))) (da_cons (de_call (C_leave_one.mono (by decide)) (L2N.takes_of rfl rfl rfl rfl) hr rfl (da_cons de_int (da_cons de_int (da_cons de_int (da_cons de_int da_nil))))) da_nil))))
  (dss_cons (ds_set (i := 1) S.nd rfl (Or.inl rfl) (de_o2 (fun h1 h2 => pe_op op_addD h1 h2) snd_add (de_var (pe_var (i := 1) rfl (Or.inl rfl))) (de_lst (da_cons (de_call (C_leave_one.mono (by decide)) (L2N.takes_of rfl rfl rfl rfl) hr rfl (da_cons de_int (da_cons de_int (da_cons de_int (da_cons de_int da_nil))))) (da_cons (de_call (C_leave_one.mono (by decide)) (L2N.takes_of rfl rfl rfl rfl) hr rfl (da_cons de_int (da_cons de_int (da_cons de_int (da_cons de_int da_nil))))) da_nil)))))
  (dss_cons (ds_set (i := 1) S.nd rfl (Or.inl rfl) (de_o2 (fun h1 h2 => pe_op op_addD h1 h2) snd_add (de_var (pe_var (i := 1) rfl (Or.inl rfl))) (de_lst (da_cons (de_call (C_laps_left.mono (by decide)) (L2N.takes_of rfl rfl rfl rfl) hr rfl (da_cons de_int (da_cons de_int (da_cons de_int (da_cons de_int (da_cons de_int (da_cons de_int da_nil))))))) (da_cons (de_call (C_laps_left.mono (by decide)) (L2N.takes_of rfl rfl rfl rfl) hr rfl (da_cons de_int (da_cons de_int (da_cons de_int (da_cons de_int (da_cons de_int (da_cons de_int da_nil))))))) da_nil)))))
  (dss_cons (ds_set (i := 1) S.nd rfl (Or.inl rfl) (de_o2 (fun h1 h2 => pe_op op_addD h1 h2) snd_add (de_var (pe_var (i := 1) rfl (Or.inl rfl))) (de_lst (da_cons (de_call (C_laps_left.mono (by decide)) (L2N.takes_of rfl rfl rfl rfl) hr rfl (da_cons de_int (da_cons de_int (da_cons de_int (da_cons de_int (da_cons de_int (da_cons de_int da_nil))))))) da_nil))))
  (dss_cons (ds_set (i := 2) S.nd rfl (Or.inl rfl) (de_lst (da_cons de_bl (da_cons de_bl (da_cons de_bl (da_cons de_bl (da_cons (de_tup (da_cons de_int (da_cons de_int da_nil))) (da_cons (de_tup (da_cons de_int da_nil)) (da_cons (de_tup (da_cons de_int (da_cons de_int (da_cons de_int (da_cons de_int (da_cons de_int da_nil)))))) da_nil)))))))))
  (dss_cons (ds_if (dw_pt (dw_or (dt_not (dt_truth (de_call (C__law_like.mono (by decide)) (L2N.takes_of rfl rfl rfl rfl) hr rfl (da_cons (de_var (pe_var (i := 1) rfl (Or.inl rfl))) (da_cons (de_var (pe_var (i := 2) rfl (Or.inl rfl))) da_nil))))) (dw_or (dt_cmp (fun h1 h2 => pt_cmpR op_isNotD h1 h2 (nomark _)) snd_isNot (de_call (C_leave_one.mono (by decide)) (L2N.takes_of rfl rfl rfl rfl) hr rfl (da_cons de_int (da_cons de_int (da_cons de_int (da_cons de_int da_nil))))) de_bl) (dw_or1 (dt_cmp (fun h1 h2 => pt_cmpR op_isNotD h1 h2 (nomark _)) snd_isNot (de_call (C_leave_one.mono (by decide)) (L2N.takes_of rfl rfl rfl rfl) hr rfl (da_cons de_int (da_cons de_int (da_cons de_int (da_cons de_int da_nil))))) de_bl))))) (dss_one (ds_ret de_bl)) dss_nil)
  (dss_one (ds_ret (de_and (de_callB (C__law_right.mono (by decide)) (L2N.takes_of rfl rfl rfl rfl) hr rfl (da_cons (de_var (pe_var (i := 0) rfl (Or.inl rfl))) (da_cons (de_tup (da_cons de_int (da_cons de_int (da_cons de_int (da_cons de_int da_nil))))) (da_cons de_bl da_nil)))) (de_one (de_callB (C__law_right.mono (by decide)) (L2N.takes_of rfl rfl rfl rfl) hr rfl (da_cons (de_var (pe_var (i := 0) rfl (Or.inl rfl))) (da_cons (de_tup (da_cons de_int (da_cons de_int (da_cons de_int (da_cons de_int da_nil))))) (da_cons de_bl da_nil))))))))))))))
/-! #### _law_errors -/
abbrev st__law_errors : Stmt := topS 33
theorem sc__law_errors : FnScope ["words", "odds", "p", "n", "f", "c", "mark", "call"] [] (defScope st__law_errors) := ⟨rfl, rfl, rfl, by decide +kernel, rfl, by decide +kernel, by decide +kernel⟩
def fnS__law_errors : List (Nat × (Nat × (List D → Out))) := [(3, (4, g_leave_one)), (4, (4, g_two_laps))]
def S9__law_errors : DSf := (sRet (dO2 dEq (dVar 0) (dO2 dMul (dDisp .lst (aCons (dC (.str "marks")) aNil)) (dC (.int 10)))))
def L1__law_errors : DSf := (sApp 0 (dLam g__law_fails (dCall 6 g_laps_left (aCons (dC (.int 12)) (aCons (dC (.int 5)) (aCons (dC (.int 1)) (aCons (dC (.int 1)) (aCons (dC (.int 0)) (aCons (dVar 6) aNil)))))))))
def S8__law_errors : DSf := (sFor (iSeq (dDisp .tup (aCons (dC .non) (aCons (dO1 dNeg (dC (.int 1))) (aCons (dC (.int 60)) (aCons (dC (.bl true)) (aCons (dC (.str "0")) aNil))))))) (gN 6) L1__law_errors)
def L2__law_errors : DSf := (sApp 0 (dLam g__law_fails (dCall 6 g_laps_left (aCons (dC (.int 12)) (aCons (dC (.int 5)) (aCons (dC (.int 1)) (aCons (dC (.int 1)) (aCons (dVar 6) (aCons (dC (.int 0)) aNil)))))))))
def S7__law_errors : DSf := (sFor (iSeq (dDisp .tup (aCons (dC .non) (aCons (dO1 dNeg (dC (.int 1))) (aCons (dC (.int 12)) (aCons (dC (.bl true)) (aCons (dC (.str "0")) aNil))))))) (gN 6) L2__law_errors)
def S6__law_errors : DSf := (sSetO 0 (fDisp aNil))
def S5__law_errors : DSf := (sIf (tCmpD dNe (dVar 0) (dO2 dMul (dDisp .lst (aCons (dC (.str "number")) aNil)) (dC (.int 52)))) (sRet (dC (.bl false))) sNext)
def E1__law_errors : DEf := (dLam g__law_fails (dCallL 7 (lookS fnS__law_errors) (aCons (dVar 2) (aCons (dVar 3) (aCons (dVar 4) (aCons (dVar 5) aNil))))))
def L3__law_errors : DSf := (sSeq (sSetO 0 (fO2 gAddF (dVar 0) (dOfF (fComp [7] (iSeq (dDisp .tup (aCons (dC (.fn 3)) (aCons (dC (.fn 4)) aNil)))) (gN 7) tYesD E1__law_errors))))
  (sSeq (sApp 0 (dLam g__law_fails (dCall 6 g_laps_left (aCons (dVar 2) (aCons (dVar 3) (aCons (dVar 4) (aCons (dVar 5) (aCons (dC .non) (aCons (dC .non) aNil)))))))))
  (sApp 0 (dLam g__law_fails (dCall 5 g_is_two_laps (aCons (dVar 2) (aCons (dVar 3) (aCons (dVar 4) (aCons (dVar 5) (aCons (dC .non) aNil))))))))))
def S4__law_errors : DSf := (sFor (iSeq (dVar 1)) (gT 4 (gsCons (gN 2) (gsCons (gN 3) (gsCons (gN 4) (gsCons (gN 5) gsNil))))) L3__law_errors)
def S3__law_errors : DSf := (sSet 1 (dO2 dAdd (dVar 1) (dDisp .lst (aCons (dDisp .tup (aCons (dC (.int 12)) (aCons (dC (.int 5)) (aCons (dO1 dNeg (dC (.int 1))) (aCons (dC (.int 1)) aNil))))) (aCons (dDisp .tup (aCons (dC (.int 12)) (aCons (dC (.int 5)) (aCons (dC (.int 1001)) (aCons (dC (.int 1)) aNil))))) (aCons (dDisp .tup (aCons (dC (.int 12)) (aCons (dC (.int 5)) (aCons (dC (.bl true)) (aCons (dC (.int 1)) aNil))))) (aCons (dDisp .tup (aCons (dC (.int 12)) (aCons (dC (.int 5)) (aCons (dC (.int 1)) (aCons (dO1 dNeg (dC (.int 1))) aNil))))) (aCons (dDisp .tup (aCons (dC (.int 12)) (aCons (dC (.int 5)) (aCons (dC (.int 1)) (aCons (dC (.int 1001)) aNil))))) (aCons (dDisp .tup (aCons (dC (.int 12)) (aCons (dC (.int 5)) (aCons (dC (.int 1)) (aCons (dC .non) aNil))))) aNil)))))))))
def S2__law_errors : DSf := (sSet 1 (dDisp .lst (aCons (dDisp .tup (aCons (dC .non) (aCons (dC (.int 5)) (aCons (dC (.int 1)) (aCons (dC (.int 1)) aNil))))) (aCons (dDisp .tup (aCons (dC (.int 1)) (aCons (dC (.int 5)) (aCons (dC (.int 1)) (aCons (dC (.int 1)) aNil))))) (aCons (dDisp .tup (aCons (dC (.int 1001)) (aCons (dC (.int 5)) (aCons (dC (.int 1)) (aCons (dC (.int 1)) aNil))))) (aCons (dDisp .tup (aCons (dC (.bl true)) (aCons (dC (.int 5)) (aCons (dC (.int 1)) (aCons (dC (.int 1)) aNil))))) (aCons (dDisp .tup (aCons (dC (.int 12)) (aCons (dC (.int 0)) (aCons (dC (.int 1)) (aCons (dC (.int 1)) aNil))))) (aCons (dDisp .tup (aCons (dC (.int 12)) (aCons (dC (.int 101)) (aCons (dC (.int 1)) (aCons (dC (.int 1)) aNil))))) (aCons (dDisp .tup (aCons (dC (.int 12)) (aCons (dC (.bl true)) (aCons (dC (.int 1)) (aCons (dC (.int 1)) aNil))))) aNil)))))))))
def S1__law_errors : DSf := (sSetO 0 (fDisp aNil))
def b__law_errors : DSf := (sSeq S1__law_errors
  (sSeq S2__law_errors
  (sSeq S3__law_errors
  (sSeq S4__law_errors
  (sSeq S5__law_errors
  (sSeq S6__law_errors
  (sSeq S7__law_errors
  (sSeq S8__law_errors
  S9__law_errors))))))))
def g__law_errors : List D → Out := rawN 8 b__law_errors
theorem ok__law_errors (G : Gs K mg fa) (FD : FunD K "_law_errors" "_law_errors" (defArgs st__law_errors) (defBody st__law_errors) (defScope st__law_errors) [] [] f fd) (hm : mg "_law_errors" = some (.ref f)) {c0 P0 : Addr} (hc0 : fd.code = .ref c0) (TB_law_errors : TabF base mg T c0 P0 "_law_errors" (defScope st__law_errors)) (C_laps_left : DefN P w K mg base 4 fa T "laps_left" 6 g_laps_left) (C_leave_one : DefN P w K mg base 4 fa T "leave_one" 4 g_leave_one) (C_two_laps : DefN P w K mg base 4 fa T "two_laps" 4 g_two_laps) (C_is_two_laps : DefN P w K mg base 4 fa T "is_two_laps" 5 g_is_two_laps) (C__law_fails : LamDef P w K mg base 1 fa T "_law_fails" "call" g__law_fails) : DefN P w K mg base 7 fa T "_law_errors" 0 g__law_errors := by
  have S := sc__law_errors
  have H__law_errors : HeldL P w K mg base 4 fa T fnS__law_errors := ⟨⟨_, C_leave_one.mono (by decide), G.v_leave_one⟩, ⟨⟨_, C_two_laps.mono (by decide), G.v_two_laps⟩, trivial⟩⟩
  exact DefN.ofC (k := 6) (N := ["words", "odds", "p", "n", "f", "c", "mark", "call"]) FD hc0 hm S (FD.bindsN fun _ _ _ _ _ _ us hl => match us, hl with | [], _ => rfl) rfl (by decide) fun A outer s H E H0 B hr => (dss_cons (ds_setO (i := 0) S.nd rfl (Or.inl rfl) (df_lst da_nil))
  (dss_cons (ds_set (i := 1) S.nd rfl (Or.inl rfl) (de_lst (da_cons (de_tup (da_cons de_non (da_cons de_int (da_cons de_int (da_cons de_int da_nil))))) (da_cons (de_tup (da_cons de_int (da_cons de_int (da_cons de_int (da_cons de_int da_nil))))) (da_cons (de_tup (da_cons de_int (da_cons de_int (da_cons de_int (da_cons de_int da_nil))))) (da_cons (de_tup (da_cons de_bl (da_cons de_int (da_cons de_int (da_cons de_int da_nil))))) (da_cons (de_tup (da_cons de_int (da_cons de_int (da_cons de_int (da_cons de_int da_nil))))) (da_cons (de_tup (da_cons de_int (da_cons de_int (da_cons de_int (da_cons de_int da_nil))))) (da_cons (de_tup (da_cons de_int (da_cons de_bl (da_cons de_int (da_cons de_int da_nil))))) da_nil)))))))))
  (dss_cons (ds_set (i := 1) S.nd rfl (Or.inl rfl) (de_o2 (fun h1 h2 => pe_op op_addD h1 h2) snd_add (de_var (pe_var (i := 1) rfl (Or.inl rfl))) (de_lst (da_cons (de_tup (da_cons de_int (da_cons de_int (da_cons (de_o1 (fun h => pe_un un_neg h) snd_neg de_int) (da_cons de_int da_nil))))) (da_cons (de_tup (da_cons de_int (da_cons de_int (da_cons de_int (da_cons de_int da_nil))))) (da_cons (de_tup (da_cons de_int (da_cons de_int (da_cons de_bl (da_cons de_int da_nil))))) (da_cons (de_tup (da_cons de_int (da_cons de_int (da_cons de_int (da_cons (de_o1 (fun h => pe_un un_neg h) snd_neg de_int) da_nil))))) (da_cons (de_tup (da_cons de_int (da_cons de_int (da_cons de_int (da_cons de_int da_nil))))) (da_cons (de_tup (da_cons de_int (da_cons de_int (da_cons de_int (da_cons de_non da_nil))))) da_nil)))))))))
  (dss_cons (ds_for (passes_of rfl) rfl (di_seq (de_var (pe_var (i := 1) rfl (Or.inl rfl)))) (dg_tup rfl (dgs_cons (dg_name (pg_name (i := 2) S.nd rfl (Or.inr rfl))) (dgs_cons (dg_name (pg_name (i := 3) S.nd rfl (Or.inr rfl))) (dgs_cons (dg_name (pg_name (i := 4) S.nd rfl (Or.inr rfl))) (dgs_cons (dg_name (pg_name (i := 5) S.nd rfl (Or.inr rfl))) dgs_nil))))) (dss_cons (ds_setO (i := 0) S.nd rfl (Or.inl rfl) (df_o2 (fun h1 h2 => pe_op op_addD h1 h2) sndF_add (de_var (pe_var (i := 0) rfl (Or.inl rfl))) (de_ofF (df_lc (own := [("call", 7)]) rfl S.nd (di_seq (de_tup (da_cons (de_fn (j := 3) rfl G.v_leave_one) (da_cons (de_fn (j := 4) rfl G.v_two_laps) da_nil)))) (blkOk_by rfl) (by decide) (fun _ _ _ _ _ _ => (dg_name (pg_name (i := 7) S.nd rfl (Or.inr rfl)))) (fun _ _ _ _ _ _ => dts_nil) (fun _ _ _ _ _ _ => (de_lamD (k := 4) (C__law_fails.mono (by decide)) takesN0 rfl TB_law_errors rfl rfl hr (LamX.lamS_by rfl) rfl (fun _ _ _ _ _ => rfl) (fun _ _ _ _ _ _ _ _ _ hr2 => (de_callL (held_look H__law_errors) (L2N.takes_of rfl rfl rfl rfl) hr2 (i := 7) rfl (Or.inr (Or.inr rfl)) (da_cons (de_var (pe_var (i := 2) rfl (Or.inr (Or.inr rfl)))) (da_cons (de_var (pe_var (i := 3) rfl (Or.inr (Or.inr rfl)))) (da_cons (de_var (pe_var (i := 4) rfl (Or.inr (Or.inr rfl)))) (da_cons (de_var (pe_var (i := 5) rfl (Or.inr (Or.inr rfl)))) da_nil))))))))))))
  (dss_cons (ds_app (fun h => pe_bm PySem.F.plainAttrs_list PySem.F.slot_list_append PySem.F.type_list_append mt_append (pe_var (i := 0) rfl (Or.inl rfl)) (pa_cons h pa_nil)) (de_lamD (k := 4) (C__law_fails.mono (by decide)) (L2N.takes_of rfl rfl rfl rfl) rfl TB_law_errors rfl rfl hr (LamX.lamS_by rfl) rfl (fun _ _ _ _ _ => rfl) (fun _ _ _ _ _ _ _ _ _ hr2 => (de_call (C_laps_left.mono (by decide)) (L2N.takes_of rfl rfl rfl rfl) hr2 rfl (da_cons (de_var (pe_var (i := 2) rfl (Or.inr (Or.inr rfl)))) (da_cons (de_var (pe_var (i := 3) rfl (Or.inr (Or.inr rfl)))) (da_cons (de_var (pe_var (i := 4) rfl (Or.inr (Or.inr rfl)))) (da_cons (de_var (pe_var (i := 5) rfl (Or.inr (Or.inr rfl)))) (da_cons de_non (da_cons de_non da_nil))))))))))
  (dss_one (ds_app (fun h => pe_bm PySem.F.plainAttrs_list PySem.F.slot_list_append PySem.F.type_list_append mt_append (pe_var (i := 0) rfl (Or.inl rfl)) (pa_cons h pa_nil)) (de_lamD (k := 4) (C__law_fails.mono (by decide)) (L2N.takes_of rfl rfl rfl rfl) rfl TB_law_errors rfl rfl hr (LamX.lamS_by rfl) rfl (fun _ _ _ _ _ => rfl) (fun _ _ _ _ _ _ _ _ _ hr2 => (de_call (C_is_two_laps.mono (by decide)) (L2N.takes_of rfl rfl rfl rfl) hr2 rfl (da_cons (de_var (pe_var (i := 2) rfl (Or.inr (Or.inr rfl)))) (da_cons (de_var (pe_var (i := 3) rfl (Or.inr (Or.inr rfl)))) (da_cons (de_var (pe_var (i := 4) rfl (Or.inr (Or.inr rfl)))) (da_cons (de_var (pe_var (i := 5) rfl (Or.inr (Or.inr rfl)))) (da_cons de_non da_nil)))))))))))))
  (dss_cons (ds_if (dt_cmp (fun h1 h2 => pt_cmpR (op_neD hr.units) h1 h2 (nomark _)) snd_ne (de_var (pe_var (i := 0) rfl (Or.inl rfl))) (de_o2 (fun h1 h2 => pe_op op_mulD h1 h2) snd_mul (de_lst (da_cons de_str da_nil)) de_int)) (dss_one (ds_ret de_bl)) dss_nil)
  (dss_cons (ds_setO (i := 0) S.nd rfl (Or.inl rfl) (df_lst da_nil))
  (dss_cons (ds_for (passes_of rfl) rfl (di_seq (de_tup (da_cons de_non (da_cons (de_o1 (fun h => pe_un un_neg h) snd_neg de_int) (da_cons de_int (da_cons de_bl (da_cons de_str da_nil))))))) (dg_name (pg_name (i := 6) S.nd rfl (Or.inr rfl))) (dss_one (ds_app (fun h => pe_bm PySem.F.plainAttrs_list PySem.F.slot_list_append PySem.F.type_list_append mt_append (pe_var (i := 0) rfl (Or.inl rfl)) (pa_cons h pa_nil)) (de_lamD (k := 4) (C__law_fails.mono (by decide)) (L2N.takes_of rfl rfl rfl rfl) rfl TB_law_errors rfl rfl hr (LamX.lamS_by rfl) rfl (fun _ _ _ _ _ => rfl) (fun _ _ _ _ _ _ _ _ _ hr2 => (de_call (C_laps_left.mono (by decide)) (L2N.takes_of rfl rfl rfl rfl) hr2 rfl (da_cons de_int (da_cons de_int (da_cons de_int (da_cons de_int (da_cons (de_var (pe_var (i := 6) rfl (Or.inr (Or.inr rfl)))) (da_cons de_int da_nil))))))))))))
  (dss_cons (ds_for (passes_of rfl) rfl (di_seq (de_tup (da_cons de_non (da_cons (de_o1 (fun h => pe_un un_neg h) snd_neg de_int) (da_cons de_int (da_cons de_bl (da_cons de_str da_nil))))))) (dg_name (pg_name (i := 6) S.nd rfl (Or.inr rfl))) (dss_one (ds_app (fun h => pe_bm PySem.F.plainAttrs_list PySem.F.slot_list_append PySem.F.type_list_append mt_append (pe_var (i := 0) rfl (Or.inl rfl)) (pa_cons h pa_nil)) (de_lamD (k := 4) (C__law_fails.mono (by decide)) (L2N.takes_of rfl rfl rfl rfl) rfl TB_law_errors rfl rfl hr (LamX.lamS_by rfl) rfl (fun _ _ _ _ _ => rfl) (fun _ _ _ _ _ _ _ _ _ hr2 => (de_call (C_laps_left.mono (by decide)) (L2N.takes_of rfl rfl rfl rfl) hr2 rfl (da_cons de_int (da_cons de_int (da_cons de_int (da_cons de_int (da_cons de_int (da_cons (de_var (pe_var (i := 6) rfl (Or.inr (Or.inr rfl)))) da_nil))))))))))))
  (dss_one (ds_ret (de_o2 (fun h1 h2 => pe_cmpR (op_eqD hr.units) h1 h2 (nomark _)) snd_eq (de_var (pe_var (i := 0) rfl (Or.inl rfl))) (de_o2 (fun h1 h2 => pe_op op_mulD h1 h2) snd_mul (de_lst (da_cons de_str da_nil)) de_int))))))))))))
/-! #### law -/
abbrev st_law : Stmt := topS 34
theorem sc_law : FnScope ["script", "cup", "turn", "told", "pair"] ["script"] (defScope st_law) := ⟨rfl, rfl, rfl, by decide +kernel, rfl, by decide +kernel, by decide +kernel⟩
def S11_law : DSf := (sRet (dAndV (dCallB 0 g__law_great (aCons (dVar 1) aNil)) (dCall0 g__law_errors)))
def L1_law : DSf := (sIf (tNotD (tTru (dCallB 2 g__law_right (aCons (dVar 1) (aCons (dVar 4) (aCons (dC (.bl true)) aNil)))))) (sRet (dC (.bl false))) sNext)
def S10_law : DSf := (sFor (iSeq (dDisp .tup (aCons (dDisp .tup (aCons (dC (.int 2)) (aCons (dC (.int 2)) (aCons (dC (.int 0)) (aCons (dC (.int 0)) aNil))))) (aCons (dDisp .tup (aCons (dC (.int 2)) (aCons (dC (.int 2)) (aCons (dC (.int 0)) (aCons (dC (.int 1)) aNil))))) (aCons (dDisp .tup (aCons (dC (.int 3)) (aCons (dC (.int 2)) (aCons (dC (.int 1)) (aCons (dC (.int 0)) aNil))))) (aCons (dDisp .tup (aCons (dC (.int 3)) (aCons (dC (.int 2)) (aCons (dC (.int 1)) (aCons (dC (.int 1)) aNil))))) (aCons (dDisp .tup (aCons (dC (.int 12)) (aCons (dC (.int 5)) (aCons (dC (.int 1)) (aCons (dC (.int 5)) aNil))))) (aCons (dDisp .tup (aCons (dC (.int 13)) (aCons (dC (.int 4)) (aCons (dC (.int 3)) (aCons (dC (.int 3)) aNil))))) (aCons (dDisp .tup (aCons (dC (.int 5)) (aCons (dC (.int 1)) (aCons (dC (.int 9)) (aCons (dC (.int 9)) aNil))))) aNil))))))))) (gN 4) L1_law)
def S9_law : DSf := (sIf (tNotD (tTru (dCall 2 g__law_like (aCons (dVar 3) (aCons (dDisp .lst (aCons (dC (.bl true)) (aCons (dC (.bl false)) (aCons (dDisp .tup (aCons (dC (.int 0)) (aCons (dC (.int 1)) aNil))) (aCons (dDisp .tup (aCons (dC (.int 0)) (aCons (dC (.int 1)) aNil))) (aCons (dDisp .tup (aCons (dC (.int 0)) (aCons (dC (.int 1)) aNil))) (aCons (dDisp .tup aNil) (aCons (dDisp .tup (aCons (dC (.int 0)) (aCons (dC (.int 1)) (aCons (dC (.int 2)) aNil)))) (aCons (dDisp .tup (aCons (dC (.int 0)) aNil)) aNil))))))))) aNil))))) (sRet (dC (.bl false))) sNext)
def S8_law : DSf := (sSet 3 (dO2 dAdd (dVar 3) (dDisp .lst (aCons (dCall 6 g_laps_left (aCons (dC (.int 4)) (aCons (dC (.int 3)) (aCons (dC (.int 9)) (aCons (dC (.int 9)) (aCons (dC (.int 1)) (aCons (dC (.int 7)) aNil))))))) (aCons (dCall 6 g_laps_left (aCons (dC (.int 7)) (aCons (dC (.int 1)) (aCons (dC (.int 0)) (aCons (dC (.int 3)) (aCons (dC (.int 0)) (aCons (dC (.int 3)) aNil))))))) aNil)))))
def S7_law : DSf := (sSet 3 (dO2 dAdd (dVar 3) (dDisp .lst (aCons (dCall 6 g_laps_left (aCons (dC (.int 10)) (aCons (dC (.int 2)) (aCons (dC (.int 2)) (aCons (dC (.int 3)) (aCons (dC (.int 0)) (aCons (dC (.int 15)) aNil))))))) (aCons (dCall 6 g_laps_left (aCons (dC (.int 10)) (aCons (dC (.int 2)) (aCons (dC (.int 2)) (aCons (dC (.int 2)) (aCons (dC (.int 0)) (aCons (dC (.int 5)) aNil))))))) aNil)))))
def S6_law : DSf := (sSet 3 (dDisp .lst (aCons (dCall 4 g_leave_one (aCons (dC (.int 13)) (aCons (dC (.int 4)) (aCons (dC (.int 3)) (aCons (dC (.int 3)) aNil))))) (aCons (dCall 4 g_leave_one (aCons (dC (.int 13)) (aCons (dC (.int 4)) (aCons (dC (.int 3)) (aCons (dC (.int 4)) aNil))))) (aCons (dCall 6 g_laps_left (aCons (dC (.int 13)) (aCons (dC (.int 4)) (aCons (dC (.int 3)) (aCons (dC (.int 4)) (aCons (dC (.int 0)) (aCons (dC (.int 6)) aNil))))))) (aCons (dCall 6 g_laps_left (aCons (dC (.int 10)) (aCons (dC (.int 2)) (aCons (dC (.int 2)) (aCons (dC (.int 3)) (aCons (dC (.int 0)) (aCons (dC (.int 5)) aNil))))))) aNil))))))
def S5_law : DSf := (sIf (tNotD (tTru (dCall 2 g__law_like (aCons (dO2 dAdd (dVar 3) (dDisp .lst (aCons (dCall 6 g_laps_left (aCons (dC (.int 10)) (aCons (dC (.int 3)) (aCons (dC (.int 1)) (aCons (dC (.int 1)) (aCons (dC (.int 9)) (aCons (dC (.int 29)) aNil))))))) aNil))) (aCons (dDisp .lst (aCons (dDisp .tup (aCons (dC (.int 1)) aNil)) (aCons (dDisp .tup (aCons (dC (.int 0)) (aCons (dC (.int 1)) aNil))) (aCons (dDisp .tup aNil) (aCons (dC (.bl true)) (aCons (dC (.bl false)) (aCons (dC (.bl true)) (aCons (dC .non) (aCons (dC (.bl true)) (aCons (dDisp .tup (aCons (dC (.int 2)) aNil)) aNil)))))))))) aNil))))) (sRet (dC (.bl false))) sNext)
def S4_law : DSf := (sSet 3 (dO2 dAdd (dVar 3) (dDisp .lst (aCons (dCall 4 g_leave_one (aCons (dC (.int 12)) (aCons (dC (.int 5)) (aCons (dC (.int 1)) (aCons (dC (.int 5)) aNil))))) (aCons (dCall 4 g_leave_one (aCons (dC (.int 12)) (aCons (dC (.int 1)) (aCons (dC (.int 9)) (aCons (dC (.int 9)) aNil))))) (aCons (dCall 4 g_two_laps (aCons (dC (.int 12)) (aCons (dC (.int 5)) (aCons (dC (.int 1)) (aCons (dC (.int 4)) aNil))))) (aCons (dCall 5 g_is_two_laps (aCons (dC (.int 12)) (aCons (dC (.int 5)) (aCons (dC (.int 1)) (aCons (dC (.int 5)) (aCons (dDisp .tup (aCons (dC (.int 0)) (aCons (dC (.int 6)) aNil))) aNil)))))) aNil)))))))
def S3_law : DSf := (sSet 3 (dDisp .lst (aCons (dCall 6 g_laps_left (aCons (dC (.int 12)) (aCons (dC (.int 5)) (aCons (dC (.int 1)) (aCons (dC (.int 4)) (aCons (dC (.int 3)) (aCons (dC (.int 16)) aNil))))))) (aCons (dCall 6 g_laps_left (aCons (dC (.int 12)) (aCons (dC (.int 5)) (aCons (dC (.int 1)) (aCons (dC (.int 5)) (aCons (dC (.int 0)) (aCons (dC (.int 6)) aNil))))))) (aCons (dCall 6 g_laps_left (aCons (dC (.int 12)) (aCons (dC (.int 5)) (aCons (dC (.int 0)) (aCons (dC (.int 0)) (aCons (dC (.int 3)) (aCons (dC (.int 16)) aNil))))))) (aCons (dCall 4 g_leave_one (aCons (dC (.int 12)) (aCons (dC (.int 5)) (aCons (dC (.int 1)) (aCons (dC (.int 4)) aNil))))) aNil))))))
def L2_law : DSf := (sIf (tOrD (tNotD (tTru (dCallB 2 g__law_right (aCons (dVar 1) (aCons (dCallB 2 g__law_pair (aCons (dVar 1) (aCons (dC (.int 24)) (aCons (dC (.int 6)) aNil)))) (aCons (dC (.bl true)) aNil)))))) (tNotD (tTru (dCallB 2 g__law_right (aCons (dVar 1) (aCons (dCallB 2 g__law_pair (aCons (dVar 1) (aCons (dC (.int 1000)) (aCons (dC (.int 100)) aNil)))) (aCons (dC (.bl false)) aNil))))))) (sRet (dC (.bl false))) sNext)
def S2_law : DSf := (sFor (iRg1 (aCons (dC (.int 6)) aNil)) (gN 2) L2_law)
def S1_law : DSf := (sSetO 1 (fCall 1 g__law_cup (aCons (dVar 0) aNil)))
def b_law : DSf := (sSeq S1_law
  (sSeq S2_law
  (sSeq S3_law
  (sSeq S4_law
  (sSeq S5_law
  (sSeq S6_law
  (sSeq S7_law
  (sSeq S8_law
  (sSeq S9_law
  (sSeq S10_law
  S11_law))))))))))
def g_law : List D → Out := rawN 5 b_law
theorem ok_law (G : Gs K mg fa) (FD : FunD K "law" "law" (defArgs st_law) (defBody st_law) (defScope st_law) [] [] f fd) (C_laps_left : DefN P w K mg base 4 fa T "laps_left" 6 g_laps_left) (C_leave_one : DefN P w K mg base 4 fa T "leave_one" 4 g_leave_one) (C_two_laps : DefN P w K mg base 4 fa T "two_laps" 4 g_two_laps) (C_is_two_laps : DefN P w K mg base 4 fa T "is_two_laps" 5 g_is_two_laps) (C__law_cup : DefF P w K mg base 1 fa T "_law_cup" 1 g__law_cup) (C__law_like : DefN P w K mg base 9 fa T "_law_like" 2 g__law_like) (C__law_right : DefB P w K mg base 10 fa T "_law_right" 2 g__law_right) (C__law_pair : DefB P w K mg base 3 fa T "_law_pair" 2 g__law_pair) (C__law_great : DefB P w K mg base 11 fa T "_law_great" 0 g__law_great) (C__law_errors : DefN P w K mg base 7 fa T "_law_errors" 0 g__law_errors) : FnOk P w K mg base (L2N.CX P w) 12 f fd ["script"] (spN K fa T 1 g_law) := by
  have S := sc_law
  exact fnN_of (k := 11) (N := ["script", "cup", "turn", "told", "pair"]) FD S rfl (by decide) fun cdv A outer s H E H0 B hr => (dss_cons (ds_setO (i := 1) S.nd rfl (Or.inl rfl) (df_call (C__law_cup.mono (by decide)) (L2N.takes_of rfl rfl rfl rfl) hr rfl (da_cons (de_var (pe_var (i := 0) rfl (Or.inl rfl))) da_nil)))
  (dss_cons (ds_for (passes_of rfl) rfl (di_range1 rfl G.b_range (da_cons de_int da_nil)) (dg_name (pg_name (i := 2) S.nd rfl (Or.inl rfl))) (dss_one (ds_if (dw_pt (dw_or (dt_not (dt_truth (de_callB (C__law_right.mono (by decide)) (L2N.takes_of rfl rfl rfl rfl) hr rfl (da_cons (de_var (pe_var (i := 1) rfl (Or.inl rfl))) (da_cons (de_callB (C__law_pair.mono (by decide)) (L2N.takes_of rfl rfl rfl rfl) hr rfl (da_cons (de_var (pe_var (i := 1) rfl (Or.inl rfl))) (da_cons de_int (da_cons de_int da_nil)))) (da_cons de_bl da_nil)))))) (dw_or1 (dt_not (dt_truth (de_callB (C__law_right.mono (by decide)) (L2N.takes_of rfl rfl rfl rfl) hr rfl (da_cons (de_var (pe_var (i := 1) rfl (Or.inl rfl))) (da_cons (de_callB (C__law_pair.mono (by decide)) (L2N.takes_of rfl rfl rfl rfl) hr rfl (da_cons (de_var (pe_var (i := 1) rfl (Or.inl rfl))) (da_cons de_int (da_cons de_int da_nil)))) (da_cons de_bl da_nil))))))))) (dss_one (ds_ret de_bl)) dss_nil)))
  (dss_cons (ds_set (i := 3) S.nd rfl (Or.inl rfl) (de_lst (da_cons (de_call (C_laps_left.mono (by decide)) (L2N.takes_of rfl rfl rfl rfl) hr rfl (da_cons de_int (da_cons de_int (da_cons de_int (da_cons de_int (da_cons de_int (da_cons de_int da_nil))))))) (da_cons (de_call (C_laps_left.mono (by decide)) (L2N.takes_of rfl rfl rfl rfl) hr rfl (da_cons de_int (da_cons de_int (da_cons de_int (da_cons de_int (da_cons de_int (da_cons de_int da_nil))))))) (da_cons (de_call (C_laps_left.mono (by decide)) (L2N.takes_of rfl rfl rfl rfl) hr rfl (da_cons de_int (da_cons de_int (da_cons de_int (da_cons de_int (da_cons de_int (da_cons de_int da_nil))))))) (da_cons (de_call (C_leave_one.mono (by decide)) (L2N.takes_of rfl rfl rfl rfl) hr rfl (da_cons de_int (da_cons de_int (da_cons de_int (da_cons de_int da_nil))))) da_nil))))))
  (dss_cons (ds_set (i := 3) S.nd rfl (Or.inl rfl) (de_o2 (fun h1 h2 => pe_op op_addD h1 h2) snd_add (de_var (pe_var (i := 3) rfl (Or.inl rfl))) (de_lst (da_cons (de_call (C_leave_one.mono (by decide)) (L2N.takes_of rfl rfl rfl rfl) hr rfl (da_cons de_int (da_cons de_int (da_cons de_int (da_cons de_int da_nil))))) (da_cons (de_call (C_leave_one.mono (by decide)) (L2N.takes_of rfl rfl rfl rfl) hr rfl (da_cons de_int (da_cons de_int (da_cons de_int (da_cons de_int da_nil))))) (da_cons (de_call (C_two_laps.mono (by decide)) (L2N.takes_of rfl rfl rfl rfl) hr rfl (da_cons de_int (da_cons de_int (da_cons de_int (da_cons de_int da_nil))))) (da_cons (de_call (C_is_two_laps.mono (by decide)) (L2N.takes_of rfl rfl rfl rfl) hr rfl (da_cons de_int (da_cons de_int (da_cons de_int (da_cons de_int (da_cons (de_tup (da_cons de_int (da_cons de_int da_nil))) da_nil)))))) da_nil)))))))
  (dss_cons (ds_if (dt_not (dt_truth (de_call (C__law_like.mono (by decide)) (L2N.takes_of rfl rfl rfl rfl) hr rfl (da_cons (de_o2 (fun h1 h2 => pe_op op_addD h1 h2) snd_add (de_var (pe_var (i := 3) rfl (Or.inl rfl))) (de_lst (da_cons (de_call (C_laps_left.mono (by decide)) (L2N.takes_of rfl rfl rfl rfl) hr rfl (da_cons de_int (da_cons de_int (da_cons de_int (da_cons de_int (da_cons de_int (da_cons de_int da_nil))))))) da_nil))) (da_cons (de_lst (da_cons (de_tup (da_cons de_int da_nil)) (da_cons (de_tup (da_cons de_int (da_cons de_int da_nil))) (da_cons (de_tup da_nil) (da_cons de_bl (da_cons de_bl (da_cons de_bl (da_cons de_non (da_cons de_bl (da_cons (de_tup (da_cons de_int da_nil)) da_nil)))))))))) da_nil))))) (dss_one (ds_ret de_bl)) dss_nil)
  (dss_cons (ds_set (i := 3) S.nd rfl (Or.inl rfl) (de_lst (da_cons (de_call (C_leave_one.mono (by decide)) (L2N.takes_of rfl rfl rfl rfl) hr rfl (da_cons de_int (da_cons de_int (da_cons de_int (da_cons de_int da_nil))))) (da_cons (de_call (C_leave_one.mono (by decide)) (L2N.takes_of rfl rfl rfl rfl) hr rfl (da_cons de_int (da_cons de_int (da_cons de_int (da_cons de_int da_nil))))) (da_cons (de_call (C_laps_left.mono (by decide)) (L2N.takes_of rfl rfl rfl rfl) hr rfl (da_cons de_int (da_cons de_int (da_cons de_int (da_cons de_int (da_cons de_int (da_cons de_int da_nil))))))) (da_cons (de_call (C_laps_left.mono (by decide)) (L2N.takes_of rfl rfl rfl rfl) hr rfl (da_cons de_int (da_cons de_int (da_cons de_int (da_cons de_int (da_cons de_int (da_cons de_int da_nil))))))) da_nil))))))
  (dss_cons (ds_set (i := 3) S.nd rfl (Or.inl rfl) (de_o2 (fun h1 h2 => pe_op op_addD h1 h2) snd_add (de_var (pe_var (i := 3) rfl (Or.inl rfl))) (de_lst (da_cons (de_call (C_laps_left.mono (by decide)) (L2N.takes_of rfl rfl rfl rfl) hr rfl (da_cons de_int (da_cons de_int (da_cons de_int (da_cons de_int (da_cons de_int (da_cons de_int da_nil))))))) (da_cons (de_call (C_laps_left.mono (by decide)) (L2N.takes_of rfl rfl rfl rfl) hr rfl (da_cons de_int (da_cons de_int (da_cons de_int (da_cons de_int (da_cons de_int (da_cons de_int da_nil))))))) da_nil)))))
  (dss_cons (ds_set (i := 3) S.nd rfl (Or.inl rfl) (de_o2 (fun h1 h2 => pe_op op_addD h1 h2) snd_add (de_var (pe_var (i := 3) rfl (Or.inl rfl))) (de_lst (da_cons (de_call (C_laps_left.mono (by decide)) (L2N.takes_of rfl rfl rfl rfl) hr rfl (da_cons de_int (da_cons de_int (da_cons de_int (da_cons de_int (da_cons de_int (da_cons de_int da_nil))))))) (da_cons (de_call (C_laps_left.mono (by decide)) (L2N.takes_of rfl rfl rfl rfl) hr rfl (da_cons de_int (da_cons de_int (da_cons de_int (da_cons de_int (da_cons de_int (da_cons de_int da_nil))))))) da_nil)))))
  (dss_cons (ds_if (dt_not (dt_truth (de_call (C__law_like.mono (by decide)) (L2N.takes_of rfl rfl rfl rfl) hr rfl (da_cons (de_var (pe_var (i := 3) rfl (Or.inl rfl))) (da_cons (de_lst (da_cons de_bl (da_cons de_bl (da_cons (de_tup (da_cons de_int (da_cons de_int da_nil))) (da_cons (de_tup (da_cons de_int (da_cons de_int da_nil))) (da_cons (de_tup (da_cons de_int (da_cons de_int da_nil))) (da_cons (de_tup da_nil) (da_cons (de_tup (da_cons de_int (da_cons de_int (da_cons de_int da_nil)))) (da_cons (de_tup (da_cons de_int da_nil)) da_nil))))))))) da_nil))))) (dss_one (ds_ret de_bl)) dss_nil)
  (dss_cons (ds_for (passes_of rfl) rfl (di_seq (de_tup (da_cons (de_tup (da_cons de_int (da_cons de_int (da_cons de_int (da_cons de_int da_nil))))) (da_cons (de_tup (da_cons de_int (da_cons de_int (da_cons de_int (da_cons de_int da_nil))))) (da_cons (de_tup (da_cons de_int (da_cons de_int (da_cons de_int (da_cons de_int da_nil))))) (da_cons (de_tup (da_cons de_int (da_cons de_int (da_cons de_int (da_cons de_int da_nil))))) (da_cons (de_tup (da_cons de_int (da_cons de_int (da_cons de_int (da_cons de_int da_nil))))) (da_cons (de_tup (da_cons de_int (da_cons de_int (da_cons de_int (da_cons de_int da_nil))))) (da_cons (de_tup (da_cons de_int (da_cons de_int (da_cons de_int (da_cons de_int da_nil))))) da_nil))))))))) (dg_name (pg_name (i := 4) S.nd rfl (Or.inl rfl))) (dss_one (ds_if (dt_not (dt_truth (de_callB (C__law_right.mono (by decide)) (L2N.takes_of rfl rfl rfl rfl) hr rfl (da_cons (de_var (pe_var (i := 1) rfl (Or.inl rfl))) (da_cons (de_var (pe_var (i := 4) rfl (Or.inl rfl))) (da_cons de_bl da_nil)))))) (dss_one (ds_ret de_bl)) dss_nil)))
  (dss_one (ds_ret (de_and (de_callB (C__law_great.mono (by decide)) (L2N.takes_of rfl rfl rfl rfl) hr rfl (da_cons (de_var (pe_var (i := 1) rfl (Or.inl rfl))) da_nil)) (de_one (de_call0 (C__law_errors.mono (by decide)) (L2N.takes_of rfl rfl rfl rfl) hr rfl)))))))))))))))
end
end K56

set_option maxHeartbeats 0
namespace K56
open PySem PySem.Spec PyProof.Rows L2 DL
open LamX (Tabs)
/-! ### the head -/
def nms : List Str := ["ClockError", "InvalidNumber", "InvalidMarks", "leave_one", "two_laps"]
def nmF (K : Frag) : Nat → Addr := fun k => He.ga K (nms.getD k "")
def d_is_whole : He.DefD := ⟨("is_whole", none), "is_whole", "is_whole", defArgs st_is_whole, defBody st_is_whole, defScope st_is_whole, [], []⟩
def d_need_whole : He.DefD := ⟨("need_whole", none), "need_whole", "need_whole", defArgs st_need_whole, defBody st_need_whole, defScope st_need_whole, [], []⟩
def d_is_tuple_of : He.DefD := ⟨("is_tuple_of", none), "is_tuple_of", "is_tuple_of", defArgs st_is_tuple_of, defBody st_is_tuple_of, defScope st_is_tuple_of, [], []⟩
def d_distance : He.DefD := ⟨("distance", none), "distance", "distance", defArgs st_distance, defBody st_distance, defScope st_distance, [], []⟩
def d_need_pair : He.DefD := ⟨("need_pair", none), "need_pair", "need_pair", defArgs st_need_pair, defBody st_need_pair, defScope st_need_pair, [], []⟩
def d_laps_in : He.DefD := ⟨("laps_in", none), "laps_in", "laps_in", defArgs st_laps_in, defBody st_laps_in, defScope st_laps_in, [], []⟩
def d_laps_left : He.DefD := ⟨("laps_left", none), "laps_left", "laps_left", defArgs st_laps_left, defBody st_laps_left, defScope st_laps_left, [], []⟩
def d_is_one : He.DefD := ⟨("is_one", none), "is_one", "is_one", defArgs st_is_one, defBody st_is_one, defScope st_is_one, [], []⟩
def d_leave_one : He.DefD := ⟨("leave_one", none), "leave_one", "leave_one", defArgs st_leave_one, defBody st_leave_one, defScope st_leave_one, [], []⟩
def d_two_laps : He.DefD := ⟨("two_laps", none), "two_laps", "two_laps", defArgs st_two_laps, defBody st_two_laps, defScope st_two_laps, [], []⟩
def d_is_two_laps : He.DefD := ⟨("is_two_laps", none), "is_two_laps", "is_two_laps", defArgs st_is_two_laps, defBody st_is_two_laps, defScope st_is_two_laps, [], []⟩
def d__law_cup : He.DefD := ⟨("_law_cup", none), "_law_cup", "_law_cup", defArgs st__law_cup, defBody st__law_cup, defScope st__law_cup, [], []⟩
def d__law_roll : He.DefD := ⟨("_law_roll", none), "_law_roll", "_law_roll", defArgs st__law_roll, defBody st__law_roll, defScope st__law_roll, [], []⟩
def d__law_some : He.DefD := ⟨("_law_some", none), "_law_some", "_law_some", defArgs st__law_some, defBody st__law_some, defScope st__law_some, [], []⟩
def d__law_sort : He.DefD := ⟨("_law_sort", none), "_law_sort", "_law_sort", defArgs st__law_sort, defBody st__law_sort, defScope st__law_sort, [], []⟩
def d__law_like : He.DefD := ⟨("_law_like", none), "_law_like", "_law_like", defArgs st__law_like, defBody st__law_like, defScope st__law_like, [], []⟩
def d__law_fails : He.DefD := ⟨("_law_fails", none), "_law_fails", "_law_fails", defArgs st__law_fails, defBody st__law_fails, defScope st__law_fails, [], []⟩
def d__law_left : He.DefD := ⟨("_law_left", none), "_law_left", "_law_left", defArgs st__law_left, defBody st__law_left, defScope st__law_left, [], []⟩
def d__law_is_two : He.DefD := ⟨("_law_is_two", none), "_law_is_two", "_law_is_two", defArgs st__law_is_two, defBody st__law_is_two, defScope st__law_is_two, [], []⟩
def d__law_right : He.DefD := ⟨("_law_right", none), "_law_right", "_law_right", defArgs st__law_right, defBody st__law_right, defScope st__law_right, [], []⟩
def d__law_pair : He.DefD := ⟨("_law_pair", none), "_law_pair", "_law_pair", defArgs st__law_pair, defBody st__law_pair, defScope st__law_pair, [], []⟩
def d__law_great : He.DefD := ⟨("_law_great", none), "_law_great", "_law_great", defArgs st__law_great, defBody st__law_great, defScope st__law_great, [], []⟩
def d__law_errors : He.DefD := ⟨("_law_errors", none), "_law_errors", "_law_errors", defArgs st__law_errors, defBody st__law_errors, defScope st__law_errors, [], []⟩
def d_law : He.DefD := ⟨("law", none), "law", "law", defArgs st_law, defBody st_law, defScope st_law, [], []⟩
def fnL : List He.DefD := [d_is_whole, d_need_whole, d_is_tuple_of, d_distance, d_need_pair, d_laps_in, d_laps_left, d_is_one, d_leave_one, d_two_laps, d_is_two_laps, d__law_cup, d__law_roll, d__law_some, d__law_sort, d__law_like, d__law_fails, d__law_left, d__law_is_two, d__law_right, d__law_pair, d__law_great, d__law_errors, d_law]
def faL_0 : List He.Fa := [.glo "ClockError", .glo "InvalidNumber", .glo "InvalidMarks", .glo "is_whole", .glo "need_whole", .glo "is_tuple_of", .glo "distance", .glo "need_pair", .glo "laps_in", .glo "laps_left", .glo "is_one", .glo "leave_one", .glo "two_laps", .glo "is_two_laps", .glo "_law_cup", .glo "_law_roll", .glo "_law_some", .glo "_law_sort", .glo "_law_like", .glo "_law_fails", .glo "_law_left", .glo "_law_is_two", .glo "_law_right", .glo "_law_pair", .glo "_law_great", .glo "_law_errors", .glo "law", .free "int", .free "isinstance", .free "bool"]
def faL_1 : List He.Fa := [.free "tuple", .free "len", .free "min", .free "range", .free "list", .free "abs", .free "str", .free "zip", .free "max", .int "ERROR" 1000, .int "LAPS" 100, .int "LAP" 1000, .exc "InvalidNumber", .exc "InvalidMarks"]
def faL : List He.Fa := faL_0 ++ faL_1
def tfL : List He.Defn := [("_law_errors", none)]
def exB (K : Frag) : Bool := decide ((tfL.map fun p => (He.cT K p).2).Nodup) && (List.range 3).all (fun k => decide (PySem.W.exmOne K (.ref (nmF K k)) (.ref (nmF K 0)) = some true)) && (List.range 3).all (fun k => excCB K (nmF K k)) && (List.range 3).all (fun k => (List.range 3).all fun j => decide (PySem.W.kitOne K (.ref (nmF K k)) (.ref (nmF K j)) = some (isaT k j)))
abbrev hkX : PySem.W.Hook := He.hookX 5 faL fnL [] tfL exB
def obX (s : PySem.W.SharedT) : He.AlX := He.obsX 5 faL fnL [] tfL exB (HandSHeadRun.getT s)
theorem obX_eq (s : PySem.W.SharedT) : obX s = hkX.obs s.abs := He.obsX_eq (HandSHeadRun.getT_eq s)
abbrev RW : PySem.W.OpenRow := PySem.W.OpenLaw.row PySem.Challenge.rw_wheelmark_k56_whole_coarse_and_fine
def looseL : List Str := ["ClockError", "InvalidNumber", "InvalidMarks", "LAP", "LAPS", "ERROR", "is_whole", "need_whole", "is_tuple_of", "distance", "need_pair", "laps_in", "laps_left", "is_one", "leave_one", "two_laps", "is_two_laps", "_law_cup", "_law_roll", "_law_some", "_law_sort", "_law_like", "_law_fails", "_law_left", "_law_is_two", "_law_right", "_law_pair", "_law_great", "_law_errors"]
theorem runX (w : World) : HandSHeadRun.RunEq RW (PySem.W.view RW.prog [34]) hkX obX 4000 looseL w := by
  intro os
  kernel_rfl
section
variable {w : World} {h : Heap} {K : Frag} {mg : Str → Option Value}
theorem gs_of (X : K.In h) (N : h.Ns mainGlobals mg) (c : He.SaysX faL fnL [] tfL exB w h K) : Gs K mg (nmF K) := by
  have cd := c.t.d
  have cm := c.more
  unfold exB at cm
  simp only [Bool.and_eq_true] at cm
  obtain ⟨⟨⟨cm0, cm1⟩, cm2⟩, cm3⟩ := cm
  exact ⟨He.free_ok X N (cd.fact 27 (f := .free "int") rfl),
    He.free_ok X N (cd.fact 28 (f := .free "isinstance") rfl),
    He.free_ok X N (cd.fact 29 (f := .free "bool") rfl),
    He.free_ok X N (cd.fact 30 (f := .free "tuple") rfl),
    He.free_ok X N (cd.fact 31 (f := .free "len") rfl),
    He.free_ok X N (cd.fact 32 (f := .free "min") rfl),
    He.free_ok X N (cd.fact 33 (f := .free "range") rfl),
    He.free_ok X N (cd.fact 34 (f := .free "list") rfl),
    He.free_ok X N (cd.fact 35 (f := .free "abs") rfl),
    He.free_ok X N (cd.fact 36 (f := .free "str") rfl),
    He.free_ok X N (cd.fact 37 (f := .free "zip") rfl),
    He.free_ok X N (cd.fact 38 (f := .free "max") rfl),
    He.glo_ok X N (cd.fact 2 (f := .glo "InvalidMarks") rfl),
    He.glo_ok X N (cd.fact 1 (f := .glo "InvalidNumber") rfl),
    He.glo_ok X N (cd.fact 0 (f := .glo "ClockError") rfl),
    He.glo_ok X N (cd.fact 12 (f := .glo "two_laps") rfl),
    He.glo_ok X N (cd.fact 11 (f := .glo "leave_one") rfl),
    He.int_ok X N (cd.fact 39 (f := .int "ERROR" 1000) rfl),
    He.int_ok X N (cd.fact 40 (f := .int "LAPS" 100) rfl),
    He.int_ok X N (cd.fact 41 (f := .int "LAP" 1000) rfl),
    excN_of X N (cd.fact 1 (f := .glo "InvalidNumber") rfl) (cd.fact 42 (f := .exc "InvalidNumber") rfl) rfl,
    excN_of X N (cd.fact 2 (f := .glo "InvalidMarks") rfl) (cd.fact 43 (f := .exc "InvalidMarks") rfl) rfl,
    (fun k b e => by
    unfold clT at e
    split at e
    · rename_i hk
      cases e
      have z := all_rg cm1 hk
      exact of_decide_eq_true z
    · cases e),
    (fun k e => by
    unfold clT at e
    split at e
    · rename_i hk
      have z := all_rg cm2 hk
      exact excCB_ok z
    · cases e),
    (fun k j e hj => by
    unfold clT at e
    split at e
    · rename_i hk
      have z := all_rg cm3 hk
      have z2 := all_rg z hj
      exact of_decide_eq_true z2
    · cases e)⟩
theorem at_law (X : K.In h) (N : h.Ns mainGlobals mg) (c : He.SaysX faL fnL [] tfL exB w h K) {fa : Addr} (hfa : mg ("law" : Str) = some (.ref fa)) (hg : ∀ ns : List Int, ns.length ≤ 63 → g_law [.scr ns] = .ok (.bl true)) : LamX.LawAtS PySem.Challenge.rw_wheelmark_k56_whole_coarse_and_fine w K (L2N.CX (PySem.Challenge.rw_wheelmark_k56_whole_coarse_and_fine).prog w) 12 63 "script" mg fa h := by
  have G := gs_of X N c
  have cd := c.t.d
  have nd : (tfL.map fun p => (He.cT K p).2).Nodup := by
    have cm := c.more
    unfold exB at cm
    simp only [Bool.and_eq_true] at cm
    exact of_decide_eq_true cm.1.1.1
  obtain ⟨fd_is_whole, FD_is_whole⟩ := cd.def_ 0 (d := d_is_whole) rfl
  obtain ⟨fd_need_whole, FD_need_whole⟩ := cd.def_ 1 (d := d_need_whole) rfl
  obtain ⟨fd_is_tuple_of, FD_is_tuple_of⟩ := cd.def_ 2 (d := d_is_tuple_of) rfl
  obtain ⟨fd_distance, FD_distance⟩ := cd.def_ 3 (d := d_distance) rfl
  obtain ⟨fd_need_pair, FD_need_pair⟩ := cd.def_ 4 (d := d_need_pair) rfl
  obtain ⟨fd_laps_in, FD_laps_in⟩ := cd.def_ 5 (d := d_laps_in) rfl
  obtain ⟨fd_laps_left, FD_laps_left⟩ := cd.def_ 6 (d := d_laps_left) rfl
  obtain ⟨fd_is_one, FD_is_one⟩ := cd.def_ 7 (d := d_is_one) rfl
  obtain ⟨fd_leave_one, FD_leave_one⟩ := cd.def_ 8 (d := d_leave_one) rfl
  obtain ⟨fd_two_laps, FD_two_laps⟩ := cd.def_ 9 (d := d_two_laps) rfl
  obtain ⟨fd_is_two_laps, FD_is_two_laps⟩ := cd.def_ 10 (d := d_is_two_laps) rfl
  obtain ⟨fd__law_cup, FD__law_cup⟩ := cd.def_ 11 (d := d__law_cup) rfl
  obtain ⟨fd__law_roll, FD__law_roll⟩ := cd.def_ 12 (d := d__law_roll) rfl
  obtain ⟨fd__law_some, FD__law_some⟩ := cd.def_ 13 (d := d__law_some) rfl
  obtain ⟨fd__law_sort, FD__law_sort⟩ := cd.def_ 14 (d := d__law_sort) rfl
  obtain ⟨fd__law_like, FD__law_like⟩ := cd.def_ 15 (d := d__law_like) rfl
  obtain ⟨fd__law_fails, FD__law_fails⟩ := cd.def_ 16 (d := d__law_fails) rfl
  obtain ⟨fd__law_left, FD__law_left⟩ := cd.def_ 17 (d := d__law_left) rfl
  obtain ⟨fd__law_is_two, FD__law_is_two⟩ := cd.def_ 18 (d := d__law_is_two) rfl
  obtain ⟨fd__law_right, FD__law_right⟩ := cd.def_ 19 (d := d__law_right) rfl
  obtain ⟨fd__law_pair, FD__law_pair⟩ := cd.def_ 20 (d := d__law_pair) rfl
  obtain ⟨fd__law_great, FD__law_great⟩ := cd.def_ 21 (d := d__law_great) rfl
  obtain ⟨fd__law_errors, FD__law_errors⟩ := cd.def_ 22 (d := d__law_errors) rfl
  obtain ⟨fd_law, FD_law⟩ := cd.def_ 23 (d := d_law) rfl
  have e := hfa.symm.trans (He.glo_ok X N (cd.fact 26 (f := .glo "law") rfl))
  cases e
  refine ⟨fd_law, tfL.map (He.cT K), spN K (nmF K) (tabT K (fun x => (envOfC x (defScope st_law) 0 0 .none).qual ++ "<lambda>") tfL) 1 g_law, fun p hp => ?_, fun p hp => ?_, fun p hp => ?_, ?_, fun H a ns hl _ hT hS => law_sp (tabs_start hT) hS (hg ns hl), fun base KX NB hTB => ?_⟩
  · obtain ⟨q, hq, rfl⟩ := List.mem_map.mp hp
    exact c.empty q hq
  · obtain ⟨q, hq, rfl⟩ := List.mem_map.mp hp
    exact c.out q hq
  · obtain ⟨q, hq, rfl⟩ := List.mem_map.mp hp
    exact PySem.W.codeHd_of_K X (c.hd q hq)
  · have b := FunD.bindsA (ps := ["script"]) FD_law fun _ _ _ _ _ _ us hl => match us, hl with | [_], _ => rfl
    exact fun s v => b s [v] rfl
  · have F_ : ∀ x : Nat, x = x := fun _ => rfl
    have C_is_whole := ok_is_whole (P := (PySem.Challenge.rw_wheelmark_k56_whole_coarse_and_fine).prog) (w := w) (base := base) (T := tabT K (fun x => (envOfC x (defScope st_law) 0 0 .none).qual ++ "<lambda>") tfL) G FD_is_whole (He.glo_ok X N (cd.fact 3 (f := .glo "is_whole") rfl)) 
    have C_need_whole := ok_need_whole (P := (PySem.Challenge.rw_wheelmark_k56_whole_coarse_and_fine).prog) (w := w) (base := base) (T := tabT K (fun x => (envOfC x (defScope st_law) 0 0 .none).qual ++ "<lambda>") tfL) G FD_need_whole (He.glo_ok X N (cd.fact 4 (f := .glo "need_whole") rfl)) C_is_whole
    have C_is_tuple_of := ok_is_tuple_of (P := (PySem.Challenge.rw_wheelmark_k56_whole_coarse_and_fine).prog) (w := w) (base := base) (T := tabT K (fun x => (envOfC x (defScope st_law) 0 0 .none).qual ++ "<lambda>") tfL) G FD_is_tuple_of (He.glo_ok X N (cd.fact 5 (f := .glo "is_tuple_of") rfl)) 
    have C_distance := ok_distance (P := (PySem.Challenge.rw_wheelmark_k56_whole_coarse_and_fine).prog) (w := w) (base := base) (T := tabT K (fun x => (envOfC x (defScope st_law) 0 0 .none).qual ++ "<lambda>") tfL) G FD_distance (He.glo_ok X N (cd.fact 6 (f := .glo "distance") rfl)) 
    have C_need_pair := ok_need_pair (P := (PySem.Challenge.rw_wheelmark_k56_whole_coarse_and_fine).prog) (w := w) (base := base) (T := tabT K (fun x => (envOfC x (defScope st_law) 0 0 .none).qual ++ "<lambda>") tfL) G FD_need_pair (He.glo_ok X N (cd.fact 7 (f := .glo "need_pair") rfl)) C_need_whole
    have C_laps_in := ok_laps_in (P := (PySem.Challenge.rw_wheelmark_k56_whole_coarse_and_fine).prog) (w := w) (base := base) (T := tabT K (fun x => (envOfC x (defScope st_law) 0 0 .none).qual ++ "<lambda>") tfL) G FD_laps_in (He.glo_ok X N (cd.fact 8 (f := .glo "laps_in") rfl)) C_distance
    have C_laps_left := ok_laps_left (P := (PySem.Challenge.rw_wheelmark_k56_whole_coarse_and_fine).prog) (w := w) (base := base) (T := tabT K (fun x => (envOfC x (defScope st_law) 0 0 .none).qual ++ "<lambda>") tfL) G FD_laps_left (He.glo_ok X N (cd.fact 9 (f := .glo "laps_left") rfl)) C_is_whole C_need_pair C_laps_in
    have C_is_one := ok_is_one (P := (PySem.Challenge.rw_wheelmark_k56_whole_coarse_and_fine).prog) (w := w) (base := base) (T := tabT K (fun x => (envOfC x (defScope st_law) 0 0 .none).qual ++ "<lambda>") tfL) G FD_is_one (He.glo_ok X N (cd.fact 10 (f := .glo "is_one") rfl)) 
    have C_leave_one := ok_leave_one (P := (PySem.Challenge.rw_wheelmark_k56_whole_coarse_and_fine).prog) (w := w) (base := base) (T := tabT K (fun x => (envOfC x (defScope st_law) 0 0 .none).qual ++ "<lambda>") tfL) G FD_leave_one (He.glo_ok X N (cd.fact 11 (f := .glo "leave_one") rfl)) C_need_pair C_is_one
    have C_two_laps := ok_two_laps (P := (PySem.Challenge.rw_wheelmark_k56_whole_coarse_and_fine).prog) (w := w) (base := base) (T := tabT K (fun x => (envOfC x (defScope st_law) 0 0 .none).qual ++ "<lambda>") tfL) G FD_two_laps (He.glo_ok X N (cd.fact 12 (f := .glo "two_laps") rfl)) C_need_pair C_is_one
    have C_is_two_laps := ok_is_two_laps (P := (PySem.Challenge.rw_wheelmark_k56_whole_coarse_and_fine).prog) (w := w) (base := base) (T := tabT K (fun x => (envOfC x (defScope st_law) 0 0 .none).qual ++ "<lambda>") tfL) G FD_is_two_laps (He.glo_ok X N (cd.fact 13 (f := .glo "is_two_laps") rfl)) C_is_whole C_is_tuple_of C_need_pair C_laps_in
    have C__law_cup := ok__law_cup (P := (PySem.Challenge.rw_wheelmark_k56_whole_coarse_and_fine).prog) (w := w) (base := base) (T := tabT K (fun x => (envOfC x (defScope st_law) 0 0 .none).qual ++ "<lambda>") tfL) G FD__law_cup (He.glo_ok X N (cd.fact 14 (f := .glo "_law_cup") rfl)) 
    have C__law_roll := ok__law_roll (P := (PySem.Challenge.rw_wheelmark_k56_whole_coarse_and_fine).prog) (w := w) (base := base) (T := tabT K (fun x => (envOfC x (defScope st_law) 0 0 .none).qual ++ "<lambda>") tfL) G FD__law_roll (He.glo_ok X N (cd.fact 15 (f := .glo "_law_roll") rfl)) 
    have C__law_some := ok__law_some (P := (PySem.Challenge.rw_wheelmark_k56_whole_coarse_and_fine).prog) (w := w) (base := base) (T := tabT K (fun x => (envOfC x (defScope st_law) 0 0 .none).qual ++ "<lambda>") tfL) G FD__law_some (He.glo_ok X N (cd.fact 16 (f := .glo "_law_some") rfl)) C__law_roll
    have C__law_sort := ok__law_sort (P := (PySem.Challenge.rw_wheelmark_k56_whole_coarse_and_fine).prog) (w := w) (base := base) (T := tabT K (fun x => (envOfC x (defScope st_law) 0 0 .none).qual ++ "<lambda>") tfL) G FD__law_sort (He.glo_ok X N (cd.fact 17 (f := .glo "_law_sort") rfl)) 
    have C__law_like := ok__law_like (P := (PySem.Challenge.rw_wheelmark_k56_whole_coarse_and_fine).prog) (w := w) (base := base) (T := tabT K (fun x => (envOfC x (defScope st_law) 0 0 .none).qual ++ "<lambda>") tfL) G FD__law_like (He.glo_ok X N (cd.fact 18 (f := .glo "_law_like") rfl)) C__law_sort
    have C__law_fails := ok__law_fails (P := (PySem.Challenge.rw_wheelmark_k56_whole_coarse_and_fine).prog) (w := w) (base := base) (T := tabT K (fun x => (envOfC x (defScope st_law) 0 0 .none).qual ++ "<lambda>") tfL) G FD__law_fails (He.glo_ok X N (cd.fact 19 (f := .glo "_law_fails") rfl)) 
    have C__law_left := ok__law_left (P := (PySem.Challenge.rw_wheelmark_k56_whole_coarse_and_fine).prog) (w := w) (base := base) (T := tabT K (fun x => (envOfC x (defScope st_law) 0 0 .none).qual ++ "<lambda>") tfL) G FD__law_left (He.glo_ok X N (cd.fact 20 (f := .glo "_law_left") rfl)) 
    have C__law_is_two := ok__law_is_two (P := (PySem.Challenge.rw_wheelmark_k56_whole_coarse_and_fine).prog) (w := w) (base := base) (T := tabT K (fun x => (envOfC x (defScope st_law) 0 0 .none).qual ++ "<lambda>") tfL) G FD__law_is_two (He.glo_ok X N (cd.fact 21 (f := .glo "_law_is_two") rfl)) C__law_sort C__law_left
    have C__law_right := ok__law_right (P := (PySem.Challenge.rw_wheelmark_k56_whole_coarse_and_fine).prog) (w := w) (base := base) (T := tabT K (fun x => (envOfC x (defScope st_law) 0 0 .none).qual ++ "<lambda>") tfL) G FD__law_right (He.glo_ok X N (cd.fact 22 (f := .glo "_law_right") rfl)) C_laps_left C_leave_one C_two_laps C_is_two_laps C__law_roll C__law_like C__law_left C__law_is_two
    have C__law_pair := ok__law_pair (P := (PySem.Challenge.rw_wheelmark_k56_whole_coarse_and_fine).prog) (w := w) (base := base) (T := tabT K (fun x => (envOfC x (defScope st_law) 0 0 .none).qual ++ "<lambda>") tfL) G FD__law_pair (He.glo_ok X N (cd.fact 23 (f := .glo "_law_pair") rfl)) C__law_roll C__law_some
    have C__law_great := ok__law_great (P := (PySem.Challenge.rw_wheelmark_k56_whole_coarse_and_fine).prog) (w := w) (base := base) (T := tabT K (fun x => (envOfC x (defScope st_law) 0 0 .none).qual ++ "<lambda>") tfL) G FD__law_great (He.glo_ok X N (cd.fact 24 (f := .glo "_law_great") rfl)) C_laps_left C_leave_one C__law_like C__law_right
    have C__law_errors := ok__law_errors (P := (PySem.Challenge.rw_wheelmark_k56_whole_coarse_and_fine).prog) (w := w) (base := base) (T := tabT K (fun x => (envOfC x (defScope st_law) 0 0 .none).qual ++ "<lambda>") tfL) G FD__law_errors (He.glo_ok X N (cd.fact 25 (f := .glo "_law_errors") rfl)) (funD_code (p := ("_law_errors", none)) FD__law_errors) (tabF_of (p := ("_law_errors", none)) (sc := defScope st__law_errors) nd (by decide) hTB rfl) C_laps_left C_leave_one C_two_laps C_is_two_laps C__law_fails
    exact ok_law (P := (PySem.Challenge.rw_wheelmark_k56_whole_coarse_and_fine).prog) (w := w) (base := base) G FD_law C_laps_left C_leave_one C_two_laps C_is_two_laps C__law_cup C__law_like C__law_right C__law_pair C__law_great C__law_errors
end
end K56

set_option maxHeartbeats 1000000
namespace K56
open PySem PySem.Spec DL

/-! ### the plain law -/
theorem e_cup : g__law_cup = cupG := rfl
theorem e_roll : g__law_roll = rollG := rfl
theorem e_some : g__law_some = someG := rfl
theorem e_sort : g__law_sort = sortG := rfl
theorem e_like : g__law_like = likeG_ 7 := rfl
theorem roll_is (a b m : Int) (h : drawn m) : ∃ a' b' r : Int, g__law_roll [.int a, .int b] [.int m] = .ok (.int r) [.int a', .int b'] ∧ 0 ≤ r ∧ r < m := roll_ok a b m h
theorem like_is {x : D} (h : x.lk 6 = true) : g__law_like [x, x] = .ok (.bl true) := like_refl 6 x h 7 (by decide)
def isW (v : D) (lo hi : Int) : Bool := match v with
  | .int i => decide (lo ≤ i) && decide (i ≤ hi)
  | _ => false
theorem whole_ok (v : D) (hv : v.kind.isSome = true) (lo hi : Int) : g_is_whole [v, .int lo, .int hi] = .ok (.bl (isW v lo hi)) := by
  cases v with
  | int i =>
    by_cases h : lo ≤ i <;> simp [g_is_whole, b_is_whole, isW, DL.Res.bind, DL.Arg.res, DL.sBind, DL.Rho.cont, DL.Rho.put, DL.frz1, DL.frzL, DL.dVar, DL.dC, DL.resB, DL.resU, DL.dO2, DL.dO1, DL.resL, DL.resC, DL.dCB, DL.aNil, DL.aCons, DL.dDisp, DL.oNone, DL.oSome, DL.dSlice, DL.tTru, DL.tBl, DL.tNotD, DL.tAndD, DL.tOrD, DL.tCmpD, DL.tChn, DL.dChn, DL.dAndV, DL.dOrV, DL.dNotV, DL.dIf, DL.fDisp, DL.asL, DL.fO2, DL.fCB, DL.dOfF, DL.sNext, DL.sSeq, DL.sSet, DL.sSetO, DL.sRet, DL.sRetN, DL.sDrop, DL.sIf, DL.sApp, DL.sItem, DL.dPopAt, DL.gN, DL.gsNil, DL.gsCons, DL.gT, DL.sAsg, DL.pNil, DL.pVal, DL.pOwn, DL.putS, DL.sPar, DL.iSeq, DL.iRg1, DL.iRg2, DL.iZip, DL.iEnumL, DL.tYesD, DL.bor0, DL.outR, DL.callK, DL.dCall, DL.dCall0, DL.callB, DL.dCallB, DL.dCallL, DL.sExc, DL.iLst, DL.fCall, DL.lookS, DL.rawN, DL.rawB, DL.rawF, DL.valsR, DL.D.tru, DL.dAdd, DL.dSub, DL.dMul, DL.dFdiv, DL.dMod, DL.dNeg, DL.dCmp, DL.dIs, DL.dIsNot, DL.D.isNon, DL.dIx, DL.dBack, DL.bLen, DL.bAbs, DL.bInt, DL.bTuple, DL.bList, DL.bIsa, DL.isaOf, DL.D.kind, h]
  | ty n => simp [D.kind] at hv
  | fn n => simp [D.kind] at hv
  | scr n => simp [D.kind] at hv
  | _ => simp [g_is_whole, b_is_whole, isW, DL.Res.bind, DL.Arg.res, DL.sBind, DL.Rho.cont, DL.Rho.put, DL.frz1, DL.frzL, DL.dVar, DL.dC, DL.resB, DL.resU, DL.dO2, DL.dO1, DL.resL, DL.resC, DL.dCB, DL.aNil, DL.aCons, DL.dDisp, DL.oNone, DL.oSome, DL.dSlice, DL.tTru, DL.tBl, DL.tNotD, DL.tAndD, DL.tOrD, DL.tCmpD, DL.tChn, DL.dChn, DL.dAndV, DL.dOrV, DL.dNotV, DL.dIf, DL.fDisp, DL.asL, DL.fO2, DL.fCB, DL.dOfF, DL.sNext, DL.sSeq, DL.sSet, DL.sSetO, DL.sRet, DL.sRetN, DL.sDrop, DL.sIf, DL.sApp, DL.sItem, DL.dPopAt, DL.gN, DL.gsNil, DL.gsCons, DL.gT, DL.sAsg, DL.pNil, DL.pVal, DL.pOwn, DL.putS, DL.sPar, DL.iSeq, DL.iRg1, DL.iRg2, DL.iZip, DL.iEnumL, DL.tYesD, DL.bor0, DL.outR, DL.callK, DL.dCall, DL.dCall0, DL.callB, DL.dCallB, DL.dCallL, DL.sExc, DL.iLst, DL.fCall, DL.lookS, DL.rawN, DL.rawB, DL.rawF, DL.valsR, DL.D.tru, DL.dAdd, DL.dSub, DL.dMul, DL.dFdiv, DL.dMod, DL.dNeg, DL.dCmp, DL.dIs, DL.dIsNot, DL.D.isNon, DL.dIx, DL.dBack, DL.bLen, DL.bAbs, DL.bInt, DL.bTuple, DL.bList, DL.bIsa, DL.isaOf, DL.D.kind]
theorem whole_int (i lo hi : Int) : g_is_whole [.int i, .int lo, .int hi] = .ok (.bl (decide (lo ≤ i) && decide (i ≤ hi))) := whole_ok (.int i) rfl lo hi
theorem need_ok {i lo hi : Int} (h1 : lo ≤ i) (h2 : i ≤ hi) : g_need_whole [.int i, .int lo, .int hi] = .ok .non := by
  simp [g_need_whole, b_need_whole, DL.Res.bind, DL.Arg.res, DL.sBind, DL.Rho.cont, DL.Rho.put, DL.frz1, DL.frzL, DL.dVar, DL.dC, DL.resB, DL.resU, DL.dO2, DL.dO1, DL.resL, DL.resC, DL.dCB, DL.aNil, DL.aCons, DL.dDisp, DL.oNone, DL.oSome, DL.dSlice, DL.tTru, DL.tBl, DL.tNotD, DL.tAndD, DL.tOrD, DL.tCmpD, DL.tChn, DL.dChn, DL.dAndV, DL.dOrV, DL.dNotV, DL.dIf, DL.fDisp, DL.asL, DL.fO2, DL.fCB, DL.dOfF, DL.sNext, DL.sSeq, DL.sSet, DL.sSetO, DL.sRet, DL.sRetN, DL.sDrop, DL.sIf, DL.sApp, DL.sItem, DL.dPopAt, DL.gN, DL.gsNil, DL.gsCons, DL.gT, DL.sAsg, DL.pNil, DL.pVal, DL.pOwn, DL.putS, DL.sPar, DL.iSeq, DL.iRg1, DL.iRg2, DL.iZip, DL.iEnumL, DL.tYesD, DL.bor0, DL.outR, DL.callK, DL.dCall, DL.dCall0, DL.callB, DL.dCallB, DL.dCallL, DL.sExc, DL.iLst, DL.fCall, DL.lookS, DL.rawN, DL.rawB, DL.rawF, DL.valsR, DL.D.tru, DL.dAdd, DL.dSub, DL.dMul, DL.dFdiv, DL.dMod, DL.dNeg, DL.dCmp, DL.dIs, DL.dIsNot, DL.D.isNon, DL.dIx, DL.dBack, DL.bLen, DL.bAbs, DL.bInt, DL.bTuple, DL.bList, DL.bIsa, DL.isaOf, DL.D.kind, whole_int, h1, h2]
structure Valid (p n f c : Int) : Prop where
  p2 : 2 ≤ p
  p3 : p ≤ 1000
  n1 : 1 ≤ n
  n2 : n ≤ 100
  f0 : 0 ≤ f
  f1 : f ≤ 1000
  c0 : 0 ≤ c
  c1 : c ≤ 1000
variable {p n f c : Int}
theorem pair_ok (V : Valid p n f c) : g_need_pair [.int p, .int n, .int f, .int c] = .ok .non := by
  simp [g_need_pair, b_need_pair, DL.Res.bind, DL.Arg.res, DL.sBind, DL.Rho.cont, DL.Rho.put, DL.frz1, DL.frzL, DL.dVar, DL.dC, DL.resB, DL.resU, DL.dO2, DL.dO1, DL.resL, DL.resC, DL.dCB, DL.aNil, DL.aCons, DL.dDisp, DL.oNone, DL.oSome, DL.dSlice, DL.tTru, DL.tBl, DL.tNotD, DL.tAndD, DL.tOrD, DL.tCmpD, DL.tChn, DL.dChn, DL.dAndV, DL.dOrV, DL.dNotV, DL.dIf, DL.fDisp, DL.asL, DL.fO2, DL.fCB, DL.dOfF, DL.sNext, DL.sSeq, DL.sSet, DL.sSetO, DL.sRet, DL.sRetN, DL.sDrop, DL.sIf, DL.sApp, DL.sItem, DL.dPopAt, DL.gN, DL.gsNil, DL.gsCons, DL.gT, DL.sAsg, DL.pNil, DL.pVal, DL.pOwn, DL.putS, DL.sPar, DL.iSeq, DL.iRg1, DL.iRg2, DL.iZip, DL.iEnumL, DL.tYesD, DL.bor0, DL.outR, DL.callK, DL.dCall, DL.dCall0, DL.callB, DL.dCallB, DL.dCallL, DL.sExc, DL.iLst, DL.fCall, DL.lookS, DL.rawN, DL.rawB, DL.rawF, DL.valsR, DL.D.tru, DL.dAdd, DL.dSub, DL.dMul, DL.dFdiv, DL.dMod, DL.dNeg, DL.dCmp, DL.dIs, DL.dIsNot, DL.D.isNon, DL.dIx, DL.dBack, DL.bLen, DL.bAbs, DL.bInt, DL.bTuple, DL.bList, DL.bIsa, DL.isaOf, DL.D.kind, need_ok, V.p2, V.p3, V.n1, V.n2, V.f0, V.f1, V.c0, V.c1]
def dist (N a b : Int) : Int := if N - (a - b) % N < (a - b) % N then N - (a - b) % N else (a - b) % N
theorem distance_ok {N : Int} (a b : Int) (h : 0 < N) : g_distance [.int N, .int a, .int b] = .ok (.int (dist N a b)) := by
  simp [g_distance, b_distance, DL.Res.bind, DL.Arg.res, DL.sBind, DL.Rho.cont, DL.Rho.put, DL.frz1, DL.frzL, DL.dVar, DL.dC, DL.resB, DL.resU, DL.dO2, DL.dO1, DL.resL, DL.resC, DL.dCB, DL.aNil, DL.aCons, DL.dDisp, DL.oNone, DL.oSome, DL.dSlice, DL.tTru, DL.tBl, DL.tNotD, DL.tAndD, DL.tOrD, DL.tCmpD, DL.tChn, DL.dChn, DL.dAndV, DL.dOrV, DL.dNotV, DL.dIf, DL.fDisp, DL.asL, DL.fO2, DL.fCB, DL.dOfF, DL.sNext, DL.sSeq, DL.sSet, DL.sSetO, DL.sRet, DL.sRetN, DL.sDrop, DL.sIf, DL.sApp, DL.sItem, DL.dPopAt, DL.gN, DL.gsNil, DL.gsCons, DL.gT, DL.sAsg, DL.pNil, DL.pVal, DL.pOwn, DL.putS, DL.sPar, DL.iSeq, DL.iRg1, DL.iRg2, DL.iZip, DL.iEnumL, DL.tYesD, DL.bor0, DL.outR, DL.callK, DL.dCall, DL.dCall0, DL.callB, DL.dCallB, DL.dCallL, DL.sExc, DL.iLst, DL.fCall, DL.lookS, DL.rawN, DL.rawB, DL.rawF, DL.valsR, DL.D.tru, DL.dAdd, DL.dSub, DL.dMul, DL.dFdiv, DL.dMod, DL.dNeg, DL.dCmp, DL.dIs, DL.dIsNot, DL.D.isNon, DL.dIx, DL.dBack, DL.bLen, DL.bAbs, DL.bInt, DL.bTuple, DL.bList, DL.bIsa, DL.isaOf, DL.D.kind, h, bMin, dist]
def lapB (p n most fine coarse : Int) (d : D) : Bool := match d with
  | .int i => decide (dist (p * n) (i * p + fine) coarse ≤ most)
  | _ => false
def lapsP (p n most fine coarse : Int) : List D := (rgD 0 n.toNat).filter (lapB p n most fine coarse)
theorem Valid.pn (V : Valid p n f c) : 0 < p * n ∧ p * n ≤ 100000 := by
  have h1 := V.p2
  have h2 := V.n1
  refine ⟨Int.mul_pos (by omega) (by omega), ?_⟩
  have := Int.mul_le_mul V.p3 V.n2 (by omega) (by decide)
  omega
theorem Valid.mp (V : Valid p n f c) (i : Int) : mulOk i p = true := mulOk_r i (by have := V.p2; have := V.p3; omega)
theorem Valid.mn (V : Valid p n f c) (i : Int) : mulOk i n = true := mulOk_r i (by have := V.n1; have := V.n2; omega)
theorem rgD_mem {lo : Int} {k : Nat} {d : D} (h : d ∈ rgD lo k) : ∃ i : Nat, i < k ∧ d = .int (lo + (i : Nat)) := by
  unfold rgD at h
  obtain ⟨i, hi, e⟩ := List.mem_map.mp h
  exact ⟨i, List.mem_range.mp hi, e.symm⟩
theorem small_n {j : Int} (h0 : 0 ≤ j) (h : j ≤ 100000) : smallI j = true := by
  unfold smallI
  simp
  omega
theorem laps_in_ok (V : Valid p n f c) (most fine coarse : Int) : g_laps_in [.int p, .int n, .int most, .int fine, .int coarse] = .ok (.lst (lapsP p n most fine coarse)) := by
  have hi : iRg1 (aCons (dVar 1) aNil) [some (.val (.int p)), some (.val (.int n)), some (.val (.int most)), some (.val (.int fine)), some (.val (.int coarse)), none] =
      .ok (rgD 0 n.toNat, [some (.val (.int p)), some (.val (.int n)), some (.val (.int most)), some (.val (.int fine)), some (.val (.int coarse)), none]) := by
    simp [DL.Res.bind, DL.Arg.res, DL.sBind, DL.Rho.cont, DL.Rho.put, DL.frz1, DL.frzL, DL.dVar, DL.dC, DL.resB, DL.resU, DL.dO2, DL.dO1, DL.resL, DL.resC, DL.dCB, DL.aNil, DL.aCons, DL.dDisp, DL.oNone, DL.oSome, DL.dSlice, DL.tTru, DL.tBl, DL.tNotD, DL.tAndD, DL.tOrD, DL.tCmpD, DL.tChn, DL.dChn, DL.dAndV, DL.dOrV, DL.dNotV, DL.dIf, DL.fDisp, DL.asL, DL.fO2, DL.fCB, DL.dOfF, DL.sNext, DL.sSeq, DL.sSet, DL.sSetO, DL.sRet, DL.sRetN, DL.sDrop, DL.sIf, DL.sApp, DL.sItem, DL.dPopAt, DL.gN, DL.gsNil, DL.gsCons, DL.gT, DL.sAsg, DL.pNil, DL.pVal, DL.pOwn, DL.putS, DL.sPar, DL.iSeq, DL.iRg1, DL.iRg2, DL.iZip, DL.iEnumL, DL.tYesD, DL.bor0, DL.outR, DL.callK, DL.dCall, DL.dCall0, DL.callB, DL.dCallB, DL.dCallL, DL.sExc, DL.iLst, DL.fCall, DL.lookS, DL.rawN, DL.rawB, DL.rawF, DL.valsR, DL.D.tru, DL.dAdd, DL.dSub, DL.dMul, DL.dFdiv, DL.dMod, DL.dNeg, DL.dCmp, DL.dIs, DL.dIsNot, DL.D.isNon, DL.dIx, DL.dBack, DL.bLen, DL.bAbs, DL.bInt, DL.bTuple, DL.bList, DL.bIsa, DL.isaOf, DL.D.kind, small_n (show 0 ≤ n by have := V.n1; omega) (show n ≤ 100000 by have := V.n2; omega)]
  have e := fComp_pick (vs := [5]) (g := gN 5) (t := T1_laps_in) (elt := dVar 5)
    (p := lapB p n most fine coarse) (h := id) hi (fun d hd => ?_) (by rw [rgD_len]; have := V.n2; omega)
  · simp [g_laps_in, b_laps_in, DL.Res.bind, DL.Arg.res, DL.sBind, DL.Rho.cont, DL.Rho.put, DL.frz1, DL.frzL, DL.dVar, DL.dC, DL.resB, DL.resU, DL.dO2, DL.dO1, DL.resL, DL.resC, DL.dCB, DL.aNil, DL.aCons, DL.dDisp, DL.oNone, DL.oSome, DL.dSlice, DL.tTru, DL.tBl, DL.tNotD, DL.tAndD, DL.tOrD, DL.tCmpD, DL.tChn, DL.dChn, DL.dAndV, DL.dOrV, DL.dNotV, DL.dIf, DL.fDisp, DL.asL, DL.fO2, DL.fCB, DL.dOfF, DL.sNext, DL.sSeq, DL.sSet, DL.sSetO, DL.sRet, DL.sRetN, DL.sDrop, DL.sIf, DL.sApp, DL.sItem, DL.dPopAt, DL.gN, DL.gsNil, DL.gsCons, DL.gT, DL.sAsg, DL.pNil, DL.pVal, DL.pOwn, DL.putS, DL.sPar, DL.iSeq, DL.iRg1, DL.iRg2, DL.iZip, DL.iEnumL, DL.tYesD, DL.bor0, DL.outR, DL.callK, DL.dCall, DL.dCall0, DL.callB, DL.dCallB, DL.dCallL, DL.sExc, DL.iLst, DL.fCall, DL.lookS, DL.rawN, DL.rawB, DL.rawF, DL.valsR, DL.D.tru, DL.dAdd, DL.dSub, DL.dMul, DL.dFdiv, DL.dMod, DL.dNeg, DL.dCmp, DL.dIs, DL.dIsNot, DL.D.isNon, DL.dIx, DL.dBack, DL.bLen, DL.bAbs, DL.bInt, DL.bTuple, DL.bList, DL.bIsa, DL.isaOf, DL.D.kind, e, wipeR, keepR, lapsP]
  · obtain ⟨i, hi, rfl⟩ := rgD_mem hd
    refine ⟨[some (.val (.int p)), some (.val (.int n)), some (.val (.int most)), some (.val (.int fine)), some (.val (.int coarse)), some (.val (.int (0 + (i : Nat))))], ?_, ?_, ?_, fun z => ?_⟩
    · simp [wipeR, DL.Res.bind, DL.Arg.res, DL.sBind, DL.Rho.cont, DL.Rho.put, DL.frz1, DL.frzL, DL.dVar, DL.dC, DL.resB, DL.resU, DL.dO2, DL.dO1, DL.resL, DL.resC, DL.dCB, DL.aNil, DL.aCons, DL.dDisp, DL.oNone, DL.oSome, DL.dSlice, DL.tTru, DL.tBl, DL.tNotD, DL.tAndD, DL.tOrD, DL.tCmpD, DL.tChn, DL.dChn, DL.dAndV, DL.dOrV, DL.dNotV, DL.dIf, DL.fDisp, DL.asL, DL.fO2, DL.fCB, DL.dOfF, DL.sNext, DL.sSeq, DL.sSet, DL.sSetO, DL.sRet, DL.sRetN, DL.sDrop, DL.sIf, DL.sApp, DL.sItem, DL.dPopAt, DL.gN, DL.gsNil, DL.gsCons, DL.gT, DL.sAsg, DL.pNil, DL.pVal, DL.pOwn, DL.putS, DL.sPar, DL.iSeq, DL.iRg1, DL.iRg2, DL.iZip, DL.iEnumL, DL.tYesD, DL.bor0, DL.outR, DL.callK, DL.dCall, DL.dCall0, DL.callB, DL.dCallB, DL.dCallL, DL.sExc, DL.iLst, DL.fCall, DL.lookS, DL.rawN, DL.rawB, DL.rawF, DL.valsR, DL.D.tru, DL.dAdd, DL.dSub, DL.dMul, DL.dFdiv, DL.dMod, DL.dNeg, DL.dCmp, DL.dIs, DL.dIsNot, DL.D.isNon, DL.dIx, DL.dBack, DL.bLen, DL.bAbs, DL.bInt, DL.bTuple, DL.bList, DL.bIsa, DL.isaOf, DL.D.kind]
    · simp [wipeR]
    · simp [T1_laps_in, DL.Res.bind, DL.Arg.res, DL.sBind, DL.Rho.cont, DL.Rho.put, DL.frz1, DL.frzL, DL.dVar, DL.dC, DL.resB, DL.resU, DL.dO2, DL.dO1, DL.resL, DL.resC, DL.dCB, DL.aNil, DL.aCons, DL.dDisp, DL.oNone, DL.oSome, DL.dSlice, DL.tTru, DL.tBl, DL.tNotD, DL.tAndD, DL.tOrD, DL.tCmpD, DL.tChn, DL.dChn, DL.dAndV, DL.dOrV, DL.dNotV, DL.dIf, DL.fDisp, DL.asL, DL.fO2, DL.fCB, DL.dOfF, DL.sNext, DL.sSeq, DL.sSet, DL.sSetO, DL.sRet, DL.sRetN, DL.sDrop, DL.sIf, DL.sApp, DL.sItem, DL.dPopAt, DL.gN, DL.gsNil, DL.gsCons, DL.gT, DL.sAsg, DL.pNil, DL.pVal, DL.pOwn, DL.putS, DL.sPar, DL.iSeq, DL.iRg1, DL.iRg2, DL.iZip, DL.iEnumL, DL.tYesD, DL.bor0, DL.outR, DL.callK, DL.dCall, DL.dCall0, DL.callB, DL.dCallB, DL.dCallL, DL.sExc, DL.iLst, DL.fCall, DL.lookS, DL.rawN, DL.rawB, DL.rawF, DL.valsR, DL.D.tru, DL.dAdd, DL.dSub, DL.dMul, DL.dFdiv, DL.dMod, DL.dNeg, DL.dCmp, DL.dIs, DL.dIsNot, DL.D.isNon, DL.dIx, DL.dBack, DL.bLen, DL.bAbs, DL.bInt, DL.bTuple, DL.bList, DL.bIsa, DL.isaOf, DL.D.kind, V.mn, V.mp, distance_ok _ _ V.pn.1, lapB]
    · simp [DL.Res.bind, DL.Arg.res, DL.sBind, DL.Rho.cont, DL.Rho.put, DL.frz1, DL.frzL, DL.dVar, DL.dC, DL.resB, DL.resU, DL.dO2, DL.dO1, DL.resL, DL.resC, DL.dCB, DL.aNil, DL.aCons, DL.dDisp, DL.oNone, DL.oSome, DL.dSlice, DL.tTru, DL.tBl, DL.tNotD, DL.tAndD, DL.tOrD, DL.tCmpD, DL.tChn, DL.dChn, DL.dAndV, DL.dOrV, DL.dNotV, DL.dIf, DL.fDisp, DL.asL, DL.fO2, DL.fCB, DL.dOfF, DL.sNext, DL.sSeq, DL.sSet, DL.sSetO, DL.sRet, DL.sRetN, DL.sDrop, DL.sIf, DL.sApp, DL.sItem, DL.dPopAt, DL.gN, DL.gsNil, DL.gsCons, DL.gT, DL.sAsg, DL.pNil, DL.pVal, DL.pOwn, DL.putS, DL.sPar, DL.iSeq, DL.iRg1, DL.iRg2, DL.iZip, DL.iEnumL, DL.tYesD, DL.bor0, DL.outR, DL.callK, DL.dCall, DL.dCall0, DL.callB, DL.dCallB, DL.dCallL, DL.sExc, DL.iLst, DL.fCall, DL.lookS, DL.rawN, DL.rawB, DL.rawF, DL.valsR, DL.D.tru, DL.dAdd, DL.dSub, DL.dMul, DL.dFdiv, DL.dMod, DL.dNeg, DL.dCmp, DL.dIs, DL.dIsNot, DL.D.isNon, DL.dIx, DL.dBack, DL.bLen, DL.bAbs, DL.bInt, DL.bTuple, DL.bList, DL.bIsa, DL.isaOf, DL.D.kind]
theorem laps_left_ok (V : Valid p n f c) {fine coarse : Int} (h1 : 0 ≤ fine) (h2 : fine < p) (h3 : 0 ≤ coarse) (h4 : coarse < p * n) : g_laps_left [.int p, .int n, .int f, .int c, .int fine, .int coarse] = .ok (.tup (lapsP p n (f + c) fine coarse)) := by
  have k1 : fine ≤ p - 1 := by omega
  have k2 : coarse ≤ p * n - 1 := by omega
  simp [g_laps_left, b_laps_left, DL.Res.bind, DL.Arg.res, DL.sBind, DL.Rho.cont, DL.Rho.put, DL.frz1, DL.frzL, DL.dVar, DL.dC, DL.resB, DL.resU, DL.dO2, DL.dO1, DL.resL, DL.resC, DL.dCB, DL.aNil, DL.aCons, DL.dDisp, DL.oNone, DL.oSome, DL.dSlice, DL.tTru, DL.tBl, DL.tNotD, DL.tAndD, DL.tOrD, DL.tCmpD, DL.tChn, DL.dChn, DL.dAndV, DL.dOrV, DL.dNotV, DL.dIf, DL.fDisp, DL.asL, DL.fO2, DL.fCB, DL.dOfF, DL.sNext, DL.sSeq, DL.sSet, DL.sSetO, DL.sRet, DL.sRetN, DL.sDrop, DL.sIf, DL.sApp, DL.sItem, DL.dPopAt, DL.gN, DL.gsNil, DL.gsCons, DL.gT, DL.sAsg, DL.pNil, DL.pVal, DL.pOwn, DL.putS, DL.sPar, DL.iSeq, DL.iRg1, DL.iRg2, DL.iZip, DL.iEnumL, DL.tYesD, DL.bor0, DL.outR, DL.callK, DL.dCall, DL.dCall0, DL.callB, DL.dCallB, DL.dCallL, DL.sExc, DL.iLst, DL.fCall, DL.lookS, DL.rawN, DL.rawB, DL.rawF, DL.valsR, DL.D.tru, DL.dAdd, DL.dSub, DL.dMul, DL.dFdiv, DL.dMod, DL.dNeg, DL.dCmp, DL.dIs, DL.dIsNot, DL.D.isNon, DL.dIx, DL.dBack, DL.bLen, DL.bAbs, DL.bInt, DL.bTuple, DL.bList, DL.bIsa, DL.isaOf, DL.D.kind, pair_ok V, whole_int, h1, k1, h3, k2, V.mn, laps_in_ok V]
def oneB (p n f c : Int) : Bool := decide (n = 1) || decide (2 * (f + c) < p)
theorem is_one_ok (p n f c : Int) : g_is_one [.int p, .int n, .int f, .int c] = .ok (.bl (oneB p n f c)) := by
  have m : ∀ i : Int, mulOk 2 i = true := fun i => mulOk_l i (by decide)
  cases h : (n == 1) with
  | true => simp [g_is_one, b_is_one, DL.Res.bind, DL.Arg.res, DL.sBind, DL.Rho.cont, DL.Rho.put, DL.frz1, DL.frzL, DL.dVar, DL.dC, DL.resB, DL.resU, DL.dO2, DL.dO1, DL.resL, DL.resC, DL.dCB, DL.aNil, DL.aCons, DL.dDisp, DL.oNone, DL.oSome, DL.dSlice, DL.tTru, DL.tBl, DL.tNotD, DL.tAndD, DL.tOrD, DL.tCmpD, DL.tChn, DL.dChn, DL.dAndV, DL.dOrV, DL.dNotV, DL.dIf, DL.fDisp, DL.asL, DL.fO2, DL.fCB, DL.dOfF, DL.sNext, DL.sSeq, DL.sSet, DL.sSetO, DL.sRet, DL.sRetN, DL.sDrop, DL.sIf, DL.sApp, DL.sItem, DL.dPopAt, DL.gN, DL.gsNil, DL.gsCons, DL.gT, DL.sAsg, DL.pNil, DL.pVal, DL.pOwn, DL.putS, DL.sPar, DL.iSeq, DL.iRg1, DL.iRg2, DL.iZip, DL.iEnumL, DL.tYesD, DL.bor0, DL.outR, DL.callK, DL.dCall, DL.dCall0, DL.callB, DL.dCallB, DL.dCallL, DL.sExc, DL.iLst, DL.fCall, DL.lookS, DL.rawN, DL.rawB, DL.rawF, DL.valsR, DL.D.tru, DL.dAdd, DL.dSub, DL.dMul, DL.dFdiv, DL.dMod, DL.dNeg, DL.dCmp, DL.dIs, DL.dIsNot, DL.D.isNon, DL.dIx, DL.dBack, DL.bLen, DL.bAbs, DL.bInt, DL.bTuple, DL.bList, DL.bIsa, DL.isaOf, DL.D.kind, dEq, D.pl, D.eqv, oneB, h, m]; exact .inl (by simpa using h)
  | false =>
    have h' : ¬ n = 1 := by simpa using h
    simp [g_is_one, b_is_one, DL.Res.bind, DL.Arg.res, DL.sBind, DL.Rho.cont, DL.Rho.put, DL.frz1, DL.frzL, DL.dVar, DL.dC, DL.resB, DL.resU, DL.dO2, DL.dO1, DL.resL, DL.resC, DL.dCB, DL.aNil, DL.aCons, DL.dDisp, DL.oNone, DL.oSome, DL.dSlice, DL.tTru, DL.tBl, DL.tNotD, DL.tAndD, DL.tOrD, DL.tCmpD, DL.tChn, DL.dChn, DL.dAndV, DL.dOrV, DL.dNotV, DL.dIf, DL.fDisp, DL.asL, DL.fO2, DL.fCB, DL.dOfF, DL.sNext, DL.sSeq, DL.sSet, DL.sSetO, DL.sRet, DL.sRetN, DL.sDrop, DL.sIf, DL.sApp, DL.sItem, DL.dPopAt, DL.gN, DL.gsNil, DL.gsCons, DL.gT, DL.sAsg, DL.pNil, DL.pVal, DL.pOwn, DL.putS, DL.sPar, DL.iSeq, DL.iRg1, DL.iRg2, DL.iZip, DL.iEnumL, DL.tYesD, DL.bor0, DL.outR, DL.callK, DL.dCall, DL.dCall0, DL.callB, DL.dCallB, DL.dCallL, DL.sExc, DL.iLst, DL.fCall, DL.lookS, DL.rawN, DL.rawB, DL.rawF, DL.valsR, DL.D.tru, DL.dAdd, DL.dSub, DL.dMul, DL.dFdiv, DL.dMod, DL.dNeg, DL.dCmp, DL.dIs, DL.dIsNot, DL.D.isNon, DL.dIx, DL.dBack, DL.bLen, DL.bAbs, DL.bInt, DL.bTuple, DL.bList, DL.bIsa, DL.isaOf, DL.D.kind, dEq, D.pl, D.eqv, oneB, h, h', m]
theorem leave_one_ok (V : Valid p n f c) : g_leave_one [.int p, .int n, .int f, .int c] = .ok (.bl (oneB p n f c)) := by
  simp [g_leave_one, b_leave_one, DL.Res.bind, DL.Arg.res, DL.sBind, DL.Rho.cont, DL.Rho.put, DL.frz1, DL.frzL, DL.dVar, DL.dC, DL.resB, DL.resU, DL.dO2, DL.dO1, DL.resL, DL.resC, DL.dCB, DL.aNil, DL.aCons, DL.dDisp, DL.oNone, DL.oSome, DL.dSlice, DL.tTru, DL.tBl, DL.tNotD, DL.tAndD, DL.tOrD, DL.tCmpD, DL.tChn, DL.dChn, DL.dAndV, DL.dOrV, DL.dNotV, DL.dIf, DL.fDisp, DL.asL, DL.fO2, DL.fCB, DL.dOfF, DL.sNext, DL.sSeq, DL.sSet, DL.sSetO, DL.sRet, DL.sRetN, DL.sDrop, DL.sIf, DL.sApp, DL.sItem, DL.dPopAt, DL.gN, DL.gsNil, DL.gsCons, DL.gT, DL.sAsg, DL.pNil, DL.pVal, DL.pOwn, DL.putS, DL.sPar, DL.iSeq, DL.iRg1, DL.iRg2, DL.iZip, DL.iEnumL, DL.tYesD, DL.bor0, DL.outR, DL.callK, DL.dCall, DL.dCall0, DL.callB, DL.dCallB, DL.dCallL, DL.sExc, DL.iLst, DL.fCall, DL.lookS, DL.rawN, DL.rawB, DL.rawF, DL.valsR, DL.D.tru, DL.dAdd, DL.dSub, DL.dMul, DL.dFdiv, DL.dMod, DL.dNeg, DL.dCmp, DL.dIs, DL.dIsNot, DL.D.isNon, DL.dIx, DL.dBack, DL.bLen, DL.bAbs, DL.bInt, DL.bTuple, DL.bList, DL.bIsa, DL.isaOf, DL.D.kind, pair_ok V, is_one_ok]
def twoD (p n f c : Int) : D := if oneB p n f c = true then .non else .tup [.int 0, .int (p / 2)]
theorem two_laps_ok (V : Valid p n f c) : g_two_laps [.int p, .int n, .int f, .int c] = .ok (twoD p n f c) := by
  have l : Nat.log2 2 < 9000 := by decide
  cases h : oneB p n f c <;> simp [g_two_laps, b_two_laps, DL.Res.bind, DL.Arg.res, DL.sBind, DL.Rho.cont, DL.Rho.put, DL.frz1, DL.frzL, DL.dVar, DL.dC, DL.resB, DL.resU, DL.dO2, DL.dO1, DL.resL, DL.resC, DL.dCB, DL.aNil, DL.aCons, DL.dDisp, DL.oNone, DL.oSome, DL.dSlice, DL.tTru, DL.tBl, DL.tNotD, DL.tAndD, DL.tOrD, DL.tCmpD, DL.tChn, DL.dChn, DL.dAndV, DL.dOrV, DL.dNotV, DL.dIf, DL.fDisp, DL.asL, DL.fO2, DL.fCB, DL.dOfF, DL.sNext, DL.sSeq, DL.sSet, DL.sSetO, DL.sRet, DL.sRetN, DL.sDrop, DL.sIf, DL.sApp, DL.sItem, DL.dPopAt, DL.gN, DL.gsNil, DL.gsCons, DL.gT, DL.sAsg, DL.pNil, DL.pVal, DL.pOwn, DL.putS, DL.sPar, DL.iSeq, DL.iRg1, DL.iRg2, DL.iZip, DL.iEnumL, DL.tYesD, DL.bor0, DL.outR, DL.callK, DL.dCall, DL.dCall0, DL.callB, DL.dCallB, DL.dCallL, DL.sExc, DL.iLst, DL.fCall, DL.lookS, DL.rawN, DL.rawB, DL.rawF, DL.valsR, DL.D.tru, DL.dAdd, DL.dSub, DL.dMul, DL.dFdiv, DL.dMod, DL.dNeg, DL.dCmp, DL.dIs, DL.dIsNot, DL.D.isNon, DL.dIx, DL.dBack, DL.bLen, DL.bAbs, DL.bInt, DL.bTuple, DL.bList, DL.bIsa, DL.isaOf, DL.D.kind, pair_ok V, is_one_ok, twoD, h, l]
/-! #### the law's own laps -/
theorem left_loop (V : Valid p n f c) (fine coarse : Int) (x : D) : ∀ (ds : List D) (found : List D) (s9 s10 : Option Slot), (∀ d ∈ ds, ∃ i : Int, d = .int i) → found.length + ds.length ≤ 16777216 →
    ∃ s9' s10', loopD (gN 9) L1__law_left ds [some (.val x), some (.val (.int fine)), some (.val (.int coarse)), some (.val (.int p)), some (.val (.int n)), some (.val (.int f)), some (.val (.int c)), some (.val (.int (p * n))), some (.own found), s9, s10] =
      .next [some (.val x), some (.val (.int fine)), some (.val (.int coarse)), some (.val (.int p)), some (.val (.int n)), some (.val (.int f)), some (.val (.int c)), some (.val (.int (p * n))), some (.own (found ++ ds.filter (lapB p n (f + c) fine coarse))), s9', s10']
  | [], found, s9, s10, _, _ => ⟨s9, s10, by simp [loopD]⟩
  | d :: ds, found, s9, s10, H, hl => by
    obtain ⟨i, rfl⟩ := H d List.mem_cons_self
    have H' : ∀ d ∈ ds, ∃ i : Int, d = .int i := fun d hd => H d (List.mem_cons_of_mem _ hd)
    have hl1 : found.length < 16777216 := by simp at hl; omega
    by_cases hb : dist (p * n) (i * p + fine) coarse ≤ f + c
    · obtain ⟨s9', s10', e⟩ := left_loop V fine coarse x ds (found ++ [.int i]) (some (.val (.int i))) (some (.val (.int ((i * p + fine - coarse) % (p * n))))) H' (by simp at hl ⊢; omega)
      refine ⟨s9', s10', ?_⟩
      have hb' : (if p * n - (i * p + fine - coarse) % (p * n) < (i * p + fine - coarse) % (p * n) then p * n - (i * p + fine - coarse) % (p * n) else (i * p + fine - coarse) % (p * n)) ≤ f + c := hb
      have hf : lapB p n (f + c) fine coarse (.int i) = true := by simp [lapB, hb]
      rw [List.filter_cons_of_pos hf]
      refine (loop_gN ?_).trans (e.trans (by simp))
      simp [L1__law_left, DL.Res.bind, DL.Arg.res, DL.sBind, DL.Rho.cont, DL.Rho.put, DL.frz1, DL.frzL, DL.dVar, DL.dC, DL.resB, DL.resU, DL.dO2, DL.dO1, DL.resL, DL.resC, DL.dCB, DL.aNil, DL.aCons, DL.dDisp, DL.oNone, DL.oSome, DL.dSlice, DL.tTru, DL.tBl, DL.tNotD, DL.tAndD, DL.tOrD, DL.tCmpD, DL.tChn, DL.dChn, DL.dAndV, DL.dOrV, DL.dNotV, DL.dIf, DL.fDisp, DL.asL, DL.fO2, DL.fCB, DL.dOfF, DL.sNext, DL.sSeq, DL.sSet, DL.sSetO, DL.sRet, DL.sRetN, DL.sDrop, DL.sIf, DL.sApp, DL.sItem, DL.dPopAt, DL.gN, DL.gsNil, DL.gsCons, DL.gT, DL.sAsg, DL.pNil, DL.pVal, DL.pOwn, DL.putS, DL.sPar, DL.iSeq, DL.iRg1, DL.iRg2, DL.iZip, DL.iEnumL, DL.tYesD, DL.bor0, DL.outR, DL.callK, DL.dCall, DL.dCall0, DL.callB, DL.dCallB, DL.dCallL, DL.sExc, DL.iLst, DL.fCall, DL.lookS, DL.rawN, DL.rawB, DL.rawF, DL.valsR, DL.D.tru, DL.dAdd, DL.dSub, DL.dMul, DL.dFdiv, DL.dMod, DL.dNeg, DL.dCmp, DL.dIs, DL.dIsNot, DL.D.isNon, DL.dIx, DL.dBack, DL.bLen, DL.bAbs, DL.bInt, DL.bTuple, DL.bList, DL.bIsa, DL.isaOf, DL.D.kind, V.mp, V.pn.1, bMin, hb', hl1]
    · obtain ⟨s9', s10', e⟩ := left_loop V fine coarse x ds found (some (.val (.int i))) (some (.val (.int ((i * p + fine - coarse) % (p * n))))) H' (by simp at hl ⊢; omega)
      refine ⟨s9', s10', ?_⟩
      have hb' : ¬ (if p * n - (i * p + fine - coarse) % (p * n) < (i * p + fine - coarse) % (p * n) then p * n - (i * p + fine - coarse) % (p * n) else (i * p + fine - coarse) % (p * n)) ≤ f + c := hb
      have hf : ¬ lapB p n (f + c) fine coarse (.int i) = true := by simp [lapB, hb]
      rw [List.filter_cons_of_neg hf]
      refine (loop_gN ?_).trans e
      simp [L1__law_left, DL.Res.bind, DL.Arg.res, DL.sBind, DL.Rho.cont, DL.Rho.put, DL.frz1, DL.frzL, DL.dVar, DL.dC, DL.resB, DL.resU, DL.dO2, DL.dO1, DL.resL, DL.resC, DL.dCB, DL.aNil, DL.aCons, DL.dDisp, DL.oNone, DL.oSome, DL.dSlice, DL.tTru, DL.tBl, DL.tNotD, DL.tAndD, DL.tOrD, DL.tCmpD, DL.tChn, DL.dChn, DL.dAndV, DL.dOrV, DL.dNotV, DL.dIf, DL.fDisp, DL.asL, DL.fO2, DL.fCB, DL.dOfF, DL.sNext, DL.sSeq, DL.sSet, DL.sSetO, DL.sRet, DL.sRetN, DL.sDrop, DL.sIf, DL.sApp, DL.sItem, DL.dPopAt, DL.gN, DL.gsNil, DL.gsCons, DL.gT, DL.sAsg, DL.pNil, DL.pVal, DL.pOwn, DL.putS, DL.sPar, DL.iSeq, DL.iRg1, DL.iRg2, DL.iZip, DL.iEnumL, DL.tYesD, DL.bor0, DL.outR, DL.callK, DL.dCall, DL.dCall0, DL.callB, DL.dCallB, DL.dCallL, DL.sExc, DL.iLst, DL.fCall, DL.lookS, DL.rawN, DL.rawB, DL.rawF, DL.valsR, DL.D.tru, DL.dAdd, DL.dSub, DL.dMul, DL.dFdiv, DL.dMod, DL.dNeg, DL.dCmp, DL.dIs, DL.dIsNot, DL.D.isNon, DL.dIx, DL.dBack, DL.bLen, DL.bAbs, DL.bInt, DL.bTuple, DL.bList, DL.bIsa, DL.isaOf, DL.D.kind, V.mp, V.pn.1, bMin, hb', hl1]
abbrev pairD (p n f c : Int) : D := .tup [.int p, .int n, .int f, .int c]
theorem law_left_ok (V : Valid p n f c) (fine coarse : Int) : g__law_left [pairD p n f c, .int fine, .int coarse] = .ok (.tup (lapsP p n (f + c) fine coarse)) := by
  obtain ⟨s9, s10, e⟩ := left_loop V fine coarse (pairD p n f c) (rgD 0 n.toNat) [] none none (fun d hd => by
    obtain ⟨i, _, rfl⟩ := rgD_mem hd
    exact ⟨_, rfl⟩) (by rw [rgD_len]; have := V.n2; simp; omega)
  simp [g__law_left, b__law_left, DL.Res.bind, DL.Arg.res, DL.sBind, DL.Rho.cont, DL.Rho.put, DL.frz1, DL.frzL, DL.dVar, DL.dC, DL.resB, DL.resU, DL.dO2, DL.dO1, DL.resL, DL.resC, DL.dCB, DL.aNil, DL.aCons, DL.dDisp, DL.oNone, DL.oSome, DL.dSlice, DL.tTru, DL.tBl, DL.tNotD, DL.tAndD, DL.tOrD, DL.tCmpD, DL.tChn, DL.dChn, DL.dAndV, DL.dOrV, DL.dNotV, DL.dIf, DL.fDisp, DL.asL, DL.fO2, DL.fCB, DL.dOfF, DL.sNext, DL.sSeq, DL.sSet, DL.sSetO, DL.sRet, DL.sRetN, DL.sDrop, DL.sIf, DL.sApp, DL.sItem, DL.dPopAt, DL.gN, DL.gsNil, DL.gsCons, DL.gT, DL.sAsg, DL.pNil, DL.pVal, DL.pOwn, DL.putS, DL.sPar, DL.iSeq, DL.iRg1, DL.iRg2, DL.iZip, DL.iEnumL, DL.tYesD, DL.bor0, DL.outR, DL.callK, DL.dCall, DL.dCall0, DL.callB, DL.dCallB, DL.dCallL, DL.sExc, DL.iLst, DL.fCall, DL.lookS, DL.rawN, DL.rawB, DL.rawF, DL.valsR, DL.D.tru, DL.dAdd, DL.dSub, DL.dMul, DL.dFdiv, DL.dMod, DL.dNeg, DL.dCmp, DL.dIs, DL.dIsNot, DL.D.isNon, DL.dIx, DL.dBack, DL.bLen, DL.bAbs, DL.bInt, DL.bTuple, DL.bList, DL.bIsa, DL.isaOf, DL.D.kind, V.mn, sFor, small_n (show 0 ≤ n by have := V.n1; omega) (show n ≤ 100000 by have := V.n2; omega), e, lapsP]
/-- two laps, told rightly -/
def toI : D → Int
  | .int x => x
  | _ => 0
def twoB (p n f c : Int) (v : D) : Bool := match v with
  | .tup [a, b] => isW a 0 (p - 1) && (isW b 0 (p * n - 1) && decide (1 < ((lapsP p n (f + c) (toI a) (toI b)).length : Int)))
  | _ => false
def okV (v : D) : Bool := v.kind.isSome && (match v with
  | .tup xs => xs.all fun x => x.kind.isSome
  | _ => true)
theorem isW_int {v : D} {lo hi : Int} (h : isW v lo hi = true) : ∃ x, v = .int x ∧ lo ≤ x ∧ x ≤ hi := by
  unfold isW at h
  split at h
  · rename_i x
    simp at h
    exact ⟨x, rfl, h.1, h.2⟩
  · cases h
theorem tupof_ok (xs : List D) : g_is_tuple_of [.tup xs, .int 2, .int 2] = .ok (.bl (decide (2 ≤ (xs.length : Int)) && decide ((xs.length : Int) ≤ 2))) := by
  by_cases h : 2 ≤ (xs.length : Int) <;> simp [g_is_tuple_of, b_is_tuple_of, DL.Res.bind, DL.Arg.res, DL.sBind, DL.Rho.cont, DL.Rho.put, DL.frz1, DL.frzL, DL.dVar, DL.dC, DL.resB, DL.resU, DL.dO2, DL.dO1, DL.resL, DL.resC, DL.dCB, DL.aNil, DL.aCons, DL.dDisp, DL.oNone, DL.oSome, DL.dSlice, DL.tTru, DL.tBl, DL.tNotD, DL.tAndD, DL.tOrD, DL.tCmpD, DL.tChn, DL.dChn, DL.dAndV, DL.dOrV, DL.dNotV, DL.dIf, DL.fDisp, DL.asL, DL.fO2, DL.fCB, DL.dOfF, DL.sNext, DL.sSeq, DL.sSet, DL.sSetO, DL.sRet, DL.sRetN, DL.sDrop, DL.sIf, DL.sApp, DL.sItem, DL.dPopAt, DL.gN, DL.gsNil, DL.gsCons, DL.gT, DL.sAsg, DL.pNil, DL.pVal, DL.pOwn, DL.putS, DL.sPar, DL.iSeq, DL.iRg1, DL.iRg2, DL.iZip, DL.iEnumL, DL.tYesD, DL.bor0, DL.outR, DL.callK, DL.dCall, DL.dCall0, DL.callB, DL.dCallB, DL.dCallL, DL.sExc, DL.iLst, DL.fCall, DL.lookS, DL.rawN, DL.rawB, DL.rawF, DL.valsR, DL.D.tru, DL.dAdd, DL.dSub, DL.dMul, DL.dFdiv, DL.dMod, DL.dNeg, DL.dCmp, DL.dIs, DL.dIsNot, DL.D.isNon, DL.dIx, DL.dBack, DL.bLen, DL.bAbs, DL.bInt, DL.bTuple, DL.bList, DL.bIsa, DL.isaOf, DL.D.kind, h]
theorem tupof_no (v : D) (hv : v.kind.isSome = true) (h : ∀ xs, v ≠ .tup xs) : g_is_tuple_of [v, .int 2, .int 2] = .ok (.bl false) := by
  cases v with
  | tup xs => exact absurd rfl (h xs)
  | ty n => simp [D.kind] at hv
  | fn n => simp [D.kind] at hv
  | scr n => simp [D.kind] at hv
  | _ => simp [g_is_tuple_of, b_is_tuple_of, DL.Res.bind, DL.Arg.res, DL.sBind, DL.Rho.cont, DL.Rho.put, DL.frz1, DL.frzL, DL.dVar, DL.dC, DL.resB, DL.resU, DL.dO2, DL.dO1, DL.resL, DL.resC, DL.dCB, DL.aNil, DL.aCons, DL.dDisp, DL.oNone, DL.oSome, DL.dSlice, DL.tTru, DL.tBl, DL.tNotD, DL.tAndD, DL.tOrD, DL.tCmpD, DL.tChn, DL.dChn, DL.dAndV, DL.dOrV, DL.dNotV, DL.dIf, DL.fDisp, DL.asL, DL.fO2, DL.fCB, DL.dOfF, DL.sNext, DL.sSeq, DL.sSet, DL.sSetO, DL.sRet, DL.sRetN, DL.sDrop, DL.sIf, DL.sApp, DL.sItem, DL.dPopAt, DL.gN, DL.gsNil, DL.gsCons, DL.gT, DL.sAsg, DL.pNil, DL.pVal, DL.pOwn, DL.putS, DL.sPar, DL.iSeq, DL.iRg1, DL.iRg2, DL.iZip, DL.iEnumL, DL.tYesD, DL.bor0, DL.outR, DL.callK, DL.dCall, DL.dCall0, DL.callB, DL.dCallB, DL.dCallL, DL.sExc, DL.iLst, DL.fCall, DL.lookS, DL.rawN, DL.rawB, DL.rawF, DL.valsR, DL.D.tru, DL.dAdd, DL.dSub, DL.dMul, DL.dFdiv, DL.dMod, DL.dNeg, DL.dCmp, DL.dIs, DL.dIsNot, DL.D.isNon, DL.dIx, DL.dBack, DL.bLen, DL.bAbs, DL.bInt, DL.bTuple, DL.bList, DL.bIsa, DL.isaOf, DL.D.kind]
theorem at_zero (a b : D) : L2.atI [a, b] 0 = some a := rfl
theorem at_one (a b : D) : L2.atI [a, b] 1 = some b := rfl
theorem is_two_ok (V : Valid p n f c) (v : D) (h : okV v = true) : g_is_two_laps [.int p, .int n, .int f, .int c, v] = .ok (.bl (twoB p n f c v)) := by
  unfold okV at h
  simp only [Bool.and_eq_true] at h
  by_cases ht : ∃ xs, v = .tup xs
  · obtain ⟨xs, rfl⟩ := ht
    have h2 : ∀ x ∈ xs, x.kind.isSome = true := by simpa using h.2
    by_cases hl : xs.length = 2
    · obtain ⟨a, b, rfl⟩ : ∃ a b, xs = [a, b] := by
        match xs, hl with
        | [a, b], _ => exact ⟨a, b, rfl⟩
      have ka := whole_ok a (h2 a (by simp)) 0 (p - 1)
      have kb := whole_ok b (h2 b (by simp)) 0 (p * n - 1)
      cases wa : isW a 0 (p - 1) with
      | false =>
        rw [wa] at ka
        simp [g_is_two_laps, b_is_two_laps, DL.Res.bind, DL.Arg.res, DL.sBind, DL.Rho.cont, DL.Rho.put, DL.frz1, DL.frzL, DL.dVar, DL.dC, DL.resB, DL.resU, DL.dO2, DL.dO1, DL.resL, DL.resC, DL.dCB, DL.aNil, DL.aCons, DL.dDisp, DL.oNone, DL.oSome, DL.dSlice, DL.tTru, DL.tBl, DL.tNotD, DL.tAndD, DL.tOrD, DL.tCmpD, DL.tChn, DL.dChn, DL.dAndV, DL.dOrV, DL.dNotV, DL.dIf, DL.fDisp, DL.asL, DL.fO2, DL.fCB, DL.dOfF, DL.sNext, DL.sSeq, DL.sSet, DL.sSetO, DL.sRet, DL.sRetN, DL.sDrop, DL.sIf, DL.sApp, DL.sItem, DL.dPopAt, DL.gN, DL.gsNil, DL.gsCons, DL.gT, DL.sAsg, DL.pNil, DL.pVal, DL.pOwn, DL.putS, DL.sPar, DL.iSeq, DL.iRg1, DL.iRg2, DL.iZip, DL.iEnumL, DL.tYesD, DL.bor0, DL.outR, DL.callK, DL.dCall, DL.dCall0, DL.callB, DL.dCallB, DL.dCallL, DL.sExc, DL.iLst, DL.fCall, DL.lookS, DL.rawN, DL.rawB, DL.rawF, DL.valsR, DL.D.tru, DL.dAdd, DL.dSub, DL.dMul, DL.dFdiv, DL.dMod, DL.dNeg, DL.dCmp, DL.dIs, DL.dIsNot, DL.D.isNon, DL.dIx, DL.dBack, DL.bLen, DL.bAbs, DL.bInt, DL.bTuple, DL.bList, DL.bIsa, DL.isaOf, DL.D.kind, pair_ok V, tupof_ok, at_zero, at_one, ka, twoB, wa]
      | true =>
        rw [wa] at ka
        cases wb : isW b 0 (p * n - 1) with
        | false =>
          rw [wb] at kb
          simp [g_is_two_laps, b_is_two_laps, DL.Res.bind, DL.Arg.res, DL.sBind, DL.Rho.cont, DL.Rho.put, DL.frz1, DL.frzL, DL.dVar, DL.dC, DL.resB, DL.resU, DL.dO2, DL.dO1, DL.resL, DL.resC, DL.dCB, DL.aNil, DL.aCons, DL.dDisp, DL.oNone, DL.oSome, DL.dSlice, DL.tTru, DL.tBl, DL.tNotD, DL.tAndD, DL.tOrD, DL.tCmpD, DL.tChn, DL.dChn, DL.dAndV, DL.dOrV, DL.dNotV, DL.dIf, DL.fDisp, DL.asL, DL.fO2, DL.fCB, DL.dOfF, DL.sNext, DL.sSeq, DL.sSet, DL.sSetO, DL.sRet, DL.sRetN, DL.sDrop, DL.sIf, DL.sApp, DL.sItem, DL.dPopAt, DL.gN, DL.gsNil, DL.gsCons, DL.gT, DL.sAsg, DL.pNil, DL.pVal, DL.pOwn, DL.putS, DL.sPar, DL.iSeq, DL.iRg1, DL.iRg2, DL.iZip, DL.iEnumL, DL.tYesD, DL.bor0, DL.outR, DL.callK, DL.dCall, DL.dCall0, DL.callB, DL.dCallB, DL.dCallL, DL.sExc, DL.iLst, DL.fCall, DL.lookS, DL.rawN, DL.rawB, DL.rawF, DL.valsR, DL.D.tru, DL.dAdd, DL.dSub, DL.dMul, DL.dFdiv, DL.dMod, DL.dNeg, DL.dCmp, DL.dIs, DL.dIsNot, DL.D.isNon, DL.dIx, DL.dBack, DL.bLen, DL.bAbs, DL.bInt, DL.bTuple, DL.bList, DL.bIsa, DL.isaOf, DL.D.kind, pair_ok V, tupof_ok, at_zero, at_one, ka, kb, V.mn, twoB, wa, wb]
        | true =>
          rw [wb] at kb
          obtain ⟨x, rfl, _⟩ := isW_int wa
          obtain ⟨y, rfl, _⟩ := isW_int wb
          simp [g_is_two_laps, b_is_two_laps, DL.Res.bind, DL.Arg.res, DL.sBind, DL.Rho.cont, DL.Rho.put, DL.frz1, DL.frzL, DL.dVar, DL.dC, DL.resB, DL.resU, DL.dO2, DL.dO1, DL.resL, DL.resC, DL.dCB, DL.aNil, DL.aCons, DL.dDisp, DL.oNone, DL.oSome, DL.dSlice, DL.tTru, DL.tBl, DL.tNotD, DL.tAndD, DL.tOrD, DL.tCmpD, DL.tChn, DL.dChn, DL.dAndV, DL.dOrV, DL.dNotV, DL.dIf, DL.fDisp, DL.asL, DL.fO2, DL.fCB, DL.dOfF, DL.sNext, DL.sSeq, DL.sSet, DL.sSetO, DL.sRet, DL.sRetN, DL.sDrop, DL.sIf, DL.sApp, DL.sItem, DL.dPopAt, DL.gN, DL.gsNil, DL.gsCons, DL.gT, DL.sAsg, DL.pNil, DL.pVal, DL.pOwn, DL.putS, DL.sPar, DL.iSeq, DL.iRg1, DL.iRg2, DL.iZip, DL.iEnumL, DL.tYesD, DL.bor0, DL.outR, DL.callK, DL.dCall, DL.dCall0, DL.callB, DL.dCallB, DL.dCallL, DL.sExc, DL.iLst, DL.fCall, DL.lookS, DL.rawN, DL.rawB, DL.rawF, DL.valsR, DL.D.tru, DL.dAdd, DL.dSub, DL.dMul, DL.dFdiv, DL.dMod, DL.dNeg, DL.dCmp, DL.dIs, DL.dIsNot, DL.D.isNon, DL.dIx, DL.dBack, DL.bLen, DL.bAbs, DL.bInt, DL.bTuple, DL.bList, DL.bIsa, DL.isaOf, DL.D.kind, pair_ok V, tupof_ok, at_zero, at_one, ka, kb, V.mn, twoB, wa, wb, laps_in_ok V, toI]
          rfl
    · have e : (decide (2 ≤ (xs.length : Int)) && decide ((xs.length : Int) ≤ 2)) = false := by
        simp
        omega
      have e2 : twoB p n f c (.tup xs) = false := by
        unfold twoB
        split
        · rename_i a b q
          cases q
          simp at hl
        · rfl
      simp [g_is_two_laps, b_is_two_laps, DL.Res.bind, DL.Arg.res, DL.sBind, DL.Rho.cont, DL.Rho.put, DL.frz1, DL.frzL, DL.dVar, DL.dC, DL.resB, DL.resU, DL.dO2, DL.dO1, DL.resL, DL.resC, DL.dCB, DL.aNil, DL.aCons, DL.dDisp, DL.oNone, DL.oSome, DL.dSlice, DL.tTru, DL.tBl, DL.tNotD, DL.tAndD, DL.tOrD, DL.tCmpD, DL.tChn, DL.dChn, DL.dAndV, DL.dOrV, DL.dNotV, DL.dIf, DL.fDisp, DL.asL, DL.fO2, DL.fCB, DL.dOfF, DL.sNext, DL.sSeq, DL.sSet, DL.sSetO, DL.sRet, DL.sRetN, DL.sDrop, DL.sIf, DL.sApp, DL.sItem, DL.dPopAt, DL.gN, DL.gsNil, DL.gsCons, DL.gT, DL.sAsg, DL.pNil, DL.pVal, DL.pOwn, DL.putS, DL.sPar, DL.iSeq, DL.iRg1, DL.iRg2, DL.iZip, DL.iEnumL, DL.tYesD, DL.bor0, DL.outR, DL.callK, DL.dCall, DL.dCall0, DL.callB, DL.dCallB, DL.dCallL, DL.sExc, DL.iLst, DL.fCall, DL.lookS, DL.rawN, DL.rawB, DL.rawF, DL.valsR, DL.D.tru, DL.dAdd, DL.dSub, DL.dMul, DL.dFdiv, DL.dMod, DL.dNeg, DL.dCmp, DL.dIs, DL.dIsNot, DL.D.isNon, DL.dIx, DL.dBack, DL.bLen, DL.bAbs, DL.bInt, DL.bTuple, DL.bList, DL.bIsa, DL.isaOf, DL.D.kind, pair_ok V, tupof_ok, e, e2]
  · have e := tupof_no v h.1 fun xs q => ht ⟨xs, q⟩
    have e2 : twoB p n f c v = false := by
      unfold twoB
      split
      · rename_i a b
        exact absurd ⟨_, rfl⟩ ht
      · rfl
    simp [g_is_two_laps, b_is_two_laps, DL.Res.bind, DL.Arg.res, DL.sBind, DL.Rho.cont, DL.Rho.put, DL.frz1, DL.frzL, DL.dVar, DL.dC, DL.resB, DL.resU, DL.dO2, DL.dO1, DL.resL, DL.resC, DL.dCB, DL.aNil, DL.aCons, DL.dDisp, DL.oNone, DL.oSome, DL.dSlice, DL.tTru, DL.tBl, DL.tNotD, DL.tAndD, DL.tOrD, DL.tCmpD, DL.tChn, DL.dChn, DL.dAndV, DL.dOrV, DL.dNotV, DL.dIf, DL.fDisp, DL.asL, DL.fO2, DL.fCB, DL.dOfF, DL.sNext, DL.sSeq, DL.sSet, DL.sSetO, DL.sRet, DL.sRetN, DL.sDrop, DL.sIf, DL.sApp, DL.sItem, DL.dPopAt, DL.gN, DL.gsNil, DL.gsCons, DL.gT, DL.sAsg, DL.pNil, DL.pVal, DL.pOwn, DL.putS, DL.sPar, DL.iSeq, DL.iRg1, DL.iRg2, DL.iZip, DL.iEnumL, DL.tYesD, DL.bor0, DL.outR, DL.callK, DL.dCall, DL.dCall0, DL.callB, DL.dCallB, DL.dCallL, DL.sExc, DL.iLst, DL.fCall, DL.lookS, DL.rawN, DL.rawB, DL.rawF, DL.valsR, DL.D.tru, DL.dAdd, DL.dSub, DL.dMul, DL.dFdiv, DL.dMod, DL.dNeg, DL.dCmp, DL.dIs, DL.dIsNot, DL.D.isNon, DL.dIx, DL.dBack, DL.bLen, DL.bAbs, DL.bInt, DL.bTuple, DL.bList, DL.bIsa, DL.isaOf, DL.D.kind, pair_ok V, e, e2]
theorem sort_is (v : D) (h : v.kind.isSome = true) : g__law_sort [v] = .ok (.int (sortOf v)) := sort_ok v h
theorem so_tup (xs : List D) : sortOf (.tup xs) = 4 := rfl
theorem so_int (i : Int) : sortOf (.int i) = 2 := rfl
theorem ne_int (i j : Int) : dNe (.int i) (.int j) = some (.bl (!(i == j))) := by simp [dNe, D.pl, D.eqv]
theorem isW_sort {v : D} {lo hi : Int} (h : sortOf v ≠ 2) : isW v lo hi = false := by
  cases v <;> first | rfl | exact absurd rfl h
theorem law_two_ok (V : Valid p n f c) (v : D) (h : okV v = true) : g__law_is_two [pairD p n f c, v] = .ok (.bl (twoB p n f c v)) := by
  unfold okV at h
  simp only [Bool.and_eq_true] at h
  by_cases ht : ∃ xs, v = .tup xs
  · obtain ⟨xs, rfl⟩ := ht
    have h2 : ∀ x ∈ xs, x.kind.isSome = true := by simpa using h.2
    have hs := sort_is (.tup xs) rfl
    by_cases hl : xs.length = 2
    · obtain ⟨a, b, rfl⟩ : ∃ a b, xs = [a, b] := by
        match xs, hl with
        | [a, b], _ => exact ⟨a, b, rfl⟩
      have sa := sort_is a (h2 a (by simp))
      have sb := sort_is b (h2 b (by simp))
      by_cases ha : sortOf a = 2
      · by_cases hb : sortOf b = 2
        · obtain ⟨x, rfl⟩ : ∃ x, a = .int x := by cases a <;> simp [sortOf] at ha; exact ⟨_, rfl⟩
          obtain ⟨y, rfl⟩ : ∃ y, b = .int y := by cases b <;> simp [sortOf] at hb; exact ⟨_, rfl⟩
          by_cases x0 : 0 ≤ x
          · by_cases x1 : x < p
            · by_cases y0 : 0 ≤ y
              · by_cases y1 : y < p * n
                · have x2 : x ≤ p - 1 := by omega
                  have y2 : y ≤ p * n - 1 := by omega
                  simp [g__law_is_two, b__law_is_two, DL.Res.bind, DL.Arg.res, DL.sBind, DL.Rho.cont, DL.Rho.put, DL.frz1, DL.frzL, DL.dVar, DL.dC, DL.resB, DL.resU, DL.dO2, DL.dO1, DL.resL, DL.resC, DL.dCB, DL.aNil, DL.aCons, DL.dDisp, DL.oNone, DL.oSome, DL.dSlice, DL.tTru, DL.tBl, DL.tNotD, DL.tAndD, DL.tOrD, DL.tCmpD, DL.tChn, DL.dChn, DL.dAndV, DL.dOrV, DL.dNotV, DL.dIf, DL.fDisp, DL.asL, DL.fO2, DL.fCB, DL.dOfF, DL.sNext, DL.sSeq, DL.sSet, DL.sSetO, DL.sRet, DL.sRetN, DL.sDrop, DL.sIf, DL.sApp, DL.sItem, DL.dPopAt, DL.gN, DL.gsNil, DL.gsCons, DL.gT, DL.sAsg, DL.pNil, DL.pVal, DL.pOwn, DL.putS, DL.sPar, DL.iSeq, DL.iRg1, DL.iRg2, DL.iZip, DL.iEnumL, DL.tYesD, DL.bor0, DL.outR, DL.callK, DL.dCall, DL.dCall0, DL.callB, DL.dCallB, DL.dCallL, DL.sExc, DL.iLst, DL.fCall, DL.lookS, DL.rawN, DL.rawB, DL.rawF, DL.valsR, DL.D.tru, DL.dAdd, DL.dSub, DL.dMul, DL.dFdiv, DL.dMod, DL.dNeg, DL.dCmp, DL.dIs, DL.dIsNot, DL.D.isNon, DL.dIx, DL.dBack, DL.bLen, DL.bAbs, DL.bInt, DL.bTuple, DL.bList, DL.bIsa, DL.isaOf, DL.D.kind, hs, sa, sb, so_tup, so_int, ne_int, at_zero, at_one, x0, x1, y0, y1, V.mn, law_left_ok V, twoB, isW, toI, x2, y2]
                  rfl
                · have y2 : ¬ y ≤ p * n - 1 := by omega
                  simp [g__law_is_two, b__law_is_two, DL.Res.bind, DL.Arg.res, DL.sBind, DL.Rho.cont, DL.Rho.put, DL.frz1, DL.frzL, DL.dVar, DL.dC, DL.resB, DL.resU, DL.dO2, DL.dO1, DL.resL, DL.resC, DL.dCB, DL.aNil, DL.aCons, DL.dDisp, DL.oNone, DL.oSome, DL.dSlice, DL.tTru, DL.tBl, DL.tNotD, DL.tAndD, DL.tOrD, DL.tCmpD, DL.tChn, DL.dChn, DL.dAndV, DL.dOrV, DL.dNotV, DL.dIf, DL.fDisp, DL.asL, DL.fO2, DL.fCB, DL.dOfF, DL.sNext, DL.sSeq, DL.sSet, DL.sSetO, DL.sRet, DL.sRetN, DL.sDrop, DL.sIf, DL.sApp, DL.sItem, DL.dPopAt, DL.gN, DL.gsNil, DL.gsCons, DL.gT, DL.sAsg, DL.pNil, DL.pVal, DL.pOwn, DL.putS, DL.sPar, DL.iSeq, DL.iRg1, DL.iRg2, DL.iZip, DL.iEnumL, DL.tYesD, DL.bor0, DL.outR, DL.callK, DL.dCall, DL.dCall0, DL.callB, DL.dCallB, DL.dCallL, DL.sExc, DL.iLst, DL.fCall, DL.lookS, DL.rawN, DL.rawB, DL.rawF, DL.valsR, DL.D.tru, DL.dAdd, DL.dSub, DL.dMul, DL.dFdiv, DL.dMod, DL.dNeg, DL.dCmp, DL.dIs, DL.dIsNot, DL.D.isNon, DL.dIx, DL.dBack, DL.bLen, DL.bAbs, DL.bInt, DL.bTuple, DL.bList, DL.bIsa, DL.isaOf, DL.D.kind, hs, sa, sb, so_tup, so_int, ne_int, at_zero, at_one, x0, x1, y0, y1, V.mn, twoB, isW, y2]
              · simp [g__law_is_two, b__law_is_two, DL.Res.bind, DL.Arg.res, DL.sBind, DL.Rho.cont, DL.Rho.put, DL.frz1, DL.frzL, DL.dVar, DL.dC, DL.resB, DL.resU, DL.dO2, DL.dO1, DL.resL, DL.resC, DL.dCB, DL.aNil, DL.aCons, DL.dDisp, DL.oNone, DL.oSome, DL.dSlice, DL.tTru, DL.tBl, DL.tNotD, DL.tAndD, DL.tOrD, DL.tCmpD, DL.tChn, DL.dChn, DL.dAndV, DL.dOrV, DL.dNotV, DL.dIf, DL.fDisp, DL.asL, DL.fO2, DL.fCB, DL.dOfF, DL.sNext, DL.sSeq, DL.sSet, DL.sSetO, DL.sRet, DL.sRetN, DL.sDrop, DL.sIf, DL.sApp, DL.sItem, DL.dPopAt, DL.gN, DL.gsNil, DL.gsCons, DL.gT, DL.sAsg, DL.pNil, DL.pVal, DL.pOwn, DL.putS, DL.sPar, DL.iSeq, DL.iRg1, DL.iRg2, DL.iZip, DL.iEnumL, DL.tYesD, DL.bor0, DL.outR, DL.callK, DL.dCall, DL.dCall0, DL.callB, DL.dCallB, DL.dCallL, DL.sExc, DL.iLst, DL.fCall, DL.lookS, DL.rawN, DL.rawB, DL.rawF, DL.valsR, DL.D.tru, DL.dAdd, DL.dSub, DL.dMul, DL.dFdiv, DL.dMod, DL.dNeg, DL.dCmp, DL.dIs, DL.dIsNot, DL.D.isNon, DL.dIx, DL.dBack, DL.bLen, DL.bAbs, DL.bInt, DL.bTuple, DL.bList, DL.bIsa, DL.isaOf, DL.D.kind, hs, sa, sb, so_tup, so_int, ne_int, at_zero, at_one, x0, x1, y0, V.mn, twoB, isW]
            · have x2 : ¬ x ≤ p - 1 := by omega
              simp [g__law_is_two, b__law_is_two, DL.Res.bind, DL.Arg.res, DL.sBind, DL.Rho.cont, DL.Rho.put, DL.frz1, DL.frzL, DL.dVar, DL.dC, DL.resB, DL.resU, DL.dO2, DL.dO1, DL.resL, DL.resC, DL.dCB, DL.aNil, DL.aCons, DL.dDisp, DL.oNone, DL.oSome, DL.dSlice, DL.tTru, DL.tBl, DL.tNotD, DL.tAndD, DL.tOrD, DL.tCmpD, DL.tChn, DL.dChn, DL.dAndV, DL.dOrV, DL.dNotV, DL.dIf, DL.fDisp, DL.asL, DL.fO2, DL.fCB, DL.dOfF, DL.sNext, DL.sSeq, DL.sSet, DL.sSetO, DL.sRet, DL.sRetN, DL.sDrop, DL.sIf, DL.sApp, DL.sItem, DL.dPopAt, DL.gN, DL.gsNil, DL.gsCons, DL.gT, DL.sAsg, DL.pNil, DL.pVal, DL.pOwn, DL.putS, DL.sPar, DL.iSeq, DL.iRg1, DL.iRg2, DL.iZip, DL.iEnumL, DL.tYesD, DL.bor0, DL.outR, DL.callK, DL.dCall, DL.dCall0, DL.callB, DL.dCallB, DL.dCallL, DL.sExc, DL.iLst, DL.fCall, DL.lookS, DL.rawN, DL.rawB, DL.rawF, DL.valsR, DL.D.tru, DL.dAdd, DL.dSub, DL.dMul, DL.dFdiv, DL.dMod, DL.dNeg, DL.dCmp, DL.dIs, DL.dIsNot, DL.D.isNon, DL.dIx, DL.dBack, DL.bLen, DL.bAbs, DL.bInt, DL.bTuple, DL.bList, DL.bIsa, DL.isaOf, DL.D.kind, hs, sa, sb, so_tup, so_int, ne_int, at_zero, at_one, x0, x1, twoB, isW, x2]
          · simp [g__law_is_two, b__law_is_two, DL.Res.bind, DL.Arg.res, DL.sBind, DL.Rho.cont, DL.Rho.put, DL.frz1, DL.frzL, DL.dVar, DL.dC, DL.resB, DL.resU, DL.dO2, DL.dO1, DL.resL, DL.resC, DL.dCB, DL.aNil, DL.aCons, DL.dDisp, DL.oNone, DL.oSome, DL.dSlice, DL.tTru, DL.tBl, DL.tNotD, DL.tAndD, DL.tOrD, DL.tCmpD, DL.tChn, DL.dChn, DL.dAndV, DL.dOrV, DL.dNotV, DL.dIf, DL.fDisp, DL.asL, DL.fO2, DL.fCB, DL.dOfF, DL.sNext, DL.sSeq, DL.sSet, DL.sSetO, DL.sRet, DL.sRetN, DL.sDrop, DL.sIf, DL.sApp, DL.sItem, DL.dPopAt, DL.gN, DL.gsNil, DL.gsCons, DL.gT, DL.sAsg, DL.pNil, DL.pVal, DL.pOwn, DL.putS, DL.sPar, DL.iSeq, DL.iRg1, DL.iRg2, DL.iZip, DL.iEnumL, DL.tYesD, DL.bor0, DL.outR, DL.callK, DL.dCall, DL.dCall0, DL.callB, DL.dCallB, DL.dCallL, DL.sExc, DL.iLst, DL.fCall, DL.lookS, DL.rawN, DL.rawB, DL.rawF, DL.valsR, DL.D.tru, DL.dAdd, DL.dSub, DL.dMul, DL.dFdiv, DL.dMod, DL.dNeg, DL.dCmp, DL.dIs, DL.dIsNot, DL.D.isNon, DL.dIx, DL.dBack, DL.bLen, DL.bAbs, DL.bInt, DL.bTuple, DL.bList, DL.bIsa, DL.isaOf, DL.D.kind, hs, sa, sb, so_tup, so_int, ne_int, at_zero, at_one, x0, twoB, isW]
        · have wb : isW b 0 (p * n - 1) = false := isW_sort hb
          obtain ⟨x, rfl⟩ : ∃ x, a = .int x := by cases a <;> simp [sortOf] at ha; exact ⟨_, rfl⟩
          have hb' : (sortOf b == 2) = false := by simpa using hb
          simp [g__law_is_two, b__law_is_two, DL.Res.bind, DL.Arg.res, DL.sBind, DL.Rho.cont, DL.Rho.put, DL.frz1, DL.frzL, DL.dVar, DL.dC, DL.resB, DL.resU, DL.dO2, DL.dO1, DL.resL, DL.resC, DL.dCB, DL.aNil, DL.aCons, DL.dDisp, DL.oNone, DL.oSome, DL.dSlice, DL.tTru, DL.tBl, DL.tNotD, DL.tAndD, DL.tOrD, DL.tCmpD, DL.tChn, DL.dChn, DL.dAndV, DL.dOrV, DL.dNotV, DL.dIf, DL.fDisp, DL.asL, DL.fO2, DL.fCB, DL.dOfF, DL.sNext, DL.sSeq, DL.sSet, DL.sSetO, DL.sRet, DL.sRetN, DL.sDrop, DL.sIf, DL.sApp, DL.sItem, DL.dPopAt, DL.gN, DL.gsNil, DL.gsCons, DL.gT, DL.sAsg, DL.pNil, DL.pVal, DL.pOwn, DL.putS, DL.sPar, DL.iSeq, DL.iRg1, DL.iRg2, DL.iZip, DL.iEnumL, DL.tYesD, DL.bor0, DL.outR, DL.callK, DL.dCall, DL.dCall0, DL.callB, DL.dCallB, DL.dCallL, DL.sExc, DL.iLst, DL.fCall, DL.lookS, DL.rawN, DL.rawB, DL.rawF, DL.valsR, DL.D.tru, DL.dAdd, DL.dSub, DL.dMul, DL.dFdiv, DL.dMod, DL.dNeg, DL.dCmp, DL.dIs, DL.dIsNot, DL.D.isNon, DL.dIx, DL.dBack, DL.bLen, DL.bAbs, DL.bInt, DL.bTuple, DL.bList, DL.bIsa, DL.isaOf, DL.D.kind, hs, sa, sb, so_tup, so_int, ne_int, at_zero, at_one, hb', hb, twoB, wb]
      · have wa : isW a 0 (p - 1) = false := isW_sort ha
        have ha' : (sortOf a == 2) = false := by simpa using ha
        simp [g__law_is_two, b__law_is_two, DL.Res.bind, DL.Arg.res, DL.sBind, DL.Rho.cont, DL.Rho.put, DL.frz1, DL.frzL, DL.dVar, DL.dC, DL.resB, DL.resU, DL.dO2, DL.dO1, DL.resL, DL.resC, DL.dCB, DL.aNil, DL.aCons, DL.dDisp, DL.oNone, DL.oSome, DL.dSlice, DL.tTru, DL.tBl, DL.tNotD, DL.tAndD, DL.tOrD, DL.tCmpD, DL.tChn, DL.dChn, DL.dAndV, DL.dOrV, DL.dNotV, DL.dIf, DL.fDisp, DL.asL, DL.fO2, DL.fCB, DL.dOfF, DL.sNext, DL.sSeq, DL.sSet, DL.sSetO, DL.sRet, DL.sRetN, DL.sDrop, DL.sIf, DL.sApp, DL.sItem, DL.dPopAt, DL.gN, DL.gsNil, DL.gsCons, DL.gT, DL.sAsg, DL.pNil, DL.pVal, DL.pOwn, DL.putS, DL.sPar, DL.iSeq, DL.iRg1, DL.iRg2, DL.iZip, DL.iEnumL, DL.tYesD, DL.bor0, DL.outR, DL.callK, DL.dCall, DL.dCall0, DL.callB, DL.dCallB, DL.dCallL, DL.sExc, DL.iLst, DL.fCall, DL.lookS, DL.rawN, DL.rawB, DL.rawF, DL.valsR, DL.D.tru, DL.dAdd, DL.dSub, DL.dMul, DL.dFdiv, DL.dMod, DL.dNeg, DL.dCmp, DL.dIs, DL.dIsNot, DL.D.isNon, DL.dIx, DL.dBack, DL.bLen, DL.bAbs, DL.bInt, DL.bTuple, DL.bList, DL.bIsa, DL.isaOf, DL.D.kind, hs, sa, so_tup, ne_int, at_zero, at_one, ha', ha, twoB, wa]
    · have e2 : twoB p n f c (.tup xs) = false := by
        unfold twoB
        split
        · rename_i a b q
          cases q
          simp at hl
        · rfl
      have hl' : ((xs.length : Int) == 2) = false := by simpa using (by omega : ¬ ((xs.length : Int) = 2))
      have hl2 : ¬ ((xs.length : Int) = 2) := by omega
      simp [g__law_is_two, b__law_is_two, DL.Res.bind, DL.Arg.res, DL.sBind, DL.Rho.cont, DL.Rho.put, DL.frz1, DL.frzL, DL.dVar, DL.dC, DL.resB, DL.resU, DL.dO2, DL.dO1, DL.resL, DL.resC, DL.dCB, DL.aNil, DL.aCons, DL.dDisp, DL.oNone, DL.oSome, DL.dSlice, DL.tTru, DL.tBl, DL.tNotD, DL.tAndD, DL.tOrD, DL.tCmpD, DL.tChn, DL.dChn, DL.dAndV, DL.dOrV, DL.dNotV, DL.dIf, DL.fDisp, DL.asL, DL.fO2, DL.fCB, DL.dOfF, DL.sNext, DL.sSeq, DL.sSet, DL.sSetO, DL.sRet, DL.sRetN, DL.sDrop, DL.sIf, DL.sApp, DL.sItem, DL.dPopAt, DL.gN, DL.gsNil, DL.gsCons, DL.gT, DL.sAsg, DL.pNil, DL.pVal, DL.pOwn, DL.putS, DL.sPar, DL.iSeq, DL.iRg1, DL.iRg2, DL.iZip, DL.iEnumL, DL.tYesD, DL.bor0, DL.outR, DL.callK, DL.dCall, DL.dCall0, DL.callB, DL.dCallB, DL.dCallL, DL.sExc, DL.iLst, DL.fCall, DL.lookS, DL.rawN, DL.rawB, DL.rawF, DL.valsR, DL.D.tru, DL.dAdd, DL.dSub, DL.dMul, DL.dFdiv, DL.dMod, DL.dNeg, DL.dCmp, DL.dIs, DL.dIsNot, DL.D.isNon, DL.dIx, DL.dBack, DL.bLen, DL.bAbs, DL.bInt, DL.bTuple, DL.bList, DL.bIsa, DL.isaOf, DL.D.kind, hs, so_tup, ne_int, hl', hl2, e2]
  · have hs := sort_is v h.1
    have n4 : ¬ sortOf v = 4 := by
      cases v with
      | tup xs => exact absurd ⟨_, rfl⟩ ht
      | _ => simp [sortOf]
    have n4' : (sortOf v == 4) = false := by simpa using n4
    have e2 : twoB p n f c v = false := by
      unfold twoB
      split
      · rename_i a b
        exact absurd ⟨_, rfl⟩ ht
      · rfl
    simp [g__law_is_two, b__law_is_two, DL.Res.bind, DL.Arg.res, DL.sBind, DL.Rho.cont, DL.Rho.put, DL.frz1, DL.frzL, DL.dVar, DL.dC, DL.resB, DL.resU, DL.dO2, DL.dO1, DL.resL, DL.resC, DL.dCB, DL.aNil, DL.aCons, DL.dDisp, DL.oNone, DL.oSome, DL.dSlice, DL.tTru, DL.tBl, DL.tNotD, DL.tAndD, DL.tOrD, DL.tCmpD, DL.tChn, DL.dChn, DL.dAndV, DL.dOrV, DL.dNotV, DL.dIf, DL.fDisp, DL.asL, DL.fO2, DL.fCB, DL.dOfF, DL.sNext, DL.sSeq, DL.sSet, DL.sSetO, DL.sRet, DL.sRetN, DL.sDrop, DL.sIf, DL.sApp, DL.sItem, DL.dPopAt, DL.gN, DL.gsNil, DL.gsCons, DL.gT, DL.sAsg, DL.pNil, DL.pVal, DL.pOwn, DL.putS, DL.sPar, DL.iSeq, DL.iRg1, DL.iRg2, DL.iZip, DL.iEnumL, DL.tYesD, DL.bor0, DL.outR, DL.callK, DL.dCall, DL.dCall0, DL.callB, DL.dCallB, DL.dCallL, DL.sExc, DL.iLst, DL.fCall, DL.lookS, DL.rawN, DL.rawB, DL.rawF, DL.valsR, DL.D.tru, DL.dAdd, DL.dSub, DL.dMul, DL.dFdiv, DL.dMod, DL.dNeg, DL.dCmp, DL.dIs, DL.dIsNot, DL.D.isNon, DL.dIx, DL.dBack, DL.bLen, DL.bAbs, DL.bInt, DL.bTuple, DL.bList, DL.bIsa, DL.isaOf, DL.D.kind, hs, ne_int, n4', n4, e2]
end K56

set_option maxHeartbeats 1000000
namespace K56
open PySem PySem.Spec DL
variable {p n f c : Int}
theorem dist_near {N a b e k m : Int} (hN : 0 < N) (h : a - b = e + N * k) (h1 : -m ≤ e) (h2 : e ≤ m) : dist N a b ≤ m := by
  have e1 : (a - b) % N = e % N := by rw [h, Int.add_mul_emod_self_left]
  have d := Int.emod_add_mul_ediv e N
  have w0 := Int.emod_nonneg e (show N ≠ 0 by omega)
  have w1 := Int.emod_lt_of_pos e hN
  unfold dist
  rw [e1]
  by_cases he : 0 ≤ e
  · have q0 : 0 ≤ e / N := Int.ediv_nonneg he (by omega)
    have := Int.mul_nonneg (show 0 ≤ N by omega) q0
    split <;> omega
  · have q0 : e / N ≤ -1 := by
      have := Int.ediv_neg_of_neg_of_pos (show e < 0 by omega) hN
      omega
    have := Int.mul_le_mul_of_nonneg_left q0 (show 0 ≤ N by omega)
    split <;> omega
theorem dist_far {N a b m : Int} (hN : 0 < N) (h : dist N a b ≤ m) : ∃ e k, a - b = e + N * k ∧ -m ≤ e ∧ e ≤ m := by
  have d := Int.emod_add_mul_ediv (a - b) N
  have w0 := Int.emod_nonneg (a - b) (show N ≠ 0 by omega)
  have w1 := Int.emod_lt_of_pos (a - b) hN
  unfold dist at h
  split at h
  · refine ⟨(a - b) % N - N, (a - b) / N + 1, ?_, by omega, by omega⟩
    rw [Int.mul_add]
    omega
  · exact ⟨(a - b) % N, (a - b) / N, by omega, by omega, by omega⟩
theorem small_mult {d x : Int} (hd : 0 < d) (h1 : -d < d * x) (h2 : d * x < d) : x = 0 := by
  by_cases hx : 0 < x
  · have := Int.mul_le_mul_of_nonneg_left (show 1 ≤ x by omega) (show 0 ≤ d by omega)
    omega
  · by_cases hy : x < 0
    · have := Int.mul_le_mul_of_nonneg_left (show x ≤ -1 by omega) (show 0 ≤ d by omega)
      omega
    · omega
theorem lap_one {i j fine coarse m : Int} (hp : 0 < p) (hn : 0 < n) (hm : 2 * m < p) (i0 : 0 ≤ i) (i1 : i < n) (j0 : 0 ≤ j) (j1 : j < n)
    (h1 : dist (p * n) (i * p + fine) coarse ≤ m) (h2 : dist (p * n) (j * p + fine) coarse ≤ m) : i = j := by
  have hN : 0 < p * n := Int.mul_pos hp hn
  obtain ⟨e1, k1, q1, a1, b1⟩ := dist_far hN h1
  obtain ⟨e2, k2, q2, a2, b2⟩ := dist_far hN h2
  have q3 : e1 - e2 = p * ((i - j) - n * (k1 - k2)) := by
    have : (i - j) * p = e1 - e2 + p * n * (k1 - k2) := by
      rw [Int.sub_mul, Int.mul_sub]
      omega
    rw [Int.mul_sub, ← Int.mul_assoc, Int.mul_comm p (i - j)]
    omega
  have z := small_mult hp (x := (i - j) - n * (k1 - k2)) (by omega) (by omega)
  have z2 := small_mult hn (x := k1 - k2) (by omega) (by omega)
  rw [z2] at z
  omega
theorem mem_laps {most fine coarse : Int} {d : D} : d ∈ lapsP p n most fine coarse ↔ ∃ i : Int, 0 ≤ i ∧ i < n ∧ d = .int i ∧ dist (p * n) (i * p + fine) coarse ≤ most := by
  unfold lapsP
  rw [List.mem_filter]
  constructor
  · rintro ⟨h1, h2⟩
    obtain ⟨i, hi, rfl⟩ := rgD_mem h1
    refine ⟨0 + (i : Nat), by omega, by omega, rfl, ?_⟩
    simpa [lapB] using h2
  · rintro ⟨i, h0, h1, rfl, h2⟩
    refine ⟨?_, by simpa [lapB] using h2⟩
    unfold rgD
    refine List.mem_map.mpr ⟨i.toNat, List.mem_range.mpr (by omega), ?_⟩
    congr 1
    omega
theorem laps_nodup (most fine coarse : Int) : (lapsP p n most fine coarse).Nodup := by
  unfold lapsP
  refine List.Nodup.sublist List.filter_sublist ?_
  unfold rgD
  refine List.Pairwise.map _ ?_ List.nodup_range
  intro a b hab e
  injection e with e
  exact hab (by omega)
theorem laps_len (most fine coarse : Int) : (lapsP p n most fine coarse).length ≤ n.toNat := by
  unfold lapsP
  refine Nat.le_trans (List.length_filter_le _ _) ?_
  rw [rgD_len]
  exact Nat.le_refl _
theorem laps_one (V : Valid p n f c) (h : oneB p n f c = true) (fine coarse : Int) : (lapsP p n (f + c) fine coarse).length ≤ 1 := by
  unfold oneB at h
  simp only [Bool.or_eq_true, decide_eq_true_eq] at h
  rcases h with h | h
  · have := laps_len (p := p) (n := n) (f + c) fine coarse
    omega
  · have nd := laps_nodup (p := p) (n := n) (f + c) fine coarse
    have all : ∀ x ∈ lapsP p n (f + c) fine coarse, ∀ y ∈ lapsP p n (f + c) fine coarse, x = y := fun x hx y hy => by
      obtain ⟨i, i0, i1, rfl, hi⟩ := mem_laps.mp hx
      obtain ⟨j, j0, j1, rfl, hj⟩ := mem_laps.mp hy
      rw [lap_one (by have := V.p2; omega) (by have := V.n1; omega) h i0 i1 j0 j1 hi hj]
    match e : lapsP p n (f + c) fine coarse with
    | [] => simp
    | [x] => simp
    | x :: y :: r =>
      rw [e] at nd all
      have := all x (by simp) y (by simp)
      subst this
      simp at nd
theorem len_two {α : Type} {l : List α} {x y : α} (hx : x ∈ l) (hy : y ∈ l) (h : x ≠ y) : 1 < l.length := by
  match l with
  | [] => cases hx
  | [z] =>
    simp at hx hy
    exact absurd (hx.trans hy.symm) h
  | _ :: _ :: _ => simp
theorem laps_two (V : Valid p n f c) (h : oneB p n f c = false) : 1 < (lapsP p n (f + c) 0 (p / 2)).length := by
  unfold oneB at h
  simp only [Bool.or_eq_false_iff, decide_eq_false_iff_not] at h
  have h1 := V.n1
  have hp2 := V.p2
  have hN := V.pn.1
  have h0 : D.int 0 ∈ lapsP p n (f + c) 0 (p / 2) := mem_laps.mpr ⟨0, by omega, by omega, rfl, dist_near (e := -(p / 2)) (k := 0) hN (by omega) (by omega) (by omega)⟩
  have h2 : D.int 1 ∈ lapsP p n (f + c) 0 (p / 2) := mem_laps.mpr ⟨1, by omega, by omega, rfl, dist_near (e := p - p / 2) (k := 0) hN (by omega) (by omega) (by omega)⟩
  exact len_two h0 h2 (fun e => by injection e with e; omega)
/-- the lap in which a time falls -/
theorem lap_near (V : Valid p n f c) {time r2 r3 : Int} (a1 : 0 ≤ r2) (a2 : r2 < 2 * f + 1) (b1 : 0 ≤ r3) (b2 : r3 < 2 * c + 1) :
    ∃ i : Int, D.int i ∈ lapsP p n (f + c) ((time + r2 - f) % p) ((time + r3 - c) % (p * n)) ∧ dist (p * n) (i * p + (time + r2 - f) % p) time ≤ f := by
  have hp : 0 < p := by have := V.p2; omega
  have hn : 0 < n := by have := V.n1; omega
  have hN := V.pn.1
  have d1 := Int.emod_add_mul_ediv (time + r2 - f) p
  have d2 := Int.emod_add_mul_ediv ((time + r2 - f) / p) n
  have d3 := Int.emod_add_mul_ediv (time + r3 - c) (p * n)
  have e1 : (time + r2 - f) / p % n * p + (time + r2 - f) % p = time + r2 - f + p * n * (-((time + r2 - f) / p / n)) := by
    have : p * ((time + r2 - f) / p) = (time + r2 - f) / p % n * p + p * n * ((time + r2 - f) / p / n) := by
      rw [Int.mul_assoc, Int.mul_comm ((time + r2 - f) / p % n) p, ← Int.mul_add, d2]
    rw [Int.mul_neg]
    omega
  refine ⟨(time + r2 - f) / p % n, mem_laps.mpr ⟨_, Int.emod_nonneg _ (by omega), Int.emod_lt_of_pos _ hn, rfl, ?_⟩, ?_⟩
  · refine dist_near (e := (r2 - f) - (r3 - c)) (k := -((time + r2 - f) / p / n) + (time + r3 - c) / (p * n)) hN ?_ (by omega) (by omega)
    rw [e1, Int.mul_add]
    omega
  · refine dist_near (e := r2 - f) (k := -((time + r2 - f) / p / n)) hN ?_ (by omega) (by omega)
    rw [e1]
    omega
end K56

set_option maxHeartbeats 1000000
namespace K56
open PySem PySem.Spec DL
variable {p n f c : Int}
abbrev RR (a b : Int) (sm : Bool) (p n f c : Int) (l : List (Option Slot)) : Rho := some (.bor [.int a, .int b]) :: some (.val (pairD p n f c)) :: some (.val (.bl sm)) :: some (.val (.int p)) :: some (.val (.int n)) :: some (.val (.int f)) :: some (.val (.int c)) :: l
theorem pls_ints : ∀ (l : List D) (m : Nat), (∀ d ∈ l, ∃ i : Int, d = .int i) → D.pls m l = true
  | [], m, _ => by simp [D.pls]
  | d :: l, m, h => by
    obtain ⟨i, rfl⟩ := h d List.mem_cons_self
    simp [D.pls, D.pl, pls_ints l m fun d hd => h d (List.mem_cons_of_mem _ hd)]
theorem pls_bls : ∀ (l : List D) (m : Nat), (∀ d ∈ l, ∃ i : Bool, d = .bl i) → D.pls m l = true
  | [], m, _ => by simp [D.pls]
  | d :: l, m, h => by
    obtain ⟨i, rfl⟩ := h d List.mem_cons_self
    simp [D.pls, D.pl, pls_bls l m fun d hd => h d (List.mem_cons_of_mem _ hd)]
theorem eqvs_nil (l : List D) : D.eqvs l [] = l.isEmpty := by cases l <;> simp [D.eqvs]
theorem like_bl (x : Bool) : g__law_like [.bl x, .bl x] = .ok (.bl true) := like_is rfl
theorem lk_ints (l : List D) (h : ∀ d ∈ l, ∃ i : Int, d = .int i) (hl : l.length ≤ 16777216) : (D.tup l).lk 6 = true := by
  simp only [D.lk, Bool.and_eq_true, decide_eq_true_eq, List.all_eq_true]
  refine ⟨hl, fun x hx => ?_⟩
  obtain ⟨i, rfl⟩ := h x hx
  rfl
theorem laps_ints {most fine coarse : Int} : ∀ d ∈ lapsP p n most fine coarse, ∃ i : Int, d = .int i := fun d hd => by
  obtain ⟨i, _, _, e, _⟩ := mem_laps.mp hd
  exact ⟨i, e⟩
theorem like_laps (V : Valid p n f c) (most fine coarse : Int) : g__law_like [.tup (lapsP p n most fine coarse), .tup (lapsP p n most fine coarse)] = .ok (.bl true) :=
  like_is (lk_ints _ laps_ints (by have := laps_len (p := p) (n := n) most fine coarse; have := V.n2; omega))
section
variable (V : Valid p n f c) (sm : Bool) (a b : Int)
include V
theorem s1 : S1__law_right (some (.bor [.int a, .int b]) :: valsR 21 [pairD p n f c, .bl sm]) = .next (RR a b sm p n f c (List.replicate 15 none)) := by
  simp [S1__law_right, DL.Res.bind, DL.Arg.res, DL.sBind, DL.Rho.cont, DL.Rho.put, DL.frz1, DL.frzL, DL.dVar, DL.dC, DL.resB, DL.resU, DL.dO2, DL.dO1, DL.resL, DL.resC, DL.dCB, DL.aNil, DL.aCons, DL.dDisp, DL.oNone, DL.oSome, DL.dSlice, DL.tTru, DL.tBl, DL.tNotD, DL.tAndD, DL.tOrD, DL.tCmpD, DL.tChn, DL.dChn, DL.dAndV, DL.dOrV, DL.dNotV, DL.dIf, DL.fDisp, DL.asL, DL.fO2, DL.fCB, DL.dOfF, DL.sNext, DL.sSeq, DL.sSet, DL.sSetO, DL.sRet, DL.sRetN, DL.sDrop, DL.sIf, DL.sApp, DL.sItem, DL.dPopAt, DL.gN, DL.gsNil, DL.gsCons, DL.gT, DL.sAsg, DL.pNil, DL.pVal, DL.pOwn, DL.putS, DL.sPar, DL.iSeq, DL.iRg1, DL.iRg2, DL.iZip, DL.iEnumL, DL.tYesD, DL.bor0, DL.outR, DL.callK, DL.dCall, DL.dCall0, DL.callB, DL.dCallB, DL.dCallL, DL.sExc, DL.iLst, DL.fCall, DL.lookS, DL.rawN, DL.rawB, DL.rawF, DL.valsR, DL.D.tru, DL.dAdd, DL.dSub, DL.dMul, DL.dFdiv, DL.dMod, DL.dNeg, DL.dCmp, DL.dIs, DL.dIsNot, DL.D.isNon, DL.dIx, DL.dBack, DL.bLen, DL.bAbs, DL.bInt, DL.bTuple, DL.bList, DL.bIsa, DL.isaOf, DL.D.kind, List.replicate]
theorem s2 : S2__law_right (RR a b sm p n f c (List.replicate 15 none)) = .next (RR a b sm p n f c (some (.val (twoD p n f c)) :: some (.val (.bl (oneB p n f c))) :: List.replicate 13 none)) := by
  simp [S2__law_right, DL.Res.bind, DL.Arg.res, DL.sBind, DL.Rho.cont, DL.Rho.put, DL.frz1, DL.frzL, DL.dVar, DL.dC, DL.resB, DL.resU, DL.dO2, DL.dO1, DL.resL, DL.resC, DL.dCB, DL.aNil, DL.aCons, DL.dDisp, DL.oNone, DL.oSome, DL.dSlice, DL.tTru, DL.tBl, DL.tNotD, DL.tAndD, DL.tOrD, DL.tCmpD, DL.tChn, DL.dChn, DL.dAndV, DL.dOrV, DL.dNotV, DL.dIf, DL.fDisp, DL.asL, DL.fO2, DL.fCB, DL.dOfF, DL.sNext, DL.sSeq, DL.sSet, DL.sSetO, DL.sRet, DL.sRetN, DL.sDrop, DL.sIf, DL.sApp, DL.sItem, DL.dPopAt, DL.gN, DL.gsNil, DL.gsCons, DL.gT, DL.sAsg, DL.pNil, DL.pVal, DL.pOwn, DL.putS, DL.sPar, DL.iSeq, DL.iRg1, DL.iRg2, DL.iZip, DL.iEnumL, DL.tYesD, DL.bor0, DL.outR, DL.callK, DL.dCall, DL.dCall0, DL.callB, DL.dCallB, DL.dCallL, DL.sExc, DL.iLst, DL.fCall, DL.lookS, DL.rawN, DL.rawB, DL.rawF, DL.valsR, DL.D.tru, DL.dAdd, DL.dSub, DL.dMul, DL.dFdiv, DL.dMod, DL.dNeg, DL.dCmp, DL.dIs, DL.dIsNot, DL.D.isNon, DL.dIx, DL.dBack, DL.bLen, DL.bAbs, DL.bInt, DL.bTuple, DL.bList, DL.bIsa, DL.isaOf, DL.D.kind, List.replicate, two_laps_ok V, leave_one_ok V]
theorem s3 : S3__law_right (RR a b sm p n f c (some (.val (twoD p n f c)) :: some (.val (.bl (oneB p n f c))) :: List.replicate 13 none)) = .next (RR a b sm p n f c (some (.val (twoD p n f c)) :: some (.val (.bl (oneB p n f c))) :: List.replicate 13 none)) := by
  have m : ∀ i : Int, mulOk 2 i = true := fun i => mulOk_l i (by decide)
  cases h1 : (n == 1) with
  | true =>
    have h1' : n = 1 := by simpa using h1
    have ho : oneB p n f c = true := by simp [oneB, h1']
    simp [S3__law_right, DL.Res.bind, DL.Arg.res, DL.sBind, DL.Rho.cont, DL.Rho.put, DL.frz1, DL.frzL, DL.dVar, DL.dC, DL.resB, DL.resU, DL.dO2, DL.dO1, DL.resL, DL.resC, DL.dCB, DL.aNil, DL.aCons, DL.dDisp, DL.oNone, DL.oSome, DL.dSlice, DL.tTru, DL.tBl, DL.tNotD, DL.tAndD, DL.tOrD, DL.tCmpD, DL.tChn, DL.dChn, DL.dAndV, DL.dOrV, DL.dNotV, DL.dIf, DL.fDisp, DL.asL, DL.fO2, DL.fCB, DL.dOfF, DL.sNext, DL.sSeq, DL.sSet, DL.sSetO, DL.sRet, DL.sRetN, DL.sDrop, DL.sIf, DL.sApp, DL.sItem, DL.dPopAt, DL.gN, DL.gsNil, DL.gsCons, DL.gT, DL.sAsg, DL.pNil, DL.pVal, DL.pOwn, DL.putS, DL.sPar, DL.iSeq, DL.iRg1, DL.iRg2, DL.iZip, DL.iEnumL, DL.tYesD, DL.bor0, DL.outR, DL.callK, DL.dCall, DL.dCall0, DL.callB, DL.dCallB, DL.dCallL, DL.sExc, DL.iLst, DL.fCall, DL.lookS, DL.rawN, DL.rawB, DL.rawF, DL.valsR, DL.D.tru, DL.dAdd, DL.dSub, DL.dMul, DL.dFdiv, DL.dMod, DL.dNeg, DL.dCmp, DL.dIs, DL.dIsNot, DL.D.isNon, DL.dIx, DL.dBack, DL.bLen, DL.bAbs, DL.bInt, DL.bTuple, DL.bList, DL.bIsa, DL.isaOf, DL.D.kind, dEq, dNe, D.pl, D.eqv, h1, ho, like_bl, twoD]
  | false =>
    have h1' : ¬ n = 1 := by simpa using h1
    by_cases h2 : 2 * (f + c) < p
    · have ho : oneB p n f c = true := by simp [oneB, h2]
      simp [S3__law_right, DL.Res.bind, DL.Arg.res, DL.sBind, DL.Rho.cont, DL.Rho.put, DL.frz1, DL.frzL, DL.dVar, DL.dC, DL.resB, DL.resU, DL.dO2, DL.dO1, DL.resL, DL.resC, DL.dCB, DL.aNil, DL.aCons, DL.dDisp, DL.oNone, DL.oSome, DL.dSlice, DL.tTru, DL.tBl, DL.tNotD, DL.tAndD, DL.tOrD, DL.tCmpD, DL.tChn, DL.dChn, DL.dAndV, DL.dOrV, DL.dNotV, DL.dIf, DL.fDisp, DL.asL, DL.fO2, DL.fCB, DL.dOfF, DL.sNext, DL.sSeq, DL.sSet, DL.sSetO, DL.sRet, DL.sRetN, DL.sDrop, DL.sIf, DL.sApp, DL.sItem, DL.dPopAt, DL.gN, DL.gsNil, DL.gsCons, DL.gT, DL.sAsg, DL.pNil, DL.pVal, DL.pOwn, DL.putS, DL.sPar, DL.iSeq, DL.iRg1, DL.iRg2, DL.iZip, DL.iEnumL, DL.tYesD, DL.bor0, DL.outR, DL.callK, DL.dCall, DL.dCall0, DL.callB, DL.dCallB, DL.dCallL, DL.sExc, DL.iLst, DL.fCall, DL.lookS, DL.rawN, DL.rawB, DL.rawF, DL.valsR, DL.D.tru, DL.dAdd, DL.dSub, DL.dMul, DL.dFdiv, DL.dMod, DL.dNeg, DL.dCmp, DL.dIs, DL.dIsNot, DL.D.isNon, DL.dIx, DL.dBack, DL.bLen, DL.bAbs, DL.bInt, DL.bTuple, DL.bList, DL.bIsa, DL.isaOf, DL.D.kind, dEq, dNe, D.pl, D.eqv, h1, h2, m, ho, like_bl, twoD]
    · have ho : oneB p n f c = false := by simp [oneB, h1', h2]
      simp [S3__law_right, DL.Res.bind, DL.Arg.res, DL.sBind, DL.Rho.cont, DL.Rho.put, DL.frz1, DL.frzL, DL.dVar, DL.dC, DL.resB, DL.resU, DL.dO2, DL.dO1, DL.resL, DL.resC, DL.dCB, DL.aNil, DL.aCons, DL.dDisp, DL.oNone, DL.oSome, DL.dSlice, DL.tTru, DL.tBl, DL.tNotD, DL.tAndD, DL.tOrD, DL.tCmpD, DL.tChn, DL.dChn, DL.dAndV, DL.dOrV, DL.dNotV, DL.dIf, DL.fDisp, DL.asL, DL.fO2, DL.fCB, DL.dOfF, DL.sNext, DL.sSeq, DL.sSet, DL.sSetO, DL.sRet, DL.sRetN, DL.sDrop, DL.sIf, DL.sApp, DL.sItem, DL.dPopAt, DL.gN, DL.gsNil, DL.gsCons, DL.gT, DL.sAsg, DL.pNil, DL.pVal, DL.pOwn, DL.putS, DL.sPar, DL.iSeq, DL.iRg1, DL.iRg2, DL.iZip, DL.iEnumL, DL.tYesD, DL.bor0, DL.outR, DL.callK, DL.dCall, DL.dCall0, DL.callB, DL.dCallB, DL.dCallL, DL.sExc, DL.iLst, DL.fCall, DL.lookS, DL.rawN, DL.rawB, DL.rawF, DL.valsR, DL.D.tru, DL.dAdd, DL.dSub, DL.dMul, DL.dFdiv, DL.dMod, DL.dNeg, DL.dCmp, DL.dIs, DL.dIsNot, DL.D.isNon, DL.dIx, DL.dBack, DL.bLen, DL.bAbs, DL.bInt, DL.bTuple, DL.bList, DL.bIsa, DL.isaOf, DL.D.kind, dEq, dNe, D.pl, D.eqv, h1, h2, m, ho, like_bl, twoD]
theorem two_true (h : oneB p n f c = false) : twoB p n f c (.tup [.int 0, .int (p / 2)]) = true := by
  have h2 := laps_two V h
  have hp := V.p2
  have hn := V.n1
  have hpn : p ≤ p * n := by
    have := Int.mul_le_mul_of_nonneg_left hn (show 0 ≤ p by omega)
    omega
  have k : 1 < ((lapsP p n (f + c) 0 (p / 2)).length : Int) := by omega
  have k1 : (0 : Int) ≤ p - 1 := by omega
  have k2 : 0 ≤ p / 2 := by omega
  have k3 : p / 2 ≤ p * n - 1 := by omega
  simp [twoB, isW, toI, k, k1, k2, k3]
  omega
theorem s4 : S4__law_right (RR a b sm p n f c (some (.val (twoD p n f c)) :: some (.val (.bl (oneB p n f c))) :: List.replicate 13 none)) = .next (RR a b sm p n f c (some (.val (twoD p n f c)) :: some (.val (.bl (oneB p n f c))) :: List.replicate 13 none)) := by
  cases ho : oneB p n f c with
  | true => simp [S4__law_right, DL.Res.bind, DL.Arg.res, DL.sBind, DL.Rho.cont, DL.Rho.put, DL.frz1, DL.frzL, DL.dVar, DL.dC, DL.resB, DL.resU, DL.dO2, DL.dO1, DL.resL, DL.resC, DL.dCB, DL.aNil, DL.aCons, DL.dDisp, DL.oNone, DL.oSome, DL.dSlice, DL.tTru, DL.tBl, DL.tNotD, DL.tAndD, DL.tOrD, DL.tCmpD, DL.tChn, DL.dChn, DL.dAndV, DL.dOrV, DL.dNotV, DL.dIf, DL.fDisp, DL.asL, DL.fO2, DL.fCB, DL.dOfF, DL.sNext, DL.sSeq, DL.sSet, DL.sSetO, DL.sRet, DL.sRetN, DL.sDrop, DL.sIf, DL.sApp, DL.sItem, DL.dPopAt, DL.gN, DL.gsNil, DL.gsCons, DL.gT, DL.sAsg, DL.pNil, DL.pVal, DL.pOwn, DL.putS, DL.sPar, DL.iSeq, DL.iRg1, DL.iRg2, DL.iZip, DL.iEnumL, DL.tYesD, DL.bor0, DL.outR, DL.callK, DL.dCall, DL.dCall0, DL.callB, DL.dCallB, DL.dCallL, DL.sExc, DL.iLst, DL.fCall, DL.lookS, DL.rawN, DL.rawB, DL.rawF, DL.valsR, DL.D.tru, DL.dAdd, DL.dSub, DL.dMul, DL.dFdiv, DL.dMod, DL.dNeg, DL.dCmp, DL.dIs, DL.dIsNot, DL.D.isNon, DL.dIx, DL.dBack, DL.bLen, DL.bAbs, DL.bInt, DL.bTuple, DL.bList, DL.bIsa, DL.isaOf, DL.D.kind, twoD, ho]
  | false =>
    have e := law_two_ok V (.tup [.int 0, .int (p / 2)]) rfl
    rw [two_true V ho] at e
    simp [S4__law_right, DL.Res.bind, DL.Arg.res, DL.sBind, DL.Rho.cont, DL.Rho.put, DL.frz1, DL.frzL, DL.dVar, DL.dC, DL.resB, DL.resU, DL.dO2, DL.dO1, DL.resL, DL.resC, DL.dCB, DL.aNil, DL.aCons, DL.dDisp, DL.oNone, DL.oSome, DL.dSlice, DL.tTru, DL.tBl, DL.tNotD, DL.tAndD, DL.tOrD, DL.tCmpD, DL.tChn, DL.dChn, DL.dAndV, DL.dOrV, DL.dNotV, DL.dIf, DL.fDisp, DL.asL, DL.fO2, DL.fCB, DL.dOfF, DL.sNext, DL.sSeq, DL.sSet, DL.sSetO, DL.sRet, DL.sRetN, DL.sDrop, DL.sIf, DL.sApp, DL.sItem, DL.dPopAt, DL.gN, DL.gsNil, DL.gsCons, DL.gT, DL.sAsg, DL.pNil, DL.pVal, DL.pOwn, DL.putS, DL.sPar, DL.iSeq, DL.iRg1, DL.iRg2, DL.iZip, DL.iEnumL, DL.tYesD, DL.bor0, DL.outR, DL.callK, DL.dCall, DL.dCall0, DL.callB, DL.dCallB, DL.dCallL, DL.sExc, DL.iLst, DL.fCall, DL.lookS, DL.rawN, DL.rawB, DL.rawF, DL.valsR, DL.D.tru, DL.dAdd, DL.dSub, DL.dMul, DL.dFdiv, DL.dMod, DL.dNeg, DL.dCmp, DL.dIs, DL.dIsNot, DL.D.isNon, DL.dIx, DL.dBack, DL.bLen, DL.bAbs, DL.bInt, DL.bTuple, DL.bList, DL.bIsa, DL.isaOf, DL.D.kind, twoD, ho, e]
def markB (p n f c : Int) (d : D) : Bool := decide (1 < ((lapsP p n (f + c) 0 (toI d)).length : Int))
theorem marks_is : ((rgD 0 (p * n).toNat).filter (markB p n f c)).isEmpty = oneB p n f c := by
  cases ho : oneB p n f c with
  | true =>
    rw [List.isEmpty_iff, List.filter_eq_nil_iff]
    intro d _ hd
    have := laps_one V ho 0 (toI d)
    simp [markB] at hd
    omega
  | false =>
    have h2 := laps_two V ho
    have hp := V.p2
    have hn := V.n1
    have hpn : p ≤ p * n := by
      have := Int.mul_le_mul_of_nonneg_left hn (show 0 ≤ p by omega)
      omega
    have hm : D.int (p / 2) ∈ (rgD 0 (p * n).toNat).filter (markB p n f c) := by
      refine List.mem_filter.mpr ⟨?_, decide_eq_true (show (1 : Int) < ((lapsP p n (f + c) 0 (p / 2)).length : Int) by omega)⟩
      unfold rgD
      refine List.mem_map.mpr ⟨(p / 2).toNat, List.mem_range.mpr (by omega), ?_⟩
      congr 1
      omega
    cases e : (rgD 0 (p * n).toNat).filter (markB p n f c) with
    | nil => rw [e] at hm; cases hm
    | cons x l => rfl
theorem s5 : S5__law_right (RR a b sm p n f c (some (.val (twoD p n f c)) :: some (.val (.bl (oneB p n f c))) :: List.replicate 13 none)) = .next (RR a b sm p n f c (some (.val (twoD p n f c)) :: some (.val (.bl (oneB p n f c))) :: List.replicate 13 none)) := by
  cases sm with
  | false => simp [S5__law_right, DL.Res.bind, DL.Arg.res, DL.sBind, DL.Rho.cont, DL.Rho.put, DL.frz1, DL.frzL, DL.dVar, DL.dC, DL.resB, DL.resU, DL.dO2, DL.dO1, DL.resL, DL.resC, DL.dCB, DL.aNil, DL.aCons, DL.dDisp, DL.oNone, DL.oSome, DL.dSlice, DL.tTru, DL.tBl, DL.tNotD, DL.tAndD, DL.tOrD, DL.tCmpD, DL.tChn, DL.dChn, DL.dAndV, DL.dOrV, DL.dNotV, DL.dIf, DL.fDisp, DL.asL, DL.fO2, DL.fCB, DL.dOfF, DL.sNext, DL.sSeq, DL.sSet, DL.sSetO, DL.sRet, DL.sRetN, DL.sDrop, DL.sIf, DL.sApp, DL.sItem, DL.dPopAt, DL.gN, DL.gsNil, DL.gsCons, DL.gT, DL.sAsg, DL.pNil, DL.pVal, DL.pOwn, DL.putS, DL.sPar, DL.iSeq, DL.iRg1, DL.iRg2, DL.iZip, DL.iEnumL, DL.tYesD, DL.bor0, DL.outR, DL.callK, DL.dCall, DL.dCall0, DL.callB, DL.dCallB, DL.dCallL, DL.sExc, DL.iLst, DL.fCall, DL.lookS, DL.rawN, DL.rawB, DL.rawF, DL.valsR, DL.D.tru, DL.dAdd, DL.dSub, DL.dMul, DL.dFdiv, DL.dMod, DL.dNeg, DL.dCmp, DL.dIs, DL.dIsNot, DL.D.isNon, DL.dIx, DL.dBack, DL.bLen, DL.bAbs, DL.bInt, DL.bTuple, DL.bList, DL.bIsa, DL.isaOf, DL.D.kind]
  | true =>
    have hi : iRg1 (aCons (dO2 dMul (dVar 3) (dVar 4)) aNil) (RR a b true p n f c (some (.val (twoD p n f c)) :: some (.val (.bl (oneB p n f c))) :: List.replicate 13 none)) = .ok (rgD 0 (p * n).toNat, RR a b true p n f c (some (.val (twoD p n f c)) :: some (.val (.bl (oneB p n f c))) :: List.replicate 13 none)) := by
      simp [DL.Res.bind, DL.Arg.res, DL.sBind, DL.Rho.cont, DL.Rho.put, DL.frz1, DL.frzL, DL.dVar, DL.dC, DL.resB, DL.resU, DL.dO2, DL.dO1, DL.resL, DL.resC, DL.dCB, DL.aNil, DL.aCons, DL.dDisp, DL.oNone, DL.oSome, DL.dSlice, DL.tTru, DL.tBl, DL.tNotD, DL.tAndD, DL.tOrD, DL.tCmpD, DL.tChn, DL.dChn, DL.dAndV, DL.dOrV, DL.dNotV, DL.dIf, DL.fDisp, DL.asL, DL.fO2, DL.fCB, DL.dOfF, DL.sNext, DL.sSeq, DL.sSet, DL.sSetO, DL.sRet, DL.sRetN, DL.sDrop, DL.sIf, DL.sApp, DL.sItem, DL.dPopAt, DL.gN, DL.gsNil, DL.gsCons, DL.gT, DL.sAsg, DL.pNil, DL.pVal, DL.pOwn, DL.putS, DL.sPar, DL.iSeq, DL.iRg1, DL.iRg2, DL.iZip, DL.iEnumL, DL.tYesD, DL.bor0, DL.outR, DL.callK, DL.dCall, DL.dCall0, DL.callB, DL.dCallB, DL.dCallL, DL.sExc, DL.iLst, DL.fCall, DL.lookS, DL.rawN, DL.rawB, DL.rawF, DL.valsR, DL.D.tru, DL.dAdd, DL.dSub, DL.dMul, DL.dFdiv, DL.dMod, DL.dNeg, DL.dCmp, DL.dIs, DL.dIsNot, DL.D.isNon, DL.dIx, DL.dBack, DL.bLen, DL.bAbs, DL.bInt, DL.bTuple, DL.bList, DL.bIsa, DL.isaOf, DL.D.kind, V.mn, small_n (Int.le_of_lt V.pn.1) V.pn.2]
    have e := fComp_pick (vs := [21]) (g := gN 21) (t := T1__law_right) (elt := dVar 21) (p := markB p n f c) (h := id) hi (fun d hd => ?_) (by rw [rgD_len]; have := V.pn; omega)
    · have hp : D.pls 59 ((rgD 0 (p * n).toNat).filter (markB p n f c)) = true := pls_ints _ _ fun d hd => by
        obtain ⟨i, _, e⟩ := rgD_mem (List.mem_filter.mp hd).1
        exact ⟨_, e⟩
      rw [List.map_id] at e
      have e' := e
      simp only [wipeR, keepR, RR, List.replicate, List.set, List.getElem?_cons_succ, List.getElem?_cons_zero] at e'
      simp [S5__law_right, DL.Res.bind, DL.Arg.res, DL.sBind, DL.Rho.cont, DL.Rho.put, DL.frz1, DL.frzL, DL.dVar, DL.dC, DL.resB, DL.resU, DL.dO2, DL.dO1, DL.resL, DL.resC, DL.dCB, DL.aNil, DL.aCons, DL.dDisp, DL.oNone, DL.oSome, DL.dSlice, DL.tTru, DL.tBl, DL.tNotD, DL.tAndD, DL.tOrD, DL.tCmpD, DL.tChn, DL.dChn, DL.dAndV, DL.dOrV, DL.dNotV, DL.dIf, DL.fDisp, DL.asL, DL.fO2, DL.fCB, DL.dOfF, DL.sNext, DL.sSeq, DL.sSet, DL.sSetO, DL.sRet, DL.sRetN, DL.sDrop, DL.sIf, DL.sApp, DL.sItem, DL.dPopAt, DL.gN, DL.gsNil, DL.gsCons, DL.gT, DL.sAsg, DL.pNil, DL.pVal, DL.pOwn, DL.putS, DL.sPar, DL.iSeq, DL.iRg1, DL.iRg2, DL.iZip, DL.iEnumL, DL.tYesD, DL.bor0, DL.outR, DL.callK, DL.dCall, DL.dCall0, DL.callB, DL.dCallB, DL.dCallL, DL.sExc, DL.iLst, DL.fCall, DL.lookS, DL.rawN, DL.rawB, DL.rawF, DL.valsR, DL.D.tru, DL.dAdd, DL.dSub, DL.dMul, DL.dFdiv, DL.dMod, DL.dNeg, DL.dCmp, DL.dIs, DL.dIsNot, DL.D.isNon, DL.dIx, DL.dBack, DL.bLen, DL.bAbs, DL.bInt, DL.bTuple, DL.bList, DL.bIsa, DL.isaOf, DL.D.kind, e', hp, dEq, dNe, D.pl, D.pls, D.eqv, eqvs_nil, marks_is V]
    · obtain ⟨i, hi, rfl⟩ := rgD_mem hd
      refine ⟨RR a b true p n f c (some (.val (twoD p n f c)) :: some (.val (.bl (oneB p n f c))) :: (List.replicate 12 none ++ [some (.val (.int (0 + (i : Nat))))])), ?_, ?_, ?_, fun z => ?_⟩
      · simp [wipeR, DL.Res.bind, DL.Arg.res, DL.sBind, DL.Rho.cont, DL.Rho.put, DL.frz1, DL.frzL, DL.dVar, DL.dC, DL.resB, DL.resU, DL.dO2, DL.dO1, DL.resL, DL.resC, DL.dCB, DL.aNil, DL.aCons, DL.dDisp, DL.oNone, DL.oSome, DL.dSlice, DL.tTru, DL.tBl, DL.tNotD, DL.tAndD, DL.tOrD, DL.tCmpD, DL.tChn, DL.dChn, DL.dAndV, DL.dOrV, DL.dNotV, DL.dIf, DL.fDisp, DL.asL, DL.fO2, DL.fCB, DL.dOfF, DL.sNext, DL.sSeq, DL.sSet, DL.sSetO, DL.sRet, DL.sRetN, DL.sDrop, DL.sIf, DL.sApp, DL.sItem, DL.dPopAt, DL.gN, DL.gsNil, DL.gsCons, DL.gT, DL.sAsg, DL.pNil, DL.pVal, DL.pOwn, DL.putS, DL.sPar, DL.iSeq, DL.iRg1, DL.iRg2, DL.iZip, DL.iEnumL, DL.tYesD, DL.bor0, DL.outR, DL.callK, DL.dCall, DL.dCall0, DL.callB, DL.dCallB, DL.dCallL, DL.sExc, DL.iLst, DL.fCall, DL.lookS, DL.rawN, DL.rawB, DL.rawF, DL.valsR, DL.D.tru, DL.dAdd, DL.dSub, DL.dMul, DL.dFdiv, DL.dMod, DL.dNeg, DL.dCmp, DL.dIs, DL.dIsNot, DL.D.isNon, DL.dIx, DL.dBack, DL.bLen, DL.bAbs, DL.bInt, DL.bTuple, DL.bList, DL.bIsa, DL.isaOf, DL.D.kind, List.replicate]
      · simp [wipeR, List.replicate]
      · simp [T1__law_right, DL.Res.bind, DL.Arg.res, DL.sBind, DL.Rho.cont, DL.Rho.put, DL.frz1, DL.frzL, DL.dVar, DL.dC, DL.resB, DL.resU, DL.dO2, DL.dO1, DL.resL, DL.resC, DL.dCB, DL.aNil, DL.aCons, DL.dDisp, DL.oNone, DL.oSome, DL.dSlice, DL.tTru, DL.tBl, DL.tNotD, DL.tAndD, DL.tOrD, DL.tCmpD, DL.tChn, DL.dChn, DL.dAndV, DL.dOrV, DL.dNotV, DL.dIf, DL.fDisp, DL.asL, DL.fO2, DL.fCB, DL.dOfF, DL.sNext, DL.sSeq, DL.sSet, DL.sSetO, DL.sRet, DL.sRetN, DL.sDrop, DL.sIf, DL.sApp, DL.sItem, DL.dPopAt, DL.gN, DL.gsNil, DL.gsCons, DL.gT, DL.sAsg, DL.pNil, DL.pVal, DL.pOwn, DL.putS, DL.sPar, DL.iSeq, DL.iRg1, DL.iRg2, DL.iZip, DL.iEnumL, DL.tYesD, DL.bor0, DL.outR, DL.callK, DL.dCall, DL.dCall0, DL.callB, DL.dCallB, DL.dCallL, DL.sExc, DL.iLst, DL.fCall, DL.lookS, DL.rawN, DL.rawB, DL.rawF, DL.valsR, DL.D.tru, DL.dAdd, DL.dSub, DL.dMul, DL.dFdiv, DL.dMod, DL.dNeg, DL.dCmp, DL.dIs, DL.dIsNot, DL.D.isNon, DL.dIx, DL.dBack, DL.bLen, DL.bAbs, DL.bInt, DL.bTuple, DL.bList, DL.bIsa, DL.isaOf, DL.D.kind, List.replicate, law_left_ok V, markB, toI]
      · simp [DL.Res.bind, DL.Arg.res, DL.sBind, DL.Rho.cont, DL.Rho.put, DL.frz1, DL.frzL, DL.dVar, DL.dC, DL.resB, DL.resU, DL.dO2, DL.dO1, DL.resL, DL.resC, DL.dCB, DL.aNil, DL.aCons, DL.dDisp, DL.oNone, DL.oSome, DL.dSlice, DL.tTru, DL.tBl, DL.tNotD, DL.tAndD, DL.tOrD, DL.tCmpD, DL.tChn, DL.dChn, DL.dAndV, DL.dOrV, DL.dNotV, DL.dIf, DL.fDisp, DL.asL, DL.fO2, DL.fCB, DL.dOfF, DL.sNext, DL.sSeq, DL.sSet, DL.sSetO, DL.sRet, DL.sRetN, DL.sDrop, DL.sIf, DL.sApp, DL.sItem, DL.dPopAt, DL.gN, DL.gsNil, DL.gsCons, DL.gT, DL.sAsg, DL.pNil, DL.pVal, DL.pOwn, DL.putS, DL.sPar, DL.iSeq, DL.iRg1, DL.iRg2, DL.iZip, DL.iEnumL, DL.tYesD, DL.bor0, DL.outR, DL.callK, DL.dCall, DL.dCall0, DL.callB, DL.dCallB, DL.dCallL, DL.sExc, DL.iLst, DL.fCall, DL.lookS, DL.rawN, DL.rawB, DL.rawF, DL.valsR, DL.D.tru, DL.dAdd, DL.dSub, DL.dMul, DL.dFdiv, DL.dMod, DL.dNeg, DL.dCmp, DL.dIs, DL.dIsNot, DL.D.isNon, DL.dIx, DL.dBack, DL.bLen, DL.bAbs, DL.bInt, DL.bTuple, DL.bList, DL.bIsa, DL.isaOf, DL.D.kind, List.replicate]
/-- the drawn time and marks -/
theorem s6 {a' b' r : Int} (l : List (Option Slot)) (x y : Option Slot) (e : g__law_roll [.int a, .int b] [.int (p * n)] = .ok (.int r) [.int a', .int b']) :
    S6__law_right (RR a b sm p n f c (x :: y :: none :: l)) = .next (RR a' b' sm p n f c (x :: y :: some (.val (.int r)) :: l)) := by
  simp [S6__law_right, DL.Res.bind, DL.Arg.res, DL.sBind, DL.Rho.cont, DL.Rho.put, DL.frz1, DL.frzL, DL.dVar, DL.dC, DL.resB, DL.resU, DL.dO2, DL.dO1, DL.resL, DL.resC, DL.dCB, DL.aNil, DL.aCons, DL.dDisp, DL.oNone, DL.oSome, DL.dSlice, DL.tTru, DL.tBl, DL.tNotD, DL.tAndD, DL.tOrD, DL.tCmpD, DL.tChn, DL.dChn, DL.dAndV, DL.dOrV, DL.dNotV, DL.dIf, DL.fDisp, DL.asL, DL.fO2, DL.fCB, DL.dOfF, DL.sNext, DL.sSeq, DL.sSet, DL.sSetO, DL.sRet, DL.sRetN, DL.sDrop, DL.sIf, DL.sApp, DL.sItem, DL.dPopAt, DL.gN, DL.gsNil, DL.gsCons, DL.gT, DL.sAsg, DL.pNil, DL.pVal, DL.pOwn, DL.putS, DL.sPar, DL.iSeq, DL.iRg1, DL.iRg2, DL.iZip, DL.iEnumL, DL.tYesD, DL.bor0, DL.outR, DL.callK, DL.dCall, DL.dCall0, DL.callB, DL.dCallB, DL.dCallL, DL.sExc, DL.iLst, DL.fCall, DL.lookS, DL.rawN, DL.rawB, DL.rawF, DL.valsR, DL.D.tru, DL.dAdd, DL.dSub, DL.dMul, DL.dFdiv, DL.dMod, DL.dNeg, DL.dCmp, DL.dIs, DL.dIsNot, DL.D.isNon, DL.dIx, DL.dBack, DL.bLen, DL.bAbs, DL.bInt, DL.bTuple, DL.bList, DL.bIsa, DL.isaOf, DL.D.kind, V.mn, e]
theorem s7 {a' b' r t : Int} (l : List (Option Slot)) (x y : Option Slot) (e : g__law_roll [.int a, .int b] [.int (2 * f + 1)] = .ok (.int r) [.int a', .int b']) :
    S7__law_right (RR a b sm p n f c (x :: y :: some (.val (.int t)) :: none :: l)) = .next (RR a' b' sm p n f c (x :: y :: some (.val (.int t)) :: some (.val (.int ((t + r - f) % p))) :: l)) := by
  have m : ∀ i : Int, mulOk 2 i = true := fun i => mulOk_l i (by decide)
  have hp : 0 < p := by have := V.p2; omega
  simp [S7__law_right, DL.Res.bind, DL.Arg.res, DL.sBind, DL.Rho.cont, DL.Rho.put, DL.frz1, DL.frzL, DL.dVar, DL.dC, DL.resB, DL.resU, DL.dO2, DL.dO1, DL.resL, DL.resC, DL.dCB, DL.aNil, DL.aCons, DL.dDisp, DL.oNone, DL.oSome, DL.dSlice, DL.tTru, DL.tBl, DL.tNotD, DL.tAndD, DL.tOrD, DL.tCmpD, DL.tChn, DL.dChn, DL.dAndV, DL.dOrV, DL.dNotV, DL.dIf, DL.fDisp, DL.asL, DL.fO2, DL.fCB, DL.dOfF, DL.sNext, DL.sSeq, DL.sSet, DL.sSetO, DL.sRet, DL.sRetN, DL.sDrop, DL.sIf, DL.sApp, DL.sItem, DL.dPopAt, DL.gN, DL.gsNil, DL.gsCons, DL.gT, DL.sAsg, DL.pNil, DL.pVal, DL.pOwn, DL.putS, DL.sPar, DL.iSeq, DL.iRg1, DL.iRg2, DL.iZip, DL.iEnumL, DL.tYesD, DL.bor0, DL.outR, DL.callK, DL.dCall, DL.dCall0, DL.callB, DL.dCallB, DL.dCallL, DL.sExc, DL.iLst, DL.fCall, DL.lookS, DL.rawN, DL.rawB, DL.rawF, DL.valsR, DL.D.tru, DL.dAdd, DL.dSub, DL.dMul, DL.dFdiv, DL.dMod, DL.dNeg, DL.dCmp, DL.dIs, DL.dIsNot, DL.D.isNon, DL.dIx, DL.dBack, DL.bLen, DL.bAbs, DL.bInt, DL.bTuple, DL.bList, DL.bIsa, DL.isaOf, DL.D.kind, m, e, hp]
theorem s8 {a' b' r t : Int} (l : List (Option Slot)) (x y z : Option Slot) (e : g__law_roll [.int a, .int b] [.int (2 * c + 1)] = .ok (.int r) [.int a', .int b']) :
    S8__law_right (RR a b sm p n f c (x :: y :: some (.val (.int t)) :: z :: none :: l)) = .next (RR a' b' sm p n f c (x :: y :: some (.val (.int t)) :: z :: some (.val (.int ((t + r - c) % (p * n)))) :: l)) := by
  have m : ∀ i : Int, mulOk 2 i = true := fun i => mulOk_l i (by decide)
  simp [S8__law_right, DL.Res.bind, DL.Arg.res, DL.sBind, DL.Rho.cont, DL.Rho.put, DL.frz1, DL.frzL, DL.dVar, DL.dC, DL.resB, DL.resU, DL.dO2, DL.dO1, DL.resL, DL.resC, DL.dCB, DL.aNil, DL.aCons, DL.dDisp, DL.oNone, DL.oSome, DL.dSlice, DL.tTru, DL.tBl, DL.tNotD, DL.tAndD, DL.tOrD, DL.tCmpD, DL.tChn, DL.dChn, DL.dAndV, DL.dOrV, DL.dNotV, DL.dIf, DL.fDisp, DL.asL, DL.fO2, DL.fCB, DL.dOfF, DL.sNext, DL.sSeq, DL.sSet, DL.sSetO, DL.sRet, DL.sRetN, DL.sDrop, DL.sIf, DL.sApp, DL.sItem, DL.dPopAt, DL.gN, DL.gsNil, DL.gsCons, DL.gT, DL.sAsg, DL.pNil, DL.pVal, DL.pOwn, DL.putS, DL.sPar, DL.iSeq, DL.iRg1, DL.iRg2, DL.iZip, DL.iEnumL, DL.tYesD, DL.bor0, DL.outR, DL.callK, DL.dCall, DL.dCall0, DL.callB, DL.dCallB, DL.dCallL, DL.sExc, DL.iLst, DL.fCall, DL.lookS, DL.rawN, DL.rawB, DL.rawF, DL.valsR, DL.D.tru, DL.dAdd, DL.dSub, DL.dMul, DL.dFdiv, DL.dMod, DL.dNeg, DL.dCmp, DL.dIs, DL.dIsNot, DL.D.isNon, DL.dIx, DL.dBack, DL.bLen, DL.bAbs, DL.bInt, DL.bTuple, DL.bList, DL.bIsa, DL.isaOf, DL.D.kind, m, e, V.mn, V.pn.1]
/-- one turn of the first loop -/
theorem l3 {x y : Int} (z : Option Slot) (t u w : Option Slot) (o q s : Option Slot) (l : List (Option Slot)) (x0 : 0 ≤ x) (x1 : x < p) (y0 : 0 ≤ y) (y1 : y < p * n) :
    L3__law_right (RR a b sm p n f c (z :: some (.val (.bl (oneB p n f c))) :: t :: u :: w :: some (.val (.int x)) :: some (.val (.int y)) :: s :: l)) =
      .next (RR a b sm p n f c (z :: some (.val (.bl (oneB p n f c))) :: t :: u :: w :: some (.val (.int x)) :: some (.val (.int y)) :: some (.val (.tup (lapsP p n (f + c) x y))) :: l)) := by
  cases ho : oneB p n f c with
  | false => simp [L3__law_right, DL.Res.bind, DL.Arg.res, DL.sBind, DL.Rho.cont, DL.Rho.put, DL.frz1, DL.frzL, DL.dVar, DL.dC, DL.resB, DL.resU, DL.dO2, DL.dO1, DL.resL, DL.resC, DL.dCB, DL.aNil, DL.aCons, DL.dDisp, DL.oNone, DL.oSome, DL.dSlice, DL.tTru, DL.tBl, DL.tNotD, DL.tAndD, DL.tOrD, DL.tCmpD, DL.tChn, DL.dChn, DL.dAndV, DL.dOrV, DL.dNotV, DL.dIf, DL.fDisp, DL.asL, DL.fO2, DL.fCB, DL.dOfF, DL.sNext, DL.sSeq, DL.sSet, DL.sSetO, DL.sRet, DL.sRetN, DL.sDrop, DL.sIf, DL.sApp, DL.sItem, DL.dPopAt, DL.gN, DL.gsNil, DL.gsCons, DL.gT, DL.sAsg, DL.pNil, DL.pVal, DL.pOwn, DL.putS, DL.sPar, DL.iSeq, DL.iRg1, DL.iRg2, DL.iZip, DL.iEnumL, DL.tYesD, DL.bor0, DL.outR, DL.callK, DL.dCall, DL.dCall0, DL.callB, DL.dCallB, DL.dCallL, DL.sExc, DL.iLst, DL.fCall, DL.lookS, DL.rawN, DL.rawB, DL.rawF, DL.valsR, DL.D.tru, DL.dAdd, DL.dSub, DL.dMul, DL.dFdiv, DL.dMod, DL.dNeg, DL.dCmp, DL.dIs, DL.dIsNot, DL.D.isNon, DL.dIx, DL.dBack, DL.bLen, DL.bAbs, DL.bInt, DL.bTuple, DL.bList, DL.bIsa, DL.isaOf, DL.D.kind, laps_left_ok V x0 x1 y0 y1, law_left_ok V, like_laps V]
  | true =>
    have h1 := laps_one V ho x y
    have h2 : ¬ (1 : Int) < ((lapsP p n (f + c) x y).length : Int) := by omega
    simp [L3__law_right, DL.Res.bind, DL.Arg.res, DL.sBind, DL.Rho.cont, DL.Rho.put, DL.frz1, DL.frzL, DL.dVar, DL.dC, DL.resB, DL.resU, DL.dO2, DL.dO1, DL.resL, DL.resC, DL.dCB, DL.aNil, DL.aCons, DL.dDisp, DL.oNone, DL.oSome, DL.dSlice, DL.tTru, DL.tBl, DL.tNotD, DL.tAndD, DL.tOrD, DL.tCmpD, DL.tChn, DL.dChn, DL.dAndV, DL.dOrV, DL.dNotV, DL.dIf, DL.fDisp, DL.asL, DL.fO2, DL.fCB, DL.dOfF, DL.sNext, DL.sSeq, DL.sSet, DL.sSetO, DL.sRet, DL.sRetN, DL.sDrop, DL.sIf, DL.sApp, DL.sItem, DL.dPopAt, DL.gN, DL.gsNil, DL.gsCons, DL.gT, DL.sAsg, DL.pNil, DL.pVal, DL.pOwn, DL.putS, DL.sPar, DL.iSeq, DL.iRg1, DL.iRg2, DL.iZip, DL.iEnumL, DL.tYesD, DL.bor0, DL.outR, DL.callK, DL.dCall, DL.dCall0, DL.callB, DL.dCallB, DL.dCallL, DL.sExc, DL.iLst, DL.fCall, DL.lookS, DL.rawN, DL.rawB, DL.rawF, DL.valsR, DL.D.tru, DL.dAdd, DL.dSub, DL.dMul, DL.dFdiv, DL.dMod, DL.dNeg, DL.dCmp, DL.dIs, DL.dIsNot, DL.D.isNon, DL.dIx, DL.dBack, DL.bLen, DL.bAbs, DL.bInt, DL.bTuple, DL.bList, DL.bIsa, DL.isaOf, DL.D.kind, laps_left_ok V x0 x1 y0 y1, law_left_ok V, like_laps V, h2]
theorem s9 {t fi co a' b' a2 b2 r1 r2 : Int} (z : Option Slot) (f0 : 0 ≤ fi) (f1 : fi < p) (c0 : 0 ≤ co) (c1 : co < p * n) (t0 : 0 ≤ t) (t1 : t < p * n)
    (e1 : g__law_roll [.int a, .int b] [.int p] = .ok (.int r1) [.int a', .int b']) (x0 : 0 ≤ r1) (x1 : r1 < p) (e2 : g__law_roll [.int a', .int b'] [.int (p * n)] = .ok (.int r2) [.int a2, .int b2]) (y0 : 0 ≤ r2) (y1 : r2 < p * n) :
    ∃ o q s, S9__law_right (RR a b sm p n f c (z :: some (.val (.bl (oneB p n f c))) :: some (.val (.int t)) :: some (.val (.int fi)) :: some (.val (.int co)) :: List.replicate 10 none)) =
      .next (RR a2 b2 sm p n f c (z :: some (.val (.bl (oneB p n f c))) :: some (.val (.int t)) :: some (.val (.int fi)) :: some (.val (.int co)) :: o :: q :: s :: List.replicate 7 none)) := by
  have hp : 0 < p := by omega
  have m0 := Int.emod_nonneg t (show p ≠ 0 by omega)
  have m1 := Int.emod_lt_of_pos t hp
  refine ⟨some (.val (.int (p - 1))), some (.val (.int (p * n - 1))), some (.val (.tup (lapsP p n (f + c) (p - 1) (p * n - 1)))), ?_⟩
  have hi : iSeq (dDisp .tup (aCons (dDisp .tup (aCons (dVar 10) (aCons (dVar 11) aNil))) (aCons (dDisp .tup (aCons (dO2 dMod (dCB bInt (aCons (dVar 9) aNil)) (dVar 3)) (aCons (dVar 9) aNil))) (aCons (dDisp .tup (aCons (dCallB 1 g__law_roll (aCons (dVar 0) (aCons (dVar 3) aNil))) (aCons (dCallB 1 g__law_roll (aCons (dVar 0) (aCons (dO2 dMul (dVar 3) (dVar 4)) aNil))) aNil))) (aCons (dDisp .tup (aCons (dO2 dSub (dVar 3) (dC (.int 1))) (aCons (dO2 dSub (dO2 dMul (dVar 3) (dVar 4)) (dC (.int 1))) aNil))) aNil)))))
      (RR a b sm p n f c (z :: some (.val (.bl (oneB p n f c))) :: some (.val (.int t)) :: some (.val (.int fi)) :: some (.val (.int co)) :: List.replicate 10 none)) =
      .ok ([.tup [.int fi, .int co], .tup [.int (t % p), .int t], .tup [.int r1, .int r2], .tup [.int (p - 1), .int (p * n - 1)]], RR a2 b2 sm p n f c (z :: some (.val (.bl (oneB p n f c))) :: some (.val (.int t)) :: some (.val (.int fi)) :: some (.val (.int co)) :: List.replicate 10 none)) := by
    simp [DL.Res.bind, DL.Arg.res, DL.sBind, DL.Rho.cont, DL.Rho.put, DL.frz1, DL.frzL, DL.dVar, DL.dC, DL.resB, DL.resU, DL.dO2, DL.dO1, DL.resL, DL.resC, DL.dCB, DL.aNil, DL.aCons, DL.dDisp, DL.oNone, DL.oSome, DL.dSlice, DL.tTru, DL.tBl, DL.tNotD, DL.tAndD, DL.tOrD, DL.tCmpD, DL.tChn, DL.dChn, DL.dAndV, DL.dOrV, DL.dNotV, DL.dIf, DL.fDisp, DL.asL, DL.fO2, DL.fCB, DL.dOfF, DL.sNext, DL.sSeq, DL.sSet, DL.sSetO, DL.sRet, DL.sRetN, DL.sDrop, DL.sIf, DL.sApp, DL.sItem, DL.dPopAt, DL.gN, DL.gsNil, DL.gsCons, DL.gT, DL.sAsg, DL.pNil, DL.pVal, DL.pOwn, DL.putS, DL.sPar, DL.iSeq, DL.iRg1, DL.iRg2, DL.iZip, DL.iEnumL, DL.tYesD, DL.bor0, DL.outR, DL.callK, DL.dCall, DL.dCall0, DL.callB, DL.dCallB, DL.dCallL, DL.sExc, DL.iLst, DL.fCall, DL.lookS, DL.rawN, DL.rawB, DL.rawF, DL.valsR, DL.D.tru, DL.dAdd, DL.dSub, DL.dMul, DL.dFdiv, DL.dMod, DL.dNeg, DL.dCmp, DL.dIs, DL.dIsNot, DL.D.isNon, DL.dIx, DL.dBack, DL.bLen, DL.bAbs, DL.bInt, DL.bTuple, DL.bList, DL.bIsa, DL.isaOf, DL.D.kind, hp, e1, e2, V.mn]
  have go : ∀ (x y : Int) (o q s : Option Slot), gT 2 (gsCons (gN 12) (gsCons (gN 13) gsNil)) (.tup [.int x, .int y]) (RR a2 b2 sm p n f c (z :: some (.val (.bl (oneB p n f c))) :: some (.val (.int t)) :: some (.val (.int fi)) :: some (.val (.int co)) :: o :: q :: s :: List.replicate 7 none)) =
      some (RR a2 b2 sm p n f c (z :: some (.val (.bl (oneB p n f c))) :: some (.val (.int t)) :: some (.val (.int fi)) :: some (.val (.int co)) :: some (.val (.int x)) :: some (.val (.int y)) :: s :: List.replicate 7 none)) := fun x y o q s => by
    simp [DL.Res.bind, DL.Arg.res, DL.sBind, DL.Rho.cont, DL.Rho.put, DL.frz1, DL.frzL, DL.dVar, DL.dC, DL.resB, DL.resU, DL.dO2, DL.dO1, DL.resL, DL.resC, DL.dCB, DL.aNil, DL.aCons, DL.dDisp, DL.oNone, DL.oSome, DL.dSlice, DL.tTru, DL.tBl, DL.tNotD, DL.tAndD, DL.tOrD, DL.tCmpD, DL.tChn, DL.dChn, DL.dAndV, DL.dOrV, DL.dNotV, DL.dIf, DL.fDisp, DL.asL, DL.fO2, DL.fCB, DL.dOfF, DL.sNext, DL.sSeq, DL.sSet, DL.sSetO, DL.sRet, DL.sRetN, DL.sDrop, DL.sIf, DL.sApp, DL.sItem, DL.dPopAt, DL.gN, DL.gsNil, DL.gsCons, DL.gT, DL.sAsg, DL.pNil, DL.pVal, DL.pOwn, DL.putS, DL.sPar, DL.iSeq, DL.iRg1, DL.iRg2, DL.iZip, DL.iEnumL, DL.tYesD, DL.bor0, DL.outR, DL.callK, DL.dCall, DL.dCall0, DL.callB, DL.dCallB, DL.dCallL, DL.sExc, DL.iLst, DL.fCall, DL.lookS, DL.rawN, DL.rawB, DL.rawF, DL.valsR, DL.D.tru, DL.dAdd, DL.dSub, DL.dMul, DL.dFdiv, DL.dMod, DL.dNeg, DL.dCmp, DL.dIs, DL.dIsNot, DL.D.isNon, DL.dIx, DL.dBack, DL.bLen, DL.bAbs, DL.bInt, DL.bTuple, DL.bList, DL.bIsa, DL.isaOf, DL.D.kind]
  show sFor _ _ _ _ = _
  unfold sFor
  rw [hi]
  show loopD _ _ _ _ = _
  refine (loop_next (go fi co none none none) (l3 V sm a2 b2 z _ _ _ none none none _ f0 f1 c0 c1)).trans ?_
  refine (loop_next (go (t % p) t _ _ _) (l3 V sm a2 b2 z _ _ _ none none _ _ m0 m1 t0 t1)).trans ?_
  refine (loop_next (go r1 r2 _ _ _) (l3 V sm a2 b2 z _ _ _ none none _ _ x0 x1 y0 y1)).trans ?_
  refine (loop_next (go (p - 1) (p * n - 1) _ _ _) (l3 V sm a2 b2 z _ _ _ none none _ _ (by omega) (by omega) (by have := V.pn; omega) (by omega))).trans ?_
  rfl
/-! the marks near the time -/
def nearD (p n f fi t : Int) (d : D) : D := .bl (decide (dist (p * n) (toI d * p + fi) t ≤ f))
theorem near_loop (x y o q u : Option Slot) (t fi co : Int) : ∀ (ds : List D) (acc : List D) (s16 s17 : Option Slot), (∀ d ∈ ds, ∃ i : Int, d = .int i) → acc.length + ds.length ≤ 16777216 →
    ∃ s16' s17', loopD (gN 16) L2__law_right ds (RR a b sm p n f c (x :: y :: some (.val (.int t)) :: some (.val (.int fi)) :: some (.val (.int co)) :: o :: q :: u :: some (.own acc) :: s16 :: s17 :: List.replicate 4 none)) =
      .next (RR a b sm p n f c (x :: y :: some (.val (.int t)) :: some (.val (.int fi)) :: some (.val (.int co)) :: o :: q :: u :: some (.own (acc ++ ds.map (nearD p n f fi t))) :: s16' :: s17' :: List.replicate 4 none))
  | [], acc, s16, s17, _, _ => ⟨s16, s17, by simp [loopD]⟩
  | d :: ds, acc, s16, s17, H, hl => by
    obtain ⟨i, rfl⟩ := H d List.mem_cons_self
    obtain ⟨s16', s17', e⟩ := near_loop x y o q u t fi co ds (acc ++ [nearD p n f fi t (.int i)]) (some (.val (.int i))) (some (.val (.int ((i * p + fi - t) % (p * n))))) (fun d hd => H d (List.mem_cons_of_mem _ hd)) (by simp at hl ⊢; omega)
    refine ⟨s16', s17', ?_⟩
    have hl1 : acc.length < 16777216 := by simp at hl; omega
    refine (loop_gN ?_).trans (e.trans (by simp))
    simp [L2__law_right, DL.Res.bind, DL.Arg.res, DL.sBind, DL.Rho.cont, DL.Rho.put, DL.frz1, DL.frzL, DL.dVar, DL.dC, DL.resB, DL.resU, DL.dO2, DL.dO1, DL.resL, DL.resC, DL.dCB, DL.aNil, DL.aCons, DL.dDisp, DL.oNone, DL.oSome, DL.dSlice, DL.tTru, DL.tBl, DL.tNotD, DL.tAndD, DL.tOrD, DL.tCmpD, DL.tChn, DL.dChn, DL.dAndV, DL.dOrV, DL.dNotV, DL.dIf, DL.fDisp, DL.asL, DL.fO2, DL.fCB, DL.dOfF, DL.sNext, DL.sSeq, DL.sSet, DL.sSetO, DL.sRet, DL.sRetN, DL.sDrop, DL.sIf, DL.sApp, DL.sItem, DL.dPopAt, DL.gN, DL.gsNil, DL.gsCons, DL.gT, DL.sAsg, DL.pNil, DL.pVal, DL.pOwn, DL.putS, DL.sPar, DL.iSeq, DL.iRg1, DL.iRg2, DL.iZip, DL.iEnumL, DL.tYesD, DL.bor0, DL.outR, DL.callK, DL.dCall, DL.dCall0, DL.callB, DL.dCallB, DL.dCallL, DL.sExc, DL.iLst, DL.fCall, DL.lookS, DL.rawN, DL.rawB, DL.rawF, DL.valsR, DL.D.tru, DL.dAdd, DL.dSub, DL.dMul, DL.dFdiv, DL.dMod, DL.dNeg, DL.dCmp, DL.dIs, DL.dIsNot, DL.D.isNon, DL.dIx, DL.dBack, DL.bLen, DL.bAbs, DL.bInt, DL.bTuple, DL.bList, DL.bIsa, DL.isaOf, DL.D.kind, V.mp, V.mn, V.pn.1, bMin, hl1, nearD, dist, toI]
    rfl
theorem s10 {fi co : Int} (z y t' o q s : Option Slot) (l : List (Option Slot)) (f0 : 0 ≤ fi) (f1 : fi < p) (c0 : 0 ≤ co) (c1 : co < p * n) :
    S10__law_right (RR a b sm p n f c (z :: y :: t' :: some (.val (.int fi)) :: some (.val (.int co)) :: o :: q :: s :: l)) = .next (RR a b sm p n f c (z :: y :: t' :: some (.val (.int fi)) :: some (.val (.int co)) :: o :: q :: some (.val (.tup (lapsP p n (f + c) fi co))) :: l)) := by
  simp [S10__law_right, DL.Res.bind, DL.Arg.res, DL.sBind, DL.Rho.cont, DL.Rho.put, DL.frz1, DL.frzL, DL.dVar, DL.dC, DL.resB, DL.resU, DL.dO2, DL.dO1, DL.resL, DL.resC, DL.dCB, DL.aNil, DL.aCons, DL.dDisp, DL.oNone, DL.oSome, DL.dSlice, DL.tTru, DL.tBl, DL.tNotD, DL.tAndD, DL.tOrD, DL.tCmpD, DL.tChn, DL.dChn, DL.dAndV, DL.dOrV, DL.dNotV, DL.dIf, DL.fDisp, DL.asL, DL.fO2, DL.fCB, DL.dOfF, DL.sNext, DL.sSeq, DL.sSet, DL.sSetO, DL.sRet, DL.sRetN, DL.sDrop, DL.sIf, DL.sApp, DL.sItem, DL.dPopAt, DL.gN, DL.gsNil, DL.gsCons, DL.gT, DL.sAsg, DL.pNil, DL.pVal, DL.pOwn, DL.putS, DL.sPar, DL.iSeq, DL.iRg1, DL.iRg2, DL.iZip, DL.iEnumL, DL.tYesD, DL.bor0, DL.outR, DL.callK, DL.dCall, DL.dCall0, DL.callB, DL.dCallB, DL.dCallL, DL.sExc, DL.iLst, DL.fCall, DL.lookS, DL.rawN, DL.rawB, DL.rawF, DL.valsR, DL.D.tru, DL.dAdd, DL.dSub, DL.dMul, DL.dFdiv, DL.dMod, DL.dNeg, DL.dCmp, DL.dIs, DL.dIsNot, DL.D.isNon, DL.dIx, DL.dBack, DL.bLen, DL.bAbs, DL.bInt, DL.bTuple, DL.bList, DL.bIsa, DL.isaOf, DL.D.kind, laps_left_ok V f0 f1 c0 c1]
theorem s11 (z y t' fi co o q s : Option Slot) (l : List (Option Slot)) : S11__law_right (RR a b sm p n f c (z :: y :: t' :: fi :: co :: o :: q :: s :: none :: l)) = .next (RR a b sm p n f c (z :: y :: t' :: fi :: co :: o :: q :: s :: some (.own []) :: l)) := by
  simp [S11__law_right, DL.Res.bind, DL.Arg.res, DL.sBind, DL.Rho.cont, DL.Rho.put, DL.frz1, DL.frzL, DL.dVar, DL.dC, DL.resB, DL.resU, DL.dO2, DL.dO1, DL.resL, DL.resC, DL.dCB, DL.aNil, DL.aCons, DL.dDisp, DL.oNone, DL.oSome, DL.dSlice, DL.tTru, DL.tBl, DL.tNotD, DL.tAndD, DL.tOrD, DL.tCmpD, DL.tChn, DL.dChn, DL.dAndV, DL.dOrV, DL.dNotV, DL.dIf, DL.fDisp, DL.asL, DL.fO2, DL.fCB, DL.dOfF, DL.sNext, DL.sSeq, DL.sSet, DL.sSetO, DL.sRet, DL.sRetN, DL.sDrop, DL.sIf, DL.sApp, DL.sItem, DL.dPopAt, DL.gN, DL.gsNil, DL.gsCons, DL.gT, DL.sAsg, DL.pNil, DL.pVal, DL.pOwn, DL.putS, DL.sPar, DL.iSeq, DL.iRg1, DL.iRg2, DL.iZip, DL.iEnumL, DL.tYesD, DL.bor0, DL.outR, DL.callK, DL.dCall, DL.dCall0, DL.callB, DL.dCallB, DL.dCallL, DL.sExc, DL.iLst, DL.fCall, DL.lookS, DL.rawN, DL.rawB, DL.rawF, DL.valsR, DL.D.tru, DL.dAdd, DL.dSub, DL.dMul, DL.dFdiv, DL.dMod, DL.dNeg, DL.dCmp, DL.dIs, DL.dIsNot, DL.D.isNon, DL.dIx, DL.dBack, DL.bLen, DL.bAbs, DL.bInt, DL.bTuple, DL.bList, DL.bIsa, DL.isaOf, DL.D.kind]
theorem s12 {t fi co : Int} (z y o q : Option Slot) : ∃ s16 s17, S12__law_right (RR a b sm p n f c (z :: y :: some (.val (.int t)) :: some (.val (.int fi)) :: some (.val (.int co)) :: o :: q :: some (.val (.tup (lapsP p n (f + c) fi co))) :: some (.own []) :: List.replicate 6 none)) =
    .next (RR a b sm p n f c (z :: y :: some (.val (.int t)) :: some (.val (.int fi)) :: some (.val (.int co)) :: o :: q :: some (.val (.tup (lapsP p n (f + c) fi co))) :: some (.own ((lapsP p n (f + c) fi co).map (nearD p n f fi t))) :: s16 :: s17 :: List.replicate 4 none)) := by
  obtain ⟨s16, s17, e⟩ := near_loop V sm a b z y o q (some (.val (.tup (lapsP p n (f + c) fi co)))) t fi co (lapsP p n (f + c) fi co) [] none none laps_ints (by have := laps_len (p := p) (n := n) (f + c) fi co; have := V.n2; simp; omega)
  refine ⟨s16, s17, ?_⟩
  have hi : iSeq (dVar 14) (RR a b sm p n f c (z :: y :: some (.val (.int t)) :: some (.val (.int fi)) :: some (.val (.int co)) :: o :: q :: some (.val (.tup (lapsP p n (f + c) fi co))) :: some (.own []) :: List.replicate 6 none)) =
    .ok (lapsP p n (f + c) fi co, RR a b sm p n f c (z :: y :: some (.val (.int t)) :: some (.val (.int fi)) :: some (.val (.int co)) :: o :: q :: some (.val (.tup (lapsP p n (f + c) fi co))) :: some (.own []) :: List.replicate 6 none)) := by
    simp [DL.Res.bind, DL.Arg.res, DL.sBind, DL.Rho.cont, DL.Rho.put, DL.frz1, DL.frzL, DL.dVar, DL.dC, DL.resB, DL.resU, DL.dO2, DL.dO1, DL.resL, DL.resC, DL.dCB, DL.aNil, DL.aCons, DL.dDisp, DL.oNone, DL.oSome, DL.dSlice, DL.tTru, DL.tBl, DL.tNotD, DL.tAndD, DL.tOrD, DL.tCmpD, DL.tChn, DL.dChn, DL.dAndV, DL.dOrV, DL.dNotV, DL.dIf, DL.fDisp, DL.asL, DL.fO2, DL.fCB, DL.dOfF, DL.sNext, DL.sSeq, DL.sSet, DL.sSetO, DL.sRet, DL.sRetN, DL.sDrop, DL.sIf, DL.sApp, DL.sItem, DL.dPopAt, DL.gN, DL.gsNil, DL.gsCons, DL.gT, DL.sAsg, DL.pNil, DL.pVal, DL.pOwn, DL.putS, DL.sPar, DL.iSeq, DL.iRg1, DL.iRg2, DL.iZip, DL.iEnumL, DL.tYesD, DL.bor0, DL.outR, DL.callK, DL.dCall, DL.dCall0, DL.callB, DL.dCallB, DL.dCallL, DL.sExc, DL.iLst, DL.fCall, DL.lookS, DL.rawN, DL.rawB, DL.rawF, DL.valsR, DL.D.tru, DL.dAdd, DL.dSub, DL.dMul, DL.dFdiv, DL.dMod, DL.dNeg, DL.dCmp, DL.dIs, DL.dIsNot, DL.D.isNon, DL.dIx, DL.dBack, DL.bLen, DL.bAbs, DL.bInt, DL.bTuple, DL.bList, DL.bIsa, DL.isaOf, DL.D.kind]
  show sFor _ _ _ _ = _
  unfold sFor
  rw [hi]
  exact e
theorem s13 {t r2 r3 : Int} (a1 : 0 ≤ r2) (a2 : r2 < 2 * f + 1) (b1 : 0 ≤ r3) (b2 : r3 < 2 * c + 1) (z y tt fi co o q u : Option Slot) (l : List (Option Slot)) :
    S13__law_right (RR a b sm p n f c (z :: y :: tt :: fi :: co :: o :: q :: u :: some (.own ((lapsP p n (f + c) ((t + r2 - f) % p) ((t + r3 - c) % (p * n))).map (nearD p n f ((t + r2 - f) % p) t))) :: l)) =
      .next (RR a b sm p n f c (z :: y :: tt :: fi :: co :: o :: q :: u :: some (.own ((lapsP p n (f + c) ((t + r2 - f) % p) ((t + r3 - c) % (p * n))).map (nearD p n f ((t + r2 - f) % p) t))) :: l)) := by
  obtain ⟨i, hi, hd⟩ := lap_near V (time := t) a1 a2 b1 b2
  have hp : D.pls 59 ((lapsP p n (f + c) ((t + r2 - f) % p) ((t + r3 - c) % (p * n))).map (nearD p n f ((t + r2 - f) % p) t)) = true := pls_bls _ _ fun d hd => by
    obtain ⟨x, _, e⟩ := List.mem_map.mp hd
    exact ⟨_, e.symm⟩
  have hin : inAny (.bl true) ((lapsP p n (f + c) ((t + r2 - f) % p) ((t + r3 - c) % (p * n))).map (nearD p n f ((t + r2 - f) % p) t)) = true := by
    unfold inAny
    rw [List.any_eq_true]
    refine ⟨.bl true, List.mem_map.mpr ⟨_, hi, ?_⟩, rfl⟩
    unfold nearD toI
    rw [decide_eq_true hd]
  by_cases hf : f < p <;> simp [S13__law_right, DL.Res.bind, DL.Arg.res, DL.sBind, DL.Rho.cont, DL.Rho.put, DL.frz1, DL.frzL, DL.dVar, DL.dC, DL.resB, DL.resU, DL.dO2, DL.dO1, DL.resL, DL.resC, DL.dCB, DL.aNil, DL.aCons, DL.dDisp, DL.oNone, DL.oSome, DL.dSlice, DL.tTru, DL.tBl, DL.tNotD, DL.tAndD, DL.tOrD, DL.tCmpD, DL.tChn, DL.dChn, DL.dAndV, DL.dOrV, DL.dNotV, DL.dIf, DL.fDisp, DL.asL, DL.fO2, DL.fCB, DL.dOfF, DL.sNext, DL.sSeq, DL.sSet, DL.sSetO, DL.sRet, DL.sRetN, DL.sDrop, DL.sIf, DL.sApp, DL.sItem, DL.dPopAt, DL.gN, DL.gsNil, DL.gsCons, DL.gT, DL.sAsg, DL.pNil, DL.pVal, DL.pOwn, DL.putS, DL.sPar, DL.iSeq, DL.iRg1, DL.iRg2, DL.iZip, DL.iEnumL, DL.tYesD, DL.bor0, DL.outR, DL.callK, DL.dCall, DL.dCall0, DL.callB, DL.dCallB, DL.dCallL, DL.sExc, DL.iLst, DL.fCall, DL.lookS, DL.rawN, DL.rawB, DL.rawF, DL.valsR, DL.D.tru, DL.dAdd, DL.dSub, DL.dMul, DL.dFdiv, DL.dMod, DL.dNeg, DL.dCmp, DL.dIs, DL.dIsNot, DL.D.isNon, DL.dIx, DL.dBack, DL.bLen, DL.bAbs, DL.bInt, DL.bTuple, DL.bList, DL.bIsa, DL.isaOf, DL.D.kind, hf, dNotIn, dIn, D.pl, hp, hin]
/-! the values told -/
omit V in
theorem cut_one (x y : D) : cutL [x, y] none (some 1) = [x] := rfl
def baseD (p n f c fi co : Int) : D := if oneB p n f c = true then .tup [.int fi, .int co] else .tup [.int 0, .int (p / 2)]
theorem baseD_is (fi co : Int) : ∃ x y : Int, baseD p n f c fi co = .tup [.int x, .int y] := by
  unfold baseD
  split
  · exact ⟨_, _, rfl⟩
  · exact ⟨_, _, rfl⟩
theorem s14 {fi co : Int} (tt o q u v w1 w2 : Option Slot) : S14__law_right (RR a b sm p n f c (some (.val (twoD p n f c)) :: some (.val (.bl (oneB p n f c))) :: tt :: some (.val (.int fi)) :: some (.val (.int co)) :: o :: q :: u :: v :: w1 :: w2 :: List.replicate 4 none)) =
    .next (RR a b sm p n f c (some (.val (twoD p n f c)) :: some (.val (.bl (oneB p n f c))) :: tt :: some (.val (.int fi)) :: some (.val (.int co)) :: o :: q :: u :: v :: w1 :: w2 :: some (.val (baseD p n f c fi co)) :: List.replicate 3 none)) := by
  cases ho : oneB p n f c <;> simp [S14__law_right, DL.Res.bind, DL.Arg.res, DL.sBind, DL.Rho.cont, DL.Rho.put, DL.frz1, DL.frzL, DL.dVar, DL.dC, DL.resB, DL.resU, DL.dO2, DL.dO1, DL.resL, DL.resC, DL.dCB, DL.aNil, DL.aCons, DL.dDisp, DL.oNone, DL.oSome, DL.dSlice, DL.tTru, DL.tBl, DL.tNotD, DL.tAndD, DL.tOrD, DL.tCmpD, DL.tChn, DL.dChn, DL.dAndV, DL.dOrV, DL.dNotV, DL.dIf, DL.fDisp, DL.asL, DL.fO2, DL.fCB, DL.dOfF, DL.sNext, DL.sSeq, DL.sSet, DL.sSetO, DL.sRet, DL.sRetN, DL.sDrop, DL.sIf, DL.sApp, DL.sItem, DL.dPopAt, DL.gN, DL.gsNil, DL.gsCons, DL.gT, DL.sAsg, DL.pNil, DL.pVal, DL.pOwn, DL.putS, DL.sPar, DL.iSeq, DL.iRg1, DL.iRg2, DL.iZip, DL.iEnumL, DL.tYesD, DL.bor0, DL.outR, DL.callK, DL.dCall, DL.dCall0, DL.callB, DL.dCallB, DL.dCallL, DL.sExc, DL.iLst, DL.fCall, DL.lookS, DL.rawN, DL.rawB, DL.rawF, DL.valsR, DL.D.tru, DL.dAdd, DL.dSub, DL.dMul, DL.dFdiv, DL.dMod, DL.dNeg, DL.dCmp, DL.dIs, DL.dIsNot, DL.D.isNon, DL.dIx, DL.dBack, DL.bLen, DL.bAbs, DL.bInt, DL.bTuple, DL.bList, DL.bIsa, DL.isaOf, DL.D.kind, twoD, baseD, ho, List.replicate]
def valsD (p n x y : Int) : List D := [.tup [.int x, .int y], .tup [.int y, .int x], .tup [.int x], .tup [.int x, .int y, .int 0], .lst [.int x, .int y], .non, .tup [], .int 0, .tup [.int 0, .int (p / 2)], .tup [.int p, .int 0], .tup [.int 0, .int (p * n)], .tup [.int (-1), .int 0]]
theorem s15 {x y : Int} (z oo tt fi co o q u v w1 w2 : Option Slot) : S15__law_right (RR a b sm p n f c (z :: oo :: tt :: fi :: co :: o :: q :: u :: v :: w1 :: w2 :: some (.val (.tup [.int x, .int y])) :: List.replicate 3 none)) =
    .next (RR a b sm p n f c (z :: oo :: tt :: fi :: co :: o :: q :: u :: v :: w1 :: w2 :: some (.val (.tup [.int x, .int y])) :: some (.val (.lst (valsD p n x y))) :: List.replicate 2 none)) := by
  have l : Nat.log2 2 < 9000 := by decide
  simp [S15__law_right, DL.Res.bind, DL.Arg.res, DL.sBind, DL.Rho.cont, DL.Rho.put, DL.frz1, DL.frzL, DL.dVar, DL.dC, DL.resB, DL.resU, DL.dO2, DL.dO1, DL.resL, DL.resC, DL.dCB, DL.aNil, DL.aCons, DL.dDisp, DL.oNone, DL.oSome, DL.dSlice, DL.tTru, DL.tBl, DL.tNotD, DL.tAndD, DL.tOrD, DL.tCmpD, DL.tChn, DL.dChn, DL.dAndV, DL.dOrV, DL.dNotV, DL.dIf, DL.fDisp, DL.asL, DL.fO2, DL.fCB, DL.dOfF, DL.sNext, DL.sSeq, DL.sSet, DL.sSetO, DL.sRet, DL.sRetN, DL.sDrop, DL.sIf, DL.sApp, DL.sItem, DL.dPopAt, DL.gN, DL.gsNil, DL.gsCons, DL.gT, DL.sAsg, DL.pNil, DL.pVal, DL.pOwn, DL.putS, DL.sPar, DL.iSeq, DL.iRg1, DL.iRg2, DL.iZip, DL.iEnumL, DL.tYesD, DL.bor0, DL.outR, DL.callK, DL.dCall, DL.dCall0, DL.callB, DL.dCallB, DL.dCallL, DL.sExc, DL.iLst, DL.fCall, DL.lookS, DL.rawN, DL.rawB, DL.rawF, DL.valsR, DL.D.tru, DL.dAdd, DL.dSub, DL.dMul, DL.dFdiv, DL.dMod, DL.dNeg, DL.dCmp, DL.dIs, DL.dIsNot, DL.D.isNon, DL.dIx, DL.dBack, DL.bLen, DL.bAbs, DL.bInt, DL.bTuple, DL.bList, DL.bIsa, DL.isaOf, DL.D.kind, dCut, cut_one, valsD, V.mn, l, List.replicate]
theorem l1 (z oo tt fi co o q u v w1 w2 ba va m : Option Slot) (d : D) (h : okV d = true) :
    L1__law_right (RR a b sm p n f c (z :: oo :: tt :: fi :: co :: o :: q :: u :: v :: w1 :: w2 :: ba :: va :: some (.val d) :: m :: [])) = .next (RR a b sm p n f c (z :: oo :: tt :: fi :: co :: o :: q :: u :: v :: w1 :: w2 :: ba :: va :: some (.val d) :: m :: [])) := by
  simp [L1__law_right, DL.Res.bind, DL.Arg.res, DL.sBind, DL.Rho.cont, DL.Rho.put, DL.frz1, DL.frzL, DL.dVar, DL.dC, DL.resB, DL.resU, DL.dO2, DL.dO1, DL.resL, DL.resC, DL.dCB, DL.aNil, DL.aCons, DL.dDisp, DL.oNone, DL.oSome, DL.dSlice, DL.tTru, DL.tBl, DL.tNotD, DL.tAndD, DL.tOrD, DL.tCmpD, DL.tChn, DL.dChn, DL.dAndV, DL.dOrV, DL.dNotV, DL.dIf, DL.fDisp, DL.asL, DL.fO2, DL.fCB, DL.dOfF, DL.sNext, DL.sSeq, DL.sSet, DL.sSetO, DL.sRet, DL.sRetN, DL.sDrop, DL.sIf, DL.sApp, DL.sItem, DL.dPopAt, DL.gN, DL.gsNil, DL.gsCons, DL.gT, DL.sAsg, DL.pNil, DL.pVal, DL.pOwn, DL.putS, DL.sPar, DL.iSeq, DL.iRg1, DL.iRg2, DL.iZip, DL.iEnumL, DL.tYesD, DL.bor0, DL.outR, DL.callK, DL.dCall, DL.dCall0, DL.callB, DL.dCallB, DL.dCallL, DL.sExc, DL.iLst, DL.fCall, DL.lookS, DL.rawN, DL.rawB, DL.rawF, DL.valsR, DL.D.tru, DL.dAdd, DL.dSub, DL.dMul, DL.dFdiv, DL.dMod, DL.dNeg, DL.dCmp, DL.dIs, DL.dIsNot, DL.D.isNon, DL.dIx, DL.dBack, DL.bLen, DL.bAbs, DL.bInt, DL.bTuple, DL.bList, DL.bIsa, DL.isaOf, DL.D.kind, is_two_ok V d h, law_two_ok V d h, like_bl]
theorem s16 {x y fi co : Int} (z oo tt o q u v w1 w2 : Option Slot) : ∃ s20, S16__law_right (RR a b sm p n f c (z :: oo :: tt :: some (.val (.int fi)) :: some (.val (.int co)) :: o :: q :: u :: v :: w1 :: w2 :: some (.val (.tup [.int x, .int y])) :: some (.val (.lst (valsD p n x y))) :: List.replicate 2 none)) =
    .next (RR a b sm p n f c (z :: oo :: tt :: some (.val (.int fi)) :: some (.val (.int co)) :: o :: q :: u :: v :: w1 :: w2 :: some (.val (.tup [.int x, .int y])) :: some (.val (.lst (valsD p n x y))) :: s20 :: none :: [])) := by
  have hi : iSeq (dO2 dAdd (dVar 19) (dDisp .lst (aCons (dDisp .tup (aCons (dO2 dIx (dVar 18) (dC (.int 0))) (aCons (dC .non) aNil))) (aCons (dDisp .tup (aCons (dC (.bl true)) (aCons (dO2 dIx (dVar 18) (dC (.int 1))) aNil))) (aCons (dDisp .tup (aCons (dC (.int 0)) (aCons (dO1 dNeg (dC (.int 1))) aNil))) (aCons (dDisp .tup (aCons (dVar 10) (aCons (dVar 11) aNil))) aNil))))))
      (RR a b sm p n f c (z :: oo :: tt :: some (.val (.int fi)) :: some (.val (.int co)) :: o :: q :: u :: v :: w1 :: w2 :: some (.val (.tup [.int x, .int y])) :: some (.val (.lst (valsD p n x y))) :: List.replicate 2 none)) =
      .ok (valsD p n x y ++ [.tup [.int x, .non], .tup [.bl true, .int y], .tup [.int 0, .int (-1)], .tup [.int fi, .int co]], RR a b sm p n f c (z :: oo :: tt :: some (.val (.int fi)) :: some (.val (.int co)) :: o :: q :: u :: v :: w1 :: w2 :: some (.val (.tup [.int x, .int y])) :: some (.val (.lst (valsD p n x y))) :: List.replicate 2 none)) := by
    simp [DL.Res.bind, DL.Arg.res, DL.sBind, DL.Rho.cont, DL.Rho.put, DL.frz1, DL.frzL, DL.dVar, DL.dC, DL.resB, DL.resU, DL.dO2, DL.dO1, DL.resL, DL.resC, DL.dCB, DL.aNil, DL.aCons, DL.dDisp, DL.oNone, DL.oSome, DL.dSlice, DL.tTru, DL.tBl, DL.tNotD, DL.tAndD, DL.tOrD, DL.tCmpD, DL.tChn, DL.dChn, DL.dAndV, DL.dOrV, DL.dNotV, DL.dIf, DL.fDisp, DL.asL, DL.fO2, DL.fCB, DL.dOfF, DL.sNext, DL.sSeq, DL.sSet, DL.sSetO, DL.sRet, DL.sRetN, DL.sDrop, DL.sIf, DL.sApp, DL.sItem, DL.dPopAt, DL.gN, DL.gsNil, DL.gsCons, DL.gT, DL.sAsg, DL.pNil, DL.pVal, DL.pOwn, DL.putS, DL.sPar, DL.iSeq, DL.iRg1, DL.iRg2, DL.iZip, DL.iEnumL, DL.tYesD, DL.bor0, DL.outR, DL.callK, DL.dCall, DL.dCall0, DL.callB, DL.dCallB, DL.dCallL, DL.sExc, DL.iLst, DL.fCall, DL.lookS, DL.rawN, DL.rawB, DL.rawF, DL.valsR, DL.D.tru, DL.dAdd, DL.dSub, DL.dMul, DL.dFdiv, DL.dMod, DL.dNeg, DL.dCmp, DL.dIs, DL.dIsNot, DL.D.isNon, DL.dIx, DL.dBack, DL.bLen, DL.bAbs, DL.bInt, DL.bTuple, DL.bList, DL.bIsa, DL.isaOf, DL.D.kind, valsD, at_zero, at_one]
  have all : ∀ d ∈ valsD p n x y ++ [.tup [.int x, .non], .tup [.bl true, .int y], .tup [.int 0, .int (-1)], .tup [.int fi, .int co]], okV d = true := fun d hd => by
    simp only [valsD, List.cons_append, List.nil_append, List.mem_cons, List.not_mem_nil, or_false] at hd
    rcases hd with rfl | rfl | rfl | rfl | rfl | rfl | rfl | rfl | rfl | rfl | rfl | rfl | rfl | rfl | rfl | rfl <;> rfl
  obtain ⟨s20, e⟩ := loop_same (i := 20) (body := L1__law_right) (ρ := RR a b sm p n f c (z :: oo :: tt :: some (.val (.int fi)) :: some (.val (.int co)) :: o :: q :: u :: v :: w1 :: w2 :: some (.val (.tup [.int x, .int y])) :: some (.val (.lst (valsD p n x y))) :: none :: none :: [])) _ (fun d hd => l1 V sm a b z oo tt (some (.val (.int fi))) (some (.val (.int co))) o q u v w1 w2 _ _ none d (all d hd)) none
  refine ⟨s20, ?_⟩
  show sFor _ _ _ _ = _
  unfold sFor
  rw [hi]
  exact e
/-- THE LAW for one pair of dials -/
theorem right_ok : ∃ a' b' : Int, g__law_right [.int a, .int b] [pairD p n f c, .bl sm] = .ok (.bl true) [.int a', .int b'] := by
  have hp : 0 < p := by have := V.p2; omega
  have hN := V.pn
  obtain ⟨a1, b1, t, e1, t0, t1⟩ := roll_is a b (p * n) (drawn_of hN.1 (by omega))
  obtain ⟨a2, b2, r2, e2, r20, r21⟩ := roll_is a1 b1 (2 * f + 1) (drawn_of (by have := V.f0; omega) (by have := V.f1; omega))
  obtain ⟨a3, b3, r3, e3, r30, r31⟩ := roll_is a2 b2 (2 * c + 1) (drawn_of (by have := V.c0; omega) (by have := V.c1; omega))
  obtain ⟨a4, b4, r4, e4, r40, r41⟩ := roll_is a3 b3 p (drawn_of hp (by have := V.p3; omega))
  obtain ⟨a5, b5, r5, e5, r50, r51⟩ := roll_is a4 b4 (p * n) (drawn_of hN.1 (by omega))
  have f0 := Int.emod_nonneg (t + r2 - f) (show p ≠ 0 by omega)
  have f1 := Int.emod_lt_of_pos (t + r2 - f) hp
  have c0 := Int.emod_nonneg (t + r3 - c) (show p * n ≠ 0 by omega)
  have c1 := Int.emod_lt_of_pos (t + r3 - c) hN.1
  obtain ⟨o, q, s, k9⟩ := s9 V sm a3 b3 (t := t) (some (.val (twoD p n f c))) f0 f1 c0 c1 t0 t1 e4 r40 r41 e5 r50 r51
  obtain ⟨w16, w17, k12⟩ := s12 V sm a5 b5 (t := t) (fi := (t + r2 - f) % p) (co := (t + r3 - c) % (p * n)) (some (.val (twoD p n f c))) (some (.val (.bl (oneB p n f c)))) o q
  obtain ⟨x, y, hb⟩ := baseD_is V ((t + r2 - f) % p) ((t + r3 - c) % (p * n))
  obtain ⟨s20, k16⟩ := s16 V sm a5 b5 (x := x) (y := y) (fi := (t + r2 - f) % p) (co := (t + r3 - c) % (p * n)) (some (.val (twoD p n f c))) (some (.val (.bl (oneB p n f c)))) (some (.val (.int t))) o q (some (.val (.tup (lapsP p n (f + c) ((t + r2 - f) % p) ((t + r3 - c) % (p * n)))))) (some (.own ((lapsP p n (f + c) ((t + r2 - f) % p) ((t + r3 - c) % (p * n))).map (nearD p n f ((t + r2 - f) % p) t)))) w16 w17
  refine ⟨a5, b5, ?_⟩
  have fin : ∃ ρ, b__law_right (some (.bor [.int a, .int b]) :: valsR 21 [pairD p n f c, .bl sm]) = .ret (.bl true) ρ ∧ bor0 ρ = some [.int a5, .int b5] := by
    refine ⟨?w, ?h1, ?h2⟩
    case h1 =>
      unfold b__law_right
      rw [seq_next (s1 V sm a b), seq_next (s2 V sm a b), seq_next (s3 V sm a b), seq_next (s4 V sm a b), seq_next (s5 V sm a b)]
      refine (seq_next (s6 V sm a b _ _ _ e1)).trans ?_
      refine (seq_next (s7 V sm a1 b1 _ _ _ e2)).trans ?_
      refine (seq_next (s8 V sm a2 b2 _ _ _ _ e3)).trans ?_
      refine (seq_next k9).trans ?_
      refine (seq_next (s10 V sm a5 b5 _ _ _ _ _ _ _ f0 f1 c0 c1)).trans ?_
      refine (seq_next (s11 V sm a5 b5 _ _ _ _ _ _ _ _ _)).trans ?_
      refine (seq_next k12).trans ?_
      refine (seq_next (s13 V sm a5 b5 r20 r21 r30 r31 _ _ _ _ _ _ _ _ _)).trans ?_
      refine (seq_next (s14 V sm a5 b5 _ _ _ _ _ _ _)).trans ?_
      rw [hb]
      refine (seq_next (s15 V sm a5 b5 _ _ _ _ _ _ _ _ _ _ _)).trans ?_
      refine (seq_next k16).trans ?_
      rfl
    case h2 => rfl
  obtain ⟨ρ, k1, k2⟩ := fin
  unfold g__law_right rawB
  rw [k1]
  show (match bor0 ρ with | some ys => OutB.ok _ ys | none => _) = _
  rw [k2]
end
end K56

set_option maxHeartbeats 1000000
namespace K56
open PySem PySem.Spec DL
theorem some_is (a b : Int) (xs : List D) (hne : xs ≠ []) (hl : xs.length ≤ 16777216) : ∃ (a' b' : Int) (x : D), g__law_some [.int a, .int b] [.lst xs] = .ok x [.int a', .int b'] ∧ x ∈ xs := some_ok a b xs hne hl
theorem mkpair_ok (a b most laps : Int) (h1 : 2 ≤ most) (h2 : most ≤ 1000) (h3 : 1 ≤ laps) (h4 : laps ≤ 100) :
    ∃ a' b' p n f c : Int, Valid p n f c ∧ g__law_pair [.int a, .int b] [.int most, .int laps] = .ok (pairD p n f c) [.int a', .int b'] := by
  obtain ⟨a1, b1, r1, e1, r10, r11⟩ := roll_is a b (most - 1) (drawn_of (by omega) (by omega))
  obtain ⟨a2, b2, r2, e2, r20, r21⟩ := roll_is a1 b1 laps (drawn_of (by omega) (by omega))
  obtain ⟨a3, b3, r3, e3, r30, r31⟩ := roll_is a2 b2 (2 + r1) (drawn_of (by omega) (by omega))
  obtain ⟨a4, b4, x4, e4, m4⟩ := some_is a3 b3 [.int 0, .int 1, .int ((2 + r1) / 4), .int r3] (by simp) (by simp)
  obtain ⟨f, rfl, hf⟩ : ∃ f : Int, x4 = .int f ∧ 0 ≤ f := by
    simp only [List.mem_cons, List.not_mem_nil, or_false] at m4
    rcases m4 with rfl | rfl | rfl | rfl
    · exact ⟨0, rfl, by omega⟩
    · exact ⟨1, rfl, by omega⟩
    · exact ⟨_, rfl, by omega⟩
    · exact ⟨_, rfl, r30⟩
  obtain ⟨a5, b5, r5, e5, r50, r51⟩ := roll_is a4 b4 (2 + r1) (drawn_of (by omega) (by omega))
  obtain ⟨g, hg⟩ : ∃ g : Int, g = (if (2 + r1) / 2 - f > 0 then (2 + r1) / 2 - f else 0) := ⟨_, rfl⟩
  obtain ⟨g2, hg2⟩ : ∃ g2 : Int, g2 = (if g - 1 > 0 then g - 1 else 0) := ⟨_, rfl⟩
  obtain ⟨a6, b6, x6, e6, m6⟩ := some_is a5 b5 [.int 0, .int g, .int (g + 1), .int g2, .int r5] (by simp) (by simp)
  have g0 : 0 ≤ g := by rw [hg]; split <;> omega
  have g20 : 0 ≤ g2 := by rw [hg2]; split <;> omega
  obtain ⟨c, rfl, hc⟩ : ∃ c : Int, x6 = .int c ∧ 0 ≤ c := by
    simp only [List.mem_cons, List.not_mem_nil, or_false] at m6
    rcases m6 with rfl | rfl | rfl | rfl | rfl
    · exact ⟨0, rfl, by omega⟩
    · exact ⟨_, rfl, g0⟩
    · exact ⟨_, rfl, by omega⟩
    · exact ⟨_, rfl, g20⟩
    · exact ⟨_, rfl, r50⟩
  obtain ⟨f', hf'⟩ : ∃ f' : Int, f' = (if 1000 < f then 1000 else f) := ⟨_, rfl⟩
  obtain ⟨c', hc'⟩ : ∃ c' : Int, c' = (if 1000 < c then 1000 else c) := ⟨_, rfl⟩
  have l2 : Nat.log2 2 < 9000 := by decide
  have l4 : Nat.log2 4 < 9000 := by decide
  refine ⟨a6, b6, 2 + r1, 1 + r2, f', c', ⟨by omega, by omega, by omega, by omega, by rw [hf']; split <;> omega, by rw [hf']; split <;> omega, by rw [hc']; split <;> omega, by rw [hc']; split <;> omega⟩, ?_⟩
  have k1 : S1__law_pair (some (.bor [.int a, .int b]) :: valsR 7 [.int most, .int laps]) = .next [some (.bor [.int a2, .int b2]), some (.val (.int most)), some (.val (.int laps)), some (.val (.int (2 + r1))), some (.val (.int (1 + r2))), none, none, none] := by
    simp [S1__law_pair, DL.Res.bind, DL.Arg.res, DL.sBind, DL.Rho.cont, DL.Rho.put, DL.frz1, DL.frzL, DL.dVar, DL.dC, DL.resB, DL.resU, DL.dO2, DL.dO1, DL.resL, DL.resC, DL.dCB, DL.aNil, DL.aCons, DL.dDisp, DL.oNone, DL.oSome, DL.dSlice, DL.tTru, DL.tBl, DL.tNotD, DL.tAndD, DL.tOrD, DL.tCmpD, DL.tChn, DL.dChn, DL.dAndV, DL.dOrV, DL.dNotV, DL.dIf, DL.fDisp, DL.asL, DL.fO2, DL.fCB, DL.dOfF, DL.sNext, DL.sSeq, DL.sSet, DL.sSetO, DL.sRet, DL.sRetN, DL.sDrop, DL.sIf, DL.sApp, DL.sItem, DL.dPopAt, DL.gN, DL.gsNil, DL.gsCons, DL.gT, DL.sAsg, DL.pNil, DL.pVal, DL.pOwn, DL.putS, DL.sPar, DL.iSeq, DL.iRg1, DL.iRg2, DL.iZip, DL.iEnumL, DL.tYesD, DL.bor0, DL.outR, DL.callK, DL.dCall, DL.dCall0, DL.callB, DL.dCallB, DL.dCallL, DL.sExc, DL.iLst, DL.fCall, DL.lookS, DL.rawN, DL.rawB, DL.rawF, DL.valsR, DL.D.tru, DL.dAdd, DL.dSub, DL.dMul, DL.dFdiv, DL.dMod, DL.dNeg, DL.dCmp, DL.dIs, DL.dIsNot, DL.D.isNon, DL.dIx, DL.dBack, DL.bLen, DL.bAbs, DL.bInt, DL.bTuple, DL.bList, DL.bIsa, DL.isaOf, DL.D.kind, e1, e2]
  have k2 : S2__law_pair [some (.bor [.int a2, .int b2]), some (.val (.int most)), some (.val (.int laps)), some (.val (.int (2 + r1))), some (.val (.int (1 + r2))), none, none, none] = .next [some (.bor [.int a4, .int b4]), some (.val (.int most)), some (.val (.int laps)), some (.val (.int (2 + r1))), some (.val (.int (1 + r2))), some (.val (.int f)), none, none] := by
    simp [S2__law_pair, DL.Res.bind, DL.Arg.res, DL.sBind, DL.Rho.cont, DL.Rho.put, DL.frz1, DL.frzL, DL.dVar, DL.dC, DL.resB, DL.resU, DL.dO2, DL.dO1, DL.resL, DL.resC, DL.dCB, DL.aNil, DL.aCons, DL.dDisp, DL.oNone, DL.oSome, DL.dSlice, DL.tTru, DL.tBl, DL.tNotD, DL.tAndD, DL.tOrD, DL.tCmpD, DL.tChn, DL.dChn, DL.dAndV, DL.dOrV, DL.dNotV, DL.dIf, DL.fDisp, DL.asL, DL.fO2, DL.fCB, DL.dOfF, DL.sNext, DL.sSeq, DL.sSet, DL.sSetO, DL.sRet, DL.sRetN, DL.sDrop, DL.sIf, DL.sApp, DL.sItem, DL.dPopAt, DL.gN, DL.gsNil, DL.gsCons, DL.gT, DL.sAsg, DL.pNil, DL.pVal, DL.pOwn, DL.putS, DL.sPar, DL.iSeq, DL.iRg1, DL.iRg2, DL.iZip, DL.iEnumL, DL.tYesD, DL.bor0, DL.outR, DL.callK, DL.dCall, DL.dCall0, DL.callB, DL.dCallB, DL.dCallL, DL.sExc, DL.iLst, DL.fCall, DL.lookS, DL.rawN, DL.rawB, DL.rawF, DL.valsR, DL.D.tru, DL.dAdd, DL.dSub, DL.dMul, DL.dFdiv, DL.dMod, DL.dNeg, DL.dCmp, DL.dIs, DL.dIsNot, DL.D.isNon, DL.dIx, DL.dBack, DL.bLen, DL.bAbs, DL.bInt, DL.bTuple, DL.bList, DL.bIsa, DL.isaOf, DL.D.kind, e3, e4, l4]
  have k3 : S3__law_pair [some (.bor [.int a4, .int b4]), some (.val (.int most)), some (.val (.int laps)), some (.val (.int (2 + r1))), some (.val (.int (1 + r2))), some (.val (.int f)), none, none] = .next [some (.bor [.int a4, .int b4]), some (.val (.int most)), some (.val (.int laps)), some (.val (.int (2 + r1))), some (.val (.int (1 + r2))), some (.val (.int f)), some (.val (.int g)), none] := by
    have q : bMax [.int 0, .int ((2 + r1) / 2 - f)] = some (.int g) := by simp only [bMax, hg]
    simp [S3__law_pair, DL.Res.bind, DL.Arg.res, DL.sBind, DL.Rho.cont, DL.Rho.put, DL.frz1, DL.frzL, DL.dVar, DL.dC, DL.resB, DL.resU, DL.dO2, DL.dO1, DL.resL, DL.resC, DL.dCB, DL.aNil, DL.aCons, DL.dDisp, DL.oNone, DL.oSome, DL.dSlice, DL.tTru, DL.tBl, DL.tNotD, DL.tAndD, DL.tOrD, DL.tCmpD, DL.tChn, DL.dChn, DL.dAndV, DL.dOrV, DL.dNotV, DL.dIf, DL.fDisp, DL.asL, DL.fO2, DL.fCB, DL.dOfF, DL.sNext, DL.sSeq, DL.sSet, DL.sSetO, DL.sRet, DL.sRetN, DL.sDrop, DL.sIf, DL.sApp, DL.sItem, DL.dPopAt, DL.gN, DL.gsNil, DL.gsCons, DL.gT, DL.sAsg, DL.pNil, DL.pVal, DL.pOwn, DL.putS, DL.sPar, DL.iSeq, DL.iRg1, DL.iRg2, DL.iZip, DL.iEnumL, DL.tYesD, DL.bor0, DL.outR, DL.callK, DL.dCall, DL.dCall0, DL.callB, DL.dCallB, DL.dCallL, DL.sExc, DL.iLst, DL.fCall, DL.lookS, DL.rawN, DL.rawB, DL.rawF, DL.valsR, DL.D.tru, DL.dAdd, DL.dSub, DL.dMul, DL.dFdiv, DL.dMod, DL.dNeg, DL.dCmp, DL.dIs, DL.dIsNot, DL.D.isNon, DL.dIx, DL.dBack, DL.bLen, DL.bAbs, DL.bInt, DL.bTuple, DL.bList, DL.bIsa, DL.isaOf, DL.D.kind, q, l2]
  have k4 : S4__law_pair [some (.bor [.int a4, .int b4]), some (.val (.int most)), some (.val (.int laps)), some (.val (.int (2 + r1))), some (.val (.int (1 + r2))), some (.val (.int f)), some (.val (.int g)), none] = .next [some (.bor [.int a6, .int b6]), some (.val (.int most)), some (.val (.int laps)), some (.val (.int (2 + r1))), some (.val (.int (1 + r2))), some (.val (.int f)), some (.val (.int g)), some (.val (.int c))] := by
    have q : bMax [.int 0, .int (g - 1)] = some (.int g2) := by simp only [bMax, hg2]
    simp [S4__law_pair, DL.Res.bind, DL.Arg.res, DL.sBind, DL.Rho.cont, DL.Rho.put, DL.frz1, DL.frzL, DL.dVar, DL.dC, DL.resB, DL.resU, DL.dO2, DL.dO1, DL.resL, DL.resC, DL.dCB, DL.aNil, DL.aCons, DL.dDisp, DL.oNone, DL.oSome, DL.dSlice, DL.tTru, DL.tBl, DL.tNotD, DL.tAndD, DL.tOrD, DL.tCmpD, DL.tChn, DL.dChn, DL.dAndV, DL.dOrV, DL.dNotV, DL.dIf, DL.fDisp, DL.asL, DL.fO2, DL.fCB, DL.dOfF, DL.sNext, DL.sSeq, DL.sSet, DL.sSetO, DL.sRet, DL.sRetN, DL.sDrop, DL.sIf, DL.sApp, DL.sItem, DL.dPopAt, DL.gN, DL.gsNil, DL.gsCons, DL.gT, DL.sAsg, DL.pNil, DL.pVal, DL.pOwn, DL.putS, DL.sPar, DL.iSeq, DL.iRg1, DL.iRg2, DL.iZip, DL.iEnumL, DL.tYesD, DL.bor0, DL.outR, DL.callK, DL.dCall, DL.dCall0, DL.callB, DL.dCallB, DL.dCallL, DL.sExc, DL.iLst, DL.fCall, DL.lookS, DL.rawN, DL.rawB, DL.rawF, DL.valsR, DL.D.tru, DL.dAdd, DL.dSub, DL.dMul, DL.dFdiv, DL.dMod, DL.dNeg, DL.dCmp, DL.dIs, DL.dIsNot, DL.D.isNon, DL.dIx, DL.dBack, DL.bLen, DL.bAbs, DL.bInt, DL.bTuple, DL.bList, DL.bIsa, DL.isaOf, DL.D.kind, q, e5, e6]
  have k5 : S5__law_pair [some (.bor [.int a6, .int b6]), some (.val (.int most)), some (.val (.int laps)), some (.val (.int (2 + r1))), some (.val (.int (1 + r2))), some (.val (.int f)), some (.val (.int g)), some (.val (.int c))] = .ret (pairD (2 + r1) (1 + r2) f' c') [some (.bor [.int a6, .int b6]), some (.val (.int most)), some (.val (.int laps)), some (.val (.int (2 + r1))), some (.val (.int (1 + r2))), some (.val (.int f)), some (.val (.int g)), some (.val (.int c))] := by
    have q1 : bMin [.int f, .int 1000] = some (.int f') := by simp only [bMin, hf']
    have q2 : bMin [.int c, .int 1000] = some (.int c') := by simp only [bMin, hc']
    simp [S5__law_pair, DL.Res.bind, DL.Arg.res, DL.sBind, DL.Rho.cont, DL.Rho.put, DL.frz1, DL.frzL, DL.dVar, DL.dC, DL.resB, DL.resU, DL.dO2, DL.dO1, DL.resL, DL.resC, DL.dCB, DL.aNil, DL.aCons, DL.dDisp, DL.oNone, DL.oSome, DL.dSlice, DL.tTru, DL.tBl, DL.tNotD, DL.tAndD, DL.tOrD, DL.tCmpD, DL.tChn, DL.dChn, DL.dAndV, DL.dOrV, DL.dNotV, DL.dIf, DL.fDisp, DL.asL, DL.fO2, DL.fCB, DL.dOfF, DL.sNext, DL.sSeq, DL.sSet, DL.sSetO, DL.sRet, DL.sRetN, DL.sDrop, DL.sIf, DL.sApp, DL.sItem, DL.dPopAt, DL.gN, DL.gsNil, DL.gsCons, DL.gT, DL.sAsg, DL.pNil, DL.pVal, DL.pOwn, DL.putS, DL.sPar, DL.iSeq, DL.iRg1, DL.iRg2, DL.iZip, DL.iEnumL, DL.tYesD, DL.bor0, DL.outR, DL.callK, DL.dCall, DL.dCall0, DL.callB, DL.dCallB, DL.dCallL, DL.sExc, DL.iLst, DL.fCall, DL.lookS, DL.rawN, DL.rawB, DL.rawF, DL.valsR, DL.D.tru, DL.dAdd, DL.dSub, DL.dMul, DL.dFdiv, DL.dMod, DL.dNeg, DL.dCmp, DL.dIs, DL.dIsNot, DL.D.isNon, DL.dIx, DL.dBack, DL.bLen, DL.bAbs, DL.bInt, DL.bTuple, DL.bList, DL.bIsa, DL.isaOf, DL.D.kind, q1, q2]
  unfold g__law_pair rawB b__law_pair
  rw [seq_next k1, seq_next k2, seq_next k3, seq_next k4, k5]
  rfl
theorem errors_true : g__law_errors [] = .ok (.bl true) := by kernel_rfl
def dueG : D := .lst [.bl true, .bl false, .bl true, .bl false, .tup [.int 0, .int 1], .tup [.int 99], .tup [.int 0, .int 1, .int 2, .int 98, .int 99]]
theorem great_pre (a b : Int) (k : DSf) : sSeq S1__law_great (sSeq S2__law_great (sSeq S3__law_great (sSeq S4__law_great (sSeq S5__law_great (sSeq S6__law_great k))))) (some (.bor [.int a, .int b]) :: valsR 2 []) = k [some (.bor [.int a, .int b]), some (.val dueG), some (.val dueG)] := by kernel_rfl
theorem great_ok (a b : Int) : ∃ a' b' : Int, g__law_great [.int a, .int b] [] = .ok (.bl true) [.int a', .int b'] := by
  obtain ⟨a1, b1, e1⟩ := right_ok (p := 1000) (n := 100) (f := 250) (c := 249) ⟨by decide, by decide, by decide, by decide, by decide, by decide, by decide, by decide⟩ false a b
  obtain ⟨a2, b2, e2⟩ := right_ok (p := 999) (n := 100) (f := 300) (c := 200) ⟨by decide, by decide, by decide, by decide, by decide, by decide, by decide, by decide⟩ false a1 b1
  refine ⟨a2, b2, ?_⟩
  unfold g__law_great rawB b__law_great
  rw [great_pre]
  simp [S7__law_great, DL.Res.bind, DL.Arg.res, DL.sBind, DL.Rho.cont, DL.Rho.put, DL.frz1, DL.frzL, DL.dVar, DL.dC, DL.resB, DL.resU, DL.dO2, DL.dO1, DL.resL, DL.resC, DL.dCB, DL.aNil, DL.aCons, DL.dDisp, DL.oNone, DL.oSome, DL.dSlice, DL.tTru, DL.tBl, DL.tNotD, DL.tAndD, DL.tOrD, DL.tCmpD, DL.tChn, DL.dChn, DL.dAndV, DL.dOrV, DL.dNotV, DL.dIf, DL.fDisp, DL.asL, DL.fO2, DL.fCB, DL.dOfF, DL.sNext, DL.sSeq, DL.sSet, DL.sSetO, DL.sRet, DL.sRetN, DL.sDrop, DL.sIf, DL.sApp, DL.sItem, DL.dPopAt, DL.gN, DL.gsNil, DL.gsCons, DL.gT, DL.sAsg, DL.pNil, DL.pVal, DL.pOwn, DL.putS, DL.sPar, DL.iSeq, DL.iRg1, DL.iRg2, DL.iZip, DL.iEnumL, DL.tYesD, DL.bor0, DL.outR, DL.callK, DL.dCall, DL.dCall0, DL.callB, DL.dCallB, DL.dCallL, DL.sExc, DL.iLst, DL.fCall, DL.lookS, DL.rawN, DL.rawB, DL.rawF, DL.valsR, DL.D.tru, DL.dAdd, DL.dSub, DL.dMul, DL.dFdiv, DL.dMod, DL.dNeg, DL.dCmp, DL.dIs, DL.dIsNot, DL.D.isNon, DL.dIx, DL.dBack, DL.bLen, DL.bAbs, DL.bInt, DL.bTuple, DL.bList, DL.bIsa, DL.isaOf, DL.D.kind, e1, e2]
section
variable (ns : List Int)
theorem law_loop (s3 s4 : Option Slot) : ∀ (ds : List D) (a b : Int) (s2 : Option Slot), ∃ (a' b' : Int) (s2' : Option Slot), loopD (gN 2) L2_law ds [some (.val (.scr ns)), some (.own [.int a, .int b]), s2, s3, s4] = .next [some (.val (.scr ns)), some (.own [.int a', .int b']), s2', s3, s4]
  | [], a, b, s2 => ⟨a, b, s2, rfl⟩
  | d :: ds, a, b, s2 => by
    obtain ⟨a1, b1, p, n, f, c, V, e1⟩ := mkpair_ok a b 24 6 (by decide) (by decide) (by decide) (by decide)
    obtain ⟨a2, b2, e2⟩ := right_ok V true a1 b1
    obtain ⟨a3, b3, p', n', f', c', V', e3⟩ := mkpair_ok a2 b2 1000 100 (by decide) (by decide) (by decide) (by decide)
    obtain ⟨a4, b4, e4⟩ := right_ok V' false a3 b3
    obtain ⟨a', b', s2', e⟩ := law_loop s3 s4 ds a4 b4 (some (.val d))
    refine ⟨a', b', s2', (loop_gN ?_).trans e⟩
    simp [L2_law, DL.Res.bind, DL.Arg.res, DL.sBind, DL.Rho.cont, DL.Rho.put, DL.frz1, DL.frzL, DL.dVar, DL.dC, DL.resB, DL.resU, DL.dO2, DL.dO1, DL.resL, DL.resC, DL.dCB, DL.aNil, DL.aCons, DL.dDisp, DL.oNone, DL.oSome, DL.dSlice, DL.tTru, DL.tBl, DL.tNotD, DL.tAndD, DL.tOrD, DL.tCmpD, DL.tChn, DL.dChn, DL.dAndV, DL.dOrV, DL.dNotV, DL.dIf, DL.fDisp, DL.asL, DL.fO2, DL.fCB, DL.dOfF, DL.sNext, DL.sSeq, DL.sSet, DL.sSetO, DL.sRet, DL.sRetN, DL.sDrop, DL.sIf, DL.sApp, DL.sItem, DL.dPopAt, DL.gN, DL.gsNil, DL.gsCons, DL.gT, DL.sAsg, DL.pNil, DL.pVal, DL.pOwn, DL.putS, DL.sPar, DL.iSeq, DL.iRg1, DL.iRg2, DL.iZip, DL.iEnumL, DL.tYesD, DL.bor0, DL.outR, DL.callK, DL.dCall, DL.dCall0, DL.callB, DL.dCallB, DL.dCallL, DL.sExc, DL.iLst, DL.fCall, DL.lookS, DL.rawN, DL.rawB, DL.rawF, DL.valsR, DL.D.tru, DL.dAdd, DL.dSub, DL.dMul, DL.dFdiv, DL.dMod, DL.dNeg, DL.dCmp, DL.dIs, DL.dIsNot, DL.D.isNon, DL.dIx, DL.dBack, DL.bLen, DL.bAbs, DL.bInt, DL.bTuple, DL.bList, DL.bIsa, DL.isaOf, DL.D.kind, e1, e2, e3, e4]
structure VP (d : D) : Prop where
  ex : ∃ p n f c : Int, Valid p n f c ∧ d = pairD p n f c
theorem law_loop2 (s2 s3 : Option Slot) : ∀ (ds : List D) (a b : Int) (s4 : Option Slot), (∀ d ∈ ds, VP d) → ∃ (a' b' : Int) (s4' : Option Slot), loopD (gN 4) L1_law ds [some (.val (.scr ns)), some (.own [.int a, .int b]), s2, s3, s4] = .next [some (.val (.scr ns)), some (.own [.int a', .int b']), s2, s3, s4']
  | [], a, b, s4, _ => ⟨a, b, s4, rfl⟩
  | d :: ds, a, b, s4, H => by
    obtain ⟨p, n, f, c, V, rfl⟩ := (H d List.mem_cons_self).ex
    obtain ⟨a2, b2, e2⟩ := right_ok V true a b
    obtain ⟨a', b', s4', e⟩ := law_loop2 s2 s3 ds a2 b2 (some (.val (pairD p n f c))) fun d hd => H d (List.mem_cons_of_mem _ hd)
    refine ⟨a', b', s4', (loop_gN ?_).trans e⟩
    simp [L1_law, DL.Res.bind, DL.Arg.res, DL.sBind, DL.Rho.cont, DL.Rho.put, DL.frz1, DL.frzL, DL.dVar, DL.dC, DL.resB, DL.resU, DL.dO2, DL.dO1, DL.resL, DL.resC, DL.dCB, DL.aNil, DL.aCons, DL.dDisp, DL.oNone, DL.oSome, DL.dSlice, DL.tTru, DL.tBl, DL.tNotD, DL.tAndD, DL.tOrD, DL.tCmpD, DL.tChn, DL.dChn, DL.dAndV, DL.dOrV, DL.dNotV, DL.dIf, DL.fDisp, DL.asL, DL.fO2, DL.fCB, DL.dOfF, DL.sNext, DL.sSeq, DL.sSet, DL.sSetO, DL.sRet, DL.sRetN, DL.sDrop, DL.sIf, DL.sApp, DL.sItem, DL.dPopAt, DL.gN, DL.gsNil, DL.gsCons, DL.gT, DL.sAsg, DL.pNil, DL.pVal, DL.pOwn, DL.putS, DL.sPar, DL.iSeq, DL.iRg1, DL.iRg2, DL.iZip, DL.iEnumL, DL.tYesD, DL.bor0, DL.outR, DL.callK, DL.dCall, DL.dCall0, DL.callB, DL.dCallB, DL.dCallL, DL.sExc, DL.iLst, DL.fCall, DL.lookS, DL.rawN, DL.rawB, DL.rawF, DL.valsR, DL.D.tru, DL.dAdd, DL.dSub, DL.dMul, DL.dFdiv, DL.dMod, DL.dNeg, DL.dCmp, DL.dIs, DL.dIsNot, DL.D.isNon, DL.dIx, DL.dBack, DL.bLen, DL.bAbs, DL.bInt, DL.bTuple, DL.bList, DL.bIsa, DL.isaOf, DL.D.kind, e2]
theorem law_mid (x y s2 : Option Slot) (k : DSf) : ∃ z, sSeq S3_law (sSeq S4_law (sSeq S5_law (sSeq S6_law (sSeq S7_law (sSeq S8_law (sSeq S9_law k)))))) [x, y, s2, none, none] = k [x, y, s2, z, none] := ⟨some (.val (.lst [.bl true, .bl false, .tup [.int 0, .int 1], .tup [.int 0, .int 1], .tup [.int 0, .int 1], .tup [], .tup [.int 0, .int 1, .int 2], .tup [.int 0]])), by kernel_rfl⟩
theorem cup_is (h : ns.length ≤ 63) : ∃ a b : Int, g__law_cup [.scr ns] = some [.int a, .int b] := cup_ok ns h
theorem law_true (h : ns.length ≤ 63) : g_law [.scr ns] = .ok (.bl true) := by
  obtain ⟨a0, b0, e0⟩ := cup_is ns h
  have k1 : S1_law (valsR 5 [.scr ns]) = .next [some (.val (.scr ns)), some (.own [.int a0, .int b0]), none, none, none] := by
    simp [S1_law, DL.Res.bind, DL.Arg.res, DL.sBind, DL.Rho.cont, DL.Rho.put, DL.frz1, DL.frzL, DL.dVar, DL.dC, DL.resB, DL.resU, DL.dO2, DL.dO1, DL.resL, DL.resC, DL.dCB, DL.aNil, DL.aCons, DL.dDisp, DL.oNone, DL.oSome, DL.dSlice, DL.tTru, DL.tBl, DL.tNotD, DL.tAndD, DL.tOrD, DL.tCmpD, DL.tChn, DL.dChn, DL.dAndV, DL.dOrV, DL.dNotV, DL.dIf, DL.fDisp, DL.asL, DL.fO2, DL.fCB, DL.dOfF, DL.sNext, DL.sSeq, DL.sSet, DL.sSetO, DL.sRet, DL.sRetN, DL.sDrop, DL.sIf, DL.sApp, DL.sItem, DL.dPopAt, DL.gN, DL.gsNil, DL.gsCons, DL.gT, DL.sAsg, DL.pNil, DL.pVal, DL.pOwn, DL.putS, DL.sPar, DL.iSeq, DL.iRg1, DL.iRg2, DL.iZip, DL.iEnumL, DL.tYesD, DL.bor0, DL.outR, DL.callK, DL.dCall, DL.dCall0, DL.callB, DL.dCallB, DL.dCallL, DL.sExc, DL.iLst, DL.fCall, DL.lookS, DL.rawN, DL.rawB, DL.rawF, DL.valsR, DL.D.tru, DL.dAdd, DL.dSub, DL.dMul, DL.dFdiv, DL.dMod, DL.dNeg, DL.dCmp, DL.dIs, DL.dIsNot, DL.D.isNon, DL.dIx, DL.dBack, DL.bLen, DL.bAbs, DL.bInt, DL.bTuple, DL.bList, DL.bIsa, DL.isaOf, DL.D.kind, e0, List.replicate]
  obtain ⟨a1, b1, s2, e1⟩ := law_loop ns none none (rgD 0 6) a0 b0 none
  have k2 : S2_law [some (.val (.scr ns)), some (.own [.int a0, .int b0]), none, none, none] = .next [some (.val (.scr ns)), some (.own [.int a1, .int b1]), s2, none, none] := e1
  obtain ⟨z, e2⟩ := law_mid (some (.val (.scr ns))) (some (.own [.int a1, .int b1])) s2 (sSeq S10_law S11_law)
  obtain ⟨a2, b2, s4, e3⟩ := law_loop2 ns s2 z [pairD 2 2 0 0, pairD 2 2 0 1, pairD 3 2 1 0, pairD 3 2 1 1, pairD 12 5 1 5, pairD 13 4 3 3, pairD 5 1 9 9] a1 b1 none (fun d hd => by
    simp only [List.mem_cons, List.not_mem_nil, or_false] at hd
    rcases hd with rfl | rfl | rfl | rfl | rfl | rfl | rfl <;> exact ⟨_, _, _, _, ⟨by decide, by decide, by decide, by decide, by decide, by decide, by decide, by decide⟩, rfl⟩)
  have k10 : S10_law [some (.val (.scr ns)), some (.own [.int a1, .int b1]), s2, z, none] = .next [some (.val (.scr ns)), some (.own [.int a2, .int b2]), s2, z, s4] := e3
  obtain ⟨a3, b3, e4⟩ := great_ok a2 b2
  unfold g_law rawN b_law
  rw [seq_next k1, seq_next k2, e2, seq_next k10]
  simp [S11_law, DL.Res.bind, DL.Arg.res, DL.sBind, DL.Rho.cont, DL.Rho.put, DL.frz1, DL.frzL, DL.dVar, DL.dC, DL.resB, DL.resU, DL.dO2, DL.dO1, DL.resL, DL.resC, DL.dCB, DL.aNil, DL.aCons, DL.dDisp, DL.oNone, DL.oSome, DL.dSlice, DL.tTru, DL.tBl, DL.tNotD, DL.tAndD, DL.tOrD, DL.tCmpD, DL.tChn, DL.dChn, DL.dAndV, DL.dOrV, DL.dNotV, DL.dIf, DL.fDisp, DL.asL, DL.fO2, DL.fCB, DL.dOfF, DL.sNext, DL.sSeq, DL.sSet, DL.sSetO, DL.sRet, DL.sRetN, DL.sDrop, DL.sIf, DL.sApp, DL.sItem, DL.dPopAt, DL.gN, DL.gsNil, DL.gsCons, DL.gT, DL.sAsg, DL.pNil, DL.pVal, DL.pOwn, DL.putS, DL.sPar, DL.iSeq, DL.iRg1, DL.iRg2, DL.iZip, DL.iEnumL, DL.tYesD, DL.bor0, DL.outR, DL.callK, DL.dCall, DL.dCall0, DL.callB, DL.dCallB, DL.dCallL, DL.sExc, DL.iLst, DL.fCall, DL.lookS, DL.rawN, DL.rawB, DL.rawF, DL.valsR, DL.D.tru, DL.dAdd, DL.dSub, DL.dMul, DL.dFdiv, DL.dMod, DL.dNeg, DL.dCmp, DL.dIs, DL.dIsNot, DL.D.isNon, DL.dIx, DL.dBack, DL.bLen, DL.bAbs, DL.bInt, DL.bTuple, DL.bList, DL.bIsa, DL.isaOf, DL.D.kind, e4, errors_true]
end
end K56

set_option maxHeartbeats 0
open PySem PySem.W PySem.Calls PyProof.Rows
set_option maxRecDepth 100000 in
set_option maxHeartbeats 0 in
theorem PySem.Challenge.cw_wheelmark_k56_whole_coarse_and_fine_holds : PySem.Challenge.rw_wheelmark_k56_whole_coarse_and_fine.Holds := by
  w_on; o_law
  refine HandSHeadRun.head_any (r := OpenLaw.row PySem.Challenge.rw_wheelmark_k56_whole_coarse_and_fine) (q := view (OpenLaw.row PySem.Challenge.rw_wheelmark_k56_whole_coarse_and_fine).prog [34]) (H := K56.hkX) (ob := K56.obX) (M := 4000) (loose := K56.looseL) (d := HandSHeadRun.topDef (OpenLaw.row PySem.Challenge.rw_wheelmark_k56_whole_coarse_and_fine).prog 34) (kwd := []) K56.obX_eq
    (by kernel_rfl) (fun s => by kernel_rfl) K56.runX (by kernel_rfl) (by kernel_rfl) (by kernel_rfl) (by rfl) (by first | assumption | decide +kernel) (by decide +kernel) ⟨rfl, rfl, rfl, rfl, rfl, by decide +kernel⟩ ?hw ?hc
  case hw => w_witness2
  case hc =>
    refine LamX.walk_ofTsE (l := PySem.Challenge.rw_wheelmark_k56_whole_coarse_and_fine) (n := 63) (k := 12) (x := "script") (CX := fun w => L2N.CX (PySem.Challenge.rw_wheelmark_k56_whole_coarse_and_fine).prog w) rfl (by decide) (by kernel_rfl) ⟨rfl, by decide, by decide⟩ ?F ?G
    case G =>
      intro w H s e s1 z
      obtain ⟨_, _, _, _, _, _, _, _, _, _, _, _, z⟩ := z
      exact z
    case F =>
      intro w mg fa h Y N hmg0
      obtain ⟨K, KX, c⟩ := Y
      have hmg : mg ("law" : PySem.Str) = some (.ref fa) := by
        have e : (HandSHeadRun.topDef (OpenLaw.row PySem.Challenge.rw_wheelmark_k56_whole_coarse_and_fine).prog 34).name = ("law" : PySem.Str) := by kernel_rfl
        rw [← e]
        exact hmg0
      exact ⟨K, KX, K56.at_law KX N c hmg K56.law_true⟩

