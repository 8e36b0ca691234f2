import PyProof.Rows.All
import HandS.ForMost
import HandS.Exc
import HandS.TryOnly
import HandS.TryMany
import HandS.ExcOwn
import HandS.WordsExc
import HandS.Flow
import HandS.Deep
import HandS.Conv
import HandS.CallLocal
import HandS.CallSlots
import HandS.Small
import HandS.NoneIn
import HandS.TupAny
import KE.LtData
import HandS.Codes
import HandS.IsInst
import HandS.Defaults
import HandS.Words
import HandS.Ends
import HandS.EndBits
import HandS.HeadEnd
import HandS.Head0
import HandS.Head1
import HandS.Head2
import HandS.HeadHook1
import HandS.HeadHook2
import HandS.Style
import HandS.HeadHook3
import HandS.HeadHook4
import HandS.TupMul
import HandS.WideBits
import PySem.Challenge.RW_currentwebs_k71_whole_endless_rows
section
set_option Elab.async false
set_option linter.all false
set_option maxRecDepth 100000
/-! VL1: the value layer: deep data in slots, a store of shared lists; a def's body as a function of these. -/
namespace VL
open PySem PySem.Spec PyProof.Rows L2

/-- what a slot holds: data; a shared list by its number; a def of the module by its name; the script; a list of one's own -/
inductive SV where
  | d (x : PyData)
  | ref (n : Nat)
  | fn (x : Str)
  | scr (ns : List Int)
  | own (xs : List SV)
abbrev Rho := List (Option SV)
abbrev Sto := List (List SV)
inductive Res (α : Type) where
  | ok (a : α) (S : Sto)
  | exc (c : Str) (fs : List (Str × SV)) (S : Sto)
abbrev Mo (α : Type) := Sto → Option (Res α)
inductive Fl where
  | nx (ρ : Rho) (S : Sto)
  | rt (x : SV) (S : Sto)
  | bk (ρ : Rho) (S : Sto)
  | ct (ρ : Rho) (S : Sto)
  | exc (c : Str) (fs : List (Str × SV)) (ρ : Rho) (S : Sto)

/-! ### data in the heap -/
mutual
inductive Dq (K : PySem.W.Frag) (H : Hp) (F : Addr → Prop) : PyData → V → Prop
  | non : Dq K H F .none .non
  | bl (b : Bool) : Dq K H F (.bool b) (.bl b)
  | int (i : Int) : Dq K H F (.int i) (.int i)
  | str (x : Str) : Dq K H F (.str x) (.str x)
  | lst {a : Addr} {xs : List V} {ds : List PyData} : H a = some (.lst xs) → ¬ F a → xs.length ≤ sizeLine → DqL K H F ds xs → Dq K H F (.list ds) (.ref a)
  | tup {a : Addr} {xs : List V} {ds : List PyData} : H a = some (.tup xs) → ¬ F a → xs.length ≤ sizeLine → DqL K H F ds xs → Dq K H F (.tuple ds) (.ref a)
  | ctup {a : Addr} {xs : List V} {ds : List PyData} : SqT K (fun _ => none) a xs → xs.length ≤ sizeLine → DqL K H F ds xs → Dq K H F (.tuple ds) (.ref a)
inductive DqL (K : PySem.W.Frag) (H : Hp) (F : Addr → Prop) : List PyData → List V → Prop
  | nil : DqL K H F [] []
  | cons {d : PyData} {ds : List PyData} {v : V} {vs : List V} : Dq K H F d v → DqL K H F ds vs → DqL K H F (d :: ds) (v :: vs)
end

theorem SqT.const {K : PySem.W.Frag} {a : Addr} {xs : List V} (h : SqT K (fun _ => none) a xs) (H : Hp) : SqT K H a xs := by
  rcases h with h | h
  · rcases h with h | ⟨o, h⟩ <;> cases h
  · exact .inr h

theorem SqL.const {K : PySem.W.Frag} {a : Addr} {xs : List V} (h : SqL K (fun _ => none) a xs) (H : Hp) : SqL K H a xs := by
  rcases h with h | h
  · rcases h with h | ⟨o, h⟩ <;> cases h
  · exact .inr h

section
variable {K : PySem.W.Frag} {H H' : Hp} {F F' : Addr → Prop}
mutual
theorem Dq.mono (hF : ∀ a, F' a → F a ∨ H a = none) (hH : ∀ a o, H a = some o → ¬ F a → H' a = some o) : ∀ (d : PyData) (v : V), Dq K H F d v → Dq K H' F' d v
  | .none, _, h => by cases h; exact .non
  | .bool b, _, h => by cases h; exact .bl b
  | .int i, _, h => by cases h; exact .int i
  | .str x, _, h => by cases h; exact .str x
  | .list ds, _, h => by
    cases h with
    | lst r n l q =>
      refine .lst (hH _ _ r n) (fun z => ?_) l (DqL.mono hF hH ds _ q)
      rcases hF _ z with z | z
      · exact n z
      · rw [r] at z; cases z
  | .tuple ds, _, h => by
    cases h with
    | tup r n l q =>
      refine .tup (hH _ _ r n) (fun z => ?_) l (DqL.mono hF hH ds _ q)
      rcases hF _ z with z | z
      · exact n z
      · rw [r] at z; cases z
    | ctup r l q => exact .ctup r l (DqL.mono hF hH ds _ q)
  | .dict _, _, h => by cases h
theorem DqL.mono (hF : ∀ a, F' a → F a ∨ H a = none) (hH : ∀ a o, H a = some o → ¬ F a → H' a = some o) : ∀ (ds : List PyData) (vs : List V), DqL K H F ds vs → DqL K H' F' ds vs
  | [], _, h => by cases h; exact .nil
  | d :: ds, _, h => by
    cases h with
    | cons h1 h2 => exact .cons (Dq.mono hF hH d _ h1) (DqL.mono hF hH ds _ h2)
end
mutual
theorem Dq.dp : ∀ (d : PyData) (v : V), Dq K H F d v → Dp K H v d
  | .none, _, h => by cases h; exact .non
  | .bool b, _, h => by cases h; exact .bl b
  | .int i, _, h => by cases h; exact .int i
  | .str x, _, h => by cases h; exact .str x
  | .list ds, _, h => by
    cases h with
    | lst r n l q => exact .lst (.inl (.inl r)) (DqL.dp ds _ q)
  | .tuple ds, _, h => by
    cases h with
    | tup r n l q => exact .tup (.inl (.inl r)) (DqL.dp ds _ q)
    | ctup r l q => exact .tup (SqT.const r H) (DqL.dp ds _ q)
  | .dict _, _, h => by cases h
theorem DqL.dp : ∀ (ds : List PyData) (vs : List V), DqL K H F ds vs → DpAll K H vs ds
  | [], _, h => by cases h; exact .nil
  | d :: ds, _, h => by
    cases h with
    | cons h1 h2 => exact .cons (Dq.dp d _ h1) (DqL.dp ds _ h2)
end
theorem DqL.length : ∀ {ds : List PyData} {vs : List V}, DqL K H F ds vs → vs.length = ds.length
  | [], _, h => by cases h; rfl
  | d :: ds, _, h => by
    cases h with
    | cons h1 h2 => simp [DqL.length h2]
theorem DqL.get : ∀ {ds : List PyData} {vs : List V} {i : Nat} {d : PyData}, DqL K H F ds vs → ds[i]? = some d → ∃ v, vs[i]? = some v ∧ Dq K H F d v
  | [], _, _, _, _, e => by simp at e
  | d :: ds, _, i, x, h, e => by
    cases h with
    | cons h1 h2 =>
      cases i with
      | zero => simp at e; subst e; exact ⟨_, rfl, h1⟩
      | succ i => simpa using DqL.get h2 (by simpa using e)
theorem DqL.get' : ∀ {ds : List PyData} {vs : List V} {i : Nat} {v : V}, DqL K H F ds vs → vs[i]? = some v → ∃ d, ds[i]? = some d ∧ Dq K H F d v
  | [], _, i, _, h, e => by cases h; simp at e
  | d :: ds, _, i, x, h, e => by
    cases h with
    | cons h1 h2 =>
      cases i with
      | zero => simp at e; subst e; exact ⟨_, rfl, h1⟩
      | succ i => simpa using DqL.get' h2 (by simpa using e)
theorem DqL.app : ∀ {ds es : List PyData} {vs us : List V}, DqL K H F ds vs → DqL K H F es us → DqL K H F (ds ++ es) (vs ++ us)
  | [], _, _, _, h, q => by cases h; exact q
  | d :: ds, _, _, _, h, q => by
    cases h with
    | cons h1 h2 => exact .cons h1 (DqL.app h2 q)
theorem DqL.drop : ∀ {ds : List PyData} {vs : List V} (n : Nat), DqL K H F ds vs → DqL K H F (ds.drop n) (vs.drop n)
  | _, _, 0, h => h
  | [], _, n + 1, h => by cases h; exact .nil
  | d :: ds, _, n + 1, h => by
    cases h with
    | cons h1 h2 => exact DqL.drop n h2
theorem DqL.take : ∀ {ds : List PyData} {vs : List V} (n : Nat), DqL K H F ds vs → DqL K H F (ds.take n) (vs.take n)
  | _, _, 0, _ => .nil
  | [], _, n + 1, h => by cases h; exact .nil
  | d :: ds, _, n + 1, h => by
    cases h with
    | cons h1 h2 => exact .cons h1 (DqL.take n h2)
/-- it is one value's data only: two readings of the ints -/
theorem DqL.ints : ∀ {ns : List Int} {vs : List V}, DqL K H F (ns.map PyData.int) vs → vs = ns.map V.int
  | [], _, h => by cases h; rfl
  | n :: ns, _, h => by
    cases h with
    | cons h1 h2 => cases h1; simp [DqL.ints h2]
end

/-! ### slots' values in the heap: g the addresses of one's own lists within -/
mutual
inductive Rs (K : PySem.W.Frag) (mg : Str → Option Value) (H : Hp) (A : List Addr) (F : Addr → Prop) : SV → V → List Addr → Prop
  | d {x : PyData} {v : V} : Dq K H F x v → Rs K mg H A F (.d x) v []
  | ref {n : Nat} {a : Addr} : A[n]? = some a → Rs K mg H A F (.ref n) (.ref a) []
  | fn {x : Str} {a : Addr} : mg x = some (.ref a) → Rs K mg H A F (.fn x) (.ref a) []
  | scr {a : Addr} {o : Obj} {ns : List Int} : H a = some (.frz o (.lst (ns.map V.int))) → ¬ F a → ns.length ≤ sizeLine → Rs K mg H A F (.scr ns) (.ref a) []
  | scrK {a : Addr} {ns : List Int} : SqL K (fun _ => none) a (ns.map V.int) → ns.length ≤ sizeLine → Rs K mg H A F (.scr ns) (.ref a) []
  | own {a : Addr} {xs : List SV} {vs : List V} {g : List Addr} : H a = some (.lst vs) → vs.length ≤ sizeLine → RsL K mg H A F xs vs g → Rs K mg H A F (.own xs) (.ref a) (a :: g)
inductive RsL (K : PySem.W.Frag) (mg : Str → Option Value) (H : Hp) (A : List Addr) (F : Addr → Prop) : List SV → List V → List Addr → Prop
  | nil : RsL K mg H A F [] [] []
  | cons {x : SV} {xs : List SV} {v : V} {vs : List V} {g g' : List Addr} : Rs K mg H A F x v g → RsL K mg H A F xs vs g' → RsL K mg H A F (x :: xs) (v :: vs) (g ++ g')
end
section
variable {K : PySem.W.Frag} {mg : Str → Option Value} {H H' : Hp} {A A' : List Addr} {F F' : Addr → Prop}
mutual
theorem Rs.mono (hA : ∀ (n : Nat) a, A[n]? = some a → A'[n]? = some a) (hF : ∀ a, F' a → F a ∨ H a = none) (hH : ∀ a o, H a = some o → ¬ F a → H' a = some o) :
    ∀ (x : SV) (v : V) (g : List Addr), (∀ a ∈ g, ∀ o, H a = some o → H' a = some o) → Rs K mg H A F x v g → Rs K mg H' A' F' x v g
  | .d x, _, _, _, h => by cases h with | d h => exact .d (Dq.mono hF hH _ _ h)
  | .ref n, _, _, _, h => by cases h with | ref h => exact .ref (hA _ _ h)
  | .fn x, _, _, _, h => by cases h with | fn h => exact .fn h
  | .scr ns, _, _, _, h => by
    cases h with
    | scr r n l =>
      refine .scr (hH _ _ r n) (fun z => ?_) l
      rcases hF _ z with z | z
      · exact n z
      · rw [r] at z; cases z
    | scrK r l => exact .scrK r l
  | .own xs, _, _, hg, h => by
    cases h with
    | own e l h => exact .own (hg _ List.mem_cons_self _ e) l (RsL.mono hA hF hH xs _ _ (fun a m o q => hg a (List.mem_cons_of_mem _ m) o q) h)
theorem RsL.mono (hA : ∀ (n : Nat) a, A[n]? = some a → A'[n]? = some a) (hF : ∀ a, F' a → F a ∨ H a = none) (hH : ∀ a o, H a = some o → ¬ F a → H' a = some o) :
    ∀ (xs : List SV) (vs : List V) (g : List Addr), (∀ a ∈ g, ∀ o, H a = some o → H' a = some o) → RsL K mg H A F xs vs g → RsL K mg H' A' F' xs vs g
  | [], _, _, _, h => by cases h; exact .nil
  | x :: xs, _, _, hg, h => by
    cases h with
    | cons h1 h2 => exact .cons (Rs.mono hA hF hH x _ _ (fun a m => hg a (List.mem_append_left _ m)) h1) (RsL.mono hA hF hH xs _ _ (fun a m => hg a (List.mem_append_right _ m)) h2)
end
theorem RsL.length : ∀ {xs : List SV} {vs : List V} {g : List Addr}, RsL K mg H A F xs vs g → vs.length = xs.length
  | [], _, _, h => by cases h; rfl
  | x :: xs, _, _, h => by
    cases h with
    | cons h1 h2 => simp [RsL.length h2]
theorem RsL.app : ∀ {xs ys : List SV} {vs us : List V} {g g' : List Addr}, RsL K mg H A F xs vs g → RsL K mg H A F ys us g' → RsL K mg H A F (xs ++ ys) (vs ++ us) (g ++ g')
  | [], _, _, _, _, _, h, q => by cases h; exact q
  | x :: xs, _, _, _, _, _, h, q => by
    cases h with
    | cons h1 h2 => rw [List.append_assoc]; exact .cons h1 (RsL.app h2 q)
/-- data alone -/
def allD : List SV → Option (List PyData)
  | [] => some []
  | .d x :: r => (allD r).map (x :: ·)
  | _ :: _ => none
theorem RsL.ofD : ∀ {ds : List PyData} {vs : List V}, DqL K H F ds vs → RsL K mg H A F (ds.map SV.d) vs []
  | [], _, h => by cases h; exact .nil
  | d :: ds, _, h => by
    cases h with
    | cons h1 h2 => exact .cons (g := []) (g' := []) (.d h1) (RsL.ofD h2)
theorem RsL.toD : ∀ {xs : List SV} {ds : List PyData} {vs : List V} {g : List Addr}, RsL K mg H A F xs vs g → allD xs = some ds → DqL K H F ds vs ∧ g = []
  | [], _, _, _, h, e => by cases h; cases e; exact ⟨.nil, rfl⟩
  | .d x :: xs, _, _, _, h, e => by
    cases h with
    | cons h1 h2 =>
      cases h1 with
      | d h1 =>
        simp only [allD, Option.map_eq_some_iff] at e
        obtain ⟨r, e, rfl⟩ := e
        obtain ⟨q, rfl⟩ := RsL.toD h2 e
        exact ⟨.cons h1 q, rfl⟩
  | .ref _ :: _, _, _, _, _, e => by cases e
  | .fn _ :: _, _, _, _, _, e => by cases e
  | .scr _ :: _, _, _, _, _, e => by cases e
  | .own _ :: _, _, _, _, _, e => by cases e
theorem allD_map : ∀ ds : List PyData, allD (ds.map SV.d) = some ds
  | [] => rfl
  | d :: ds => by simp [allD, allD_map ds]
theorem Rs.nil_d {x : PyData} {v : V} {g : List Addr} (h : Rs K mg H A F (.d x) v g) : g = [] ∧ Dq K H F x v := by cases h with | d h => exact ⟨rfl, h⟩
end

/-! ### the state -/
structure Ct where
  K : PySem.W.Frag
  mg : Str → Option Value
  E0 : Hp
  A0 : List Addr
  Pr : Addr → Prop

/-- with other things that are left alone -/
def Ct.pr (C : Ct) (P : Addr → Prop) : Ct := { C with Pr := P }
def Fs (C : Ct) (A : List Addr) (G : List (List Addr)) : Addr → Prop := fun a => a ∈ A ∨ a ∈ G.flatten ∨ C.Pr a

structure Sim (C : Ct) (ρ : Rho) (S : Sto) (A : List Addr) (G : List (List Addr)) (σ : L2.St) (H : Hp) : Prop where
  pre : C.A0 <+: A
  lr : ρ.length = σ.length
  lg : G.length = ρ.length
  ls : S.length = A.length
  nd : (A ++ G.flatten).Nodup
  trk : ∀ a ∈ A ++ G.flatten, H a ≠ none
  prot : ∀ a, C.Pr a → a ∉ A ++ G.flatten ∧ H a ≠ none
  slots : ∀ (i : Nat) x, ρ[i]? = some (some x) → ∃ v g, σ[i]? = some (some v) ∧ Rs C.K C.mg H A (Fs C A G) x v g ∧ g.Sublist (G[i]?.getD [])
  sto : ∀ (n : Nat) xs, S[n]? = some xs → ∃ a vs, A[n]? = some a ∧ H a = some (.lst vs) ∧ vs.length ≤ sizeLine ∧ RsL C.K C.mg H A (Fs C A G) xs vs []
  frame : ∀ a o, C.E0 a = some o → a ∉ C.A0 → H a = some o
  fresh : ∀ a ∈ A ++ G.flatten, a ∈ C.A0 ∨ C.E0 a = none
  a0 : ∀ a ∈ C.A0, C.E0 a ≠ none

/-- what an expression may do to the heap -/
structure Ext (A : List Addr) (H : Hp) (A' : List Addr) (H' : Hp) : Prop where
  pre : A <+: A'
  new : ∀ a ∈ A', a ∈ A ∨ H a = none
  keep : ∀ a o, H a = some o → a ∉ A → H' a = some o
  there : ∀ a, H a ≠ none → H' a ≠ none
theorem Ext.refl {A : List Addr} {H : Hp} : Ext A H A H := ⟨List.prefix_refl _, fun _ h => .inl h, fun _ _ h _ => h, fun _ h => h⟩
theorem Ext.trans {A A1 A2 : List Addr} {H H1 H2 : Hp} (x : Ext A H A1 H1) (y : Ext A1 H1 A2 H2) : Ext A H A2 H2 := by
  refine ⟨x.pre.trans y.pre, fun a h => ?_, fun a o e n => ?_, fun a h => y.there a (x.there a h)⟩
  · rcases y.new a h with z | z
    · exact x.new a z
    · refine .inr ?_
      cases q : H a with
      | none => rfl
      | some o => exact absurd z (x.there a (by rw [q]; simp))
  · refine y.keep a o (x.keep a o e n) fun z => ?_
    rcases x.new a z with z | z
    · exact n z
    · rw [e] at z; cases z
theorem prefix_get {A A' : List Addr} (h : A <+: A') : ∀ (n : Nat) a, A[n]? = some a → A'[n]? = some a := fun n a e => by
  obtain ⟨t, rfl⟩ := h
  rw [List.getElem?_append_left]
  · exact e
  · exact (List.getElem?_eq_some_iff.mp e).1
/-- a heap that grows by new objects alone -/
theorem Ext.upd {A : List Addr} {H : Hp} {p : Addr} {o : HO} (h : H p = none) : Ext A H A (upd H p o) := by
  refine ⟨List.prefix_refl _, fun _ h => .inl h, fun a u e _ => ?_, fun a e => ?_⟩
  · rw [upd_ne (ne_of_none e h)]; exact e
  · unfold L2.upd; split
    · simp
    · exact e
section
variable {C : Ct} {ρ : Rho} {S S' : Sto} {A A' : List Addr} {G : List (List Addr)} {σ : L2.St} {H H' : Hp}
theorem Sim.len (I : Sim C ρ S A G σ H) : G.length = σ.length := I.lg.trans I.lr
theorem Sim.notPr (I : Sim C ρ S A G σ H) {a : Addr} (p : C.Pr a) : a ∉ A ++ G.flatten := (I.prot a p).1
theorem Sim.prTrk (I : Sim C ρ S A G σ H) {a : Addr} (p : C.Pr a) : H a ≠ none := (I.prot a p).2
theorem Sim.fsTrk (I : Sim C ρ S A G σ H) {a : Addr} (p : Fs C A G a) : H a ≠ none := by
  rcases p with p | p | p
  · exact I.trk a (List.mem_append_left _ p)
  · exact I.trk a (List.mem_append_right _ p)
  · exact I.prTrk p
/-- the slots stay through what an expression does; the store may have changed -/
theorem Sim.ext (I : Sim C ρ S A G σ H) (x : Ext A H A' H') (ls : S'.length = A'.length) (nd : A'.Nodup) (trk : ∀ a ∈ A', H' a ≠ none)
    (sto : ∀ (n : Nat) xs, S'[n]? = some xs → ∃ a vs, A'[n]? = some a ∧ H' a = some (.lst vs) ∧ vs.length ≤ sizeLine ∧ RsL C.K C.mg H' A' (Fs C A' G) xs vs []) : Sim C ρ S' A' G σ H' := by
  have kG : ∀ a ∈ G.flatten, a ∉ A := fun a h z => (List.nodup_append.mp I.nd).2.2 a z a h rfl
  have kept : ∀ a ∈ G.flatten, ∀ o, H a = some o → H' a = some o := fun a h o e => x.keep a o e (kG a h)
  have e0 : ∀ a, H a = none → C.E0 a = none := fun a h => by
    cases q : C.E0 a with
    | none => rfl
    | some o =>
      by_cases z : a ∈ C.A0
      · exact absurd h (I.trk a (List.mem_append_left _ (I.pre.subset z)))
      · rw [I.frame a o q z] at h; cases h
  refine ⟨I.pre.trans x.pre, I.lr, I.lg, ls, ?_, fun a h => ?_, fun a p => ⟨fun z => ?_, x.there a (I.prot a p).2⟩, fun i y e => ?_, sto, fun a o e n => ?_, fun a h => ?_, I.a0⟩
  · refine List.nodup_append.mpr ⟨nd, (List.nodup_append.mp I.nd).2.1, fun a h b h' e => ?_⟩
    subst e
    rcases x.new a h with z | z
    · exact kG a h' z
    · exact I.trk a (List.mem_append_right _ h') z
  · rcases List.mem_append.mp h with h | h
    · exact trk a h
    · exact x.there a (I.trk a (List.mem_append_right _ h))
  · rcases List.mem_append.mp z with z | z
    · rcases x.new a z with z | z
      · exact (I.prot a p).1 (List.mem_append_left _ z)
      · exact (I.prot a p).2 z
    · exact (I.prot a p).1 (List.mem_append_right _ z)
  · obtain ⟨v, g, e1, r, sb⟩ := I.slots i y e
    refine ⟨v, g, e1, Rs.mono (prefix_get x.pre) (fun a z => ?_) (fun a o q n => ?_) _ _ _ (fun a m o q => ?_) r, sb⟩
    · rcases z with z | z | z
      · rcases x.new a z with z | z
        · exact .inl (.inl z)
        · exact .inr z
      · exact .inl (.inr (.inl z))
      · exact .inl (.inr (.inr z))
    · exact x.keep a o q fun z => n (.inl z)
    · have m := sb.subset m
      refine kept a ?_ o q
      cases hg : G[i]? with
      | none => rw [hg] at m; cases m
      | some g => rw [hg] at m; exact List.mem_flatten.mpr ⟨g, List.mem_of_getElem? hg, m⟩
  · refine x.keep a o (I.frame a o e n) fun z => ?_
    rcases I.fresh a (List.mem_append_left _ z) with q | q
    · exact n q
    · rw [e] at q; cases q
  · rcases List.mem_append.mp h with h | h
    · rcases x.new a h with z | z
      · exact I.fresh a (List.mem_append_left _ z)
      · exact .inr (e0 a z)
    · exact I.fresh a (List.mem_append_right _ h)
theorem Sim.e0 (I : Sim C ρ S A G σ H) : ∀ a, H a = none → C.E0 a = none := fun a h => by
  cases q : C.E0 a with
  | none => rfl
  | some o =>
    by_cases z : a ∈ C.A0
    · exact absurd h (I.trk a (List.mem_append_left _ (I.pre.subset z)))
    · rw [I.frame a o q z] at h; cases h
/-- .. where the store is as it was -/
theorem Sim.grow (I : Sim C ρ S A G σ H) (x : Ext A H A H') (kp : ∀ a ∈ A, ∀ o, H a = some o → H' a = some o) : Sim C ρ S A G σ H' := by
  refine I.ext x I.ls (List.nodup_append.mp I.nd).1 (fun a h => x.there a (I.trk a (List.mem_append_left _ h))) fun n xs e => ?_
  obtain ⟨a, vs, e1, e2, l, r⟩ := I.sto n xs e
  refine ⟨a, vs, e1, kp a (List.mem_of_getElem? e1) _ e2, l, RsL.mono (fun _ _ h => h) (fun a h => .inl h) (fun a o q n => x.keep a o q fun z => n (.inl z)) _ _ _ (fun a m => by cases m) r⟩
theorem Sim.new (I : Sim C ρ S A G σ H) {p : Addr} {o : HO} (h : H p = none) : Sim C ρ S A G σ (upd H p o) := I.grow (Ext.upd h) fun a _ u e => by rw [upd_ne (ne_of_none e h)]; exact e
end

theorem Sim.prw {C : Ct} {P : Addr → Prop} {ρ : Rho} {S : Sto} {A : List Addr} {G : List (List Addr)} {σ : L2.St} {H : Hp} (I : Sim (C.pr P) ρ S A G σ H) (h : ∀ a, C.Pr a → P a) : Sim C ρ S A G σ H := by
  have hF : ∀ a, Fs C A G a → Fs (C.pr P) A G a := fun a z => z.elim .inl fun z => z.elim (fun z => .inr (.inl z)) fun z => .inr (.inr (h a z))
  refine ⟨I.pre, I.lr, I.lg, I.ls, I.nd, I.trk, fun a p => I.prot a (h a p), fun i x e => ?_, fun n xs e => ?_, I.frame, I.fresh, I.a0⟩
  · obtain ⟨v, g, e1, r, sb⟩ := I.slots i x e
    exact ⟨v, g, e1, Rs.mono (fun _ _ q => q) (fun a z => .inl (hF a z)) (fun a o q n => q) _ _ _ (fun a m o q => q) r, sb⟩
  · obtain ⟨a, vs, e1, e2, l, r⟩ := I.sto n xs e
    exact ⟨a, vs, e1, e2, l, RsL.mono (fun _ _ q => q) (fun a z => .inl (hF a z)) (fun a o q n => q) _ _ _ (fun a m o q => q) r⟩
theorem Sim.prc {C : Ct} {P : Addr → Prop} {ρ : Rho} {S : Sto} {A : List Addr} {G : List (List Addr)} {σ : L2.St} {H : Hp} (I : Sim C ρ S A G σ H) (h : ∀ a, P a → C.Pr a) : Sim (C.pr P) ρ S A G σ H := by
  have hF : ∀ a, Fs (C.pr P) A G a → Fs C A G a := fun a z => z.elim .inl fun z => z.elim (fun z => .inr (.inl z)) fun z => .inr (.inr (h a z))
  refine ⟨I.pre, I.lr, I.lg, I.ls, I.nd, I.trk, fun a p => I.prot a (h a p), fun i x e => ?_, fun n xs e => ?_, I.frame, I.fresh, I.a0⟩
  · obtain ⟨v, g, e1, r, sb⟩ := I.slots i x e
    exact ⟨v, g, e1, Rs.mono (fun _ _ q => q) (fun a z => .inl (hF a z)) (fun a o q n => q) _ _ _ (fun a m o q => q) r, sb⟩
  · obtain ⟨a, vs, e1, e2, l, r⟩ := I.sto n xs e
    exact ⟨a, vs, e1, e2, l, RsL.mono (fun _ _ q => q) (fun a z => .inl (hF a z)) (fun a o q n => q) _ _ _ (fun a m o q => q) r⟩
/-! ### what an expression hands on -/
/-- be: looked at now; fe: one's own from here on (data, a shared list's number, or a new list that nobody else has) -/
inductive Kd | be | fe
def Rk (C : Ct) (kd : Kd) (g : List Addr) (A' : List Addr) (G : List (List Addr)) (H H' : Hp) (x : SV) (v : V) : Prop :=
  match kd with
  | .be => Rs C.K C.mg H' A' (Fs C A' G) x v g ∧ ∀ a ∈ g, a ∉ A' ∧ H' a ≠ none
  | .fe => Rs C.K C.mg H' A' (fun a => Fs C A' G a ∨ a ∈ g) x v g ∧ g.Nodup ∧ ∀ a ∈ g, H a = none ∧ H' a ≠ none ∧ a ∉ A'
/-- new lists of one's own are left alone by what comes next -/
def Ct.pg (C : Ct) (kd : Kd) (g : List Addr) : Ct :=
  match kd with
  | .be => C
  | .fe => C.pr fun a => C.Pr a ∨ a ∈ g
def EPost (C : Ct) (kd : Kd) (ρ : Rho) (A : List Addr) (G : List (List Addr)) (σ : L2.St) (H : Hp) (x : SV) (S' : Sto) (v : V) (H' : Hp) : Prop :=
  ∃ A' g, Ext A H A' H' ∧ Sim (C.pg kd g) ρ S' A' G σ H' ∧ Rk C kd g A' G H H' x v
/-- an exception's class, its fields -/
def XRep (C : Ct) (H' : Hp) (c : Str) (fs : List (Str × SV)) (cls : Value) (d : Option Addr) : Prop :=
  ∃ Ca, C.mg c = some (.ref Ca) ∧ cls = .ref Ca ∧ ((fs = [] ∧ d = none) ∨ ∃ dx vs, d = some dx ∧ H' dx = some (.xd vs) ∧ vs.map (·.1) = fs.map (·.1) ∧ RsL C.K C.mg H' [] (fun _ => True) (fs.map (·.2)) (vs.map (·.2)) [])
def XPost (C : Ct) (ρ : Rho) (A : List Addr) (G : List (List Addr)) (σ : L2.St) (H : Hp) (c : Str) (fs : List (Str × SV)) (S' : Sto) (cls : Value) (d : Option Addr) (H' : Hp) : Prop :=
  ∃ A', Ext A H A' H' ∧ Sim C ρ S' A' G σ H' ∧ XRep C H' c fs cls d
def EGood {α V' : Type} (post : α → Sto → V' → Hp → Prop) (xpost : Str → List (Str × SV) → Sto → Value → Option Addr → Hp → Prop) (W : WX) (σ : L2.St) (Q : V' → Hp → Prop) : Option (Res α) → Prop
  | none => False
  | some (.ok x S') => ∀ v H', post x S' v H' → Q v H'
  | some (.exc c fs S') => ∀ cls d H', xpost c fs S' cls d H' → W cls d σ H'
/-- an expression's reading by its function -/
def tV (C : Ct) (W : WX) (kd : Kd) (f : Rho → Mo SV) : TE := fun σ H Q => ∃ P ρ S A G, (∀ a, C.Pr a → P a) ∧ Sim (C.pr P) ρ S A G σ H ∧ EGood (EPost (C.pr P) kd ρ A G σ H) (XPost C ρ A G σ H) W σ Q (f ρ S)
/-- a list of expressions, each of the same kind -/
def RkL (C : Ct) (kd : Kd) (g : List Addr) (A' : List Addr) (G : List (List Addr)) (H H' : Hp) (xs : List SV) (vs : List V) : Prop :=
  match kd with
  | .be => RsL C.K C.mg H' A' (Fs C A' G) xs vs g ∧ ∀ a ∈ g, a ∉ A' ∧ H' a ≠ none
  | .fe => RsL C.K C.mg H' A' (fun a => Fs C A' G a ∨ a ∈ g) xs vs g ∧ g.Nodup ∧ ∀ a ∈ g, H a = none ∧ H' a ≠ none ∧ a ∉ A'
def APost (C : Ct) (kd : Kd) (ρ : Rho) (A : List Addr) (G : List (List Addr)) (σ : L2.St) (H : Hp) (xs : List SV) (S' : Sto) (vs : List V) (H' : Hp) : Prop :=
  ∃ A' g, Ext A H A' H' ∧ Sim (C.pg kd g) ρ S' A' G σ H' ∧ RkL C kd g A' G H H' xs vs
def tVs (C : Ct) (W : WX) (kd : Kd) (f : Rho → Mo (List SV)) : TA := fun σ H Q => ∃ P ρ S A G, (∀ a, C.Pr a → P a) ∧ Sim (C.pr P) ρ S A G σ H ∧ EGood (APost (C.pr P) kd ρ A G σ H) (XPost C ρ A G σ H) W σ Q (f ρ S)
/-- a test -/
def BPost (C : Ct) (ρ : Rho) (A : List Addr) (G : List (List Addr)) (σ : L2.St) (H : Hp) (b : Bool) (S' : Sto) (b' : Bool) (H' : Hp) : Prop :=
  b' = b ∧ ∃ A', Ext A H A' H' ∧ Sim C ρ S' A' G σ H'
def tTs (C : Ct) (W : WX) (f : Rho → Mo Bool) : TT := fun σ H Q => ∃ P ρ S A G, (∀ a, C.Pr a → P a) ∧ Sim (C.pr P) ρ S A G σ H ∧ EGood (BPost (C.pr P) ρ A G σ H) (XPost C ρ A G σ H) W σ Q (f ρ S)

/-! ### what a statement hands on -/
structure ExtS (A : List Addr) (G : List (List Addr)) (H : Hp) (A' : List Addr) (G' : List (List Addr)) (H' : Hp) : Prop where
  pre : A <+: A'
  new : ∀ a ∈ A' ++ G'.flatten, a ∈ A ++ G.flatten ∨ H a = none
  keep : ∀ a o, H a = some o → a ∉ A ++ G.flatten → H' a = some o
  there : ∀ a, H a ≠ none → H' a ≠ none
theorem ExtS.refl {A : List Addr} {G : List (List Addr)} {H : Hp} : ExtS A G H A G H := ⟨List.prefix_refl _, fun _ h => .inl h, fun _ _ h _ => h, fun _ h => h⟩
theorem ExtS.trans {A A1 A2 : List Addr} {G G1 G2 : List (List Addr)} {H H1 H2 : Hp} (x : ExtS A G H A1 G1 H1) (y : ExtS A1 G1 H1 A2 G2 H2) : ExtS A G H A2 G2 H2 := by
  refine ⟨x.pre.trans y.pre, fun a h => ?_, fun a o e n => ?_, fun a h => y.there a (x.there a h)⟩
  · rcases y.new a h with z | z
    · exact x.new a z
    · refine .inr ?_
      cases q : H a with
      | none => rfl
      | some o => exact absurd z (x.there a (by rw [q]; simp))
  · refine y.keep a o (x.keep a o e n) fun z => ?_
    rcases x.new a z with z | z
    · exact n z
    · rw [e] at z; cases z
theorem Ext.s {A A' : List Addr} {G : List (List Addr)} {H H' : Hp} (x : Ext A H A' H') : ExtS A G H A' G H' := by
  refine ⟨x.pre, fun a h => ?_, fun a o e n => x.keep a o e fun z => n (List.mem_append_left _ z), x.there⟩
  rcases List.mem_append.mp h with h | h
  · rcases x.new a h with z | z
    · exact .inl (List.mem_append_left _ z)
    · exact .inr z
  · exact .inl (List.mem_append_right _ h)
/-- what a def leaves: the store, what is one's own in what it hands back -/
structure RSto (C : Ct) (A' g : List Addr) (S' : Sto) (H' : Hp) : Prop where
  pre : C.A0 <+: A'
  ls : S'.length = A'.length
  nd : (A' ++ g).Nodup
  trk : ∀ a ∈ A' ++ g, H' a ≠ none ∧ (a ∈ C.A0 ∨ C.E0 a = none)
  own : ∀ a ∈ g, C.E0 a = none
  sto : ∀ (n : Nat) xs, S'[n]? = some xs → ∃ a vs, A'[n]? = some a ∧ H' a = some (.lst vs) ∧ vs.length ≤ sizeLine ∧ RsL C.K C.mg H' A' (fun a => a ∈ A' ∨ a ∈ g ∨ C.Pr a) xs vs []
  frame : ∀ a o, C.E0 a = some o → a ∉ C.A0 → H' a = some o
  there : ∀ a, C.E0 a ≠ none → H' a ≠ none
def RPost (C : Ct) (x : SV) (S' : Sto) (v : V) (H' : Hp) : Prop := ∃ A' g, RSto C A' g S' H' ∧ Rs C.K C.mg H' A' (fun a => a ∈ A' ∨ a ∈ g ∨ C.Pr a) x v g
def SGood (C : Ct) (W : WX) (A : List Addr) (G : List (List Addr)) (H : Hp) (D : Ends) : Option Fl → Prop
  | none => False
  | some (.nx ρ' S') => ∀ A' G' σ' H', ExtS A G H A' G' H' → Sim C ρ' S' A' G' σ' H' → D.nx σ' H'
  | some (.bk ρ' S') => ∀ A' G' σ' H', ExtS A G H A' G' H' → Sim C ρ' S' A' G' σ' H' → D.bk σ' H'
  | some (.ct ρ' S') => ∀ A' G' σ' H', ExtS A G H A' G' H' → Sim C ρ' S' A' G' σ' H' → D.ct σ' H'
  | some (.rt x S') => ∀ v H', RPost C x S' v H' → D.rt v H'
  | some (.exc c fs ρ' S') => ∀ A' G' σ' H' cls d, ExtS A G H A' G' H' → Sim C ρ' S' A' G' σ' H' → XRep C H' c fs cls d → W cls d σ' H'
def tS (C : Ct) (W : WX) (f : Rho → Sto → Option Fl) : TS := fun D σ H => ∃ ρ S A G, Sim C ρ S A G σ H ∧ SGood C W A G H D (f ρ S)
theorem SGood.ext {C : Ct} {W : WX} {A A1 : List Addr} {G G1 : List (List Addr)} {H H1 : Hp} {D : Ends} {r : Option Fl} (x : ExtS A G H A1 G1 H1) (h : SGood C W A G H D r) : SGood C W A1 G1 H1 D r := by
  cases r with
  | none => exact h
  | some f =>
    cases f with
    | nx ρ' S' => exact fun A' G' σ' H' y s => h A' G' σ' H' (x.trans y) s
    | bk ρ' S' => exact fun A' G' σ' H' y s => h A' G' σ' H' (x.trans y) s
    | ct ρ' S' => exact fun A' G' σ' H' y s => h A' G' σ' H' (x.trans y) s
    | rt z S' => exact h
    | exc c fs ρ' S' => exact fun A' G' σ' H' cls d y s => h A' G' σ' H' cls d (x.trans y) s
end VL

end
section
set_option Elab.async false
set_option linter.all false
set_option maxRecDepth 100000
/-! VL2: expressions: names, constants, operators, comparisons, tests. -/
namespace VL
open PySem PySem.Spec PyProof.Rows L2

def bindM {α β : Type} (m : Option (Res α)) (k : α → Sto → Option (Res β)) : Option (Res β) :=
  match m with
  | none => none
  | some (.ok a S) => k a S
  | some (.exc c fs S) => some (.exc c fs S)
@[simp] theorem bindM_ok {α β : Type} (a : α) (S : Sto) (k : α → Sto → Option (Res β)) : bindM (some (.ok a S)) k = k a S := rfl
@[simp] theorem bindM_none {α β : Type} (k : α → Sto → Option (Res β)) : bindM none k = none := rfl
@[simp] theorem bindM_exc {α β : Type} (c : Str) (fs : List (Str × SV)) (S : Sto) (k : α → Sto → Option (Res β)) : bindM (some (.exc c fs S)) k = some (.exc c fs S) := rfl

theorem pe_imp {X : Cx} {e : Expr} {t t' : TE} (h : PE X e t) (i : ∀ σ H Q, t' σ H Q → t σ H Q) : PE X e t' := ⟨fun pins s σ H Q I q => h.run pins s σ H Q I (i σ H Q q)⟩
theorem pt_imp {X : Cx} {e : Expr} {t t' : TT} (h : PT X e t) (i : ∀ σ H Q, t' σ H Q → t σ H Q) : PT X e t' := ⟨fun pins s σ H Q I q => h.run pins s σ H Q I (i σ H Q q)⟩
theorem pw_imp {X : Cx} {e : Expr} {t t' : TT} (h : PW X e t) (i : ∀ σ H Q, t' σ H Q → t σ H Q) : PW X e t' := ⟨fun wh pins s σ H Q I q => h.run wh pins s σ H Q I (i σ H Q q)⟩
theorem pa_imp {X : Cx} {es : List Expr} {t t' : TA} (h : PA X es t) (i : ∀ σ H Q, t' σ H Q → t σ H Q) : PA X es t' := ⟨fun pos pins s σ H Q I q => h.run pos pins s σ H Q I (i σ H Q q)⟩
theorem ps_imp {X : Cx} {st : Stmt} {t t' : TS} (h : PS X st t) (i : ∀ D σ H, t' D σ H → t D σ H) : PS X st t' := ⟨fun pins s σ H D I q => h.run pins s σ H D I (i D σ H q)⟩
theorem pss_imp {X : Cx} {st : List Stmt} {t t' : TS} (h : PSs X st t) (i : ∀ D σ H, t' D σ H → t D σ H) : PSs X st t' := ⟨fun pins s σ H D I q => h.run pins s σ H D I (i D σ H q)⟩

section
variable {C : Ct} {W : WX} {kd ka kb : Kd} {ρ : Rho} {S S1 : Sto} {A A1 A2 : List Addr} {G : List (List Addr)} {σ : L2.St} {H H0 H1 H2 : Hp} {x y z : SV} {v u w : V} {g g' : List Addr} {xs : List SV} {vs : List V}

theorem fs_ext (x : Ext A1 H1 A2 H2) : ∀ a, Fs C A2 G a → Fs C A1 G a ∨ H1 a = none := fun a z => by
  rcases z with z | z | z
  · rcases x.new a z with z | z
    · exact .inl (.inl z)
    · exact .inr z
  · exact .inl (.inr (.inl z))
  · exact .inl (.inr (.inr z))
theorem Rk.ext (e : Ext A1 H1 A2 H2) (r : Rk C kd g A1 G H H1 x v) : Rk C kd g A2 G H H2 x v := by
  cases kd with
  | be =>
    obtain ⟨r, hg⟩ := r
    refine ⟨Rs.mono (prefix_get e.pre) (fs_ext e) (fun a o q n => e.keep a o q fun z => n (.inl z)) _ _ _ (fun a m o q => e.keep a o q (hg a m).1) r, fun a m => ⟨fun z => ?_, e.there a (hg a m).2⟩⟩
    rcases e.new a z with z | z
    · exact (hg a m).1 z
    · exact (hg a m).2 z
  | fe =>
    obtain ⟨r, nd, hg⟩ := r
    refine ⟨Rs.mono (prefix_get e.pre) (fun a z => ?_) (fun a o q n => e.keep a o q fun z => n (.inl (.inl z))) _ _ _ (fun a m o q => e.keep a o q (hg a m).2.2) r, nd, fun a m => ⟨(hg a m).1, e.there a (hg a m).2.1, fun z => ?_⟩⟩
    · rcases z with z | z
      · rcases fs_ext e a z with z | z
        · exact .inl (.inl z)
        · exact .inr z
      · exact .inl (.inr z)
    · rcases e.new a z with z | z
      · exact (hg a m).2.2 z
      · exact (hg a m).2.1 z
theorem RkL.ext (e : Ext A1 H1 A2 H2) (r : RkL C kd g A1 G H H1 xs vs) : RkL C kd g A2 G H H2 xs vs := by
  cases kd with
  | be =>
    obtain ⟨r, hg⟩ := r
    refine ⟨RsL.mono (prefix_get e.pre) (fs_ext e) (fun a o q n => e.keep a o q fun z => n (.inl z)) _ _ _ (fun a m o q => e.keep a o q (hg a m).1) r, fun a m => ⟨fun z => ?_, e.there a (hg a m).2⟩⟩
    rcases e.new a z with z | z
    · exact (hg a m).1 z
    · exact (hg a m).2 z
  | fe =>
    obtain ⟨r, nd, hg⟩ := r
    refine ⟨RsL.mono (prefix_get e.pre) (fun a z => ?_) (fun a o q n => e.keep a o q fun z => n (.inl (.inl z))) _ _ _ (fun a m o q => e.keep a o q (hg a m).2.2) r, nd, fun a m => ⟨(hg a m).1, e.there a (hg a m).2.1, fun z => ?_⟩⟩
    · rcases z with z | z
      · rcases fs_ext e a z with z | z
        · exact .inl (.inl z)
        · exact .inr z
      · exact .inl (.inr z)
    · rcases e.new a z with z | z
      · exact (hg a m).2.2 z
      · exact (hg a m).2.1 z
theorem none_back (e : Ext A H A1 H1) {a : Addr} (h : H1 a = none) : H a = none := by
  cases q : H a with
  | none => rfl
  | some o => exact absurd h (e.there a (by rw [q]; simp))
theorem Rk.from (h : ∀ a, H0 a = none → H a = none) (r : Rk C kd g A1 G H0 H1 x v) : Rk C kd g A1 G H H1 x v := by
  cases kd with
  | be => exact r
  | fe =>
    obtain ⟨r, nd, hg⟩ := r
    exact ⟨r, nd, fun a m => ⟨h a (hg a m).1, (hg a m).2⟩⟩
theorem RkL.from (h : ∀ a, H0 a = none → H a = none) (r : RkL C kd g A1 G H0 H1 xs vs) : RkL C kd g A1 G H H1 xs vs := by
  cases kd with
  | be => exact r
  | fe =>
    obtain ⟨r, nd, hg⟩ := r
    exact ⟨r, nd, fun a m => ⟨h a (hg a m).1, (hg a m).2⟩⟩
theorem EPost.trans (e : Ext A H A1 H1) (p : EPost C kd ρ A1 G σ H1 x S v H2) : EPost C kd ρ A G σ H x S v H2 := by
  obtain ⟨A2, g, e2, I, r⟩ := p
  exact ⟨A2, g, e.trans e2, I, r.from fun a q => none_back e q⟩
theorem APost.trans (e : Ext A H A1 H1) (p : APost C kd ρ A1 G σ H1 xs S vs H2) : APost C kd ρ A G σ H xs S vs H2 := by
  obtain ⟨A2, g, e2, I, r⟩ := p
  exact ⟨A2, g, e.trans e2, I, r.from fun a q => none_back e q⟩
theorem XPost.trans {c : Str} {fs : List (Str × SV)} {cls : Value} {d : Option Addr} (e : Ext A H A1 H1) (p : XPost C ρ A1 G σ H1 c fs S cls d H2) : XPost C ρ A G σ H c fs S cls d H2 := by
  obtain ⟨A2, e2, I, r⟩ := p
  exact ⟨A2, e.trans e2, I, r⟩
theorem BPost.trans {b b' : Bool} (e : Ext A H A1 H1) (p : BPost C ρ A1 G σ H1 b S b' H2) : BPost C ρ A G σ H b S b' H2 := by
  obtain ⟨q, A2, e2, I⟩ := p
  exact ⟨q, A2, e.trans e2, I⟩
theorem pg_sub {kd : Kd} {a : Addr} (h : C.Pr a) : (C.pg kd g).Pr a := by
  cases kd with
  | be => exact h
  | fe => exact .inl h
/-- the state alone -/
theorem Sim.pgw (I : Sim (C.pg kd g) ρ S A G σ H) : Sim C ρ S A G σ H := by
  cases kd with
  | be => exact I
  | fe => exact I.prw fun a h => .inl h
theorem Sim.pg0 (I : Sim C ρ S A G σ H) : Sim (C.pg kd []) ρ S A G σ H := by
  cases kd with
  | be => exact I
  | fe => exact I.prc fun a h => h.elim id fun m => by cases m
/-- the heap as it is -/
theorem EPost.same (I : Sim C ρ S A G σ H) (r : Rk C kd [] A G H H x v) : EPost C kd ρ A G σ H x S v H := ⟨A, [], Ext.refl, I.pg0, r⟩
/-- a new object that is left alone -/
theorem Sim.newP (I : Sim C ρ S A G σ H) {p : Addr} {o : HO} (h : H p = none) : Sim (C.pr fun a => C.Pr a ∨ a = p) ρ S A G σ (upd H p o) := by
  have J : Sim C ρ S A G σ (upd H p o) := I.new h
  have hF : ∀ a, Fs (C.pr fun a => C.Pr a ∨ a = p) A G a → Fs C A G a ∨ H a = none := fun a z => by
    rcases z with z | z | z | z
    · exact .inl (.inl z)
    · exact .inl (.inr (.inl z))
    · exact .inl (.inr (.inr z))
    · exact .inr (by rw [z]; exact h)
  have hk : ∀ a o', H a = some o' → upd H p o a = some o' := fun a o' e => by rw [upd_ne (ne_of_none e h)]; exact e
  refine ⟨J.pre, J.lr, J.lg, J.ls, J.nd, J.trk, fun a q => ?_, fun i x e => ?_, fun n xs e => ?_, J.frame, J.fresh, J.a0⟩
  · rcases q with q | q
    · exact J.prot a q
    · subst q
      exact ⟨fun z => I.trk a z h, by rw [upd_same]; simp⟩
  · obtain ⟨v, g, e1, r, sb⟩ := I.slots i x e
    exact ⟨v, g, e1, Rs.mono (fun _ _ q => q) hF (fun a o q n => hk a o q) _ _ _ (fun a m o q => hk a o q) r, sb⟩
  · obtain ⟨a, vs, e1, e2, l, r⟩ := I.sto n xs e
    exact ⟨a, vs, e1, hk _ _ e2, l, RsL.mono (fun _ _ q => q) hF (fun a o q n => hk a o q) _ _ _ (fun a m o q => hk a o q) r⟩
/-- data of any kind -/
theorem Rk.dat {d : PyData} (h : Dq C.K H1 (Fs C A1 G) d v) : Rk C kd [] A1 G H H1 (.d d) v := by
  cases kd with
  | be => exact ⟨.d h, fun a m => by cases m⟩
  | fe => exact ⟨.d (Dq.mono (fun a z => z.elim .inl fun m => by cases m) (fun a o q n => q) _ _ h), List.nodup_nil, fun a m => by cases m⟩
theorem Rk.undat {d : PyData} (h : Rk C kd g A1 G H H1 (.d d) v) : Dq C.K H1 (Fs C A1 G) d v := by
  cases kd with
  | be =>
    obtain ⟨r, _⟩ := h
    exact r.nil_d.2
  | fe =>
    obtain ⟨r, _⟩ := h
    exact Dq.mono (fun a z => .inl (.inl z)) (fun a o q n => q) _ _ r.nil_d.2
theorem Rk.int {i : Int} (h : Rk C kd g A1 G H H1 (.d (.int i)) v) : v = .int i := by cases h.undat; rfl
theorem Rk.bl {i : Bool} (h : Rk C kd g A1 G H H1 (.d (.bool i)) v) : v = .bl i := by cases h.undat; rfl
theorem Rk.str {i : Str} (h : Rk C kd g A1 G H H1 (.d (.str i)) v) : v = .str i := by cases h.undat; rfl
theorem Rk.non (h : Rk C kd g A1 G H H1 (.d .none) v) : v = .non := by cases h.undat; rfl
/-- from one's own to looked at -/
theorem Rk.be (h : Rk C .fe g A1 G H H1 x v) : Rk C .be g A1 G H H1 x v := by
  obtain ⟨r, nd, hg⟩ := h
  exact ⟨Rs.mono (fun _ _ q => q) (fun a z => .inl (.inl z)) (fun a o q n => q) _ _ _ (fun a m o q => q) r, fun a m => ⟨(hg a m).2.2, (hg a m).2.1⟩⟩
theorem RkL.be (h : RkL C .fe g A1 G H H1 xs vs) : RkL C .be g A1 G H H1 xs vs := by
  obtain ⟨r, nd, hg⟩ := h
  exact ⟨RsL.mono (fun _ _ q => q) (fun a z => .inl (.inl z)) (fun a o q n => q) _ _ _ (fun a m o q => q) r, fun a m => ⟨(hg a m).2.2, (hg a m).2.1⟩⟩
theorem EPost.be (h : EPost C .fe ρ A G σ H x S v H1) : EPost C kd ρ A G σ H x S v H1 := by
  cases kd with
  | fe => exact h
  | be =>
    obtain ⟨A', g, e, I, r⟩ := h
    exact ⟨A', g, e, I.pgw, r.be⟩
end

section
variable {α β V1 V2 : Type} {C : Ct} {W : WX} {ρ : Rho} {S : Sto} {A : List Addr} {G : List (List Addr)} {σ : L2.St} {H : Hp}
theorem EGood.step {post : β → Sto → V2 → Hp → Prop} {xpost : Str → List (Str × SV) → Sto → Value → Option Addr → Hp → Prop} {post1 : α → Sto → V1 → Hp → Prop} {xpost1 : Str → List (Str × SV) → Sto → Value → Option Addr → Hp → Prop}
    {Q : V2 → Hp → Prop} {Q1 : V1 → Hp → Prop} {m : Option (Res α)} {k : α → Sto → Option (Res β)} (q : EGood post xpost W σ Q (bindM m k)) (hx : ∀ c fs S' cls d H', xpost1 c fs S' cls d H' → xpost c fs S' cls d H')
    (h : ∀ x S', EGood post xpost W σ Q (k x S') → ∀ v H', post1 x S' v H' → Q1 v H') : EGood post1 xpost1 W σ Q1 m := by
  cases m with
  | none => exact q
  | some r =>
    cases r with
    | ok x S' => exact h x S' q
    | exc c fs S' => exact fun cls d H' p => q cls d H' (hx _ _ _ _ _ _ p)
theorem EGood.post {post post1 : α → Sto → V1 → Hp → Prop} {xpost xpost1 : Str → List (Str × SV) → Sto → Value → Option Addr → Hp → Prop} {Q : V1 → Hp → Prop} {m : Option (Res α)} (q : EGood post xpost W σ Q m)
    (hp : ∀ x S' v H', post1 x S' v H' → post x S' v H') (hx : ∀ c fs S' cls d H', xpost1 c fs S' cls d H' → xpost c fs S' cls d H') : EGood post1 xpost1 W σ Q m := by
  cases m with
  | none => exact q
  | some r =>
    cases r with
    | ok x S' => exact fun v H' p => q v H' (hp _ _ _ _ p)
    | exc c fs S' => exact fun cls d H' p => q cls d H' (hx _ _ _ _ _ _ p)
end
section
variable {C : Ct} {P P1 : Addr → Prop} {kd ka kb : Kd} {ρ : Rho} {S S1 : Sto} {A A1 A2 : List Addr} {G : List (List Addr)} {σ : L2.St} {H H0 H1 H2 : Hp} {x y z : SV} {v u w : V} {g g' : List Addr} {xs : List SV} {vs : List V}
theorem Rk.prw (r : Rk (C.pr P1) kd g A1 G H H1 x v) (h : ∀ a, P a → P1 a) : Rk (C.pr P) kd g A1 G H H1 x v := by
  have hF : ∀ a, Fs (C.pr P) A1 G a → Fs (C.pr P1) A1 G a := fun a z => z.elim .inl fun z => z.elim (fun z => .inr (.inl z)) fun z => .inr (.inr (h a z))
  cases kd with
  | be => exact ⟨Rs.mono (fun _ _ q => q) (fun a z => .inl (hF a z)) (fun a o q n => q) _ _ _ (fun a m o q => q) r.1, r.2⟩
  | fe => exact ⟨Rs.mono (fun _ _ q => q) (fun a z => .inl (z.elim (fun z => .inl (hF a z)) .inr)) (fun a o q n => q) _ _ _ (fun a m o q => q) r.1, r.2⟩
theorem RkL.prw (r : RkL (C.pr P1) kd g A1 G H H1 xs vs) (h : ∀ a, P a → P1 a) : RkL (C.pr P) kd g A1 G H H1 xs vs := by
  have hF : ∀ a, Fs (C.pr P) A1 G a → Fs (C.pr P1) A1 G a := fun a z => z.elim .inl fun z => z.elim (fun z => .inr (.inl z)) fun z => .inr (.inr (h a z))
  cases kd with
  | be => exact ⟨RsL.mono (fun _ _ q => q) (fun a z => .inl (hF a z)) (fun a o q n => q) _ _ _ (fun a m o q => q) r.1, r.2⟩
  | fe => exact ⟨RsL.mono (fun _ _ q => q) (fun a z => .inl (z.elim (fun z => .inl (hF a z)) .inr)) (fun a o q n => q) _ _ _ (fun a m o q => q) r.1, r.2⟩
theorem Ct.pr_pr : (C.pr P).pr P1 = C.pr P1 := rfl
/-- what comes next leaves the new lists alone -/
theorem EPost.next (p : EPost (C.pr P) ka ρ A G σ H x S1 v H1) : ∃ A1 g P1, Ext A H A1 H1 ∧ (∀ a, P a → P1 a) ∧ Sim (C.pr P1) ρ S1 A1 G σ H1 ∧ Rk (C.pr P) ka g A1 G H H1 x v ∧ ∀ a ∈ g, ka = .fe → P1 a := by
  obtain ⟨A1, g, e, I, r⟩ := p
  cases ka with
  | be => exact ⟨A1, g, P, e, fun a h => h, I, r, fun a m q => by cases q⟩
  | fe => exact ⟨A1, g, fun a => P a ∨ a ∈ g, e, fun a h => .inl h, I, r, fun a m _ => .inr m⟩
theorem EPost.prw (p : EPost (C.pr P1) kd ρ A G σ H x S v H1) (h : ∀ a, P a → P1 a) : EPost (C.pr P) kd ρ A G σ H x S v H1 := by
  obtain ⟨A1, g, e, I, r⟩ := p
  refine ⟨A1, g, e, ?_, r.prw h⟩
  cases kd with
  | be => exact (show Sim ((C.pr P1).pr P) ρ S A1 G σ H1 from Sim.prc I h)
  | fe => exact (show Sim (((C.pr P1).pr fun a => P1 a ∨ a ∈ g).pr fun a => P a ∨ a ∈ g) ρ S A1 G σ H1 from Sim.prc I fun a z => z.elim (fun z => .inl (h a z)) .inr)
theorem APost.prw (p : APost (C.pr P1) kd ρ A G σ H xs S vs H1) (h : ∀ a, P a → P1 a) : APost (C.pr P) kd ρ A G σ H xs S vs H1 := by
  obtain ⟨A1, g, e, I, r⟩ := p
  refine ⟨A1, g, e, ?_, r.prw h⟩
  cases kd with
  | be => exact (show Sim ((C.pr P1).pr P) ρ S A1 G σ H1 from Sim.prc I h)
  | fe => exact (show Sim (((C.pr P1).pr fun a => P1 a ∨ a ∈ g).pr fun a => P a ∨ a ∈ g) ρ S A1 G σ H1 from Sim.prc I fun a z => z.elim (fun z => .inl (h a z)) .inr)
theorem BPost.prw {b b' : Bool} (p : BPost (C.pr P1) ρ A G σ H b S b' H1) (h : ∀ a, P a → P1 a) : BPost (C.pr P) ρ A G σ H b S b' H1 := by
  obtain ⟨q, A1, e, I⟩ := p
  exact ⟨q, A1, e, (show Sim ((C.pr P1).pr P) ρ S A1 G σ H1 from Sim.prc I h)⟩
end
section
variable {X : Cx} {C : Ct} {W : WX} {kd ka kb : Kd} {e a b c : Expr} {pos : Pos} {f fa fb fc : Rho → Mo SV}
theorem be_of (h : PE X e (tV C W .fe f)) : PE X e (tV C W kd f) := by
  refine pe_imp h fun σ H Q ⟨P, ρ, S, A, G, hP, I, q⟩ => ⟨P, ρ, S, A, G, hP, I, ?_⟩
  cases e : f ρ S with
  | none => rw [e] at q; exact q
  | some r =>
    rw [e] at q
    cases r with
    | ok x S' => exact fun v H' p => q v H' p.be
    | exc c fs S' => exact q
/-! ### names and constants -/
def eVar (i : Nat) : Rho → Mo SV := fun ρ S => match ρ[i]? with
  | some (some x) => some (.ok x S)
  | _ => none
/-- .. that is no list of one's own -/
def noOwn : SV → Bool
  | .own _ => false
  | _ => true
def eVarV (i : Nat) : Rho → Mo SV := fun ρ S => match ρ[i]? with
  | some (some x) => if noOwn x then some (.ok x S) else none
  | _ => none
theorem Rs.noOwn {K : PySem.W.Frag} {mg : Str → Option Value} {H : Hp} {A : List Addr} {F : Addr → Prop} {x : SV} {v : V} {g : List Addr} (r : Rs K mg H A F x v g) (h : noOwn x = true) : g = [] := by
  cases r with
  | d _ => rfl
  | ref _ => rfl
  | fn _ => rfl
  | scr _ _ _ => rfl
  | scrK _ _ => rfl
  | own _ _ _ => cases h
theorem Rk.noOwn {A1 : List Addr} {G : List (List Addr)} {H H1 : Hp} {x : SV} {v : V} {g : List Addr} (r : Rs C.K C.mg H1 A1 (Fs C A1 G) x v g) (h : VL.noOwn x = true) : Rk C kd [] A1 G H H1 x v := by
  obtain rfl := r.noOwn h
  cases kd with
  | be => exact ⟨r, fun a m => by cases m⟩
  | fe => exact ⟨Rs.mono (fun _ _ q => q) (fun a z => z.elim .inl fun m => by cases m) (fun a o q n => q) _ _ _ (fun a m o q => q) r, List.nodup_nil, fun a m => by cases m⟩
theorem getD_mem {G : List (List Addr)} {i : Nat} {a : Addr} (h : a ∈ G[i]?.getD []) : a ∈ G.flatten := by
  cases q : G[i]? with
  | none => rw [q] at h; cases h
  | some g => rw [q] at h; exact List.mem_flatten.mpr ⟨g, List.mem_of_getElem? q, h⟩
theorem v_var {i : Nat} (h : PE X e (tVar i)) : PE X e (tV C W .be (eVar i)) := by
  refine pe_imp h fun σ H Q ⟨P, ρ, S, A, G, hP, I, q⟩ => ?_
  unfold eVar at q
  split at q
  · rename_i x hx
    obtain ⟨v, g, e1, r, sb⟩ := I.slots i x hx
    exact ⟨v, e1, q v H ⟨A, _, Ext.refl, I, r, fun a m => ⟨fun z => (List.nodup_append.mp I.nd).2.2 a z a (getD_mem (sb.subset m)) rfl, I.trk a (List.mem_append_right _ (getD_mem (sb.subset m)))⟩⟩⟩
  · exact q.elim
theorem v_varV {i : Nat} (h : PE X e (tVar i)) : PE X e (tV C W kd (eVarV i)) := by
  refine pe_imp h fun σ H Q ⟨P, ρ, S, A, G, hP, I, q⟩ => ?_
  unfold eVarV at q
  split at q
  · rename_i x hx
    obtain ⟨v, g, e1, r, sb⟩ := I.slots i x hx
    split at q
    · rename_i hn
      exact ⟨v, e1, q v H (EPost.same I (Rk.noOwn r hn))⟩
    · exact q.elim
  · exact q.elim
/-- a constant without a place in the heap -/
def eCon (x : PyData) : Rho → Mo SV := fun _ S => some (.ok (.d x) S)
theorem v_con {x : PyData} {v : V} (h : PE X e (tC v)) (r : ∀ (H : Hp) (F : Addr → Prop), Dq C.K H F x v) : PE X e (tV C W kd (eCon x)) := by
  refine pe_imp h fun σ H Q ⟨P, ρ, S, A, G, hP, I, q⟩ => ?_
  exact q v H (EPost.same I (Rk.dat (r _ _)))
theorem v_int {i : Int} {j pos} : PE X (.Constant (.int i) j pos) (tV C W kd (eCon (.int i))) := v_con pe_int fun _ _ => .int i
theorem v_bl {i : Bool} {j pos} : PE X (.Constant (.bool i) j pos) (tV C W kd (eCon (.bool i))) := v_con pe_bl fun _ _ => .bl i
theorem v_non {j pos} : PE X (.Constant .none j pos) (tV C W kd (eCon .none)) := v_con pe_non fun _ _ => .non
theorem v_str {i : Str} {j pos} : PE X (.Constant (.str i) j pos) (tV C W kd (eCon (.str i))) := v_con pe_str fun _ _ => .str i
theorem v_glob {x : Str} {y : PyData} {v : V} {u : Value} (hg : Gl X x) (hm : X.mg x = some u) (r : RelV v u) (rd : ∀ (H : Hp) (F : Addr → Prop), Dq C.K H F y v) (hd : (x == ("__debug__" : Str)) = false := by decide) : PE X (.Name x pos) (tV C W kd (eCon y)) := v_con (pe_glob hg hm r hd) rd
/-- a def of the module as a value -/
def eFn (x : Str) : Rho → Mo SV := fun _ S => some (.ok (.fn x) S)
theorem v_fn {x : Str} {f : Addr} (hc : C.mg = X.mg) (hg : Gl X x) (hm : X.mg x = some (.ref f)) (hd : (x == ("__debug__" : Str)) = false := by decide) : PE X (.Name x pos) (tV C W kd (eFn x)) := by
  refine pe_imp (pe_glob (v := .ref f) hg hm rfl hd) fun σ H Q ⟨P, ρ, S, A, G, hP, I, q⟩ => ?_
  exact q _ H (EPost.same I (Rk.noOwn (g := []) (.fn (show C.mg x = some (.ref f) by rw [hc]; exact hm)) rfl))

/-! ### operators of two values -/
def eBin (g : Sto → SV → SV → Option SV) (fa fb : Rho → Mo SV) : Rho → Mo SV := fun ρ S => bindM (fa ρ S) fun x S1 => bindM (fb ρ S1) fun y S2 => (g S2 x y).map fun z => .ok z S2
/-- what an operation's rule must do -/
def OpOk (K : PySem.W.Frag) (ka kb kd : Kd) (g : Sto → SV → SV → Option SV) (r : R2) : Prop :=
  ∀ (C : Ct) (ρ : Rho) (S : Sto) (A : List Addr) (G : List (List Addr)) (σ : L2.St) (H0 H1 H : Hp) (x y z : SV) (v u : V) (gx gy : List Addr) (Q : VK), C.K = K → Sim C ρ S A G σ H → Rk C ka gx A G H0 H x v → Rk C kb gy A G H1 H y u → g S x y = some z →
    (∀ w H', EPost C kd ρ A G σ H z S w H' → Q w H') → r v u H Q
theorem tV_two {g : Sto → SV → SV → Option SV} {r : R2} (h : OpOk C.K ka kb kd g r) : ∀ σ H Q, tV C W kd (eBin g fa fb) σ H Q → tOp r (tV C W ka fa) (tV C W kb fb) σ H Q := by
  intro σ H Q ⟨P, ρ, S, A, G, hP, I, q⟩
  refine ⟨P, ρ, S, A, G, hP, I, EGood.step q (fun _ _ _ _ _ _ z => z) fun x S1 q v H1 p => ?_⟩
  obtain ⟨A1, g1, P1, e1, hP1, I1, k1, _⟩ := p.next
  refine ⟨P1, ρ, S1, A1, G, fun a z => hP1 a (hP a z), I1, EGood.step q (fun _ _ _ _ _ _ z => z.trans e1) fun y S2 q u H2 p => ?_⟩
  obtain ⟨A2, g2, e2, I2, k2⟩ := p
  cases eg : g S2 x y with
  | none => rw [eg] at q; exact q.elim
  | some z =>
    rw [eg] at q
    have I2' : Sim (C.pr P) ρ S2 A2 G σ H2 := (show Sim ((C.pr P1).pr P) ρ S2 A2 G σ H2 from Sim.prc I2.pgw hP1)
    exact h (C.pr P) ρ S2 A2 G σ H H1 H2 x y z v u g1 g2 Q rfl I2' (k1.ext e2) (k2.prw hP1) eg fun w H' p => q w H' (p.trans (e1.trans e2))
theorem v_op {op : Operator} {g : Sto → SV → SV → Option SV} {r : R2} (ho : OpR X (binaryOp op) r) (h : OpOk C.K ka kb kd g r) (ha : PE X a (tV C W ka fa)) (hb : PE X b (tV C W kb fb)) : PE X (.BinOp a op b pos) (tV C W kd (eBin g fa fb)) := pe_imp (pe_op ho ha hb) (tV_two h)
theorem v_cmp {op : CmpOp} {g : Sto → SV → SV → Option SV} {r : R2} (ho : OpR X (compareOp op) r) (h : OpOk C.K ka kb kd g r) (ha : PE X a (tV C W ka fa)) (hb : PE X b (tV C W kb fb)) (hm : behindInMarks op b = false) : PE X (.Compare a [op] [b] pos) (tV C W kd (eBin g fa fb)) := pe_imp (pe_cmpR ho ha hb hm) (tV_two h)
/-- .. of one -/
def eUn (g : Sto → SV → Option SV) (fa : Rho → Mo SV) : Rho → Mo SV := fun ρ S => bindM (fa ρ S) fun x S1 => (g S1 x).map fun z => .ok z S1
def UnOk (K : PySem.W.Frag) (ka kd : Kd) (g : Sto → SV → Option SV) (r : V → Hp → VK → Prop) : Prop :=
  ∀ (C : Ct) (ρ : Rho) (S : Sto) (A : List Addr) (G : List (List Addr)) (σ : L2.St) (H0 H : Hp) (x z : SV) (v : V) (gx : List Addr) (Q : VK), C.K = K → Sim C ρ S A G σ H → Rk C ka gx A G H0 H x v → g S x = some z →
    (∀ w H', EPost C kd ρ A G σ H z S w H' → Q w H') → r v H Q
theorem tV_one {g : Sto → SV → Option SV} {r : V → Hp → VK → Prop} (h : UnOk C.K ka kd g r) : ∀ σ H Q, tV C W kd (eUn g fa) σ H Q → tUn r (tV C W ka fa) σ H Q := by
  intro σ H Q ⟨P, ρ, S, A, G, hP, I, q⟩
  refine ⟨P, ρ, S, A, G, hP, I, EGood.step q (fun _ _ _ _ _ _ z => z) fun x S1 q v H1 p => ?_⟩
  obtain ⟨A1, g1, e1, I1, k1⟩ := p
  cases eg : g S1 x with
  | none => rw [eg] at q; exact q.elim
  | some z =>
    rw [eg] at q
    exact h (C.pr P) ρ S1 A1 G σ H H1 x z v g1 Q rfl I1.pgw k1 eg fun w H' p => q w H' (p.trans e1)
theorem v_un {op : UnaryOp} {g : Sto → SV → Option SV} {r : V → Hp → VK → Prop} (ho : UnR X (unaryOp op) r) (h : UnOk C.K ka kd g r) (ha : PE X a (tV C W ka fa)) : PE X (.UnaryOp op a pos) (tV C W kd (eUn g fa)) := pe_imp (pe_un ho ha) (tV_one h)
end
end VL

end
section
set_option Elab.async false
set_option linter.all false
set_option maxRecDepth 100000
/-! VL3: looking at lists and tuples; arithmetic, comparisons, tests. -/
namespace VL
open PySem PySem.Spec PyProof.Rows L2

/-- a list that may be told by its items -/
def lst? (S : Sto) : SV → Option (List SV)
  | .own xs => some xs
  | .d (.list ds) => some (ds.map .d)
  | .ref n => S[n]?
  | _ => none
/-- .. or a tuple, or the script -/
def seq? (S : Sto) : SV → Option (List SV)
  | .d (.tuple ds) => some (ds.map .d)
  | .scr ns => some (ns.map fun n => .d (.int n))
  | x => lst? S x
def tup? : SV → Option (List PyData)
  | .d (.tuple ds) => some ds
  | _ => none
/-- data -/
def dat? (S : Sto) : SV → Option PyData
  | .d x => some x
  | .own xs => (allD xs).map .list
  | .ref n => (S[n]?.bind allD).map .list
  | _ => none
theorem RsL.noOwn {K : PySem.W.Frag} {mg : Str → Option Value} {H : Hp} {A : List Addr} {F : Addr → Prop} : ∀ {xs : List SV} {vs : List V} {g : List Addr}, RsL K mg H A F xs vs g → xs.all VL.noOwn = true → g = []
  | [], _, _, r, _ => by cases r; rfl
  | x :: xs, _, _, r, h => by
    cases r with
    | cons r1 r2 =>
      simp only [List.all_cons, Bool.and_eq_true] at h
      rw [r1.noOwn h.1, RsL.noOwn r2 h.2]
      rfl
section
variable {C : Ct} {kd ka kb : Kd} {ρ : Rho} {S : Sto} {A : List Addr} {G : List (List Addr)} {σ : L2.St} {H H0 H1 H2 : Hp} {x y z : SV} {v u w : V} {xs ys : List SV} {vs us : List V} {g g' : List Addr}
theorem RkL.get {i : Nat} (r : RkL C .be g A G H H1 xs vs) (h : xs[i]? = some x) : ∃ v g', vs[i]? = some v ∧ Rk C .be g' A G H H1 x v := by
  obtain ⟨r, hg⟩ := r
  induction xs generalizing vs g i with
  | nil => simp at h
  | cons y ys ih =>
    cases r with
    | cons r1 r2 =>
      cases i with
      | zero =>
        simp at h
        subst h
        exact ⟨_, _, rfl, r1, fun a m => hg a (List.mem_append_left _ m)⟩
      | succ i => simpa using ih (by simpa using h) r2 fun a m => hg a (List.mem_append_right _ m)
theorem RkL.len (r : RkL C kd g A G H H1 xs vs) : vs.length = xs.length := by
  cases kd with
  | be => exact r.1.length
  | fe => exact r.1.length
theorem RkL.get' {i : Nat} (r : RkL C .be g A G H H1 xs vs) (h : vs[i]? = some v) : ∃ x g', xs[i]? = some x ∧ Rk C .be g' A G H H1 x v := by
  have l := r.len
  have hi : i < vs.length := (List.getElem?_eq_some_iff.mp h).1
  obtain ⟨v', g', e, q⟩ := r.get (i := i) (x := xs[i]'(by omega)) (List.getElem?_eq_getElem _)
  rw [h] at e
  cases e
  exact ⟨_, _, List.getElem?_eq_getElem _, q⟩
theorem RkL.dats {ds : List PyData} (r : DqL C.K H1 (Fs C A G) ds vs) : RkL C kd [] A G H H1 (ds.map SV.d) vs := by
  cases kd with
  | be => exact ⟨.ofD r, fun a m => by cases m⟩
  | fe => exact ⟨.ofD (DqL.mono (fun a z => z.elim .inl fun m => by cases m) (fun a o q n => q) _ _ r), List.nodup_nil, fun a m => by cases m⟩
theorem RkL.undat {ds : List PyData} (r : RkL C kd g A G H H1 xs vs) (h : allD xs = some ds) : DqL C.K H1 (Fs C A G) ds vs := by
  cases kd with
  | be => exact (r.1.toD h).1
  | fe => exact DqL.mono (fun a z => .inl (.inl z)) (fun a o q n => q) _ _ (r.1.toD h).1
theorem Rk.asBe (r : Rk C kd g A G H H1 x v) : Rk C .be g A G H H1 x v := by
  cases kd with
  | be => exact r
  | fe => exact r.be
/-- one's own, where it is no list of one's own -/
theorem Rk.fe_of (r : Rk C ka g A G H H1 x v) (h : VL.noOwn x = true) : Rk C kd [] A G H0 H1 x v := by
  have r := r.asBe
  exact Rk.noOwn r.1 h
/-- a list in the heap -/
theorem Rk.lst (I : Sim C ρ S A G σ H) (r : Rk C kd g A G H0 H x v) (h : lst? S x = some xs) : ∃ a vs g', v = .ref a ∧ H a = some (.lst vs) ∧ vs.length ≤ sizeLine ∧ RkL C .be g' A G H H xs vs := by
  obtain ⟨r1, hg⟩ := r.asBe
  cases r1 with
  | d r2 =>
    cases r2 with
    | lst e n l q =>
      simp only [lst?, Option.some.injEq] at h
      subst h
      exact ⟨_, _, _, rfl, e, l, RkL.dats q⟩
    | _ => cases h
  | ref e =>
    obtain ⟨a, vs, e1, e2, l, q⟩ := I.sto _ _ h
    rw [e] at e1
    cases e1
    exact ⟨_, _, _, rfl, e2, l, q, fun a m => by cases m⟩
  | fn _ => cases h
  | scr _ _ _ => cases h
  | scrK _ _ => cases h
  | own e l q =>
    simp only [lst?, Option.some.injEq] at h
    subst h
    exact ⟨_, _, _, rfl, e, l, q, fun a m => hg a (List.mem_cons_of_mem _ m)⟩
theorem DqL.ofInts {F : Addr → Prop} : ∀ ns : List Int, DqL C.K H F (ns.map PyData.int) (ns.map V.int)
  | [] => .nil
  | n :: ns => .cons (.int n) (DqL.ofInts ns)
theorem Rk.seq (I : Sim C ρ S A G σ H) (r : Rk C kd g A G H0 H x v) (h : seq? S x = some xs) : ∃ a vs g', v = .ref a ∧ (SqL C.K H a vs ∨ SqT C.K H a vs) ∧ vs.length ≤ sizeLine ∧ RkL C .be g' A G H H xs vs := by
  have go : lst? S x = some xs → ∃ a vs g', v = .ref a ∧ (SqL C.K H a vs ∨ SqT C.K H a vs) ∧ vs.length ≤ sizeLine ∧ RkL C .be g' A G H H xs vs := fun h => by
    obtain ⟨a, vs, g', e, e2, l, q⟩ := r.lst I h
    exact ⟨a, vs, g', e, .inl (.of e2), l, q⟩
  unfold seq? at h
  split at h
  · rename_i ds
    simp only [Option.some.injEq] at h
    subst h
    cases r.undat with
    | tup e n l q => exact ⟨_, _, _, rfl, .inr (.of e), l, RkL.dats q⟩
    | ctup e l q => exact ⟨_, _, _, rfl, .inr (SqT.const e H), l, RkL.dats q⟩
  · rename_i ns
    simp only [Option.some.injEq] at h
    subst h
    obtain ⟨r, hg⟩ := r.asBe
    cases r with
    | scr e n l =>
      refine ⟨_, _, [], rfl, .inl (.inl (.inr ⟨_, e⟩)), by simpa using l, ?_⟩
      have := RkL.dats (C := C) (kd := .be) (A := A) (G := G) (H := H) (DqL.ofInts (C := C) (H := H) (F := Fs C A G) ns)
      rw [List.map_map] at this
      exact this
    | scrK e l =>
      refine ⟨_, _, [], rfl, .inl (SqL.const e H), by simpa using l, ?_⟩
      have := RkL.dats (C := C) (kd := .be) (A := A) (G := G) (H := H) (DqL.ofInts (C := C) (H := H) (F := Fs C A G) ns)
      rw [List.map_map] at this
      exact this
  · exact go h
theorem Rk.tup {ds : List PyData} (r : Rk C kd g A G H0 H (.d (.tuple ds)) v) : ∃ a vs, v = .ref a ∧ SqT C.K H a vs ∧ vs.length ≤ sizeLine ∧ DqL C.K H (Fs C A G) ds vs := by
  cases r.undat with
  | tup e n l q => exact ⟨_, _, rfl, .of e, l, q⟩
  | ctup e l q => exact ⟨_, _, rfl, SqT.const e H, l, q⟩
theorem Rk.dp {d : PyData} (I : Sim C ρ S A G σ H) (r : Rk C kd g A G H0 H x v) (h : dat? S x = some d) : Dp C.K H v d := by
  have go : ∀ xs ds, lst? S x = some xs → allD xs = some ds → Dp C.K H v (.list ds) := fun xs ds h h2 => by
    obtain ⟨a, vs, g', rfl, e, l, q⟩ := r.lst I h
    exact .lst (.of e) (DqL.dp _ _ (q.undat h2))
  unfold dat? at h
  split at h
  · simp only [Option.some.injEq] at h
    subst h
    exact Dq.dp _ _ r.undat
  · rename_i xs
    simp only [Option.map_eq_some_iff] at h
    obtain ⟨ds, h, rfl⟩ := h
    exact go xs ds rfl h
  · rename_i n
    simp only [Option.map_eq_some_iff, Option.bind_eq_some_iff] at h
    obtain ⟨ds, ⟨xs, h1, h2⟩, rfl⟩ := h
    exact go xs ds h1 h2
  · cases h

/-! new objects -/
theorem notFs (I : Sim C ρ S A G σ H) {p : Addr} (h : H p = none) : ¬ Fs C A G p := fun z => I.fsTrk z h
/-- a new tuple of data -/
theorem EPost.tup {ds : List PyData} {p : Addr} (I : Sim C ρ S A G σ H) (r : DqL C.K H (Fs C A G) ds vs) (l : vs.length ≤ sizeLine) (h : H p = none) : EPost C kd ρ A G σ H (.d (.tuple ds)) S (.ref p) (upd H p (.tup vs)) := by
  refine ⟨A, [], Ext.upd h, (I.new h).pg0, Rk.dat (.tup upd_same (notFs I h) l (DqL.mono (fun a q => .inl q) (fun a o q n => ?_) _ _ r))⟩
  rw [upd_ne (ne_of_none q h)]
  exact q
theorem Rk.newOwn {p : Addr} (I : Sim C ρ S A G σ H) (r : RkL C .fe g A G H1 H xs vs) (l : vs.length ≤ sizeLine) (h : H p = none) (hb : ∀ a, H a = none → H1 a = none) : Rk C .fe (p :: g) A G H1 (upd H p (.lst vs)) (.own xs) (.ref p) := by
  obtain ⟨r, nd, hg⟩ := r
  have pg : p ∉ g := fun m => (hg p m).2.1 h
  refine ⟨.own upd_same l (RsL.mono (fun _ _ q => q) (fun a z => ?_) (fun a o q n => ?_) _ _ _ (fun a m o q => ?_) r), List.nodup_cons.mpr ⟨pg, nd⟩, fun a m => ?_⟩
  · rcases z with z | z
    · exact .inl (.inl z)
    · rcases List.mem_cons.mp z with z | z
      · exact .inr (z ▸ h)
      · exact .inl (.inr z)
  · rw [upd_ne (ne_of_none q h)]; exact q
  · rw [upd_ne (ne_of_none q h)]; exact q
  · rcases List.mem_cons.mp m with e | m
    · subst e
      exact ⟨hb _ h, by rw [upd_same]; simp, fun z => I.trk _ (List.mem_append_left _ z) h⟩
    · refine ⟨(hg a m).1, ?_, (hg a m).2.2⟩
      rw [upd_ne (show a ≠ p from fun e => pg (by rw [← e]; exact m))]
      exact (hg a m).2.1
/-- a new list, one's own, of items of one's own -/
theorem EPost.own {p : Addr} {A' : List Addr} (e : Ext A H1 A' H) (I : Sim (C.pg .fe g) ρ S A' G σ H) (r : RkL C .fe g A' G H1 H xs vs) (l : vs.length ≤ sizeLine) (h : H p = none) : EPost C kd ρ A G σ H1 (.own xs) S (.ref p) (upd H p (.lst vs)) := by
  refine EPost.be ⟨A', p :: g, e.trans (Ext.upd h), ?_, Rk.newOwn I.pgw r l h fun a q => none_back e q⟩
  have J := Sim.newP (o := .lst vs) I h
  exact (show Sim (((C.pg .fe g).pr fun a => (C.pg .fe g).Pr a ∨ a = p).pr fun a => C.Pr a ∨ a ∈ p :: g) ρ S A' G σ _ from Sim.prc J fun a z => by
    rcases z with z | z
    · exact .inl (.inl z)
    · rcases List.mem_cons.mp z with z | z
      · exact .inr z
      · exact .inl (.inr z))
/-- .. of items that are no lists of one's own -/
theorem EPost.lst {p : Addr} (I : Sim C ρ S A G σ H) (r : RkL C .be g A G H1 H xs vs) (ho : xs.all noOwn = true) (l : vs.length ≤ sizeLine) (h : H p = none) : EPost C kd ρ A G σ H (.own xs) S (.ref p) (upd H p (.lst vs)) := by
  obtain ⟨r, _⟩ := r
  obtain rfl := RsL.noOwn r ho
  exact EPost.own Ext.refl I.pg0 ⟨RsL.mono (fun _ _ q => q) (fun a z => z.elim .inl fun m => by cases m) (fun a o q n => q) _ _ _ (fun a m => by cases m) r, List.nodup_nil, fun a m => by cases m⟩ l h
end

/-! ### arithmetic -/
def mulOk (i j : Int) : Bool := decide (i.natAbs.log2 + j.natAbs.log2 < 100000000)
def divOk (i j : Int) : Bool := decide (j ≠ 0) && !(Builtin.divisionGoesByPylong i j)
def gAdd (S : Sto) (x y : SV) : Option SV :=
  match x, y with
  | .d (.int i), .d (.int j) => some (.d (.int (i + j)))
  | .d (.str a), .d (.str b) => if a.length + b.length ≤ sizeLine then some (.d (.str (a ++ b))) else none
  | .d (.tuple xs), .d (.tuple ys) => if xs.length + ys.length ≤ sizeLine then some (.d (.tuple (xs ++ ys))) else none
  | x, y => (lst? S x).bind fun xs => (lst? S y).bind fun ys => if xs.all noOwn && ys.all noOwn && decide (xs.length + ys.length ≤ sizeLine) then some (.own (xs ++ ys)) else none
def gSub (_ : Sto) (x y : SV) : Option SV :=
  match x, y with
  | .d (.int i), .d (.int j) => some (.d (.int (i - j)))
  | _, _ => none
/-- within 63 bits (no wide literal behind a subtraction: the kernel counts it down) -/
def smI (i : Int) : Bool := decide (i.natAbs < 4611686018427387904)
theorem smI_lt {i : Int} (h : smI i = true) : -(2 ^ 63) ≤ i ∧ i < 2 ^ 63 := by
  have h := of_decide_eq_true h
  have e : (2 : Int) ^ 63 = 9223372036854775808 := by decide
  rw [e]
  omega
def gMul (S : Sto) (x y : SV) : Option SV :=
  match x, y with
  | .d (.int i), .d (.int j) => if mulOk i j then some (.d (.int (i * j))) else none
  | x, .d (.int k) => (lst? S x).bind fun xs => if xs.all noOwn && smI k && decide (xs.length * k.toNat ≤ sizeLine) then some (.own (List.replicate k.toNat xs).flatten) else none
  | _, _ => none
def gFdiv (_ : Sto) (x y : SV) : Option SV :=
  match x, y with
  | .d (.int i), .d (.int j) => if divOk i j then some (.d (.int (i.fdiv j))) else none
  | _, _ => none
def gMod (_ : Sto) (x y : SV) : Option SV :=
  match x, y with
  | .d (.int i), .d (.int j) => if j ≠ 0 then some (.d (.int (i.fmod j))) else none
  | _, _ => none
def gPow (_ : Sto) (x y : SV) : Option SV :=
  match x, y with
  | .d (.int i), .d (.int j) => if 0 ≤ j ∧ j ≤ 1000000 ∧ i.natAbs < 2 ^ 64 then some (.d (.int (i ^ j.toNat))) else none
  | _, _ => none
def gNeg (_ : Sto) (x : SV) : Option SV :=
  match x with
  | .d (.int i) => some (.d (.int (-i)))
  | _ => none
theorem mulOk.ok {i j : Int} (h : mulOk i j = true) : IntMulOk i j := by
  have b : ∀ x : Int, Builtin.Int.intBits x ≤ x.natAbs.log2 + 1 := fun x => by
    unfold Builtin.Int.intBits
    split <;> omega
  have h1 := b i
  have h2 := b j
  have h3 : i.natAbs.log2 + j.natAbs.log2 < 100000000 := of_decide_eq_true h
  have e : bitsLine = 134217728 := by decide
  unfold IntMulOk
  intro z
  rw [Bool.and_eq_true] at z
  have z2 := z.2
  unfold Builtin.Int.intTooBig at z2
  have z3 := of_decide_eq_true z2
  rw [e] at z3
  omega
section
variable {X : Cx} {C : Ct} {W : WX} {kd ka kb : Kd} {e a b c : Expr} {pos : Pos} {f fa fb fc : Rho → Mo SV}
abbrev rAddV (K : PySem.W.Frag) : R2 := fun x y H Q => rI0 (fun i j => .int (i + j)) x y H Q ∨ (∃ i j, x = .str i ∧ y = .str j ∧ i.length + j.length ≤ sizeLine ∧ Q (.str (i ++ j)) H) ∨ rCatA K x y H Q ∨ rCat x y H Q
theorem ok_add {K : PySem.W.Frag} : OpOk K ka kb kd gAdd (rAddV K) := by
  intro C ρ S A G σ H0 H1 H x y z v u gx gy Q hK I rx ry h q
  subst hK
  unfold gAdd at h
  split at h
  · rename_i i j
    cases h
    exact .inl ⟨i, j, rx.int, ry.int, q _ H (EPost.same I (Rk.dat (.int _)))⟩
  · rename_i a b
    split at h
    · rename_i hl
      cases h
      exact .inr (.inl ⟨a, b, rx.str, ry.str, hl, q _ H (EPost.same I (Rk.dat (.str _)))⟩)
    · cases h
  · rename_i xs ys
    split at h
    · rename_i hl
      cases h
      obtain ⟨a, vs, rfl, hs, l1, r1⟩ := rx.tup
      obtain ⟨b, us, rfl, ht, l2, r2⟩ := ry.tup
      have e1 := r1.length
      have e2 := r2.length
      refine .inr (.inr (.inl ⟨a, b, vs, us, rfl, rfl, hs, ht, by omega, fun e => ?_, fun _ e => ?_, fun _ _ p hp => q _ _ (EPost.tup I (r1.app r2) (by rw [List.length_append]; omega) hp)⟩))
      · have : xs = [] := List.eq_nil_of_length_eq_zero (by rw [← e1, e]; rfl)
        subst this
        exact q _ H (EPost.same I (Rk.fe_of ry rfl))
      · have : ys = [] := List.eq_nil_of_length_eq_zero (by rw [← e2, e]; rfl)
        subst this
        rw [List.append_nil] at q
        exact q _ H (EPost.same I (Rk.fe_of rx rfl))
    · cases h
  · simp only [Option.bind_eq_some_iff] at h
    obtain ⟨xs, hx, ys, hy, h⟩ := h
    split at h
    · rename_i hc
      cases h
      simp only [Bool.and_eq_true, decide_eq_true_eq] at hc
      obtain ⟨a, vs, ga, rfl, ha, l1, r1⟩ := rx.lst I hx
      obtain ⟨b, us, gb, rfl, hb, l2, r2⟩ := ry.lst I hy
      refine .inr (.inr (.inr ⟨a, b, vs, us, rfl, rfl, ha, hb, by rw [r1.len, r2.len]; exact hc.2, fun p hp => q _ _ (EPost.lst (g := ga ++ gb) (H1 := H) I ?_ ?_ ?_ hp)⟩))
      · exact (show RkL C .be (ga ++ gb) A G H H (xs ++ ys) (vs ++ us) from ⟨r1.1.app r2.1, fun a m => (List.mem_append.mp m).elim (r1.2 a) (r2.2 a)⟩)
      · rw [List.all_append, hc.1.1, hc.1.2]; rfl
      · rw [List.length_append, r1.len, r2.len]; exact hc.2
    · cases h
theorem op_addV : OpR X (binaryOp .Add) (rAddV X.K) := op_add.or (op_add_str.or (op_catA.or op_cat))
theorem v_add (hk : C.K = X.K) (ha : PE X a (tV C W ka fa)) (hb : PE X b (tV C W kb fb)) : PE X (.BinOp a .Add b pos) (tV C W kd (eBin gAdd fa fb)) := v_op op_addV (hk ▸ ok_add) ha hb
theorem v_sub (ha : PE X a (tV C W ka fa)) (hb : PE X b (tV C W kb fb)) : PE X (.BinOp a .Sub b pos) (tV C W kd (eBin gSub fa fb)) := v_op op_sub (fun C ρ S A G σ H0 H1 H x y z v u gx gy Q hK I rx ry h q => by
  unfold gSub at h
  split at h
  · rename_i i j
    cases h
    exact ⟨i, j, rx.int, ry.int, q _ H (EPost.same I (Rk.dat (.int _)))⟩
  · cases h) ha hb
theorem op_mulI : OpR X (binaryOp .Mult) (rI IntMulOk fun i j => .int (i * j)) := opI fun _ _ _ _ _ _ _ hc q => mul_int q hc
theorem RsL.rep {K : PySem.W.Frag} {mg : Str → Option Value} {H : Hp} {A : List Addr} {F : Addr → Prop} {xs : List SV} {vs : List V} (r : RsL K mg H A F xs vs []) : ∀ n : Nat, RsL K mg H A F (List.replicate n xs).flatten (List.replicate n vs).flatten []
  | 0 => .nil
  | n + 1 => by
    rw [List.replicate_succ, List.replicate_succ, List.flatten_cons, List.flatten_cons]
    exact r.app (RsL.rep r n)
theorem v_mul (ha : PE X a (tV C W ka fa)) (hb : PE X b (tV C W kb fb)) : PE X (.BinOp a .Mult b pos) (tV C W kd (eBin gMul fa fb)) := v_op (op_mulI.or op_rep) (fun C ρ S A G σ H0 H1 H x y z v u gx gy Q hK I rx ry h q => by
  unfold gMul at h
  split at h
  · rename_i i j
    split at h
    · rename_i hm
      cases h
      exact .inl ⟨i, j, rx.int, ry.int, mulOk.ok hm, q _ H (EPost.same I (Rk.dat (.int _)))⟩
    · cases h
  · rename_i k _
    simp only [Option.bind_eq_some_iff] at h
    obtain ⟨xs, hx, h⟩ := h
    split at h
    · rename_i hc
      cases h
      simp only [Bool.and_eq_true, decide_eq_true_eq] at hc
      obtain ⟨a, vs, ga, rfl, ha, l1, r1⟩ := rx.lst I hx
      have hl := r1.len
      refine .inr ⟨a, k, vs, rfl, ry.int, ha, (smI_lt hc.1.2).1, (smI_lt hc.1.2).2, by rw [hl]; exact hc.2, fun p hp => q _ _ ?_⟩
      obtain ⟨r1, n1⟩ := r1
      obtain rfl := r1.noOwn hc.1.1
      refine EPost.lst (g := []) (H1 := H) I ⟨r1.rep k.toNat, fun a m => by cases m⟩ ?_ ?_ hp
      · rw [List.all_flatten]
        simp only [List.all_eq_true, List.mem_replicate]
        rintro l ⟨_, rfl⟩
        intro y hy
        exact List.all_eq_true.mp hc.1.1 y hy
      · simp only [List.length_flatten, List.map_replicate, List.sum_replicate_nat]
        rw [Nat.mul_comm, hl]
        exact hc.2
    · cases h
  · cases h) ha hb
theorem op_fdivP : OpR X (binaryOp .FloorDiv) (rI (fun i j => j ≠ 0 ∧ Builtin.divisionGoesByPylong i j = false) fun i j => .int (i.fdiv j)) := opI fun _ _ _ _ _ _ _ hc q => floordiv_int hc.1 q (.inl hc.2)
theorem v_fdiv (ha : PE X a (tV C W ka fa)) (hb : PE X b (tV C W kb fb)) : PE X (.BinOp a .FloorDiv b pos) (tV C W kd (eBin gFdiv fa fb)) := v_op op_fdivP (fun C ρ S A G σ H0 H1 H x y z v u gx gy Q hK I rx ry h q => by
  unfold gFdiv at h
  split at h
  · rename_i i j
    split at h
    · rename_i hm
      cases h
      simp only [divOk, Bool.and_eq_true, decide_eq_true_eq, Bool.not_eq_true'] at hm
      exact ⟨i, j, rx.int, ry.int, hm, q _ H (EPost.same I (Rk.dat (.int _)))⟩
    · cases h
  · cases h) ha hb
theorem v_mod (ha : PE X a (tV C W ka fa)) (hb : PE X b (tV C W kb fb)) : PE X (.BinOp a .Mod b pos) (tV C W kd (eBin gMod fa fb)) := v_op op_modN (fun C ρ S A G σ H0 H1 H x y z v u gx gy Q hK I rx ry h q => by
  unfold gMod at h
  split at h
  · rename_i i j
    split at h
    · rename_i hm
      cases h
      exact ⟨i, j, rx.int, ry.int, hm, q _ H (EPost.same I (Rk.dat (.int _)))⟩
    · cases h
  · cases h) ha hb
theorem v_pow (ha : PE X a (tV C W ka fa)) (hb : PE X b (tV C W kb fb)) : PE X (.BinOp a .Pow b pos) (tV C W kd (eBin gPow fa fb)) := v_op op_pow (fun C ρ S A G σ H0 H1 H x y z v u gx gy Q hK I rx ry h q => by
  unfold gPow at h
  split at h
  · rename_i i j
    split at h
    · rename_i hm
      cases h
      exact ⟨i, j, rx.int, ry.int, hm, q _ H (EPost.same I (Rk.dat (.int _)))⟩
    · cases h
  · cases h) ha hb
theorem v_neg (ha : PE X a (tV C W ka fa)) : PE X (.UnaryOp .USub a pos) (tV C W kd (eUn gNeg fa)) := v_un un_neg (fun C ρ S A G σ H0 H x z v gx Q hK I rx h q => by
  unfold gNeg at h
  split at h
  · rename_i i
    cases h
    exact ⟨i, rx.int, q _ H (EPost.same I (Rk.dat (.int _)))⟩
  · cases h) ha

/-! ### comparisons -/
/-- a comparison by its answer -/
def cB (g : Sto → SV → SV → Option Bool) : Sto → SV → SV → Option SV := fun S x y => (g S x y).map fun b => .d (.bool b)
def CmpOk (K : PySem.W.Frag) (ka kb : Kd) (g : Sto → SV → SV → Option Bool) (r : R2) : Prop :=
  ∀ (C : Ct) (ρ : Rho) (S : Sto) (A : List Addr) (G : List (List Addr)) (σ : L2.St) (H0 H1 H : Hp) (x y : SV) (b : Bool) (v u : V) (gx gy : List Addr) (Q : VK), C.K = K → Sim C ρ S A G σ H → Rk C ka gx A G H0 H x v → Rk C kb gy A G H1 H y u → g S x y = some b →
    Q (.bl b) H → r v u H Q
theorem CmpOk.op {K : PySem.W.Frag} {ka kb kd : Kd} {g : Sto → SV → SV → Option Bool} {r : R2} (h : CmpOk K ka kb g r) : OpOk K ka kb kd (cB g) r := by
  intro C ρ S A G σ H0 H1 H x y z v u gx gy Q hK I rx ry e q
  unfold cB at e
  simp only [Option.map_eq_some_iff] at e
  obtain ⟨b, e, rfl⟩ := e
  exact h C ρ S A G σ H0 H1 H x y b v u gx gy Q hK I rx ry e (q _ H (EPost.same I (Rk.dat (.bl _))))
/-- an order of two ints, or of alike data -/
def gLt (_ : Sto) (x y : SV) : Option Bool :=
  match x, y with
  | .d (.int i), .d (.int j) => some (decide (i < j))
  | .d (.tuple xs), .d (.tuple ys) => if PySem.W.alike (.tuple xs) (.tuple ys) && SeqAt.shaped (.tuple xs) then some (PySem.W.dataLt (.tuple xs) (.tuple ys)) else none
  | _, _ => none
def gLe (_ : Sto) (x y : SV) : Option Bool :=
  match x, y with
  | .d (.int i), .d (.int j) => some (decide (i ≤ j))
  | _, _ => none
def gGt (_ : Sto) (x y : SV) : Option Bool :=
  match x, y with
  | .d (.int i), .d (.int j) => some (decide (j < i))
  | _, _ => none
def gGe (_ : Sto) (x y : SV) : Option Bool :=
  match x, y with
  | .d (.int i), .d (.int j) => some (decide (j ≤ i))
  | _, _ => none
def gEq (S : Sto) (x y : SV) : Option Bool := (dat? S x).bind fun d => (dat? S y).bind fun e => if SeqAt.shaped d && SeqAt.shaped e then some (PyData.eqv d e) else none
def gNe (S : Sto) (x y : SV) : Option Bool := (dat? S x).bind fun d => (dat? S y).bind fun e => if SeqAt.shaped d && SeqAt.shaped e then some (!PyData.eqv d e) else none
def isNone : SV → Bool
  | .d .none => true
  | _ => false
def gIsN (_ : Sto) (x y : SV) : Option Bool := if isNone y then some (isNone x) else none
def gNotN (_ : Sto) (x y : SV) : Option Bool := if isNone y then some (!isNone x) else none
def gIn (S : Sto) (x y : SV) : Option Bool := (dat? S x).bind fun d => (dat? S y).bind fun e => match e with
  | .list ds => if SeqAt.shaped d && SeqAt.shaped (.list ds) then some (ds.any fun z => PyData.eqv z d) else none
  | _ => none
def gNotIn (S : Sto) (x y : SV) : Option Bool := (dat? S x).bind fun d => (dat? S y).bind fun e => match e with
  | .list ds => if SeqAt.shaped d && SeqAt.shaped (.list ds) then some (!ds.any fun z => PyData.eqv z d) else none
  | _ => none
/-- a comparison as a value -/
theorem v_cmpB {X : Cx} {C : Ct} {W : WX} {kd ka kb : Kd} {a b : Expr} {pos : Pos} {fa fb : Rho → Mo SV} {op : CmpOp} {g : Sto → SV → SV → Option Bool} {r : R2} (ho : OpR X (compareOp op) r) (h : CmpOk C.K ka kb g r) (ha : PE X a (tV C W ka fa)) (hb : PE X b (tV C W kb fb)) (hm : behindInMarks op b = false) : PE X (.Compare a [op] [b] pos) (tV C W kd (eBin (cB g) fa fb)) := v_cmp ho h.op ha hb hm
/-- a < b of alike data -/
def rLtD (K : PySem.W.Frag) : R2 := fun x y H Q => ∃ d e, Dp K H x d ∧ Dp K H y e ∧ PySem.W.alike d e = true ∧ d ≠ .none ∧ SeqAt.shaped d = true ∧ Q (.bl (PySem.W.dataLt d e)) H
theorem op_ltD (hu : X.A.units + 64 < cLine) : OpR X (compareOp .Lt) (rLtD X.K) := by
  intro pins s σ H x y v u Q I rx ry h
  obtain ⟨d, e, hd, he, al, nn, sd, q⟩ := h
  obtain ⟨as, r1⟩ := Dp.reads I d x v hd rx
  obtain ⟨bs, r2⟩ := Dp.reads I e y u he ry
  exact PySem.W.rcLt_alike d e X.A s v u as bs r1 r2 al nn (SeqAt.room_of_shaped sd hu) _ _ _ _ ⟨.bl _, H, I, rfl, q⟩
theorem c_lt {K : PySem.W.Frag} : CmpOk K ka kb gLt (fun x y H Q => rI0 (fun i j => .bl (decide (i < j))) x y H Q ∨ rLtD K x y H Q) := (fun C ρ S A G σ H0 H1 H x y b v u gx gy Q hK I rx ry h q => by
  subst hK
  unfold gLt at h
  split at h
  · rename_i i j
    cases h
    exact .inl ⟨i, j, rx.int, ry.int, q⟩
  · split at h
    · rename_i hc
      cases h
      simp only [Bool.and_eq_true] at hc
      exact .inr ⟨_, _, Dq.dp _ _ rx.undat, Dq.dp _ _ ry.undat, hc.1, (by intro z; cases z), hc.2, q⟩
    · cases h
  · cases h)
theorem v_lt (hk : C.K = X.K) (hu : X.A.units + 64 < cLine) (ha : PE X a (tV C W ka fa)) (hb : PE X b (tV C W kb fb)) : PE X (.Compare a [.Lt] [b] pos) (tV C W kd (eBin (cB gLt) fa fb)) := v_cmpB (op_lt.or (op_ltD hu)) (hk ▸ c_lt) ha hb (nomark _)
theorem c_le {K : PySem.W.Frag} : CmpOk K ka kb gLe (rI0 fun i j => .bl (decide (i ≤ j))) := (fun C ρ S A G σ H0 H1 H x y b v u gx gy Q hK I rx ry h q => by
  subst hK
  unfold gLe at h
  split at h
  · rename_i i j
    cases h
    exact ⟨i, j, rx.int, ry.int, q⟩
  · cases h)
theorem v_le (ha : PE X a (tV C W ka fa)) (hb : PE X b (tV C W kb fb)) : PE X (.Compare a [.LtE] [b] pos) (tV C W kd (eBin (cB gLe) fa fb)) := v_cmpB (op_le) (c_le (K := C.K)) ha hb (nomark _)
theorem c_gt {K : PySem.W.Frag} : CmpOk K ka kb gGt (rI0 fun i j => .bl (decide (j < i))) := (fun C ρ S A G σ H0 H1 H x y b v u gx gy Q hK I rx ry h q => by
  subst hK
  unfold gGt at h
  split at h
  · rename_i i j
    cases h
    exact ⟨i, j, rx.int, ry.int, q⟩
  · cases h)
theorem v_gt (ha : PE X a (tV C W ka fa)) (hb : PE X b (tV C W kb fb)) : PE X (.Compare a [.Gt] [b] pos) (tV C W kd (eBin (cB gGt) fa fb)) := v_cmpB (op_gt) (c_gt (K := C.K)) ha hb (nomark _)
theorem c_ge {K : PySem.W.Frag} : CmpOk K ka kb gGe (rI0 fun i j => .bl (decide (j ≤ i))) := (fun C ρ S A G σ H0 H1 H x y b v u gx gy Q hK I rx ry h q => by
  subst hK
  unfold gGe at h
  split at h
  · rename_i i j
    cases h
    exact ⟨i, j, rx.int, ry.int, q⟩
  · cases h)
theorem v_ge (ha : PE X a (tV C W ka fa)) (hb : PE X b (tV C W kb fb)) : PE X (.Compare a [.GtE] [b] pos) (tV C W kd (eBin (cB gGe) fa fb)) := v_cmpB (op_ge) (c_ge (K := C.K)) ha hb (nomark _)
theorem c_eq {K : PySem.W.Frag} : CmpOk K ka kb gEq (rEqD K) := (fun C ρ S A G σ H0 H1 H x y b v u gx gy Q hK I rx ry h q => by
  subst hK
  unfold gEq at h
  simp only [Option.bind_eq_some_iff] at h
  obtain ⟨d, hd, e, he, h⟩ := h
  split at h
  · rename_i hc
    cases h
    simp only [Bool.and_eq_true] at hc
    exact ⟨d, e, rx.dp I hd, ry.dp I he, hc.1, hc.2, q⟩
  · cases h)
theorem v_eq (hk : C.K = X.K) (hu : X.A.units + 64 < cLine) (ha : PE X a (tV C W ka fa)) (hb : PE X b (tV C W kb fb)) : PE X (.Compare a [.Eq] [b] pos) (tV C W kd (eBin (cB gEq) fa fb)) := v_cmpB (op_eqD hu) (hk ▸ c_eq) ha hb (nomark _)
theorem c_ne {K : PySem.W.Frag} : CmpOk K ka kb gNe (rNeD K) := (fun C ρ S A G σ H0 H1 H x y b v u gx gy Q hK I rx ry h q => by
  subst hK
  unfold gNe at h
  simp only [Option.bind_eq_some_iff] at h
  obtain ⟨d, hd, e, he, h⟩ := h
  split at h
  · rename_i hc
    cases h
    simp only [Bool.and_eq_true] at hc
    exact ⟨d, e, rx.dp I hd, ry.dp I he, hc.1, hc.2, q⟩
  · cases h)
theorem v_ne (hk : C.K = X.K) (hu : X.A.units + 64 < cLine) (ha : PE X a (tV C W ka fa)) (hb : PE X b (tV C W kb fb)) : PE X (.Compare a [.NotEq] [b] pos) (tV C W kd (eBin (cB gNe) fa fb)) := v_cmpB (op_neD hu) (hk ▸ c_ne) ha hb (nomark _)
theorem Rk.isNone {g A : List Addr} {G : List (List Addr)} {H H' : Hp} {x : SV} {v : V} (r : Rk C kd g A G H H' x v) : decide (v = .non) = VL.isNone x := by
  obtain ⟨r1, _⟩ := r.asBe
  cases r1 with
  | d r2 => cases r2 <;> simp [VL.isNone]
  | _ => simp [VL.isNone]
theorem isNone_of {x : SV} (h : isNone x = true) : x = .d .none := by
  unfold isNone at h
  split at h
  · rfl
  · cases h
theorem c_isN {K : PySem.W.Frag} : CmpOk K ka kb gIsN (fun x y H Q => y = .non ∧ Q (.bl (decide (x = .non))) H) := (fun C ρ S A G σ H0 H1 H x y b v u gx gy Q hK I rx ry h q => by
  subst hK
  unfold gIsN at h
  split at h
  · rename_i hn
    cases h
    obtain rfl := isNone_of hn
    refine ⟨ry.non, ?_⟩
    rw [rx.isNone]
    exact q
  · cases h)
theorem v_isN (ha : PE X a (tV C W ka fa)) (hb : PE X b (tV C W kb fb)) : PE X (.Compare a [.Is] [b] pos) (tV C W kd (eBin (cB gIsN) fa fb)) := v_cmpB (op_isN) (c_isN (K := C.K)) ha hb (nomark _)
theorem c_notN {K : PySem.W.Frag} : CmpOk K ka kb gNotN (fun x y H Q => y = .non ∧ Q (.bl (!decide (x = .non))) H) := (fun C ρ S A G σ H0 H1 H x y b v u gx gy Q hK I rx ry h q => by
  subst hK
  unfold gNotN at h
  split at h
  · rename_i hn
    cases h
    obtain rfl := isNone_of hn
    refine ⟨ry.non, ?_⟩
    rw [rx.isNone]
    exact q
  · cases h)
theorem v_notN (ha : PE X a (tV C W ka fa)) (hb : PE X b (tV C W kb fb)) : PE X (.Compare a [.IsNot] [b] pos) (tV C W kd (eBin (cB gNotN) fa fb)) := v_cmpB (op_notN) (c_notN (K := C.K)) ha hb (nomark _)
theorem c_in {K : PySem.W.Frag} : CmpOk K ka kb gIn (rInD K) := (fun C ρ S A G σ H0 H1 H x y b v u gx gy Q hK I rx ry h q => by
  subst hK
  unfold gIn at h
  simp only [Option.bind_eq_some_iff] at h
  obtain ⟨d, hd, e, he, h⟩ := h
  split at h
  · split at h
    · rename_i hc
      cases h
      simp only [Bool.and_eq_true] at hc
      exact ⟨d, _, rx.dp I hd, ry.dp I he, hc.1, hc.2, q⟩
    · cases h
  · cases h)
theorem v_in (hk : C.K = X.K) (hu : X.A.units + 65 < cLine) (ha : PE X a (tV C W ka fa)) (hb : PE X b (tV C W kb fb)) (hm : behindInMarks .In b = false) : PE X (.Compare a [.In] [b] pos) (tV C W kd (eBin (cB gIn) fa fb)) := v_cmpB (op_inD hu) (hk ▸ c_in) ha hb hm
theorem c_notIn {K : PySem.W.Frag} : CmpOk K ka kb gNotIn (rNotInD K) := (fun C ρ S A G σ H0 H1 H x y b v u gx gy Q hK I rx ry h q => by
  subst hK
  unfold gNotIn at h
  simp only [Option.bind_eq_some_iff] at h
  obtain ⟨d, hd, e, he, h⟩ := h
  split at h
  · split at h
    · rename_i hc
      cases h
      simp only [Bool.and_eq_true] at hc
      exact ⟨d, _, rx.dp I hd, ry.dp I he, hc.1, hc.2, q⟩
    · cases h
  · cases h)
theorem v_notIn (hk : C.K = X.K) (hu : X.A.units + 65 < cLine) (ha : PE X a (tV C W ka fa)) (hb : PE X b (tV C W kb fb)) (hm : behindInMarks .NotIn b = false) : PE X (.Compare a [.NotIn] [b] pos) (tV C W kd (eBin (cB gNotIn) fa fb)) := v_cmpB (op_notInD hu) (hk ▸ c_notIn) ha hb hm
end
end VL

end
section
set_option Elab.async false
set_option linter.all false
set_option maxRecDepth 100000
/-! VL4: tests, and, or, if; subscripts and slices; displays; argument lists; calls of built-ins. -/
namespace VL
open PySem PySem.Spec PyProof.Rows L2

/-! ### tests -/
def truth (S : Sto) (x : SV) : Option Bool :=
  match x with
  | .d .none => some false
  | .d (.bool b) => some b
  | .d (.int i) => some (i != 0)
  | x => (seq? S x).map fun xs => !xs.isEmpty
def bVal (f : Rho → Mo SV) : Rho → Mo Bool := fun ρ S => bindM (f ρ S) fun x S1 => (truth S1 x).map fun b => .ok b S1
def bAnd (f g : Rho → Mo Bool) : Rho → Mo Bool := fun ρ S => bindM (f ρ S) fun b S1 => if b then g ρ S1 else some (.ok false S1)
def bOr (f g : Rho → Mo Bool) : Rho → Mo Bool := fun ρ S => bindM (f ρ S) fun b S1 => if b then some (.ok true S1) else g ρ S1
def bNot (f : Rho → Mo Bool) : Rho → Mo Bool := fun ρ S => bindM (f ρ S) fun b S1 => some (.ok (!b) S1)
/-- as values (all but the last a bool) -/
def eAnd (f g : Rho → Mo SV) : Rho → Mo SV := fun ρ S => bindM (f ρ S) fun x S1 => match x with
  | .d (.bool b) => if b then g ρ S1 else some (.ok (.d (.bool false)) S1)
  | _ => none
def eOr (f g : Rho → Mo SV) : Rho → Mo SV := fun ρ S => bindM (f ρ S) fun x S1 => match x with
  | .d (.bool b) => if b then some (.ok (.d (.bool true)) S1) else g ρ S1
  | _ => none
def eNot (f : Rho → Mo SV) : Rho → Mo SV := fun ρ S => bindM (f ρ S) fun x S1 => match x with
  | .d (.bool b) => some (.ok (.d (.bool (!b))) S1)
  | _ => none
def eIf (c : Rho → Mo Bool) (f g : Rho → Mo SV) : Rho → Mo SV := fun ρ S => bindM (c ρ S) fun b S1 => if b then f ρ S1 else g ρ S1

section
variable {X : Cx} {C : Ct} {W : WX} {kd ka kb kc : Kd} {e a b c : Expr} {pos : Pos} {rest : List Expr} {f fa fb fc : Rho → Mo SV} {p q r : Rho → Mo Bool}
theorem Rk.truth {g : List Addr} {ρ : Rho} {S : Sto} {A : List Addr} {G : List (List Addr)} {σ : L2.St} {H0 H : Hp} {x : SV} {v : V} {k : Bool} (I : Sim C ρ S A G σ H) (rx : Rk C ka g A G H0 H x v) (h : VL.truth S x = some k) : TruV C.K v H k := by
  unfold VL.truth at h
  split at h
  · cases h; rw [rx.non]; rfl
  · cases h; rw [rx.bl]; rfl
  · cases h; rw [rx.int]; rfl
  · simp only [Option.map_eq_some_iff] at h
    obtain ⟨xs, h, rfl⟩ := h
    obtain ⟨a, vs, g', rfl, hs, l, r⟩ := rx.seq I h
    have e : xs.isEmpty = vs.isEmpty := by
      have := r.len
      cases xs <;> cases vs <;> simp_all
    rw [e]
    rcases hs with hs | hs
    · exact .inl ⟨_, hs, rfl⟩
    · exact .inr (.inl ⟨_, hs, rfl⟩)
theorem b_val (hk : C.K = X.K) (ha : PE X e (tV C W ka f)) (he : ∀ whole, isTrue e X.env whole = (do let v ← whole; standAt e.pos; holding [v] (truthy v)) := by intro _; rfl) : PT X e (tTs C W (bVal f)) := by
  refine pt_imp (pt_truth ha he) fun σ H Q ⟨P, ρ, S, A, G, hP, I, q⟩ => ⟨P, ρ, S, A, G, hP, I, EGood.step q (fun _ _ _ _ _ _ z => z) fun x S1 q v H1 p__ => ?_⟩
  obtain ⟨A1, g1, e1, J1, k1⟩ := p__
  have I1 := J1.pgw
  cases eg : truth S1 x with
  | none => rw [eg] at q; exact q.elim
  | some k =>
    rw [eg] at q
    exact ⟨k, hk ▸ (show TruV (C.pr P).K v H1 k from k1.truth I1 eg), q k H1 ⟨rfl, A1, e1, I1⟩⟩
def bB (f : Rho → Mo SV) : Rho → Mo Bool := fun ρ S => bindM (f ρ S) fun x S1 => match x with
  | .d (.bool b) => some (.ok b S1)
  | _ => none
theorem tV_test (ta : TE) (h : ∀ σ H Q, tV C W kd f σ H Q → ta σ H Q) : ∀ σ H Q, tTs C W (bB f) σ H Q → tTest ta σ H Q := by
  intro σ H Q ⟨P, ρ, S, A, G, hP, I, q⟩
  refine h σ H _ ⟨P, ρ, S, A, G, hP, I, EGood.step q (fun _ _ _ _ _ _ z => z) fun x S1 q v H1 p__ => ?_⟩
  obtain ⟨A1, g1, e1, J1, k1⟩ := p__
  have I1 := J1.pgw
  split at q
  · rename_i b
    exact ⟨b, k1.bl, q b H1 ⟨rfl, A1, e1, I1⟩⟩
  · exact q.elim
/-- a comparison as a test, by its operation -/
theorem t_cmp {op : CmpOp} {g : Sto → SV → SV → Option Bool} {r : R2} (ho : OpR X (compareOp op) r) (h : CmpOk C.K ka kb g r) (ha : PE X a (tV C W ka fa)) (hb : PE X b (tV C W kb fb)) (hm : behindInMarks op b = false) : PT X (.Compare a [op] [b] pos) (tTs C W (bB (eBin (cB g) fa fb))) :=
  pt_imp (pt_cmpR ho ha hb hm) (tV_test (kd := .fe) _ (tV_two h.op))
theorem b_and1 (h : PT X a (tTs C W p)) : PW X (.BoolOp .And [a] pos) (tTs C W p) := pw_and1 h
theorem b_or1 (h : PT X a (tTs C W p)) : PW X (.BoolOp .Or [a] pos) (tTs C W p) := pw_or1 h
theorem b_and (ha : PT X a (tTs C W p)) (hb : PW X (.BoolOp .And (b :: rest) pos) (tTs C W q)) : PW X (.BoolOp .And (a :: b :: rest) pos) (tTs C W (bAnd p q)) := by
  refine pw_imp (pw_and ha hb) fun σ H Q ⟨P, ρ, S, A, G, hP, I, h⟩ => ⟨P, ρ, S, A, G, hP, I, EGood.step h (fun _ _ _ _ _ _ z => z) fun k S1 h v H1 ⟨ev, A1, e1, I1⟩ => ?_⟩
  subst ev
  cases v with
  | true => exact ⟨P, ρ, S1, A1, G, hP, I1, EGood.post h (fun _ _ _ _ z => z.trans e1) fun _ _ _ _ _ _ z => z.trans e1⟩
  | false => exact h _ _ ⟨rfl, A1, e1, I1⟩
theorem b_or (ha : PT X a (tTs C W p)) (hb : PW X (.BoolOp .Or (b :: rest) pos) (tTs C W q)) : PW X (.BoolOp .Or (a :: b :: rest) pos) (tTs C W (bOr p q)) := by
  refine pw_imp (pw_or ha hb) fun σ H Q ⟨P, ρ, S, A, G, hP, I, h⟩ => ⟨P, ρ, S, A, G, hP, I, EGood.step h (fun _ _ _ _ _ _ z => z) fun k S1 h v H1 ⟨ev, A1, e1, I1⟩ => ?_⟩
  subst ev
  cases v with
  | false => exact ⟨P, ρ, S1, A1, G, hP, I1, EGood.post h (fun _ _ _ _ z => z.trans e1) fun _ _ _ _ _ _ z => z.trans e1⟩
  | true => exact h _ _ ⟨rfl, A1, e1, I1⟩
theorem b_not (ha : PT X a (tTs C W p)) : PT X (.UnaryOp .Not a pos) (tTs C W (bNot p)) := by
  refine pt_imp (pt_not ha) fun σ H Q ⟨P, ρ, S, A, G, hP, I, h⟩ => ⟨P, ρ, S, A, G, hP, I, EGood.step h (fun _ _ _ _ _ _ z => z) fun k S1 h v H1 ⟨ev, A1, e1, I1⟩ => ?_⟩
  subst ev
  exact h _ _ ⟨rfl, A1, e1, I1⟩
theorem v_one {op} (h : PE X a (tV C W kd f)) : PE X (.BoolOp op [a] pos) (tV C W kd f) := pe_one h
theorem v_and (ha : PE X a (tV C W ka fa)) (hb : PE X (.BoolOp .And (b :: rest) pos) (tV C W kd fb)) : PE X (.BoolOp .And (a :: b :: rest) pos) (tV C W kd (eAnd fa fb)) := by
  refine pe_imp (pe_and ha hb) fun σ H Q ⟨P, ρ, S, A, G, hP, I, h⟩ => ⟨P, ρ, S, A, G, hP, I, EGood.step h (fun _ _ _ _ _ _ z => z) fun x S1 h v H1 p__ => ?_⟩
  obtain ⟨A1, g1, e1, J1, k1⟩ := p__
  have I1 := J1.pgw
  split at h
  · rename_i k
    refine ⟨k, k1.bl, ?_⟩
    cases k with
    | true => exact ⟨P, ρ, S1, A1, G, hP, I1, EGood.post h (fun _ _ _ _ z => z.trans e1) fun _ _ _ _ _ _ z => z.trans e1⟩
    | false => exact h _ _ ⟨A1, [], e1, I1.pg0, Rk.dat (.bl _)⟩
  · exact h.elim
theorem v_or (ha : PE X a (tV C W ka fa)) (hb : PE X (.BoolOp .Or (b :: rest) pos) (tV C W kd fb)) : PE X (.BoolOp .Or (a :: b :: rest) pos) (tV C W kd (eOr fa fb)) := by
  refine pe_imp (pe_or ha hb) fun σ H Q ⟨P, ρ, S, A, G, hP, I, h⟩ => ⟨P, ρ, S, A, G, hP, I, EGood.step h (fun _ _ _ _ _ _ z => z) fun x S1 h v H1 p__ => ?_⟩
  obtain ⟨A1, g1, e1, J1, k1⟩ := p__
  have I1 := J1.pgw
  split at h
  · rename_i k
    refine ⟨k, k1.bl, ?_⟩
    cases k with
    | false => exact ⟨P, ρ, S1, A1, G, hP, I1, EGood.post h (fun _ _ _ _ z => z.trans e1) fun _ _ _ _ _ _ z => z.trans e1⟩
    | true => exact h _ _ ⟨A1, [], e1, I1.pg0, Rk.dat (.bl _)⟩
  · exact h.elim
theorem v_not (ha : PE X a (tV C W ka fa)) : PE X (.UnaryOp .Not a pos) (tV C W kd (eNot fa)) := by
  refine pe_imp (pe_not ha) fun σ H Q ⟨P, ρ, S, A, G, hP, I, h⟩ => ⟨P, ρ, S, A, G, hP, I, EGood.step h (fun _ _ _ _ _ _ z => z) fun x S1 h v H1 p__ => ?_⟩
  obtain ⟨A1, g1, e1, J1, k1⟩ := p__
  have I1 := J1.pgw
  split at h
  · rename_i k
    exact ⟨k, k1.bl, h _ _ ⟨A1, [], e1, I1.pg0, Rk.dat (.bl _)⟩⟩
  · exact h.elim
theorem v_if (hc : PT X c (tTs C W p)) (ha : PE X a (tV C W kd fa)) (hb : PE X b (tV C W kd fb)) : PE X (.IfExp c a b pos) (tV C W kd (eIf p fa fb)) := by
  refine pe_imp (pe_ifExp hc ha hb) fun σ H Q ⟨P, ρ, S, A, G, hP, I, h⟩ => ⟨P, ρ, S, A, G, hP, I, EGood.step h (fun _ _ _ _ _ _ z => z) fun k S1 h v H1 ⟨ev, A1, e1, I1⟩ => ?_⟩
  subst ev
  cases v with
  | true => exact ⟨P, ρ, S1, A1, G, hP, I1, EGood.post h (fun _ _ _ _ z => z.trans e1) fun _ _ _ _ _ _ z => z.trans e1⟩
  | false => exact ⟨P, ρ, S1, A1, G, hP, I1, EGood.post h (fun _ _ _ _ z => z.trans e1) fun _ _ _ _ _ _ z => z.trans e1⟩
/-- a chain of two comparisons -/
def eChain (g g' : Sto → SV → SV → Option Bool) (fa fb fc : Rho → Mo SV) : Rho → Mo SV := fun ρ S => bindM (fa ρ S) fun x S1 => bindM (fb ρ S1) fun y S2 => match g S2 x y with
  | some true => bindM (fc ρ S2) fun z S3 => (g' S3 y z).map fun w => .ok (.d (.bool w)) S3
  | some false => some (.ok (.d (.bool false)) S2)
  | none => none
theorem tV_chain {g g' : Sto → SV → SV → Option Bool} {r r' : R2} (h : CmpOk C.K ka kb g r) (h' : CmpOk C.K kb kc g' r') : ∀ σ H Q, tV C W kd (eChain g g' fa fb fc) σ H Q → tChain r r' (tV C W ka fa) (tV C W kb fb) (tV C W kc fc) σ H Q := by
  intro σ H Q ⟨P, ρ, S, A, G, hP, I, q⟩
  refine ⟨P, ρ, S, A, G, hP, I, EGood.step q (fun _ _ _ _ _ _ z => z) fun x S1 q v H1 p => ?_⟩
  obtain ⟨A1, g1, P1, e1, hP1, I1, k1, _⟩ := p.next
  refine ⟨P1, ρ, S1, A1, G, fun a z => hP1 a (hP a z), I1, EGood.step q (fun _ _ _ _ _ _ z => z.trans e1) fun y S2 q u H2 p => ?_⟩
  obtain ⟨A2, g2, P2, e2, hP2, I2, k2, _⟩ := p.next
  have I2' : Sim (C.pr P) ρ S2 A2 G σ H2 := (show Sim ((C.pr P2).pr P) ρ S2 A2 G σ H2 from Sim.prc I2 fun a z => hP2 a (hP1 a z))
  have k2' := k2.prw hP1
  cases eg : g S2 x y with
  | none => rw [eg] at q; exact q.elim
  | some k =>
    rw [eg] at q
    refine h (C.pr P) ρ S2 A2 G σ H H1 H2 x y k v u g1 g2 _ rfl I2' (k1.ext e2) k2' eg ⟨k, rfl, ?_⟩
    cases k with
    | false => exact q _ _ ⟨A2, [], e1.trans e2, I2'.pg0, Rk.dat (.bl _)⟩
    | true =>
      refine ⟨P2, ρ, S2, A2, G, fun a z => hP2 a (hP1 a (hP a z)), I2, EGood.step q (fun _ _ _ _ _ _ z => z.trans (e1.trans e2)) fun z S4 q t4 H4 p => ?_⟩
      obtain ⟨A4, g4, e4, J4, k4⟩ := p
      have I4' : Sim (C.pr P) ρ S4 A4 G σ H4 := (show Sim ((C.pr P2).pr P) ρ S4 A4 G σ H4 from Sim.prc J4.pgw fun a z => hP2 a (hP1 a z))
      cases eg' : g' S4 y z with
      | none => rw [eg'] at q; exact q.elim
      | some w' =>
        rw [eg'] at q
        exact h' (C.pr P) ρ S4 A4 G σ H1 H2 H4 y z w' u t4 g2 g4 Q rfl I4' (k2'.ext e4) (k4.prw fun a z => hP2 a (hP1 a z)) eg' (q _ _ ⟨A4, [], e1.trans (e2.trans e4), I4'.pg0, Rk.dat (.bl _)⟩)
theorem v_chain {op op' : CmpOp} {g g' : Sto → SV → SV → Option Bool} {r r' : R2} (ho : OpR X (compareOp op) r) (ho' : OpR X (compareOp op') r') (h : CmpOk C.K ka kb g r) (h' : CmpOk C.K kb kc g' r') (ha : PE X a (tV C W ka fa)) (hb : PE X b (tV C W kb fb)) (hc : PE X c (tV C W kc fc))
    (hm : lastMarks [op, op'] [b, c] = false := by with_unfolding_all rfl) : PE X (.Compare a [op, op'] [b, c] pos) (tV C W kd (eChain g g' fa fb fc)) := pe_imp (pe_chain ho ho' ha hb hc hm) (tV_chain h h')
theorem t_chain {op op' : CmpOp} {g g' : Sto → SV → SV → Option Bool} {r r' : R2} (ho : OpR X (compareOp op) r) (ho' : OpR X (compareOp op') r') (h : CmpOk C.K ka kb g r) (h' : CmpOk C.K kb kc g' r') (ha : PE X a (tV C W ka fa)) (hb : PE X b (tV C W kb fb)) (hc : PE X c (tV C W kc fc))
    (hm : lastMarks [op, op'] [b, c] = false := by with_unfolding_all rfl) : PT X (.Compare a [op, op'] [b, c] pos) (tTs C W (bB (eChain g g' fa fb fc))) := pt_imp (pt_chain ho ho' ha hb hc hm) (tV_test (kd := .fe) _ (tV_chain h h'))
end

/-! ### subscripts -/
def ixL {α : Type} (xs : List α) (i : Int) : Option α := atI xs i
/-- an item; no list of one's own -/
def gIx (S : Sto) (x y : SV) : Option SV :=
  match x, y with
  | .d (.str z), .d (.int i) => if z.length ≤ sizeLine then (atI z.cps.toList i).map fun c => .d (.str ⟨#[c]⟩) else none
  | x, .d (.int i) => (seq? S x).bind fun xs => (atI xs i).bind fun z => if noOwn z then some z else none
  | _, _ => none
/-- an item that is looked at -/
def gIxB (S : Sto) (x y : SV) : Option SV :=
  match y with
  | .d (.int i) => (seq? S x).bind fun xs => atI xs i
  | _ => none
section
variable {X : Cx} {C : Ct} {W : WX} {kd ka kb : Kd} {e a b c : Expr} {pos : Pos} {f fa fb fc : Rho → Mo SV}
theorem RkL.at {g A : List Addr} {G : List (List Addr)} {H H1 : Hp} {xs : List SV} {vs : List V} {x : SV} {i : Int} (r : RkL C .be g A G H H1 xs vs) (h : atI xs i = some x) : ∃ v g', atI vs i = some v ∧ Rk C .be g' A G H H1 x v := by
  unfold atI at h ⊢
  rw [r.len]
  cases e : ixN xs.length i with
  | none => rw [e] at h; cases h
  | some j =>
    rw [e] at h
    exact r.get h
theorem ok_ix {K : PySem.W.Frag} : OpOk K ka kb kd gIx (rIx K) := by
  intro C ρ S A G σ H0 H1 H x y z v u gx gy Q hK I rx ry h q
  subst hK
  unfold gIx at h
  split at h
  · rename_i t i
    split at h
    · rename_i hl
      simp only [Option.map_eq_some_iff] at h
      obtain ⟨c, hc, rfl⟩ := h
      exact .inr (.inr ⟨t, i, c, rx.str, ry.int, hl, hc, q _ H (EPost.same I (Rk.dat (.str _)))⟩)
    · cases h
  · rename_i i _
    simp only [Option.bind_eq_some_iff] at h
    obtain ⟨xs, hx, w, hw, h⟩ := h
    split at h
    · rename_i hn
      cases h
      obtain ⟨a, vs, ga, rfl, hs, l, r⟩ := rx.seq I hx
      obtain ⟨t, gt, ht, rt⟩ := r.at hw
      have fin : Q t H := q _ H (EPost.same I (Rk.fe_of rt hn))
      rcases hs with hs | hs
      · exact .inl ⟨a, vs, i, t, rfl, ry.int, hs, ht, fin⟩
      · exact .inr (.inl ⟨a, vs, i, t, rfl, ry.int, hs, ht, fin⟩)
    · cases h
  · cases h
theorem ok_ixB {K : PySem.W.Frag} : OpOk K ka kb .be gIxB (rIx K) := by
  intro C ρ S A G σ H0 H1 H x y z v u gx gy Q hK I rx ry h q
  subst hK
  unfold gIxB at h
  split at h
  · rename_i i
    simp only [Option.bind_eq_some_iff] at h
    obtain ⟨xs, hx, hw⟩ := h
    obtain ⟨a, vs, ga, rfl, hs, l, r⟩ := rx.seq I hx
    obtain ⟨t, gt, ht, rt⟩ := r.at hw
    have fin : Q t H := q _ H ⟨A, gt, Ext.refl, I, rt⟩
    rcases hs with hs | hs
    · exact .inl ⟨a, vs, i, t, rfl, ry.int, hs, ht, fin⟩
    · exact .inr (.inl ⟨a, vs, i, t, rfl, ry.int, hs, ht, fin⟩)
  · cases h
theorem v_ix (hk : C.K = X.K) (ha : PE X a (tV C W ka fa)) (hb : PE X b (tV C W kb fb)) (hs : PlainIx b) : PE X (.Subscript a b pos) (tV C W kd (eBin gIx fa fb)) := pe_imp (pe_ix ix_seq ha hb hs) (tV_two (hk ▸ ok_ix))
theorem v_ixB (hk : C.K = X.K) (ha : PE X a (tV C W ka fa)) (hb : PE X b (tV C W kb fb)) (hs : PlainIx b) : PE X (.Subscript a b pos) (tV C W .be (eBin gIxB fa fb)) := pe_imp (pe_ix ix_seq ha hb hs) (tV_two (hk ▸ ok_ixB))
/-! slices -/
def cutL {α : Type} (xs : List α) (lo hi : Option Int) : List α := (xs.drop (HT.sIx xs.length 0 lo)).take (HT.sIx xs.length xs.length hi - HT.sIx xs.length 0 lo)
def pNone : Rho → Mo (Option Int) := fun _ S => some (.ok none S)
def pSome (f : Rho → Mo SV) : Rho → Mo (Option Int) := fun ρ S => bindM (f ρ S) fun x S1 => match x with
  | .d (.int i) => some (.ok (some i) S1)
  | _ => none
def OPost (C : Ct) (ρ : Rho) (A : List Addr) (G : List (List Addr)) (σ : L2.St) (H : Hp) (b : Option Int) (S' : Sto) (b' : Option Int) (H' : Hp) : Prop := b' = b ∧ ∃ A', Ext A H A' H' ∧ Sim C ρ S' A' G σ H'
def tO (C : Ct) (W : WX) (f : Rho → Mo (Option Int)) : TO := fun σ H Q => ∃ P ρ S A G, (∀ a, C.Pr a → P a) ∧ Sim (C.pr P) ρ S A G σ H ∧ EGood (OPost (C.pr P) ρ A G σ H) (XPost C ρ A G σ H) W σ Q (f ρ S)
theorem po_imp {e : Option Expr} {t t' : TO} (h : PO X e t) (i : ∀ σ H Q, t' σ H Q → t σ H Q) : PO X e t' := ⟨fun pins s σ H Q I q => h.run pins s σ H Q I (i σ H Q q)⟩
theorem o_none : PO X none (tO C W pNone) := po_imp po_none fun σ H Q ⟨P, ρ, S, A, G, hP, I, q⟩ => q none H ⟨rfl, A, Ext.refl, I⟩
theorem o_some (h : PE X e (tV C W ka f)) : PO X (some e) (tO C W (pSome f)) := by
  refine po_imp (po_some h) fun σ H Q ⟨P, ρ, S, A, G, hP, I, q⟩ => ⟨P, ρ, S, A, G, hP, I, EGood.step q (fun _ _ _ _ _ _ z => z) fun x S1 q v H1 p__ => ?_⟩
  obtain ⟨A1, g1, e1, J1, k1⟩ := p__
  have I1 := J1.pgw
  split at q
  · rename_i i
    exact ⟨i, k1.int, q _ H1 ⟨rfl, A1, e1, I1⟩⟩
  · exact q.elim
def gSl (S : Sto) (x : SV) (lo hi : Option Int) : Option SV :=
  match x with
  | .d (.tuple ds) => some (.d (.tuple (cutL ds lo hi)))
  | .d (.str z) => if z.length ≤ sizeLine then some (.d (.str (Txt.slice z lo hi))) else none
  | .scr ns => some (.own ((cutL ns lo hi).map fun n => .d (.int n)))
  | x => (lst? S x).bind fun xs => if xs.all noOwn then some (.own (cutL xs lo hi)) else none
def eSl (f : Rho → Mo SV) (lo hi : Rho → Mo (Option Int)) : Rho → Mo SV := fun ρ S => bindM (f ρ S) fun x S1 => bindM (lo ρ S1) fun l S2 => bindM (hi ρ S2) fun h S3 => (gSl S3 x l h).map fun z => .ok z S3
theorem cutL_length {α : Type} (xs : List α) (lo hi : Option Int) : (cutL xs lo hi).length ≤ xs.length := by
  unfold cutL
  rw [List.length_take, List.length_drop]
  omega
theorem DqL.cut {K : PySem.W.Frag} {H : Hp} {F : Addr → Prop} {ds : List PyData} {vs : List V} (r : DqL K H F ds vs) (lo hi : Option Int) : DqL K H F (cutL ds lo hi) (cutV vs lo hi) := by
  unfold cutL cutV
  rw [r.length]
  exact (r.drop _).take _
theorem RsL.drop {K : PySem.W.Frag} {mg : Str → Option Value} {H : Hp} {A : List Addr} {F : Addr → Prop} : ∀ {xs : List SV} {vs : List V} (n : Nat), RsL K mg H A F xs vs [] → RsL K mg H A F (xs.drop n) (vs.drop n) []
  | _, _, 0, r => r
  | [], _, n + 1, r => by cases r; exact .nil
  | x :: xs, _, n + 1, r => by
    generalize hg : ([] : List Addr) = g at r
    cases r with
    | cons r1 r2 =>
      have := List.append_eq_nil_iff.mp hg.symm
      obtain ⟨rfl, rfl⟩ := this
      exact RsL.drop n r2
theorem RsL.take {K : PySem.W.Frag} {mg : Str → Option Value} {H : Hp} {A : List Addr} {F : Addr → Prop} : ∀ {xs : List SV} {vs : List V} (n : Nat), RsL K mg H A F xs vs [] → RsL K mg H A F (xs.take n) (vs.take n) []
  | _, _, 0, r => .nil
  | [], _, n + 1, r => by cases r; exact .nil
  | x :: xs, _, n + 1, r => by
    generalize hg : ([] : List Addr) = g at r
    cases r with
    | cons r1 r2 =>
      have := List.append_eq_nil_iff.mp hg.symm
      obtain ⟨rfl, rfl⟩ := this
      exact .cons (g := []) (g' := []) r1 (RsL.take n r2)
theorem v_sl (hk : C.K = X.K) {lo hi : Option Expr} {p2 : Pos} {fl fh : Rho → Mo (Option Int)} (ha : PE X a (tV C W ka fa)) (hl : PO X lo (tO C W fl)) (hh : PO X hi (tO C W fh)) : PE X (.Subscript a (.Slice lo hi none p2) pos) (tV C W kd (eSl fa fl fh)) := by
  refine pe_imp (pe_slice (sl_tupA.or (sl_list.or C8.sl_txt)) ha hl hh) fun σ H Q ⟨P, ρ, S, A, G, hP, I, q⟩ => ⟨P, ρ, S, A, G, hP, I, EGood.step q (fun _ _ _ _ _ _ z => z) fun x S1 q v H1 p__ => ?_⟩
  obtain ⟨A1, g1, P1, e1, hP1, I1, k1, _⟩ := p__.next
  refine ⟨P1, ρ, S1, A1, G, fun a z => hP1 a (hP a z), I1, EGood.step q (fun _ _ _ _ _ _ z => z.trans e1) fun lo S2 q2 lo' H2 ⟨el, A2, e2, I2⟩ => ?_⟩
  subst el
  refine ⟨P1, ρ, S2, A2, G, fun a z => hP1 a (hP a z), I2, EGood.step q2 (fun _ _ _ _ _ _ z => z.trans (e1.trans e2)) fun hi S3 q3 hi' H3 ⟨eh, A3, e3, I3'⟩ => ?_⟩
  subst eh
  have I3 : Sim (C.pr P) ρ S3 A3 G σ H3 := (show Sim ((C.pr P1).pr P) ρ S3 A3 G σ H3 from Sim.prc I3' hP1)
  have rx := (k1.ext e2).ext e3
  clear q q2
  cases eg : gSl S3 x lo' hi' with
  | none => rw [eg] at q3; exact q3.elim
  | some z =>
    rw [eg] at q3
    have fin : ∀ w H', EPost (C.pr P) kd ρ A3 G σ H3 z S3 w H' → Q w H' := fun w H' p => q3 w H' (p.trans (e1.trans (e2.trans e3)))
    clear q3
    have lists : ∀ xs, lst? S3 x = some xs → xs.all noOwn = true → z = .own (cutL xs lo' hi') → ∃ a vs, v = .ref a ∧ SqL X.K H3 a vs ∧ ∀ p, H3 p = none → Q (.ref p) (upd H3 p (.lst (cutV vs lo' hi'))) := fun xs hx hn hz => by
      obtain ⟨a, vs, ga, rfl, e, l, r⟩ := rx.lst I3 hx
      refine ⟨a, vs, rfl, .of e, fun p hp => fin _ _ ?_⟩
      subst hz
      have hlen := r.len
      obtain ⟨r, _⟩ := r
      obtain rfl := r.noOwn hn
      refine EPost.lst (g := []) (H1 := H3) I3 ⟨?_, fun a m => by cases m⟩ ?_ (Nat.le_trans (cutV_length _ _ _) l) hp
      · unfold cutL cutV
        rw [hlen]
        exact (r.drop _).take _
      · refine List.all_eq_true.mpr fun y hy => List.all_eq_true.mp hn y ?_
        unfold cutL at hy
        exact List.mem_of_mem_drop (List.mem_of_mem_take hy)
    unfold gSl at eg
    split at eg
    · rename_i ds
      cases eg
      obtain ⟨a, vs, rfl, hs, l, r⟩ := rx.tup
      refine .inl ⟨a, vs, rfl, hk ▸ hs, fun hw => ?_, fun hw p hp => fin _ _ (EPost.tup I3 (r.cut _ _) (Nat.le_trans (cutV_length _ _ _) l) hp)⟩
      have e : cutL ds lo' hi' = ds := by
        unfold cutL
        rw [← r.length, hw.1, hw.2, List.drop_zero, Nat.sub_zero, r.length]
        exact List.take_length
      rw [e] at fin
      exact fin _ _ (EPost.same I3 (Rk.fe_of rx rfl))
    · rename_i t
      split at eg
      · rename_i hz
        cases eg
        exact .inr (.inr ⟨t, rx.str, hz, fin _ _ (EPost.same I3 (Rk.dat (.str _)))⟩)
      · cases eg
    · rename_i ns
      cases eg
      obtain ⟨r0, hg⟩ := rx.asBe
      cases r0 with
      | scr e n l =>
        refine .inr (.inl ⟨_, _, rfl, .inl (.inr ⟨_, e⟩), fun p hp => fin _ _ ?_⟩)
        have hc : cutV (ns.map V.int) lo' hi' = (cutL ns lo' hi').map V.int := by
          unfold cutV cutL
          rw [List.length_map, ← List.map_drop, ← List.map_take]
        rw [hc]
        refine EPost.lst (g := []) (H1 := H3) I3 ⟨?_, fun a m => by cases m⟩ (by simp [List.all_map, noOwn]) ?_ hp
        · have := RsL.ofD (K := C.K) (mg := C.mg) (A := A3) (DqL.ofInts (C := C) (H := H3) (F := Fs (C.pr P) A3 G) (cutL ns lo' hi'))
          rw [List.map_map] at this
          exact this
        · rw [List.length_map]
          exact Nat.le_trans (cutL_length _ _ _) l
      | scrK e l =>
        refine .inr (.inl ⟨_, _, rfl, hk ▸ SqL.const e H3, fun p hp => fin _ _ ?_⟩)
        have hc : cutV (ns.map V.int) lo' hi' = (cutL ns lo' hi').map V.int := by
          unfold cutV cutL
          rw [List.length_map, ← List.map_drop, ← List.map_take]
        rw [hc]
        refine EPost.lst (g := []) (H1 := H3) I3 ⟨?_, fun a m => by cases m⟩ (by simp [List.all_map, noOwn]) ?_ hp
        · have := RsL.ofD (K := C.K) (mg := C.mg) (A := A3) (DqL.ofInts (C := C) (H := H3) (F := Fs (C.pr P) A3 G) (cutL ns lo' hi'))
          rw [List.map_map] at this
          exact this
        · rw [List.length_map]
          exact Nat.le_trans (cutL_length _ _ _) l
    · simp only [Option.bind_eq_some_iff] at eg
      obtain ⟨xs, hx, eg⟩ := eg
      split at eg
      · rename_i hn
        cases eg
        exact .inr (.inl (lists xs hx hn rfl))
      · cases eg
end
end VL

end
section
set_option Elab.async false
set_option linter.all false
set_option maxRecDepth 100000
/-! VL5: displays, argument lists, calls of built-ins. -/
namespace VL
open PySem PySem.Spec PyProof.Rows L2

/-! ### from a list of one's own to data -/
mutual
def datO : SV → Option PyData
  | .d x => some x
  | .own xs => (datOs xs).map .list
  | .ref _ => none
  | .fn _ => none
  | .scr _ => none
def datOs : List SV → Option (List PyData)
  | [] => some []
  | x :: xs => (datO x).bind fun d => (datOs xs).map (d :: ·)
end
/-- what may be handed on for good -/
def frz (x : SV) : Option SV := if noOwn x then some x else (datO x).map .d
def frzs : List SV → Option (List SV)
  | [] => some []
  | x :: xs => (frz x).bind fun y => (frzs xs).map (y :: ·)
section
variable {K : PySem.W.Frag} {mg : Str → Option Value} {H : Hp} {A : List Addr} {F F1 : Addr → Prop}
mutual
theorem Rs.datO (hF : ∀ a, F a → F1 a) : ∀ (x : SV) (v : V) (g : List Addr) (d : PyData), Rs K mg H A F1 x v g → VL.datO x = some d → (∀ a ∈ g, ¬ F a) → Dq K H F d v
  | .d x, _, _, _, r, h, _ => by
    cases r with
    | d r =>
      simp only [VL.datO, Option.some.injEq] at h
      subst h
      exact Dq.mono (fun a z => .inl (hF a z)) (fun a o q n => q) _ _ r
  | .own xs, _, _, _, r, h, n => by
    cases r with
    | own e l r =>
      simp only [VL.datO, Option.map_eq_some_iff] at h
      obtain ⟨ds, h, rfl⟩ := h
      exact .lst e (n _ List.mem_cons_self) l (RsL.datO hF xs _ _ ds r h fun a m => n a (List.mem_cons_of_mem _ m))
  | .ref _, _, _, _, _, h, _ => by simp [VL.datO] at h
  | .fn _, _, _, _, _, h, _ => by simp [VL.datO] at h
  | .scr _, _, _, _, _, h, _ => by simp [VL.datO] at h
theorem RsL.datO (hF : ∀ a, F a → F1 a) : ∀ (xs : List SV) (vs : List V) (g : List Addr) (ds : List PyData), RsL K mg H A F1 xs vs g → VL.datOs xs = some ds → (∀ a ∈ g, ¬ F a) → DqL K H F ds vs
  | [], _, _, _, r, h, _ => by
    cases r
    simp only [VL.datOs, Option.some.injEq] at h
    subst h
    exact .nil
  | x :: xs, _, _, _, r, h, n => by
    cases r with
    | cons r1 r2 =>
      simp only [VL.datOs, Option.bind_eq_some_iff, Option.map_eq_some_iff] at h
      obtain ⟨d, h1, ds, h2, rfl⟩ := h
      exact .cons (Rs.datO hF x _ _ d r1 h1 fun a m => n a (List.mem_append_left _ m)) (RsL.datO hF xs _ _ ds r2 h2 fun a m => n a (List.mem_append_right _ m))
end
end
section
variable {C : Ct} {kd ka kb : Kd} {ρ : Rho} {S : Sto} {A A' : List Addr} {G : List (List Addr)} {σ : L2.St} {H H0 H1 H2 : Hp} {x y z : SV} {v u w : V} {xs ys : List SV} {vs us : List V} {g : List Addr}
/-- what is one's own is neither the store's, nor a slot's, nor left alone by others -/
theorem fe_not (I : Sim (C.pg .fe g) ρ S A' G σ H) {a : Addr} (h : Rk C .fe g A' G H0 H x v) (m : a ∈ g) (hp : ∀ a ∈ g, ¬ C.Pr a) : ¬ Fs C A' G a := fun z => by
  have q : (C.pg .fe g).Pr a := .inr m
  have n := (I.prot a q).1
  rcases z with z | z | z
  · exact n (List.mem_append_left _ z)
  · exact n (List.mem_append_right _ z)
  · exact hp a m z
theorem RkL.datO {ds : List PyData} (r : RkL C .fe g A' G H0 H xs vs) (hg : ∀ a ∈ g, ¬ Fs C A' G a) (h : VL.datOs xs = some ds) : DqL C.K H (Fs C A' G) ds vs := RsL.datO (fun a z => .inl z) _ _ _ _ r.1 h hg
theorem Rk.datO {d : PyData} (r : Rk C .fe g A' G H0 H x v) (hg : ∀ a ∈ g, ¬ Fs C A' G a) (h : VL.datO x = some d) : Dq C.K H (Fs C A' G) d v := Rs.datO (fun a z => .inl z) _ _ _ _ r.1 h hg
theorem Rk.frz (r : Rk C .fe g A' G H0 H x v) (hg : ∀ a ∈ g, ¬ Fs C A' G a) (h : VL.frz x = some y) : Rs C.K C.mg H A' (Fs C A' G) y v [] := by
  unfold VL.frz at h
  split at h
  · rename_i hn
    cases h
    obtain ⟨r, nd, hg'⟩ := r
    obtain rfl := r.noOwn hn
    exact Rs.mono (fun _ _ q => q) (fun a z => .inl (.inl z)) (fun a o q n => q) _ _ _ (fun a m => by cases m) r
  · simp only [Option.map_eq_some_iff] at h
    obtain ⟨d, h, rfl⟩ := h
    exact .d (r.datO hg h)
theorem RkL.uncons (r : RkL C .fe g A G H0 H (x :: xs) vs) : ∃ v us g1 g2, vs = v :: us ∧ g = g1 ++ g2 ∧ Rk C .fe g1 A G H0 H x v ∧ RkL C .fe g2 A G H0 H xs us := by
  obtain ⟨r, nd, hg⟩ := r
  cases r with
  | cons r1 r2 =>
    rename_i v us g1 g2
    have n := List.nodup_append.mp nd
    refine ⟨v, us, g1, g2, rfl, rfl, ⟨?_, n.1, fun a m => hg a (List.mem_append_left _ m)⟩, ⟨?_, n.2.1, fun a m => hg a (List.mem_append_right _ m)⟩⟩
    · exact Rs.mono (fun _ _ q => q) (fun a z => z.elim (fun z => .inl (.inl z)) fun z => .inl (.inr (List.mem_append_left _ z))) (fun a o q n => q) _ _ _ (fun a m o q => q) r1
    · exact RsL.mono (fun _ _ q => q) (fun a z => z.elim (fun z => .inl (.inl z)) fun z => .inl (.inr (List.mem_append_right _ z))) (fun a o q n => q) _ _ _ (fun a m o q => q) r2
theorem RkL.frz (r : RkL C .fe g A' G H0 H xs vs) (hg : ∀ a ∈ g, ¬ Fs C A' G a) (h : VL.frzs xs = some ys) : RsL C.K C.mg H A' (Fs C A' G) ys vs [] := by
  induction xs generalizing vs ys g with
  | nil =>
    simp only [VL.frzs, Option.some.injEq] at h
    subst h
    obtain ⟨r, _⟩ := r
    cases r
    exact .nil
  | cons x xs ih =>
    simp only [VL.frzs, Option.bind_eq_some_iff, Option.map_eq_some_iff] at h
    obtain ⟨y, hy, zs, hz, rfl⟩ := h
    obtain ⟨v, us, g1, g2, rfl, rfl, r1, r2⟩ := r.uncons
    exact .cons (g := []) (g' := []) (r1.frz (fun a m => hg a (List.mem_append_left _ m)) hy) (ih r2 (fun a m => hg a (List.mem_append_right _ m)) hz)
end

/-! ### argument lists -/
def aNil : Rho → Mo (List SV) := fun _ S => some (.ok [] S)
def aCons (f : Rho → Mo SV) (g : Rho → Mo (List SV)) : Rho → Mo (List SV) := fun ρ S => bindM (f ρ S) fun x S1 => bindM (g ρ S1) fun xs S2 => some (.ok (x :: xs) S2)
section
variable {X : Cx} {C : Ct} {W : WX} {kd ka kb : Kd} {e a b c : Expr} {es : List Expr} {pos : Pos} {f fa fb : Rho → Mo SV} {fs : Rho → Mo (List SV)}
theorem a_nil : PA X [] (tVs C W kd aNil) := pa_imp pa_nil fun σ H Q ⟨P, ρ, S, A, G, hP, I, q⟩ => q [] H ⟨A, [], Ext.refl, I.pg0, by
  cases kd with
  | be => exact ⟨.nil, fun a m => by cases m⟩
  | fe => exact ⟨.nil, List.nodup_nil, fun a m => by cases m⟩⟩
theorem a_cons (ha : PE X e (tV C W kd f)) (hr : PA X es (tVs C W kd fs)) (hs : starEach (e :: es) X.env = (false, eval e X.env) :: starEach es X.env := by rfl) : PA X (e :: es) (tVs C W kd (aCons f fs)) := by
  refine pa_imp (pa_cons ha hr hs) fun σ H Q ⟨P, ρ, S, A, G, hP, I, q⟩ => ⟨P, ρ, S, A, G, hP, I, EGood.step q (fun _ _ _ _ _ _ z => z) fun x S1 q v H1 p => ?_⟩
  obtain ⟨A1, g1, e1, J1, k1⟩ := p
  cases kd with
  | be =>
    refine ⟨P, ρ, S1, A1, G, hP, J1, EGood.step q (fun _ _ _ _ _ _ z => z.trans e1) fun xs S2 q us H2 p => ?_⟩
    obtain ⟨A2, g2, e2, J2, k2⟩ := p
    have k1 := k1.ext e2
    exact q _ _ ⟨A2, g1 ++ g2, e1.trans e2, J2, .cons k1.1 k2.1, fun a m => (List.mem_append.mp m).elim (k1.2 a) (k2.2 a)⟩
  | fe =>
    refine ⟨fun a => P a ∨ a ∈ g1, ρ, S1, A1, G, fun a z => .inl (hP a z), J1, EGood.step q (fun _ _ _ _ _ _ z => z.trans e1) fun xs S2 q us H2 p => ?_⟩
    obtain ⟨A2, g2, e2, J2, k2⟩ := p
    have hF : ∀ a, (Fs (C.pr P) A2 G a ∨ a ∈ g1 ++ g2) ↔ (Fs (C.pr fun a => P a ∨ a ∈ g1) A2 G a ∨ a ∈ g2) := fun a => by
      constructor
      · rintro ((z | z | z) | z)
        · exact .inl (.inl z)
        · exact .inl (.inr (.inl z))
        · exact .inl (.inr (.inr (.inl z)))
        · exact (List.mem_append.mp z).elim (fun z => .inl (.inr (.inr (.inr z)))) .inr
      · rintro ((z | z | z | z) | z)
        · exact .inl (.inl z)
        · exact .inl (.inr (.inl z))
        · exact .inl (.inr (.inr z))
        · exact .inr (List.mem_append_left _ z)
        · exact .inr (List.mem_append_right _ z)
    refine q _ _ ⟨A2, g1 ++ g2, e1.trans e2, ?_, .cons ?_ ?_, ?_, ?_⟩
    · exact (show Sim (((C.pr fun a => P a ∨ a ∈ g1).pr fun a => (P a ∨ a ∈ g1) ∨ a ∈ g2).pr fun a => P a ∨ a ∈ g1 ++ g2) ρ S2 A2 G σ H2 from Sim.prc J2 fun a z => z.elim (fun z => .inl (.inl z)) fun z => (List.mem_append.mp z).elim (fun z => .inl (.inr z)) .inr)
    · refine Rs.mono (prefix_get e2.pre) (fun a z => ?_) (fun a o q n => e2.keep a o q fun z => n (.inl (.inl z))) _ _ _ (fun a m o q => e2.keep a o q (k1.2.2 a m).2.2) k1.1
      rcases z with z | z
      · rcases fs_ext e2 a z with z | z
        · exact .inl (.inl z)
        · exact .inr z
      · rcases List.mem_append.mp z with z | z
        · exact .inl (.inr z)
        · exact .inr (k2.2.2 a z).1
    · exact RsL.mono (fun _ _ q => q) (fun a z => .inl ((hF a).mp z)) (fun a o q n => q) _ _ _ (fun a m o q => q) k2.1
    · refine List.nodup_append.mpr ⟨k1.2.1, k2.2.1, fun a h b h' e => ?_⟩
      subst e
      exact (k1.2.2 a h).2.1 (k2.2.2 a h').1
    · intro a m
      rcases List.mem_append.mp m with m | m
      · refine ⟨(k1.2.2 a m).1, e2.there a (k1.2.2 a m).2.1, fun z => ?_⟩
        rcases e2.new a z with z | z
        · exact (k1.2.2 a m).2.2 z
        · exact (k1.2.2 a m).2.1 z
      · exact ⟨none_back e1 (k2.2.2 a m).1, (k2.2.2 a m).2⟩
/-- no new thing is the store's or a slot's -/
theorem new_not {P : Addr → Prop} {ρ : Rho} {S S1 : Sto} {A A1 : List Addr} {G : List (List Addr)} {σ : L2.St} {H H1 : Hp} {g : List Addr} (I : Sim (C.pr P) ρ S A G σ H) {xs : List SV} {vs : List V} (r : RkL (C.pr P) .fe g A1 G H H1 xs vs) : ∀ a ∈ g, ¬ Fs (C.pr P) A1 G a := fun a m z => by
  obtain ⟨h0, _, hA⟩ := r.2.2 a m
  rcases z with z | z | z
  · exact hA z
  · exact I.trk a (List.mem_append_right _ z) h0
  · exact I.prTrk z h0
theorem new_not1 {P : Addr → Prop} {ρ : Rho} {S S1 : Sto} {A A1 : List Addr} {G : List (List Addr)} {σ : L2.St} {H H1 : Hp} {g : List Addr} (I : Sim (C.pr P) ρ S A G σ H) {x : SV} {v : V} (r : Rk (C.pr P) .fe g A1 G H H1 x v) : ∀ a ∈ g, ¬ Fs (C.pr P) A1 G a := fun a m z => by
  obtain ⟨h0, _, hA⟩ := r.2.2 a m
  rcases z with z | z | z
  · exact hA z
  · exact I.trk a (List.mem_append_right _ z) h0
  · exact I.prTrk z h0
/-! ### displays -/
def eTup (fs : Rho → Mo (List SV)) : Rho → Mo SV := fun ρ S => bindM (fs ρ S) fun xs S1 => if xs.length ≤ sizeLine then (datOs xs).map fun ds => .ok (.d (.tuple ds)) S1 else none
def eLst (fs : Rho → Mo (List SV)) : Rho → Mo SV := fun ρ S => bindM (fs ρ S) fun xs S1 => if xs.length ≤ sizeLine then some (.ok (.own xs) S1) else none
theorem v_tup {x1} (h : PA X es (tVs C W .fe fs)) : PE X (.Tuple es x1 pos) (tV C W kd (eTup fs)) := by
  refine pe_imp (pe_tup h) fun σ H Q ⟨P, ρ, S, A, G, hP, I, q⟩ => ⟨P, ρ, S, A, G, hP, I, EGood.step q (fun _ _ _ _ _ _ z => z) fun xs S1 q vs H1 p => ?_⟩
  obtain ⟨A1, g1, e1, J1, k1⟩ := p
  split at q
  · rename_i hl
    cases ed : datOs xs with
    | none => rw [ed] at q; exact q.elim
    | some ds =>
      rw [ed] at q
      have r := k1.datO (new_not (S1 := S1) I k1) ed
      refine ⟨by rw [k1.len]; exact hl, fun p hp => q _ _ (EPost.trans e1 (EPost.tup J1.pgw r (by rw [k1.len]; exact hl) hp))⟩
  · exact q.elim
theorem v_lst (h : PA X es (tVs C W .fe fs)) : PE X (.List es pos) (tV C W kd (eLst fs)) := by
  refine pe_imp (pe_lst h) fun σ H Q ⟨P, ρ, S, A, G, hP, I, q⟩ => ⟨P, ρ, S, A, G, hP, I, EGood.step q (fun _ _ _ _ _ _ z => z) fun xs S1 q vs H1 p => ?_⟩
  obtain ⟨A1, g1, e1, J1, k1⟩ := p
  split at q
  · rename_i hl
    exact ⟨by rw [k1.len]; exact hl, fun p hp => q _ _ (EPost.own e1 J1 k1 (by rw [k1.len]; exact hl) hp)⟩
  · exact q.elim

/-! ### calls of built-ins by values -/
def eCal (g : Sto → List SV → Option SV) (fs : Rho → Mo (List SV)) : Rho → Mo SV := fun ρ S => bindM (fs ρ S) fun xs S1 => (g S1 xs).map fun z => .ok z S1
def CalOk (K : PySem.W.Frag) (ka kd : Kd) (g : Sto → List SV → Option SV) (r : List V → Hp → VK → Prop) : Prop :=
  ∀ (C : Ct) (ρ : Rho) (S : Sto) (A : List Addr) (G : List (List Addr)) (σ : L2.St) (H0 H : Hp) (xs : List SV) (z : SV) (vs : List V) (gx : List Addr) (Q : VK), C.K = K → Sim C ρ S A G σ H → RkL C ka gx A G H0 H xs vs → g S xs = some z →
    (∀ w H', EPost C kd ρ A G σ H z S w H' → Q w H') → r vs H Q
theorem tV_cal {g : Sto → List SV → Option SV} {r : List V → Hp → VK → Prop} (h : CalOk C.K ka kd g r) : ∀ σ H Q, tV C W kd (eCal g fs) σ H Q → tCB r (tVs C W ka fs) σ H Q := by
  intro σ H Q ⟨P, ρ, S, A, G, hP, I, q⟩
  refine ⟨P, ρ, S, A, G, hP, I, EGood.step q (fun _ _ _ _ _ _ z => z) fun xs S1 q vs H1 p => ?_⟩
  obtain ⟨A1, g1, e1, J1, k1⟩ := p
  cases eg : g S1 xs with
  | none => rw [eg] at q; exact q.elim
  | some z =>
    rw [eg] at q
    exact h (C.pr P) ρ S1 A1 G σ H H1 xs z vs g1 Q rfl J1.pgw k1 eg fun w H' p => q w H' (p.trans e1)
theorem v_calB {id : String} {x : Str} {p : Pos} {g : Sto → List SV → Option SV} {r : List V → Hp → VK → Prop} (hc : CallR X (.builtin id) r) (h : CalOk C.K ka kd g r) (hg : Gl X x) (hm : X.mg x = none) (hv : bootBuiltins x = some (.builtin id)) (ha : PA X (e :: es) (tVs C W ka fs)) (hn : x ≠ "__name__" := by decide) (hdb : (x == ("__debug__" : Str)) = false := by decide)
    (he : starEach (e :: es) X.env = (false, eval e X.env) :: starEach es X.env := by rfl) (hpl : (backTo pos (starEach es X.env)).any (·.1) = false := by rfl) : PE X (.Call (.Name x p) (e :: es) [] pos) (tV C W kd (eCal g fs)) := pe_imp (pe_callB hc hg hm hv ha hn hdb he hpl) (tV_cal h)
theorem v_calT {T : String} {x : Str} {p : Pos} {g : Sto → List SV → Option SV} {r : List V → Hp → VK → Prop} (hc : CallR X (.type T) r) (h : CalOk C.K ka kd g r) (hg : Gl X x) (hm : X.mg x = none) (hv : bootBuiltins x = some (.type T)) (ha : PA X (e :: es) (tVs C W ka fs)) (hn : x ≠ "__name__" := by decide) (hdb : (x == ("__debug__" : Str)) = false := by decide)
    (he : starEach (e :: es) X.env = (false, eval e X.env) :: starEach es X.env := by rfl) (hpl : (backTo pos (starEach es X.env)).any (·.1) = false := by rfl) : PE X (.Call (.Name x p) (e :: es) [] pos) (tV C W kd (eCal g fs)) := pe_imp (pe_callTy hc hg hm hv ha hn hdb he hpl) (tV_cal h)
end
section
variable {X : Cx} {C : Ct} {W : WX} {kd ka kb : Kd}
theorem RkL.one {g A : List Addr} {G : List (List Addr)} {H0 H : Hp} {x : SV} {vs : List V} (r : RkL C ka g A G H0 H [x] vs) : ∃ v, vs = [v] ∧ Rk C .be g A G H0 H x v := by
  have r : RkL C .be g A G H0 H [x] vs := by
    cases ka with
    | be => exact r
    | fe => exact r.be
  obtain ⟨r, hg⟩ := r
  cases r with
  | cons r1 r2 => cases r2; rw [List.append_nil] at hg ⊢; exact ⟨_, rfl, r1, hg⟩
theorem RkL.two {g A : List Addr} {G : List (List Addr)} {H0 H : Hp} {x y : SV} {vs : List V} (r : RkL C ka g A G H0 H [x, y] vs) : ∃ v u g1 g2, vs = [v, u] ∧ Rk C .be g1 A G H0 H x v ∧ Rk C .be g2 A G H0 H y u := by
  have r : RkL C .be g A G H0 H [x, y] vs := by
    cases ka with
    | be => exact r
    | fe => exact r.be
  obtain ⟨r, hg⟩ := r
  cases r with
  | cons r1 r2 =>
    cases r2 with
    | cons r2 r3 =>
      cases r3
      exact ⟨_, _, _, _, rfl, ⟨r1, fun a m => hg a (List.mem_append_left _ m)⟩, r2, fun a m => hg a (List.mem_append_right _ (List.mem_append_left _ m))⟩
/-- len -/
def gLen (S : Sto) (xs : List SV) : Option SV :=
  match xs with
  | [.d (.str z)] => if z.length ≤ sizeLine then some (.d (.int z.length)) else none
  | [x] => (seq? S x).map fun ys => .d (.int ys.length)
  | _ => none
theorem ok_len {K : PySem.W.Frag} : CalOk K ka kd gLen (fun xs H Q => ∃ x n, xs = [x] ∧ LenV K x H n ∧ Q (.int n) H) := by
  intro C ρ S A G σ H0 H xs z vs gx Q hK I r h q
  subst hK
  unfold gLen at h
  split at h
  · rename_i t
    split at h
    · rename_i hl
      cases h
      obtain ⟨v, rfl, r1⟩ := r.one
      exact ⟨v, _, rfl, by rw [r1.str]; exact ⟨hl, rfl⟩, q _ H (EPost.same I (Rk.dat (.int _)))⟩
    · cases h
  · rename_i x _
    simp only [Option.map_eq_some_iff] at h
    obtain ⟨ys, hy, rfl⟩ := h
    obtain ⟨v, rfl, r1⟩ := r.one
    obtain ⟨a, vs, ga, rfl, hs, l, r2⟩ := r1.seq I hy
    refine ⟨_, vs.length, rfl, ?_, by rw [r2.len]; exact q _ H (EPost.same I (Rk.dat (.int _)))⟩
    rcases hs with hs | hs
    · exact .inl ⟨_, hs, rfl⟩
    · exact .inr ⟨_, hs, rfl⟩
  · cases h
/-- abs of an int -/
def gAbs (_ : Sto) (xs : List SV) : Option SV :=
  match xs with
  | [.d (.int i)] => some (.d (.int (if i < 0 then -i else i)))
  | _ => none
theorem ok_abs {K : PySem.W.Frag} : CalOk K ka kd gAbs (fun xs H Q => ∃ i, xs = [.int i] ∧ Q (.int (if i < 0 then -i else i)) H) := by
  intro C ρ S A G σ H0 H xs z vs gx Q hK I r h q
  unfold gAbs at h
  split at h
  · cases h
    obtain ⟨v, rfl, r1⟩ := r.one
    exact ⟨_, by rw [r1.int], q _ H (EPost.same I (Rk.dat (.int _)))⟩
  · cases h
/-- max, min of two ints -/
def gMax2 (_ : Sto) (xs : List SV) : Option SV :=
  match xs with
  | [.d (.int i), .d (.int j)] => some (.d (.int (if j > i then j else i)))
  | _ => none
def gMin2 (_ : Sto) (xs : List SV) : Option SV :=
  match xs with
  | [.d (.int i), .d (.int j)] => some (.d (.int (if j < i then j else i)))
  | _ => none
theorem ok_max2 {K : PySem.W.Frag} : CalOk K ka kd gMax2 (fun xs H Q => ∃ i j, xs = [.int i, .int j] ∧ Q (.int (if j > i then j else i)) H) := by
  intro C ρ S A G σ H0 H xs z vs gx Q hK I r h q
  unfold gMax2 at h
  split at h
  · cases h
    obtain ⟨v, u, g1, g2, rfl, r1, r2⟩ := r.two
    exact ⟨_, _, by rw [r1.int, r2.int], q _ H (EPost.same I (Rk.dat (.int _)))⟩
  · cases h
theorem ok_min2 {K : PySem.W.Frag} : CalOk K ka kd gMin2 (fun xs H Q => ∃ i j, xs = [.int i, .int j] ∧ Q (.int (if j < i then j else i)) H) := by
  intro C ρ S A G σ H0 H xs z vs gx Q hK I r h q
  unfold gMin2 at h
  split at h
  · cases h
    obtain ⟨v, u, g1, g2, rfl, r1, r2⟩ := r.two
    exact ⟨_, _, by rw [r1.int, r2.int], q _ H (EPost.same I (Rk.dat (.int _)))⟩
  · cases h
/-- int of an int or a bool -/
def gInt (_ : Sto) (xs : List SV) : Option SV :=
  match xs with
  | [.d (.int i)] => some (.d (.int i))
  | [.d (.bool b)] => some (.d (.int (if b then 1 else 0)))
  | _ => none
theorem ok_int {K : PySem.W.Frag} : CalOk K ka kd gInt (fun xs H Q => (∃ i, xs = [.int i] ∧ Q (.int i) H) ∨ ∃ k, xs = [.bl k] ∧ Q (.int (if k then 1 else 0)) H) := by
  intro C ρ S A G σ H0 H xs z vs gx Q hK I r h q
  unfold gInt at h
  split at h
  · cases h
    obtain ⟨v, rfl, r1⟩ := r.one
    exact .inl ⟨_, by rw [r1.int], q _ H (EPost.same I (Rk.dat (.int _)))⟩
  · cases h
    obtain ⟨v, rfl, r1⟩ := r.one
    exact .inr ⟨_, by rw [r1.bl], q _ H (EPost.same I (Rk.dat (.int _)))⟩
  · cases h
/-- list(x): a new list -/
def gList (S : Sto) (xs : List SV) : Option SV :=
  match xs with
  | [x] => (seq? S x).bind fun ys => if ys.all noOwn then some (.own ys) else none
  | _ => none
theorem ok_list {K : PySem.W.Frag} : CalOk K ka kd gList (fun xs H Q => ∃ p ys, xs = [.ref p] ∧ (SqL K H p ys ∨ SqT K H p ys) ∧ ∀ l, H l = none → Q (.ref l) (upd H l (.lst ys))) := by
  intro C ρ S A G σ H0 H xs z vs gx Q hK I r h q
  subst hK
  unfold gList at h
  split at h
  · simp only [Option.bind_eq_some_iff] at h
    obtain ⟨ys, hy, h⟩ := h
    split at h
    · rename_i hn
      cases h
      obtain ⟨v, rfl, r1⟩ := r.one
      obtain ⟨a, vs, ga, rfl, hs, l, r2⟩ := r1.seq I hy
      exact ⟨a, vs, rfl, hs, fun p hp => q _ _ (EPost.lst I r2 hn l hp)⟩
    · cases h
  · cases h
/-- tuple(x): a new tuple of a list's data; a tuple is itself -/
def gTuple (S : Sto) (xs : List SV) : Option SV :=
  match xs with
  | [.d (.tuple ds)] => some (.d (.tuple ds))
  | [x] => (lst? S x).bind fun ys => (allD ys).map fun ds => .d (.tuple ds)
  | _ => none
theorem ok_tuple {K : PySem.W.Frag} : CalOk K ka kd gTuple (fun xs H Q => ∃ a ys, xs = [.ref a] ∧ ((SqL K H a ys ∧ ∀ l, H l = none → Q (.ref l) (upd H l (.tup ys))) ∨ (SqT K H a ys ∧ Q (.ref a) H))) := by
  intro C ρ S A G σ H0 H xs z vs gx Q hK I r h q
  subst hK
  unfold gTuple at h
  split at h
  · cases h
    obtain ⟨v, rfl, r1⟩ := r.one
    obtain ⟨a, vs, rfl, hs, l, _⟩ := r1.tup
    exact ⟨a, vs, rfl, .inr ⟨hs, q _ H (EPost.same I (Rk.fe_of r1 rfl))⟩⟩
  · simp only [Option.bind_eq_some_iff, Option.map_eq_some_iff] at h
    obtain ⟨ys, hy, ds, hd, rfl⟩ := h
    obtain ⟨v, rfl, r1⟩ := r.one
    obtain ⟨a, vs, ga, rfl, hs, l, r2⟩ := r1.lst I hy
    exact ⟨a, vs, rfl, .inl ⟨.of hs, fun p hp => q _ _ (EPost.tup I (r2.undat hd) l hp)⟩⟩
  · cases h
/-- all, any of bools -/
def bools : List SV → Option (List Bool)
  | [] => some []
  | .d (.bool b) :: r => (bools r).map (b :: ·)
  | _ :: _ => none
def ints? : List SV → Option (List Int)
  | [] => some []
  | .d (.int b) :: r => (ints? r).map (b :: ·)
  | _ :: _ => none
theorem RsL.bools {K : PySem.W.Frag} {mg : Str → Option Value} {H : Hp} {A : List Addr} {F : Addr → Prop} : ∀ {xs : List SV} {vs : List V} {g : List Addr} {bs : List Bool}, RsL K mg H A F xs vs g → VL.bools xs = some bs → vs = bs.map V.bl
  | [], _, _, _, r, h => by cases r; cases h; rfl
  | .d (.bool b) :: xs, _, _, _, r, h => by
    cases r with
    | cons r1 r2 =>
      simp only [VL.bools, Option.map_eq_some_iff] at h
      obtain ⟨bs, h, rfl⟩ := h
      cases r1 with
      | d r1 => cases r1; rw [RsL.bools r2 h]; rfl
  | .d .none :: _, _, _, _, _, h => by cases h
  | .d (.int _) :: _, _, _, _, _, h => by cases h
  | .d (.str _) :: _, _, _, _, _, h => by cases h
  | .d (.list _) :: _, _, _, _, _, h => by cases h
  | .d (.tuple _) :: _, _, _, _, _, h => by cases h
  | .d (.dict _) :: _, _, _, _, _, h => by cases h
  | .ref _ :: _, _, _, _, _, h => by cases h
  | .fn _ :: _, _, _, _, _, h => by cases h
  | .scr _ :: _, _, _, _, _, h => by cases h
  | .own _ :: _, _, _, _, _, h => by cases h
theorem RsL.ints {K : PySem.W.Frag} {mg : Str → Option Value} {H : Hp} {A : List Addr} {F : Addr → Prop} : ∀ {xs : List SV} {vs : List V} {g : List Addr} {bs : List Int}, RsL K mg H A F xs vs g → VL.ints? xs = some bs → vs = bs.map V.int
  | [], _, _, _, r, h => by cases r; cases h; rfl
  | .d (.int b) :: xs, _, _, _, r, h => by
    cases r with
    | cons r1 r2 =>
      simp only [VL.ints?, Option.map_eq_some_iff] at h
      obtain ⟨bs, h, rfl⟩ := h
      cases r1 with
      | d r1 => cases r1; rw [RsL.ints r2 h]; rfl
  | .d .none :: _, _, _, _, _, h => by cases h
  | .d (.bool _) :: _, _, _, _, _, h => by cases h
  | .d (.str _) :: _, _, _, _, _, h => by cases h
  | .d (.list _) :: _, _, _, _, _, h => by cases h
  | .d (.tuple _) :: _, _, _, _, _, h => by cases h
  | .d (.dict _) :: _, _, _, _, _, h => by cases h
  | .ref _ :: _, _, _, _, _, h => by cases h
  | .fn _ :: _, _, _, _, _, h => by cases h
  | .scr _ :: _, _, _, _, _, h => by cases h
  | .own _ :: _, _, _, _, _, h => by cases h
def gAll (S : Sto) (xs : List SV) : Option SV :=
  match xs with
  | [x] => (lst? S x).bind fun ys => (bools ys).map fun bs => .d (.bool (bs.all id))
  | _ => none
def gAny (S : Sto) (xs : List SV) : Option SV :=
  match xs with
  | [x] => (lst? S x).bind fun ys => (bools ys).map fun bs => .d (.bool (bs.any id))
  | _ => none
def gSum (S : Sto) (xs : List SV) : Option SV :=
  match xs with
  | [x] => (lst? S x).bind fun ys => (ints? ys).map fun bs => .d (.int bs.sum)
  | _ => none
theorem ok_all {K : PySem.W.Frag} : CalOk K ka kd gAll (rAll K) := by
  intro C ρ S A G σ H0 H xs z vs gx Q hK I r h q
  subst hK
  unfold gAll at h
  split at h
  · simp only [Option.bind_eq_some_iff, Option.map_eq_some_iff] at h
    obtain ⟨ys, hy, bs, hb, rfl⟩ := h
    obtain ⟨v, rfl, r1⟩ := r.one
    obtain ⟨a, vs, ga, rfl, hs, l, r2⟩ := r1.lst I hy
    obtain rfl := RsL.bools r2.1 hb
    exact ⟨a, bs, rfl, .of hs, q _ H (EPost.same I (Rk.dat (.bl _)))⟩
  · cases h
theorem ok_any {K : PySem.W.Frag} : CalOk K ka kd gAny (rAny K) := by
  intro C ρ S A G σ H0 H xs z vs gx Q hK I r h q
  subst hK
  unfold gAny at h
  split at h
  · simp only [Option.bind_eq_some_iff, Option.map_eq_some_iff] at h
    obtain ⟨ys, hy, bs, hb, rfl⟩ := h
    obtain ⟨v, rfl, r1⟩ := r.one
    obtain ⟨a, vs, ga, rfl, hs, l, r2⟩ := r1.lst I hy
    obtain rfl := RsL.bools r2.1 hb
    exact ⟨a, bs, rfl, .of hs, q _ H (EPost.same I (Rk.dat (.bl _)))⟩
  · cases h
theorem ok_sum {K : PySem.W.Frag} : CalOk K ka kd gSum (rSum K) := by
  intro C ρ S A G σ H0 H xs z vs gx Q hK I r h q
  subst hK
  unfold gSum at h
  split at h
  · simp only [Option.bind_eq_some_iff, Option.map_eq_some_iff] at h
    obtain ⟨ys, hy, bs, hb, rfl⟩ := h
    obtain ⟨v, rfl, r1⟩ := r.one
    obtain ⟨a, vs, ga, rfl, hs, l, r2⟩ := r1.lst I hy
    obtain rfl := RsL.ints r2.1 hb
    exact ⟨a, bs, rfl, .of hs, q _ H (EPost.same I (Rk.dat (.int _)))⟩
  · cases h
/-- isinstance of built-in classes -/
def tyOf : SV → Option String
  | .d .none => some "NoneType"
  | .d (.bool _) => some "bool"
  | .d (.int _) => some "int"
  | .d (.str _) => some "str"
  | .d (.list _) => some "list"
  | .d (.tuple _) => some "tuple"
  | .own _ => some "list"
  | .ref _ => some "list"
  | _ => none
def isB (t c : String) : Bool := t == c || (t == "bool" && c == "int")
/-- the classes that are asked for here -/
def knownTy (c : String) : Bool := ["int", "bool", "str", "tuple", "list"].contains c
theorem kit_is {t c : String} (ht : ["NoneType", "bool", "int", "str", "list", "tuple"].contains t = true) (hc : knownTy c = true) : kitB t c = some (isB t c) := by
  have h1 : ∀ t ∈ ["NoneType", "bool", "int", "str", "list", "tuple"], ∀ c ∈ ["int", "bool", "str", "tuple", "list"], kitB t c = some (isB t c) := by decide +kernel
  exact h1 t (by simpa using ht) c (by simpa [knownTy] using hc)
def eIsi (f : Rho → Mo SV) (c : String) : Rho → Mo SV := fun ρ S => bindM (f ρ S) fun x S1 => (tyOf x).map fun t => .ok (.d (.bool (isB t c))) S1
theorem Rk.ty {C : Ct} {ρ : Rho} {S : Sto} {g A : List Addr} {G : List (List Addr)} {σ : L2.St} {H0 H : Hp} {x : SV} {v : V} {t : String} (I : Sim C ρ S A G σ H) (hn : ∀ n, x = .ref n → (S[n]?).isSome) (r : Rk C ka g A G H0 H x v) (h : VL.tyOf x = some t) : TyX C.K H v (.type t) ∧ ["NoneType", "bool", "int", "str", "list", "tuple"].contains t = true := by
  obtain ⟨r1, _⟩ := r.asBe
  cases r1 with
  | d r2 =>
    cases r2 with
    | non => cases h; exact ⟨.base .non, by decide⟩
    | bl b => cases h; exact ⟨.base (.bl b), by decide⟩
    | int i => cases h; exact ⟨.base (.int i), by decide⟩
    | str z => cases h; exact ⟨.base (.str z), by decide⟩
    | lst e _ _ _ => cases h; exact ⟨.base (.lst e), by decide⟩
    | tup e _ _ _ => cases h; exact ⟨.base (.tup e), by decide⟩
    | ctup e _ _ =>
      cases h
      refine ⟨?_, by decide⟩
      rcases e with e | ⟨o, its, n, e1, e2, _⟩
      · rcases e with e | ⟨o, e⟩ <;> cases e
      · exact .kTuple e1 e2
  | @ref n a e =>
    cases h
    have := hn n rfl
    cases q : S[n]? with
    | none => rw [q] at this; cases this
    | some xs =>
      obtain ⟨a', vs, e1, e2, _, _⟩ := I.sto n xs q
      rw [e] at e1
      cases e1
      exact ⟨.base (.lst e2), by decide⟩
  | fn _ => cases h
  | scr e _ _ => cases h
  | scrK _ _ => cases h
  | own e _ _ => cases h; exact ⟨.base (.lst e), by decide⟩
end
section
variable {X : Cx} {C : Ct} {W : WX} {kd ka kb : Kd} {e a b c : Expr} {es : List Expr} {pos : Pos} {f fa fb : Rho → Mo SV} {fs : Rho → Mo (List SV)}
def refOk (S : Sto) : SV → Bool
  | .ref n => (S[n]?).isSome
  | _ => true
/-- isinstance(x, c) for one of the classes c -/
def eIsi1 (f : Rho → Mo SV) (cs : List String) : Rho → Mo SV := fun ρ S => bindM (f ρ S) fun x S1 => if refOk S1 x then (tyOf x).map fun t => .ok (.d (.bool (cs.any (isB t)))) S1 else none
theorem refOk.ref {S : Sto} {x : SV} (h : refOk S x = true) : ∀ n, x = .ref n → (S[n]?).isSome := fun n e => by subst e; exact h
theorem v_isi {T : String} {p p1 : Pos} {x1 : Str} (hk : C.K = X.K) (hT : knownTy T = true) (hg : Gl X "isinstance") (hm : X.mg "isinstance" = none) (ha : PE X a (tV C W ka f)) (hg1 : Gl X x1) (hm1 : X.mg x1 = none) (hv1 : bootBuiltins x1 = some (.type T)) (hn1 : x1 ≠ "__name__" := by decide) (hd1 : (x1 == ("__debug__" : Str)) = false := by decide)
    (hs1 : starEach [a, .Name x1 p1] X.env = (false, eval a X.env) :: starEach [.Name x1 p1] X.env := by rfl) (hs2 : starEach [.Name x1 p1] X.env = (false, eval (.Name x1 p1) X.env) :: starEach [] X.env := by rfl) (hpl : (backTo pos (starEach [.Name x1 p1] X.env)).any (·.1) = false := by rfl) :
    PE X (.Call (.Name "isinstance" p) [a, .Name x1 p1] [] pos) (tV C W kd (eIsi1 f [T])) := by
  refine pe_imp (pe_callB call_isi hg hm (by decide +kernel) (pa_cons ha (pa_cons (pe_bltn (v := .ty T) hg1 hm1 hv1 rfl hn1 hd1) pa_nil hs2) hs1) (by decide) (by decide) hs1 hpl) fun σ H Q ⟨P, ρ, S, A, G, hP, I, q⟩ => ⟨P, ρ, S, A, G, hP, I, EGood.step q (fun _ _ _ _ _ _ z => z) fun x S1 q v H1 p => ?_⟩
  obtain ⟨A1, g1, e1, J1, k1⟩ := p
  split at q
  · rename_i hr
    cases et : tyOf x with
    | none => rw [et] at q; exact q.elim
    | some t =>
      rw [et] at q
      obtain ⟨ty, ht⟩ := k1.ty J1.pgw (refOk.ref hr) et
      refine ⟨v, .ty T, .type t, .type T, isB t T, rfl, .ty T, hk ▸ ty, kit_ty (kit_is ht hT), ?_⟩
      have e : isB t T = [T].any (isB t) := by simp
      rw [e]
      exact q _ _ ⟨A1, [], e1, J1.pgw.pg0, Rk.dat (.bl _)⟩
  · exact q.elim
theorem v_isi2 {T T2 : String} {p p1 p2 p3 : Pos} {kk : Nat} {x1 x2 : Str} (hk : C.K = X.K) (hT : knownTy T = true) (hT2 : knownTy T2 = true) (hg : Gl X "isinstance") (hm : X.mg "isinstance" = none) (ha : PE X a (tV C W ka f))
    (hg1 : Gl X x1) (hm1 : X.mg x1 = none) (hv1 : bootBuiltins x1 = some (.type T)) (hg2 : Gl X x2) (hm2 : X.mg x2 = none) (hv2 : bootBuiltins x2 = some (.type T2)) (hn1 : x1 ≠ "__name__" := by decide) (hd1 : (x1 == ("__debug__" : Str)) = false := by decide) (hn2 : x2 ≠ "__name__" := by decide) (hd2 : (x2 == ("__debug__" : Str)) = false := by decide)
    (hs1 : starEach [a, .Tuple [.Name x1 p1, .Name x2 p2] kk p3] X.env = (false, eval a X.env) :: starEach [.Tuple [.Name x1 p1, .Name x2 p2] kk p3] X.env := by rfl) (hs2 : starEach [.Tuple [.Name x1 p1, .Name x2 p2] kk p3] X.env = (false, eval (.Tuple [.Name x1 p1, .Name x2 p2] kk p3) X.env) :: starEach [] X.env := by rfl) (hpl : (backTo pos (starEach [.Tuple [.Name x1 p1, .Name x2 p2] kk p3] X.env)).any (·.1) = false := by rfl)
    (hs3 : starEach [.Name x1 p1, .Name x2 p2] X.env = (false, eval (.Name x1 p1) X.env) :: starEach [.Name x2 p2] X.env := by rfl) (hs4 : starEach [.Name x2 p2] X.env = (false, eval (.Name x2 p2) X.env) :: starEach [] X.env := by rfl) :
    PE X (.Call (.Name "isinstance" p) [a, .Tuple [.Name x1 p1, .Name x2 p2] kk p3] [] pos) (tV C W kd (eIsi1 f [T, T2])) := by
  refine pe_imp (pe_callB call_isiT hg hm (by decide +kernel) (pa_cons ha (pa_cons (pe_tup (pa_cons (pe_bltn (v := .ty T) hg1 hm1 hv1 rfl hn1 hd1) (pa_cons (pe_bltn (v := .ty T2) hg2 hm2 hv2 rfl hn2 hd2) pa_nil hs4) hs3)) pa_nil hs2) hs1) (by decide) (by decide) hs1 hpl)
    fun σ H Q ⟨P, ρ, S, A, G, hP, I, q⟩ => ⟨P, ρ, S, A, G, hP, I, EGood.step q (fun _ _ _ _ _ _ z => z) fun x S1 q v H1 p => ?_⟩
  obtain ⟨A1, g1, e1, J1, k1⟩ := p
  split at q
  · rename_i hr
    cases et : tyOf x with
    | none => rw [et] at q; exact q.elim
    | some t =>
      rw [et] at q
      refine ⟨by show 2 ≤ sizeLine; decide, fun tp hp => ?_⟩
      have ex : Ext A1 H1 A1 (upd H1 tp (.tup [.ty T, .ty T2])) := Ext.upd hp
      obtain ⟨ty, ht⟩ := (k1.ext ex).ty (J1.pgw.new hp) (refOk.ref hr) et
      refine ⟨v, tp, [.ty T, .ty T2], .type t, [.type T, .type T2], [T, T2].any (isB t), rfl, upd_same, .cons (.ty T) (.cons (.ty T2) .nil), hk ▸ ty, ?_, q _ _ ⟨A1, [], e1.trans ex, (J1.pgw.new hp).pg0, Rk.dat (.bl _)⟩⟩
      simp only [List.any_cons, List.any_nil, Bool.or_false]
      refine kitAny_cons (kit_ty (kit_is ht hT)) (fun e => ?_) (fun e => by rw [e]; rfl)
      rw [e, Bool.false_or]
      refine kitAny_cons (kit_ty (kit_is ht hT2)) (fun e => ?_) (fun e => e)
      rw [e]
      rfl
  · exact q.elim
end
end VL

end
section
set_option Elab.async false
set_option linter.all false
set_option maxRecDepth 100000
/-! VL6: slots stored, targets, what is walked, comprehensions. -/
namespace VL
open PySem PySem.Spec PyProof.Rows L2

section
variable {C : Ct} {ρ : Rho} {S S' : Sto} {A A' : List Addr} {G : List (List Addr)} {σ : L2.St} {H H' : Hp} {x : SV} {v : V} {g : List Addr} {i : Nat}
theorem flatten_set_sub {G : List (List Addr)} {i : Nat} {g : List Addr} {a : Addr} (h : a ∈ (G.set i g).flatten) : a ∈ G.flatten ∨ a ∈ g := by
  obtain ⟨l, hl, ha⟩ := List.mem_flatten.mp h
  rcases List.mem_or_eq_of_mem_set hl with hl | rfl
  · exact .inl (List.mem_flatten.mpr ⟨l, hl, ha⟩)
  · exact .inr ha
theorem nodup_set (hn : (A ++ G.flatten).Nodup) (hg : g.Nodup) (hd : ∀ a ∈ g, a ∉ A ∧ ∀ j l, j ≠ i → G[j]? = some l → a ∉ l) : (A ++ (G.set i g).flatten).Nodup := by
  by_cases hi : i < G.length
  · have e : (G.set i g) = G.take i ++ g :: G.drop (i + 1) := List.set_eq_take_append_cons_drop .. |>.trans (by rw [if_pos hi])
    have e0 : G = G.take i ++ G[i] :: G.drop (i + 1) := by rw [List.getElem_cons_drop, List.take_append_drop]
    rw [e, List.flatten_append, List.flatten_cons]
    rw [e0, List.flatten_append, List.flatten_cons] at hn
    have ht : ∀ a ∈ g, a ∉ (G.take i).flatten := fun a m z => by
      obtain ⟨l, hl, ha⟩ := List.mem_flatten.mp z
      obtain ⟨j, hj, rfl⟩ := List.getElem_of_mem hl
      rw [List.length_take] at hj
      exact (hd a m).2 j _ (by omega) (by rw [List.getElem_take]; exact List.getElem?_eq_getElem _) ha
    have hr : ∀ a ∈ g, a ∉ (G.drop (i + 1)).flatten := fun a m z => by
      obtain ⟨l, hl, ha⟩ := List.mem_flatten.mp z
      obtain ⟨j, hj, rfl⟩ := List.getElem_of_mem hl
      rw [List.length_drop] at hj
      exact (hd a m).2 (i + 1 + j) _ (by omega) (by rw [List.getElem_drop]; exact List.getElem?_eq_getElem _) ha
    have n1 := List.nodup_append.mp hn
    have n2 := List.nodup_append.mp n1.2.1
    have n3 := List.nodup_append.mp n2.2.1
    refine List.nodup_append.mpr ⟨n1.1, List.nodup_append.mpr ⟨n2.1, List.nodup_append.mpr ⟨hg, n3.2.1, fun a h b h' e => ?_⟩, fun a h b h' e => ?_⟩, fun a h b h' e => ?_⟩
    · subst e; exact hr a h h'
    · subst e
      rcases List.mem_append.mp h' with h' | h'
      · exact ht a h' h
      · exact n2.2.2 a h a (List.mem_append_right _ h') rfl
    · subst e
      rcases List.mem_append.mp h' with h' | h'
      · exact n1.2.2 a h a (List.mem_append_left _ h') rfl
      · rcases List.mem_append.mp h' with h' | h'
        · exact (hd a h').1 h
        · exact n1.2.2 a h a (List.mem_append_right _ (List.mem_append_right _ h')) rfl
  · rw [List.set_eq_of_length_le (by omega)]
    exact hn
/-- .. by what is one's own: I the state in which it is left alone -/
theorem Sim.put (I : Sim (C.pr fun a => C.Pr a ∨ a ∈ g) ρ S A G σ H) (r : Rs C.K C.mg H A (fun a => Fs C A G a ∨ a ∈ g) x v g) (hg : g.Nodup) (h0 : ∀ a ∈ g, C.E0 a = none) (hp : ∀ a ∈ g, ¬ C.Pr a) : Sim C (ρ.set i (some x)) S A (G.set i g) (σ.set i (some v)) H := by
  have hgn : ∀ a ∈ g, a ∉ A ++ G.flatten ∧ H a ≠ none := fun a m => I.prot a (.inr m)
  have hF : ∀ a, Fs C A (G.set i g) a → Fs (C.pr fun a => C.Pr a ∨ a ∈ g) A G a := fun a z => by
    rcases z with z | z | z
    · exact .inl z
    · rcases flatten_set_sub z with z | z
      · exact .inr (.inl z)
      · exact .inr (.inr (.inr z))
    · exact .inr (.inr (.inl z))
  have hFx : ∀ a, Fs C A (G.set i g) a → Fs C A G a ∨ a ∈ g := fun a z => by
    rcases z with z | z | z
    · exact .inl (.inl z)
    · rcases flatten_set_sub z with z | z
      · exact .inl (.inr (.inl z))
      · exact .inr z
    · exact .inl (.inr (.inr z))
  refine ⟨I.pre, by simp [I.lr], by simp [I.lg], I.ls, nodup_set I.nd hg fun a m => ⟨fun z => (hgn a m).1 (List.mem_append_left _ z), fun j l _ e z => (hgn a m).1 (List.mem_append_right _ (List.mem_flatten.mpr ⟨l, List.mem_of_getElem? e, z⟩))⟩, fun a m => ?_, fun a p => ⟨fun z => ?_, (I.prot a (.inl p)).2⟩, fun j y e => ?_, fun n xs e => ?_, I.frame, fun a m => ?_, I.a0⟩
  · rcases List.mem_append.mp m with m | m
    · exact I.trk a (List.mem_append_left _ m)
    · rcases flatten_set_sub m with m | m
      · exact I.trk a (List.mem_append_right _ m)
      · exact (hgn a m).2
  · rcases List.mem_append.mp z with z | z
    · exact (I.prot a (.inl p)).1 (List.mem_append_left _ z)
    · rcases flatten_set_sub z with z | z
      · exact (I.prot a (.inl p)).1 (List.mem_append_right _ z)
      · exact hp a z p
  · have lr := I.lr
    have lg := I.lg
    by_cases hj : j = i
    · subst hj
      have hlt : j < ρ.length := by
        have := (List.getElem?_eq_some_iff.mp e).1
        simpa using this
      rw [List.getElem?_set_self hlt] at e
      cases e
      exact ⟨v, g, by rw [List.getElem?_set_self (by omega)], Rs.mono (fun _ _ q => q) (fun a z => .inl (hFx a z)) (fun a o q n => q) _ _ _ (fun a m o q => q) r, by rw [List.getElem?_set_self (by omega)]; exact List.Sublist.refl _⟩
    · rw [List.getElem?_set_ne (Ne.symm hj)] at e
      obtain ⟨w, l, e1, r1, sb⟩ := I.slots j y e
      exact ⟨w, l, by rw [List.getElem?_set_ne (Ne.symm hj)]; exact e1, Rs.mono (fun _ _ q => q) (fun a z => .inl (hF a z)) (fun a o q n => q) _ _ _ (fun a m o q => q) r1, by rw [List.getElem?_set_ne (Ne.symm hj)]; exact sb⟩
  · obtain ⟨a, vs, e1, e2, l, r1⟩ := I.sto n xs e
    exact ⟨a, vs, e1, e2, l, RsL.mono (fun _ _ q => q) (fun a z => .inl (hF a z)) (fun a o q n => q) _ _ _ (fun a m o q => q) r1⟩
  · rcases List.mem_append.mp m with m | m
    · exact I.fresh a (List.mem_append_left _ m)
    · rcases flatten_set_sub m with m | m
      · exact I.fresh a (List.mem_append_right _ m)
      · exact .inr (h0 a m)
/-- .. by what is no list of one's own; the footprints stay -/
theorem Sim.putV (I : Sim C ρ S A G σ H) (r : Rs C.K C.mg H A (Fs C A G) x v []) : Sim C (ρ.set i (some x)) S A G (σ.set i (some v)) H := by
  refine ⟨I.pre, by simp [I.lr], by simp [I.lg], I.ls, I.nd, I.trk, I.prot, fun j y e => ?_, I.sto, I.frame, I.fresh, I.a0⟩
  have lr := I.lr
  by_cases hj : j = i
  · subst hj
    have hlt : j < ρ.length := by
      have := (List.getElem?_eq_some_iff.mp e).1
      simpa using this
    rw [List.getElem?_set_self hlt] at e
    cases e
    exact ⟨v, [], by rw [List.getElem?_set_self (by omega)], r, List.nil_sublist _⟩
  · rw [List.getElem?_set_ne (Ne.symm hj)] at e
    obtain ⟨w, l, e1, r1, sb⟩ := I.slots j y e
    exact ⟨w, l, by rw [List.getElem?_set_ne (Ne.symm hj)]; exact e1, r1, sb⟩
end

/-! ### targets -/
abbrev TgF := SV → Rho → Option Rho
def gNm (i : Nat) : TgF := fun x ρ => if noOwn x then some (ρ.set i (some x)) else none
def gsNil : List SV → Rho → Option Rho := fun xs ρ => if xs.isEmpty then some ρ else none
def gsCons (t : TgF) (u : List SV → Rho → Option Rho) : List SV → Rho → Option Rho := fun xs ρ => match xs with
  | x :: xs => (t x ρ).bind fun ρ' => u xs ρ'
  | [] => none
def gTp (n : Nat) (u : List SV → Rho → Option Rho) : TgF := fun x ρ => match x with
  | .d (.tuple ds) => if ds.length = n then u (ds.map .d) ρ else none
  | _ => none
/-- two rows of slots alike but at some places -/
def SameOff (is : List Nat) (σ σ' : L2.St) : Prop := σ'.length = σ.length ∧ ∀ j, j ∉ is → σ'[j]? = σ[j]?
theorem wipe_in {σ : L2.St} {j : Nat} : ∀ {vs : List Nat}, j ∈ vs → j < σ.length → (wipe σ vs)[j]? = some none
  | v :: vs, h, hl => by
    unfold wipe
    by_cases e : j = v
    · subst e
      rw [List.getElem?_set_self (by rw [wipe_length]; exact hl)]
    · rw [List.getElem?_set_ne (Ne.symm e)]
      exact wipe_in ((List.mem_cons.mp h).resolve_left e) hl
theorem SameOff.wipe {is vs : List Nat} {σ σ' : L2.St} (h : SameOff is σ σ') (hs : ∀ j ∈ is, j ∈ vs) : L2.wipe σ' vs = L2.wipe σ vs := by
  apply List.ext_getElem?
  intro j
  by_cases hj : j ∈ vs
  · by_cases hl : j < σ.length
    · rw [wipe_in hj hl, wipe_in hj (by rw [h.1]; exact hl)]
    · rw [List.getElem?_eq_none (by rw [wipe_length, h.1]; omega), List.getElem?_eq_none (by rw [wipe_length]; omega)]
  · rw [wipe_out hj, wipe_out hj]
    exact h.2 j fun m => hj (hs j m)
theorem wipe_wipe (σ : L2.St) (vs : List Nat) : L2.wipe (L2.wipe σ vs) vs = L2.wipe σ vs := by
  apply List.ext_getElem?
  intro j
  by_cases hj : j ∈ vs
  · by_cases hl : j < σ.length
    · rw [wipe_in hj hl, wipe_in hj (by rw [wipe_length]; exact hl)]
    · rw [List.getElem?_eq_none (by rw [wipe_length, wipe_length]; omega), List.getElem?_eq_none (by rw [wipe_length]; omega)]
  · rw [wipe_out hj]
/-- a target's reading by its function -/
def GOk (C : Ct) (t : TgF) (is : List Nat) (tg : TG) : Prop := ∀ (P : Addr → Prop) (ρ ρ' : Rho) (S : Sto) (A : List Addr) (G : List (List Addr)) (σ : L2.St) (H : Hp) (x : SV) (v : V) (Q : L2.St → Hp → Prop), Sim (C.pr P) ρ S A G σ H → Rs C.K C.mg H A (Fs (C.pr P) A G) x v [] → t x ρ = some ρ' →
  (∀ σ', Sim (C.pr P) ρ' S A G σ' H → SameOff is σ σ' → Q σ' H) → tg v σ H Q
def GsOk (C : Ct) (t : List SV → Rho → Option Rho) (is : List Nat) (tg : TGs) : Prop := ∀ (P : Addr → Prop) (ρ ρ' : Rho) (S : Sto) (A : List Addr) (G : List (List Addr)) (σ : L2.St) (H : Hp) (xs : List SV) (vs : List V) (Q : L2.St → Hp → Prop), Sim (C.pr P) ρ S A G σ H → RsL C.K C.mg H A (Fs (C.pr P) A G) xs vs [] → t xs ρ = some ρ' →
  (∀ σ', Sim (C.pr P) ρ' S A G σ' H → SameOff is σ σ' → Q σ' H) → tg vs σ H Q
theorem g_nm {C : Ct} {i : Nat} : GOk C (gNm i) [i] (gName i) := by
  intro P ρ ρ' S A G σ H x v Q I r h q
  unfold gNm at h
  split at h
  · cases h
    refine q _ (I.putV r) ⟨by simp, fun j hj => ?_⟩
    rw [List.getElem?_set_ne]
    exact fun e => hj (by simp [e])
  · cases h
theorem gs_nil {C : Ct} : GsOk C gsNil [] gNil := by
  intro P ρ ρ' S A G σ H xs vs Q I r h q
  unfold gsNil at h
  split at h
  · rename_i he
    cases h
    have : xs = [] := by simpa using he
    subst this
    cases r
    exact ⟨rfl, q σ I ⟨rfl, fun _ _ => rfl⟩⟩
  · cases h
theorem gs_cons {C : Ct} {t : TgF} {u : List SV → Rho → Option Rho} {is js : List Nat} {tg : TG} {ug : TGs} (h1 : GOk C t is tg) (h2 : GsOk C u js ug) : GsOk C (gsCons t u) (is ++ js) (gCons tg ug) := by
  intro P ρ ρ' S A G σ H xs vs Q I r h q
  unfold gsCons at h
  split at h
  · rename_i x xs
    simp only [Option.bind_eq_some_iff] at h
    obtain ⟨ρ1, e1, e2⟩ := h
    generalize hg : ([] : List Addr) = g at r
    cases r with
    | cons r1 r2 =>
      have hh := List.append_eq_nil_iff.mp hg.symm
      obtain ⟨rfl, rfl⟩ := hh
      refine ⟨_, _, rfl, h1 P ρ ρ1 S A G σ H _ _ _ I r1 e1 fun σ1 I1 s1 => h2 P ρ1 ρ' S A G σ1 H _ _ _ I1 r2 e2 fun σ2 I2 s2 => q σ2 I2 ⟨s2.1.trans s1.1, fun j hj => ?_⟩⟩
      rw [s2.2 j fun m => hj (List.mem_append_right _ m), s1.2 j fun m => hj (List.mem_append_left _ m)]
  · cases h
theorem g_tp {C : Ct} {n : Nat} {u : List SV → Rho → Option Rho} {is : List Nat} {ug : TGs} (h : GsOk C u is ug) : GOk C (gTp n u) is (gTup C.K n ug) := by
  intro P ρ ρ' S A G σ H x v Q I r e q
  unfold gTp at e
  split at e
  · rename_i ds
    split at e
    · rename_i hl
      obtain ⟨_, d⟩ := r.nil_d
      have go : ∀ a vs, SqT C.K H a vs → DqL C.K H (Fs (C.pr P) A G) ds vs → v = .ref a → gTup C.K n ug v σ H Q := fun a vs hs hd hv => ⟨a, vs, hv, hs, hd.length.trans hl, h P ρ ρ' S A G σ H _ _ _ I (RsL.ofD hd) e q⟩
      cases d with
      | tup e' _ _ hd => exact go _ _ (.of e') hd rfl
      | ctup e' _ hd => exact go _ _ (SqT.const e' H) hd rfl
    · cases e
  · cases e

/-! ### what is walked -/
structure Wk (C : Ct) (full : Bool) (A : List Addr) (G : List (List Addr)) (J : It) (xs : List SV) (H : Hp) : Prop where
  go : ∀ P2 A2 G2 H2, (∀ a, P2 a → C.Pr a ∨ H a = none) → ExtS A G H A2 G2 H2 → (full = false → ∀ a o, H a = some o → a ∉ A → H2 a = some o) → (∀ a, Fs (C.pr P2) A2 G2 a → H2 a ≠ none) → ∀ (i : Nat) x, xs[i]? = some x →
    J.go i H2 ∧ ∀ v H3, J.yld i H2 v H3 → (H3 = H2 ∨ ∃ p o, H2 p = none ∧ H3 = upd H2 p o) ∧ Rs C.K C.mg H3 A2 (Fs (C.pr P2) A2 G2) x v []
  stop : ∀ A2 G2 H2, ExtS A G H A2 G2 H2 → (full = false → ∀ a o, H a = some o → a ∉ A → H2 a = some o) → ∀ i, xs.length ≤ i → J.stop i H2
def IPost (C : Ct) (full : Bool) (ρ : Rho) (A : List Addr) (G : List (List Addr)) (σ : L2.St) (H : Hp) (xs : List SV) (S' : Sto) (J : It) (H' : Hp) : Prop :=
  ∃ A', Ext A H A' H' ∧ Sim C ρ S' A' G σ H' ∧ Wk C full A' G J xs H'
def tI (C : Ct) (W : WX) (full : Bool) (f : Rho → Mo (List SV)) : TI := fun σ H R => ∃ P ρ S A G, (∀ a, C.Pr a → P a) ∧ Sim (C.pr P) ρ S A G σ H ∧ EGood (IPost (C.pr P) full ρ A G σ H) (XPost C ρ A G σ H) W σ R (f ρ S)
theorem pi_imp {X : Cx} {tg e : Expr} {t t' : TI} (h : PI X tg e t) (i : ∀ σ H Q, t' σ H Q → t σ H Q) : PI X tg e t' := ⟨fun pins s σ H Q I q => h.run pins s σ H Q I (i σ H Q q)⟩
def iSeq2 (K : PySem.W.Frag) (tl : TE) : TI := fun σ H R => tl σ H fun x H1 => ∃ a, x = .ref a ∧ (((∃ xs, SqL K H1 a xs) ∧ R (Itl K a) H1) ∨ ((∃ xs, SqT K H1 a xs) ∧ R (Itt K a) H1))
theorem pi_seq {X : Cx} {tg l : Expr} {tl : TE} (hl : PE X l tl) : PI X tg l (iSeq2 X.K tl) := by
  refine ⟨fun pins s σ H R I h => ?_⟩
  refine thn (hl.run pins s σ H _ I h) fun v s1 ⟨x, H1, I1, r1, q1⟩ => ?_
  obtain ⟨a, e, q⟩ := q1
  subst e
  cases r1
  rcases q with ⟨⟨xs, hq⟩, q⟩ | ⟨⟨xs, hq⟩, q⟩
  · obtain ⟨its, rv, p, hz⟩ := I1.list hq
    refine wpAny_pyIter_list p.isList ?_
    refine ⟨s1.heap.objs.size, [s1.heap.objs.size], _, _, H1, rfl, I1.kept (t' := s1.toks) fun b o e => Heap.get?_push_of_some _ e, turn_list a _, ⟨_, Heap.get?_push_size _ rfl, rfl, rfl⟩, fun b hb => ?_, q⟩
    have e : b = s1.heap.objs.size := by simpa using hb
    subst e
    exact I1.fpOk (Nat.le_refl _) (I1.hok.fresh (Nat.le_refl _))
  · obtain ⟨its, rv, p, hz⟩ := I1.tuple hq
    refine wpAny_pyIter_tuple (show s1.heap.IsTuple a its.toArray from p) ?_
    refine ⟨s1.heap.objs.size, [s1.heap.objs.size], _, _, H1, rfl, I1.kept (t' := s1.toks) fun b o e => Heap.get?_push_of_some _ e, turn_tuple a _, ⟨_, Heap.get?_push_size _ rfl, rfl, rfl⟩, fun b hb => ?_, q⟩
    have e : b = s1.heap.objs.size := by simpa using hb
    subst e
    exact I1.fpOk (Nat.le_refl _) (I1.hok.fresh (Nat.le_refl _))
section
variable {C : Ct} {A A2 : List Addr} {G G2 : List (List Addr)} {H H2 : Hp} {P2 : Addr → Prop} {x : SV} {v : V} {xs : List SV} {vs : List V}
theorem fs_later (hP : ∀ a, P2 a → C.Pr a ∨ H a = none) (e : ExtS A G H A2 G2 H2) : ∀ a, Fs (C.pr P2) A2 G2 a → Fs C A G a ∨ H a = none := fun a z => by
  have go : a ∈ A2 ++ G2.flatten → Fs C A G a ∨ H a = none := fun m => by
    rcases e.new a m with m | m
    · rcases List.mem_append.mp m with m | m
      · exact .inl (.inl m)
      · exact .inl (.inr (.inl m))
    · exact .inr m
  rcases z with z | z | z
  · exact go (List.mem_append_left _ z)
  · exact go (List.mem_append_right _ z)
  · exact (hP a z).imp (fun z => .inr (.inr z)) id
theorem fs_kept (e : ExtS A G H A2 G2 H2) : ∀ a o, H a = some o → ¬ Fs C A G a → H2 a = some o := fun a o q n => e.keep a o q fun m => n ((List.mem_append.mp m).elim .inl fun m => .inr (.inl m))
/-- an item later on -/
theorem Rs.later (hP : ∀ a, P2 a → C.Pr a ∨ H a = none) (e : ExtS A G H A2 G2 H2) (r : Rs C.K C.mg H A (Fs C A G) x v []) : Rs C.K C.mg H2 A2 (Fs (C.pr P2) A2 G2) x v [] :=
  Rs.mono (prefix_get e.pre) (fs_later hP e) (fs_kept e) _ _ _ (fun a m => by cases m) r
theorem RsL.get0 : ∀ {xs : List SV} {vs : List V} {K : PySem.W.Frag} {mg : Str → Option Value} {F : Addr → Prop} {i : Nat}, RsL K mg H A F xs vs [] → vs[i]? = some v → ∃ x, xs[i]? = some x ∧ Rs K mg H A F x v []
  | [], _, _, _, _, i, r, e => by cases r; simp at e
  | x :: xs, _, _, _, _, i, r, e => by
    generalize hg : ([] : List Addr) = g at r
    cases r with
    | cons r1 r2 =>
      obtain ⟨rfl, rfl⟩ := List.append_eq_nil_iff.mp hg.symm
      cases i with
      | zero => simp at e; subst e; exact ⟨_, rfl, r1⟩
      | succ i => simpa using RsL.get0 r2 (by simpa using e)
theorem RsL.get1 {K : PySem.W.Frag} {mg : Str → Option Value} {F : Addr → Prop} {i : Nat} (r : RsL K mg H A F xs vs []) (h : xs[i]? = some x) : ∃ v, vs[i]? = some v ∧ Rs K mg H A F x v [] := by
  have l := r.length
  have hi : i < xs.length := (List.getElem?_eq_some_iff.mp h).1
  obtain ⟨x', e, q⟩ := r.get0 (i := i) (v := vs[i]'(by omega)) (List.getElem?_eq_getElem _)
  rw [h] at e
  cases e
  exact ⟨_, List.getElem?_eq_getElem _, q⟩
theorem sqL_inj {K : PySem.W.Frag} {a : Addr} {us : List V} (h : H a = some (.lst vs)) (q : SqL K H a us) (hk : ∀ o, K.lookup a = some o → False) : us = vs := by
  rcases q with (q | ⟨o, q⟩) | ⟨o, its, n, e, _⟩
  · rw [h] at q; cases q; rfl
  · rw [h] at q; cases q
  · exact (hk _ e).elim
theorem sqL_stay {K : PySem.W.Frag} {a : Addr} (q : SqL K H a vs) (h : ∀ o, H a = some o → H2 a = some o) : SqL K H2 a vs := by
  rcases q with (q | ⟨o, q⟩) | q
  · exact .inl (.inl (h _ q))
  · exact .inl (.inr ⟨o, h _ q⟩)
  · exact .inr q
theorem sqT_stay {K : PySem.W.Frag} {a : Addr} (q : SqT K H a vs) (h : ∀ o, H a = some o → H2 a = some o) : SqT K H2 a vs := by
  rcases q with (q | ⟨o, q⟩) | q
  · exact .inl (.inl (h _ q))
  · exact .inl (.inr ⟨o, h _ q⟩)
  · exact .inr q
theorem wk_lst {full : Bool} {a : Addr} (r : RsL C.K C.mg H A (Fs C A G) xs vs []) (st : ∀ A2 G2 H2, ExtS A G H A2 G2 H2 → (full = false → ∀ a o, H a = some o → a ∉ A → H2 a = some o) → SqL C.K H2 a vs) : Wk C full A G (Itl C.K a) xs H := by
  refine ⟨fun P2 A2 G2 H2 hP e hk ht i x hx => ?_, fun A2 G2 H2 e hk i hi => ?_⟩
  · obtain ⟨v, hv, rv⟩ := r.get1 hx
    have s2 := st A2 G2 H2 e hk
    refine ⟨⟨vs, v, s2, hv⟩, fun w H3 ⟨e3, y⟩ => ?_⟩
    subst e3
    have e' := y vs s2
    rw [hv] at e'
    cases e'
    exact ⟨.inl rfl, rv.later hP e⟩
  · exact ⟨vs, st A2 G2 H2 e hk, by rw [r.length]; exact hi⟩
theorem wk_tup {full : Bool} {a : Addr} (r : RsL C.K C.mg H A (Fs C A G) xs vs []) (st : ∀ A2 G2 H2, ExtS A G H A2 G2 H2 → (full = false → ∀ a o, H a = some o → a ∉ A → H2 a = some o) → SqT C.K H2 a vs) : Wk C full A G (Itt C.K a) xs H := by
  refine ⟨fun P2 A2 G2 H2 hP e hk ht i x hx => ?_, fun A2 G2 H2 e hk i hi => ?_⟩
  · obtain ⟨v, hv, rv⟩ := r.get1 hx
    have s2 := st A2 G2 H2 e hk
    refine ⟨⟨vs, v, s2, hv⟩, fun w H3 ⟨e3, y⟩ => ?_⟩
    subst e3
    have e' := y vs s2
    rw [hv] at e'
    cases e'
    exact ⟨.inl rfl, rv.later hP e⟩
  · exact ⟨vs, st A2 G2 H2 e hk, by rw [r.length]; exact hi⟩
def rangeL (lo : Int) (n : Nat) : List SV := (List.range n).map fun k => .d (.int (lo + (k : Nat)))
theorem wk_rng {full : Bool} {lo : Int} {n : Nat} : Wk C full A G (Itr lo n) (rangeL lo n) H := by
  refine ⟨fun P2 A2 G2 H2 hP e hk ht i x hx => ?_, fun A2 G2 H2 e hk i hi => ?_⟩
  · unfold rangeL at hx
    rw [List.getElem?_map, Option.map_eq_some_iff] at hx
    obtain ⟨k, hk', rfl⟩ := hx
    have hi : i < n := by
      have := (List.getElem?_eq_some_iff.mp hk').1
      simpa using this
    rw [List.getElem?_range hi] at hk'
    cases hk'
    refine ⟨hi, fun w H3 ⟨e3, y⟩ => ?_⟩
    subst e3
    subst y
    exact ⟨.inl rfl, .d (.int _)⟩
  · show n ≤ i
    simpa [rangeL] using hi
end
/-- a list or tuple that is walked -/
def isRef : SV → Bool
  | .ref _ => true
  | _ => false
def iSeq (f : Rho → Mo SV) : Rho → Mo (List SV) := fun ρ S => bindM (f ρ S) fun x S1 => if isRef x then none else (seq? S1 x).bind fun xs => if xs.all noOwn then some (.ok xs S1) else none
section
variable {X : Cx} {C : Ct} {W : WX} {kd ka kb : Kd} {tg e a b c : Expr} {es : List Expr} {pos : Pos} {f fa fb : Rho → Mo SV} {fs : Rho → Mo (List SV)}
/-- where a walked thing stands -/
theorem Rk.walk {P : Addr → Prop} {ρ : Rho} {S : Sto} {g A : List Addr} {G : List (List Addr)} {σ : L2.St} {H0 H : Hp} {x : SV} {v : V} {xs : List SV} {full : Bool} (I : Sim (C.pr P) ρ S A G σ H) (r : Rk (C.pr P) ka g A G H0 H x v) (hr : isRef x = false) (h : seq? S x = some xs) (hn : xs.all VL.noOwn = true)
    (hg : full = true → ∀ a ∈ g, a ∉ G.flatten) : ∃ a, v = .ref a ∧ (((∃ ys, SqL C.K H a ys) ∧ Wk (C.pr P) full A G (Itl C.K a) xs H) ∨ ((∃ ys, SqT C.K H a ys) ∧ Wk (C.pr P) full A G (Itt C.K a) xs H)) := by
  obtain ⟨r1, h1⟩ := r.asBe
  have items : ∀ vs g', RkL (C.pr P) .be g' A G H H xs vs → RsL C.K C.mg H A (Fs (C.pr P) A G) xs vs [] := fun vs g' rr => by
    obtain ⟨rr, _⟩ := rr
    have e := RsL.noOwn rr hn
    rw [e] at rr
    exact rr
  cases r1 with
  | d r1 =>
    cases r1 with
    | lst e n l q =>
      cases h
      exact ⟨_, rfl, .inl ⟨⟨_, .of e⟩, wk_lst (items _ _ (RkL.dats q)) fun A2 G2 H2 e2 hk => .of (fs_kept e2 _ _ e n)⟩⟩
    | tup e n l q =>
      cases h
      exact ⟨_, rfl, .inr ⟨⟨_, .of e⟩, wk_tup (items _ _ (RkL.dats q)) fun A2 G2 H2 e2 hk => .of (fs_kept e2 _ _ e n)⟩⟩
    | ctup e l q =>
      cases h
      exact ⟨_, rfl, .inr ⟨⟨_, SqT.const e H⟩, wk_tup (items _ _ (RkL.dats q)) fun A2 G2 H2 e2 hk => SqT.const e H2⟩⟩
    | _ => cases h
  | ref e => cases hr
  | fn e => cases h
  | @scr a o ns e n l =>
    have hvs : SqL C.K H a (ns.map V.int) := .inl (.inr ⟨_, e⟩)
    cases h
    refine ⟨a, rfl, .inl ⟨⟨_, hvs⟩, wk_lst (vs := ns.map V.int) ?_ fun A2 G2 H2 e2 hk => .inl (.inr ⟨_, fs_kept e2 _ _ e n⟩)⟩⟩
    have := RsL.ofD (K := C.K) (mg := C.mg) (A := A) (DqL.ofInts (C := C) (H := H) (F := Fs (C.pr P) A G) ns)
    rw [List.map_map] at this
    exact this
  | @scrK a ns e l =>
    cases h
    refine ⟨a, rfl, .inl ⟨⟨_, SqL.const e H⟩, wk_lst (vs := ns.map V.int) ?_ fun A2 G2 H2 e2 hk => SqL.const e H2⟩⟩
    have := RsL.ofD (K := C.K) (mg := C.mg) (A := A) (DqL.ofInts (C := C) (H := H) (F := Fs (C.pr P) A G) ns)
    rw [List.map_map] at this
    exact this
  | own e l q =>
    cases h
    refine ⟨_, rfl, .inl ⟨⟨_, .of e⟩, wk_lst (items _ _ ⟨q, fun a m => h1 a (List.mem_cons_of_mem _ m)⟩) fun A2 G2 H2 e2 hk => .of ?_⟩⟩
    cases full with
    | false => exact hk rfl _ _ e (h1 _ List.mem_cons_self).1
    | true => exact e2.keep _ _ e fun m => (List.mem_append.mp m).elim (fun m => (h1 _ List.mem_cons_self).1 m) (fun m => hg rfl _ List.mem_cons_self m)
theorem i_seq (hk : C.K = X.K) (h : PE X e (tV C W ka f)) : PI X tg e (tI C W false (iSeq f)) := by
  refine pi_imp (pi_seq h) fun σ H R ⟨P, ρ, S, A, G, hP, I, q⟩ => ⟨P, ρ, S, A, G, hP, I, EGood.step q (fun _ _ _ _ _ _ z => z) fun x S1 q v H1 p => ?_⟩
  obtain ⟨A1, g1, e1, J1, k1⟩ := p
  split at q
  · exact q.elim
  · rename_i hr
    cases es : seq? S1 x with
    | none => rw [es] at q; exact q.elim
    | some xs =>
      rw [es] at q
      simp only [Option.bind_some] at q
      split at q
      · rename_i hn
        obtain ⟨a, rfl, w⟩ := k1.walk (full := false) J1.pgw (by simpa using hr) es hn (fun z => by cases z)
        rw [hk] at w
        refine ⟨a, rfl, ?_⟩
        rcases w with ⟨w1, w2⟩ | ⟨w1, w2⟩
        · exact .inl ⟨w1, q _ _ ⟨A1, e1, J1.pgw, w2⟩⟩
        · exact .inr ⟨w1, q _ _ ⟨A1, e1, J1.pgw, w2⟩⟩
      · exact q.elim
theorem i_seqF (hk : C.K = X.K) (h : PE X e (tV C W .fe f)) : PI X tg e (tI C W true (iSeq f)) := by
  refine pi_imp (pi_seq h) fun σ H R ⟨P, ρ, S, A, G, hP, I, q⟩ => ⟨P, ρ, S, A, G, hP, I, EGood.step q (fun _ _ _ _ _ _ z => z) fun x S1 q v H1 p => ?_⟩
  obtain ⟨A1, g1, e1, J1, k1⟩ := p
  split at q
  · exact q.elim
  · rename_i hr
    cases es : seq? S1 x with
    | none => rw [es] at q; exact q.elim
    | some xs =>
      rw [es] at q
      simp only [Option.bind_some] at q
      split at q
      · rename_i hn
        obtain ⟨a, rfl, w⟩ := k1.walk (full := true) J1.pgw (by simpa using hr) es hn (fun _ a m z => (J1.prot a (.inr m)).1 (List.mem_append_right _ z))
        rw [hk] at w
        refine ⟨a, rfl, ?_⟩
        rcases w with ⟨w1, w2⟩ | ⟨w1, w2⟩
        · exact .inl ⟨w1, q _ _ ⟨A1, e1, J1.pgw, w2⟩⟩
        · exact .inr ⟨w1, q _ _ ⟨A1, e1, J1.pgw, w2⟩⟩
      · exact q.elim
/-- range of one int, of two -/
def inR (i : Int) : Bool := decide (i.natAbs < 4611686018427387904)
theorem inR_lt {i : Int} (h : inR i = true) : -(2 ^ 62) ≤ i ∧ i < 2 ^ 62 := by
  have h := of_decide_eq_true h
  have e : (2 : Int) ^ 62 = 4611686018427387904 := by decide
  rw [e]
  omega
def iRng1 (fs : Rho → Mo (List SV)) : Rho → Mo (List SV) := fun ρ S => bindM (fs ρ S) fun xs S1 => match xs with
  | [.d (.int j)] => if inR j then some (.ok (rangeL 0 j.toNat) S1) else none
  | _ => none
def iRng2 (fs : Rho → Mo (List SV)) : Rho → Mo (List SV) := fun ρ S => bindM (fs ρ S) fun xs S1 => match xs with
  | [.d (.int i), .d (.int j)] => if inR i && inR j then some (.ok (rangeL i (j - i).toNat) S1) else none
  | _ => none
theorem i_rng1 {full : Bool} {p : Pos} (hg : Gl X "range") (hm : X.mg "range" = none) (ha : PA X [a] (tVs C W .be fs)) (hs : starEach [a] X.env = [(false, eval a X.env)] := by rfl) : PI X tg (.Call (.Name "range" p) [a] [] pos) (tI C W full (iRng1 fs)) := by
  refine pi_imp (pi_range1 hg hm ha hs) fun σ H R ⟨P, ρ, S, A, G, hP, I, q⟩ => ⟨P, ρ, S, A, G, hP, I, EGood.step q (fun _ _ _ _ _ _ z => z) fun xs S1 q vs H1 p => ?_⟩
  obtain ⟨A1, g1, e1, J1, k1⟩ := p
  split at q
  · rename_i j
    split at q
    · rename_i hj
      have hj := inR_lt hj
      obtain ⟨v, rfl, r⟩ := k1.one
      exact ⟨j, by rw [r.int], hj.1, hj.2, q _ _ ⟨A1, e1, J1, wk_rng⟩⟩
    · exact q.elim
  · exact q.elim
theorem i_rng2 {full : Bool} {p : Pos} (hg : Gl X "range") (hm : X.mg "range" = none) (ha : PA X [a, b] (tVs C W .be fs)) (hs : starEach [a, b] X.env = [(false, eval a X.env), (false, eval b X.env)] := by rfl) (hs2 : starEach [b] X.env = [(false, eval b X.env)] := by rfl) : PI X tg (.Call (.Name "range" p) [a, b] [] pos) (tI C W full (iRng2 fs)) := by
  refine pi_imp (pi_range2 hg hm ha hs hs2) fun σ H R ⟨P, ρ, S, A, G, hP, I, q⟩ => ⟨P, ρ, S, A, G, hP, I, EGood.step q (fun _ _ _ _ _ _ z => z) fun xs S1 q vs H1 p => ?_⟩
  obtain ⟨A1, g1, e1, J1, k1⟩ := p
  split at q
  · rename_i i j
    split at q
    · rename_i hj
      have hj := Bool.and_eq_true_iff.mp hj
      have hj := And.intro (inR_lt hj.1) (inR_lt hj.2)
      obtain ⟨v, u, ga, gb, rfl, r1, r2⟩ := k1.two
      exact ⟨i, j, by rw [r1.int, r2.int], ⟨hj.1.1, hj.1.2, hj.2.1, hj.2.2⟩, q _ _ ⟨A1, e1, J1, wk_rng⟩⟩
    · exact q.elim
  · exact q.elim
end

/-! ### comprehensions -/
def wipeR (ρ : Rho) : List Nat → Rho
  | [] => ρ
  | v :: vs => (wipeR ρ vs).set v none
def compL (tf : TgF) (tst : Rho → Mo Bool) (elt : Rho → Mo SV) (ρ : Rho) : List SV → List SV → Mo (List SV)
  | [], acc, S => some (.ok acc S)
  | x :: xs, acc, S => match tf x ρ with
    | none => none
    | some ρ' => match tst ρ' S with
      | some (.ok true S1) => (match elt ρ' S1 with
        | some (.ok y S2) => if acc.length < sizeLine then compL tf tst elt ρ xs (acc ++ [y]) S2 else none
        | _ => none)
      | some (.ok false S1) => compL tf tst elt ρ xs acc S1
      | _ => none
def eLc (it : Rho → Mo (List SV)) (tf : TgF) (tst : Rho → Mo Bool) (elt : Rho → Mo SV) (vs : List Nat) : Rho → Mo SV := fun ρ S => bindM (it ρ S) fun xs S1 => bindM (compL tf tst elt (wipeR ρ vs) xs [] S1) fun ys S2 => some (.ok (.own ys) S2)
/-- no exception leaves -/
abbrev WF : WX := fun _ _ _ _ => False
theorem wipeR_length (ρ : Rho) : ∀ vs : List Nat, (wipeR ρ vs).length = ρ.length
  | [] => rfl
  | v :: vs => by unfold wipeR; rw [List.length_set, wipeR_length ρ vs]
theorem wipeR_some {ρ : Rho} {i : Nat} {x : SV} : ∀ {vs : List Nat}, (wipeR ρ vs)[i]? = some (some x) → ρ[i]? = some (some x) ∧ i ∉ vs
  | [], h => ⟨h, by simp⟩
  | v :: vs, h => by
    unfold wipeR at h
    by_cases e : v = i
    · subst e
      by_cases hl : v < (wipeR ρ vs).length
      · rw [List.getElem?_set_self hl] at h; cases h
      · rw [List.getElem?_set, if_pos rfl, if_neg hl] at h; cases h
    · rw [List.getElem?_set_ne e] at h
      obtain ⟨h1, h2⟩ := wipeR_some h
      exact ⟨h1, by simp [h2, Ne.symm e]⟩
theorem Sim.wipe {C : Ct} {ρ : Rho} {S : Sto} {A : List Addr} {G : List (List Addr)} {σ : L2.St} {H : Hp} (I : Sim C ρ S A G σ H) (vs : List Nat) : Sim C (wipeR ρ vs) S A G (L2.wipe σ vs) H := by
  refine ⟨I.pre, by rw [wipeR_length, wipe_length, I.lr], by rw [wipeR_length, I.lg], I.ls, I.nd, I.trk, I.prot, fun i x e => ?_, I.sto, I.frame, I.fresh, I.a0⟩
  obtain ⟨e1, e2⟩ := wipeR_some e
  obtain ⟨v, g, h1, r, sb⟩ := I.slots i x e1
  exact ⟨v, g, by rw [wipe_out e2]; exact h1, r, sb⟩
end VL

end
section
set_option Elab.async false
set_option linter.all false
set_option maxRecDepth 100000
/-! VL7: comprehensions, for, while. -/
namespace VL
open PySem PySem.Spec PyProof.Rows L2
section
variable {C : Ct} {P P2 P3 : Addr → Prop} {ρ ρ' : Rho} {S S' : Sto} {A A' : List Addr} {G : List (List Addr)} {σ σ' : L2.St} {H H' : Hp}
/-- the outer slots, behind what was done within -/
theorem Sim.back (I : Sim (C.pr P2) ρ S A G σ H) (J : Sim (C.pr P3) ρ' S' A' G σ' H') (e : Ext A H A' H') (hp : ∀ a, P3 a → P2 a ∨ H a = none) : Sim (C.pr P3) ρ S' A' G σ H' := by
  refine ⟨J.pre, I.lr, I.lg, J.ls, J.nd, J.trk, J.prot, fun i x ex => ?_, J.sto, J.frame, J.fresh, J.a0⟩
  obtain ⟨v, g, e1, r, sb⟩ := I.slots i x ex
  refine ⟨v, g, e1, Rs.mono (prefix_get e.pre) (fun a z => ?_) (fun a o q n => e.keep a o q fun z => n (.inl z)) _ _ _ (fun a m o q => e.keep a o q fun z => (List.nodup_append.mp I.nd).2.2 a z a (getD_mem (sb.subset m)) rfl) r, sb⟩
  rcases z with z | z | z
  · exact (e.new a z).imp .inl id
  · exact .inl (.inr (.inl z))
  · exact (hp a z).imp (fun z => .inr (.inr z)) id
/-- a thing that is left alone is changed -/
theorem Sim.updP (I : Sim (C.pr P) ρ S A G σ H) {D : Addr} {o : HO} (hD : P D) (h0 : C.E0 D = none) : Sim (C.pr P) ρ S A G σ (upd H D o) := by
  have nD := I.prot D hD
  have hH : ∀ a o', H a = some o' → ¬ Fs (C.pr P) A G a → upd H D o a = some o' := fun a o' e n => by rw [upd_ne (show a ≠ D from fun z => n (by rw [z]; exact .inr (.inr hD)))]; exact e
  have hA : ∀ a, a ≠ D → upd H D o a = H a := fun a n => upd_ne n
  have tr : ∀ a, H a ≠ none → upd H D o a ≠ none := fun a h => by
    by_cases e : a = D
    · rw [e, upd_same]; simp
    · rw [hA a e]; exact h
  refine ⟨I.pre, I.lr, I.lg, I.ls, I.nd, fun a m => tr a (I.trk a m), fun a p => ⟨(I.prot a p).1, tr a (I.prot a p).2⟩, fun i x e => ?_, fun n xs e => ?_, fun a o' e n => ?_, I.fresh, I.a0⟩
  · obtain ⟨v, g, e1, r, sb⟩ := I.slots i x e
    refine ⟨v, g, e1, Rs.mono (fun _ _ q => q) (fun a z => .inl z) hH _ _ _ (fun a m o' q => ?_) r, sb⟩
    rw [hA a fun z => nD.1 (by rw [← z]; exact List.mem_append_right _ (getD_mem (sb.subset m)))]
    exact q
  · obtain ⟨a, vs, e1, e2, l, r⟩ := I.sto n xs e
    exact ⟨a, vs, e1, by rw [hA a fun z => nD.1 (by rw [← z]; exact List.mem_append_left _ (List.mem_of_getElem? e1))]; exact e2, l, RsL.mono (fun _ _ q => q) (fun a z => .inl z) hH _ _ _ (fun a m => by cases m) r⟩
  · have e' : C.E0 a = some o' := e
    rw [hA a fun z => by rw [z] at e'; rw [e'] at h0; cases h0]
    exact I.frame a o' e n
end
section
variable {X : Cx} {C : Ct} {W : WX} {kd ka kb : Kd} {tg elt iter : Expr} {ifs : List Expr} {scope : Scope} {own : List (Str × Nat)} {pos : Pos} {fi : Rho → Mo (List SV)} {ft : Rho → Mo Bool} {fe : Rho → Mo SV} {tf : TgF} {is : List Nat} {g : TG}
theorem compL_noexc {tf : TgF} {tst : Rho → Mo Bool} {elt : Rho → Mo SV} {ρ : Rho} : ∀ (xs acc : List SV) (S : Sto) (c : Str) (fs : List (Str × SV)) (S' : Sto), compL tf tst elt ρ xs acc S ≠ some (.exc c fs S')
  | [], acc, S, c, fs, S', h => by cases h
  | x :: xs, acc, S, c, fs, S', h => by
    unfold compL at h
    split at h
    · cases h
    · split at h
      · split at h
        · split at h
          · exact compL_noexc _ _ _ _ _ _ h
          · cases h
        · cases h
      · exact compL_noexc _ _ _ _ _ _ h
      · cases h
theorem t_lc (hgo : GOk C tf is g) {vs : List Nat} (his : ∀ j ∈ is, j ∈ vs) : ∀ σ H Q, tV C W kd (eLc fi tf ft fe vs) σ H Q → tLc (tI C W false fi) g (tTs C WF ft) (tV C WF .fe fe) vs σ H Q := by
  intro σ H Q ⟨P, ρ, S, A, G, hP, I, q⟩
  refine ⟨P, ρ, S, A, G, hP, I, EGood.step q (fun _ _ _ _ _ _ z => z) fun xs S1 q J H1 p => ?_⟩
  obtain ⟨A1, e1, I1, wk⟩ := p
  cases hcl : compL tf ft fe (wipeR ρ vs) xs [] S1 with
  | none => rw [hcl] at q; exact q.elim
  | some rr =>
  cases rr with
  | exc c fs S' => exact (compL_noexc _ _ _ _ _ _ hcl).elim
  | ok ys S2 =>
  rw [hcl] at q
  intro D hD
  have hE0 : C.E0 D = none := I1.e0 D hD
  have hW : ∀ (v : V) (H' : Hp), EPost (C.pr P) kd ρ A G σ H (SV.own ys) S2 v H' → Q v H' := q
  clear q
  refine ⟨fun i m H' => m = xs.length - i ∧ ∃ Si Ai acc accV gacc, i ≤ xs.length ∧ compL tf ft fe (wipeR ρ vs) (xs.drop i) acc Si = some (.ok ys S2) ∧ Ext A1 H1 Ai H' ∧ Sim (C.pr fun a => P a ∨ a = D ∨ a ∈ gacc) ρ Si Ai G σ H' ∧
    H' D = some (.lst accV) ∧ accV.length ≤ sizeLine ∧ RsL C.K C.mg H' Ai (fun a => Fs (C.pr P) Ai G a ∨ a = D ∨ a ∈ gacc) acc accV gacc ∧ gacc.Nodup ∧ (∀ a ∈ gacc, H1 a = none ∧ a ≠ D), ⟨xs.length - 0, rfl, S1, A1, [], [], [], Nat.zero_le _, by rw [List.drop_zero]; exact hcl, Ext.upd hD, ?_, upd_same, Nat.zero_le _, .nil, List.nodup_nil, fun a m => by cases m⟩, ?_⟩
  · exact Sim.prc (C := (C.pr P).pr fun a => P a ∨ a = D) (Sim.newP I1 hD) fun a z => z.elim .inl fun z => z.elim .inr fun m => by cases m
  rintro i m H' ⟨rfl, Si, Ai, acc, accV, gacc, hi, hc, ex, Is, hDa, hl, rl, nd, hg⟩
  have hkeep : false = false → ∀ a o, H1 a = some o → a ∉ A1 → H' a = some o := fun _ a o e n => ex.keep a o e n
  by_cases hlt : i < xs.length
  · -- a turn
    have hx : xs[i]? = some xs[i] := List.getElem?_eq_getElem hlt
    have hP2 : ∀ a, (P a ∨ a = D ∨ a ∈ gacc) → P a ∨ H1 a = none := fun a z => z.imp id fun z => z.elim (fun z => by rw [z]; exact hD) fun m => (hg a m).1
    obtain ⟨jgo, jy⟩ := wk.go (fun a => P a ∨ a = D ∨ a ∈ gacc) Ai G H' hP2 ex.s hkeep (fun a z => Is.fsTrk z) i _ hx
    rw [List.drop_eq_getElem_cons hlt] at hc
    unfold compL at hc
    cases htf : tf xs[i] (wipeR ρ vs) with
    | none => rw [htf] at hc; cases hc
    | some ρ' =>
    rw [htf] at hc
    simp only at hc
    refine .inr ⟨jgo, fun H'' => ∃ Si Ai acc accV gacc, i + 1 ≤ xs.length ∧ compL tf ft fe (wipeR ρ vs) (xs.drop (i + 1)) acc Si = some (.ok ys S2) ∧ Ext A1 H1 Ai H'' ∧ Sim (C.pr fun a => P a ∨ a = D ∨ a ∈ gacc) ρ Si Ai G σ H'' ∧
      H'' D = some (.lst accV) ∧ accV.length ≤ sizeLine ∧ RsL C.K C.mg H'' Ai (fun a => Fs (C.pr P) Ai G a ∨ a = D ∨ a ∈ gacc) acc accV gacc ∧ gacc.Nodup ∧ (∀ a ∈ gacc, H1 a = none ∧ a ≠ D), fun H'' h => ⟨xs.length - (i + 1), by omega, rfl, h⟩, fun v H3 y => ?_⟩
    obtain ⟨hn, rx⟩ := jy v H3 y
    have e3 : Ext Ai H' Ai H3 := by
      rcases hn with rfl | ⟨p, o, hp, rfl⟩
      · exact Ext.refl
      · exact Ext.upd hp
    have I3 : Sim (C.pr fun a => P a ∨ a = D ∨ a ∈ gacc) ρ Si Ai G σ H3 := by
      rcases hn with rfl | ⟨p, o, hp, rfl⟩
      · exact Is
      · exact Is.new hp
    refine hgo _ _ _ _ _ _ _ _ _ _ _ (I3.wipe vs) rx htf fun σ2 I4 so => ⟨?_, ?_⟩
    · rw [so.wipe his, wipe_wipe]
    refine ⟨_, ρ', Si, Ai, G, fun a z => .inl (hP a z), I4, ?_⟩
    cases htt : ft ρ' Si with
    | none => rw [htt] at hc; cases hc
    | some rt =>
    cases rt with
    | exc c fs S' => rw [htt] at hc; cases hc
    | ok b S3 =>
    rw [htt] at hc
    rintro b' H4 ⟨rfl, A4, e4, I5⟩
    have e34 : Ext Ai H' A4 H4 := e3.trans e4
    have hD4 : H4 D = some (.lst accV) := e34.keep D _ hDa fun z => (Is.prot D (.inr (.inl rfl))).1 (List.mem_append_left _ z)
    cases b' with
    | false =>
      simp only [Bool.false_eq_true, if_false] at hc ⊢
      refine ⟨S3, A4, acc, accV, gacc, hlt, hc, ex.trans e34, Sim.back Is I5 e34 fun a z => .inl z, hD4, hl, ?_, nd, hg⟩
      refine RsL.mono (prefix_get e34.pre) (fun a z => ?_) (fun a o q n => e34.keep a o q fun z => n (.inl (.inl z))) _ _ _ (fun a m o q => e34.keep a o q fun z => (Is.prot a (.inr (.inr m))).1 (List.mem_append_left _ z)) rl
      rcases z with (z | z | z) | z
      · exact (e34.new a z).imp (fun z => .inl (.inl z)) id
      · exact .inl (.inl (.inr (.inl z)))
      · exact .inl (.inl (.inr (.inr z)))
      · exact .inl (.inr z)
    | true =>
      simp only [if_true] at hc ⊢
      refine ⟨_, ρ', S3, A4, G, fun a z => .inl (hP a z), I5, ?_⟩
      cases hte : fe ρ' S3 with
      | none => rw [hte] at hc; cases hc
      | some re =>
      cases re with
      | exc c fs S' => rw [hte] at hc; cases hc
      | ok z S4 =>
      rw [hte] at hc
      simp only at hc
      rintro w H5 ⟨A5, g5, e5, I6, k5⟩
      have e35 : Ext Ai H' A5 H5 := e34.trans e5
      have hD5 : H5 D = some (.lst accV) := e35.keep D _ hDa fun z => (Is.prot D (.inr (.inl rfl))).1 (List.mem_append_left _ z)
      split at hc
      · rename_i hsz
        have hlen := rl.length
        refine ⟨accV, hD5, by rw [hlen]; exact hsz, S4, A5, acc ++ [z], accV ++ [w], gacc ++ g5, hlt, hc, ?_, ?_, upd_same, by rw [List.length_append, hlen]; exact hsz, ?_, ?_, ?_⟩
        · have e15 := ex.trans e35
          refine ⟨e15.pre, e15.new, fun a o e n => ?_, fun a h => ?_⟩
          · rw [upd_ne (show a ≠ D from fun z => by rw [z, hD] at e; cases e)]
            exact e15.keep a o e n
          · by_cases ea : a = D
            · rw [ea, upd_same]; simp
            · rw [upd_ne ea]; exact e15.there a h
        · have I6' : Sim (C.pr fun a => (P a ∨ a = D ∨ a ∈ gacc) ∨ a ∈ g5) ρ' S4 A5 G σ2 H5 := I6
          have I7 := Sim.back Is I6' e35 (fun a z => z.imp id fun m => none_back e34 (k5.2.2 a m).1)
          have I8 : Sim (C.pr fun a => P a ∨ a = D ∨ a ∈ gacc ++ g5) ρ S4 A5 G σ H5 := Sim.prc (C := C.pr fun a => (P a ∨ a = D ∨ a ∈ gacc) ∨ a ∈ g5) I7 fun a z => by
            rcases z with z | z | z
            · exact .inl (.inl z)
            · exact .inl (.inr (.inl z))
            · exact (List.mem_append.mp z).elim (fun z => .inl (.inr (.inr z))) .inr
          exact I8.updP (.inr (.inl rfl)) hE0
        · refine RsL.app ?_ (g' := g5) ?_
          · refine RsL.mono (prefix_get e35.pre) (fun a z => ?_) (fun a o q n => ?_) _ _ _ (fun a m o q => ?_) rl
            · rcases z with (z | z | z) | z | z
              · exact (e35.new a z).imp (fun z => .inl (.inl z)) id
              · exact .inl (.inl (.inr (.inl z)))
              · exact .inl (.inl (.inr (.inr z)))
              · exact .inl (.inr (.inl z))
              · rcases List.mem_append.mp z with z | z
                · exact .inl (.inr (.inr z))
                · exact .inr (none_back e34 (k5.2.2 a z).1)
            · rw [upd_ne (show a ≠ D from fun z => n (.inr (.inl z)))]
              exact e35.keep a o q fun z => n (.inl (.inl z))
            · rw [upd_ne (hg a m).2]
              exact e35.keep a o q fun z => (Is.prot a (.inr (.inr m))).1 (List.mem_append_left _ z)
          · have r5 := k5.1
            have : RsL C.K C.mg (upd H5 D (.lst (accV ++ [w]))) A5 (fun a => Fs (C.pr P) A5 G a ∨ a = D ∨ a ∈ gacc ++ g5) [z] [w] (g5 ++ []) := by
              refine .cons (Rs.mono (fun _ _ q => q) (fun a z => ?_) (fun a o q n => ?_) _ _ _ (fun a m o q => ?_) r5) .nil
              · rcases z with (z | z | z) | z | z
                · exact .inl (.inl (.inl z))
                · exact .inl (.inl (.inr (.inl z)))
                · exact .inl (.inl (.inr (.inr (.inl z))))
                · exact .inl (.inl (.inr (.inr (.inr (.inl z)))))
                · rcases List.mem_append.mp z with z | z
                  · exact .inl (.inl (.inr (.inr (.inr (.inr z)))))
                  · exact .inl (.inr z)
              · rw [upd_ne (show a ≠ D from fun z => n (.inl (.inr (.inr (.inr (.inl z))))))]
                exact q
              · rw [upd_ne (show a ≠ D from fun z => by
                  have := (k5.2.2 a m).1
                  rw [z, hD4] at this
                  cases this)]
                exact q
            rw [List.append_nil] at this
            exact this
        · refine List.nodup_append.mpr ⟨nd, k5.2.1, fun a h b h' e => ?_⟩
          subst e
          have h1 := (k5.2.2 a h').1
          exact e34.there a (Is.prot a (.inr (.inr h))).2 h1
        · intro a m
          rcases List.mem_append.mp m with m | m
          · exact hg a m
          · have h1 := (k5.2.2 a m).1
            refine ⟨none_back ex (none_back e34 h1), fun z => ?_⟩
            rw [z, hD4] at h1
            cases h1
      · cases hc
  · -- the end
    have hie : i = xs.length := by omega
    rw [List.drop_eq_nil_of_le (by omega)] at hc
    cases hc
    refine .inl ⟨wk.stop Ai G H' ex.s hkeep i (by omega), hW _ _ (EPost.be ⟨Ai, D :: gacc, e1.trans ex, ?_, .own hDa hl ?_, ?_, ?_⟩)⟩
    · exact Sim.prc (C := C.pr fun a => P a ∨ a = D ∨ a ∈ gacc) Is fun a z => z.imp id fun m => by simpa using m
    · exact RsL.mono (fun _ _ q => q) (fun a z => .inl (z.imp id fun m => by simpa using m)) (fun a o q n => q) _ _ _ (fun a m o q => q) rl
    · exact List.nodup_cons.mpr ⟨fun m => (hg D m).2 rfl, nd⟩
    · intro a m
      have m' : a = D ∨ a ∈ gacc := by simpa using m
      refine ⟨?_, (Is.prot a (.inr m')).2, fun z => (Is.prot a (.inr m')).1 (List.mem_append_left _ z)⟩
      rcases m' with m' | m'
      · rw [m']; exact none_back e1 hD
      · exact none_back e1 (hg a m').1
theorem v_lc (hc : X.calm = true) (hN : X.N.Nodup) (hi : PI X tg iter (tI C W false fi)) (ok : BlkOk X.N X.env.scope scope own) (hg : ∀ (s : Shared) (H : Hp) (Ca : Addr) (cl : List (Str × Addr)) (fp : List Addr), PG (X.blk s H scope (compEnvC scope cl Ca X.env) fp) tg g) (hgo : GOk C tf is g)
    (his : ∀ j ∈ is, j ∈ own.map (·.2)) (ht : ∀ (s : Shared) (H : Hp) (Ca : Addr) (cl : List (Str × Addr)) (fp : List Addr), PTs (X.blk s H scope (compEnvC scope cl Ca X.env) fp) ifs (tTs C WF ft))
    (he : ∀ (s : Shared) (H : Hp) (Ca : Addr) (cl : List (Str × Addr)) (fp : List Addr), PE (X.blk s H scope (compEnvC scope cl Ca X.env) fp) elt (tV C WF .fe fe)) (hs : ∀ x, foldedSetIterable iter X.env x = pure x := by intro _; rfl) :
    PE X (.ListComp elt [⟨tg, iter, ifs, 0⟩] scope pos) (tV C W kd (eLc fi tf ft fe (own.map (·.2)))) := pe_imp (pe_lc hc hN hi ok hg ht he hs) (t_lc hgo his)
/-- no test -/
def bYes : Rho → Mo Bool := fun _ S => some (.ok true S)
theorem ts_nil {X : Cx} : PTs X [] (tTs C WF bYes) := ⟨fun pins s σ H Q I h => pts_nil.run pins s σ H Q I (by
  obtain ⟨P, ρ, S, A, G, hP, I', q⟩ := h
  exact q true H ⟨rfl, A, Ext.refl, I'⟩)⟩
theorem ts_one {X : Cx} {c : Expr} (h : PT X c (tTs C WF ft)) : PTs X [c] (tTs C WF ft) := pts_one h
end
end VL

end
section
set_option Elab.async false
set_option linter.all false
set_option maxRecDepth 100000
/-! VL8: statements; a def by its body; calls. -/
namespace VL
open PySem PySem.Spec PyProof.Rows L2

def bindS {α : Type} (ρ : Rho) (m : Option (Res α)) (k : α → Sto → Option Fl) : Option Fl :=
  match m with
  | none => none
  | some (.ok a S) => k a S
  | some (.exc c fs S) => some (.exc c fs ρ S)
@[simp] theorem bindS_ok {α : Type} (ρ : Rho) (a : α) (S : Sto) (k : α → Sto → Option Fl) : bindS ρ (some (.ok a S)) k = k a S := rfl
@[simp] theorem bindS_none {α : Type} (ρ : Rho) (k : α → Sto → Option Fl) : bindS ρ none k = none := rfl
@[simp] theorem bindS_exc {α : Type} (ρ : Rho) (c : Str) (fs : List (Str × SV)) (S : Sto) (k : α → Sto → Option Fl) : bindS ρ (some (.exc c fs S)) k = some (.exc c fs ρ S) := rfl
def sNil : Rho → Sto → Option Fl := fun ρ S => some (.nx ρ S)
def sSeq (f g : Rho → Sto → Option Fl) : Rho → Sto → Option Fl := fun ρ S => match f ρ S with
  | some (.nx ρ' S') => g ρ' S'
  | r => r
def sSet (i : Nat) (f : Rho → Mo SV) : Rho → Sto → Option Fl := fun ρ S => bindS ρ (f ρ S) fun x S1 => some (.nx (ρ.set i (some x)) S1)
def sAsg (t : TgF) (f : Rho → Mo SV) : Rho → Sto → Option Fl := fun ρ S => bindS ρ (f ρ S) fun x S1 => (frz x).bind fun y => (t y ρ).map fun ρ' => .nx ρ' S1
def sPar (i j : Nat) (fs : Rho → Mo (List SV)) : Rho → Sto → Option Fl := fun ρ S => bindS ρ (fs ρ S) fun xs S1 => match xs with
  | [x, y] => some (.nx ((ρ.set i (some x)).set j (some y)) S1)
  | _ => none
def sRet (f : Rho → Mo SV) : Rho → Sto → Option Fl := fun ρ S => bindS ρ (f ρ S) fun x S1 => some (.rt x S1)
/-- a local is handed back, a list of one's own too -/
def sRetV (i : Nat) : Rho → Sto → Option Fl := fun ρ S => match ρ[i]? with
  | some (some x) => some (.rt x S)
  | _ => none
def sRetN : Rho → Sto → Option Fl := fun _ S => some (.rt (.d .none) S)
def sIf (c : Rho → Mo Bool) (f g : Rho → Sto → Option Fl) : Rho → Sto → Option Fl := fun ρ S => bindS ρ (c ρ S) fun b S1 => if b then f ρ S1 else g ρ S1
def sDrop (f : Rho → Mo SV) : Rho → Sto → Option Fl := fun ρ S => bindS ρ (f ρ S) fun _ S1 => some (.nx ρ S1)
def sBrk : Rho → Sto → Option Fl := fun ρ S => some (.bk ρ S)
def sCnt : Rho → Sto → Option Fl := fun ρ S => some (.ct ρ S)
def forL (t : TgF) (body : Rho → Sto → Option Fl) : List SV → Rho → Sto → Option Fl
  | [], ρ, S => some (.nx ρ S)
  | x :: xs, ρ, S => match t x ρ with
    | none => none
    | some ρ' => match body ρ' S with
      | some (.nx ρ2 S2) => forL t body xs ρ2 S2
      | some (.ct ρ2 S2) => forL t body xs ρ2 S2
      | some (.bk ρ2 S2) => some (.nx ρ2 S2)
      | r => r
def sFor (it : Rho → Mo (List SV)) (t : TgF) (body : Rho → Sto → Option Fl) : Rho → Sto → Option Fl := fun ρ S => bindS ρ (it ρ S) fun xs S1 => forL t body xs ρ S1
def whileF (c : Rho → Mo Bool) (b : Rho → Sto → Option Fl) : Nat → Rho → Sto → Option Fl
  | 0, _, _ => none
  | n + 1, ρ, S => bindS ρ (c ρ S) fun k S1 => if k then (match b ρ S1 with
      | some (.nx ρ2 S2) => whileF c b n ρ2 S2
      | some (.ct ρ2 S2) => whileF c b n ρ2 S2
      | some (.bk ρ2 S2) => some (.nx ρ2 S2)
      | r => r) else some (.nx ρ S1)
open Classical in
noncomputable def sWhile (c : Rho → Mo Bool) (b : Rho → Sto → Option Fl) : Rho → Sto → Option Fl := fun ρ S =>
  if h : ∃ n r, whileF c b n ρ S = some r then some h.choose_spec.choose else none
theorem whileF_mono {c : Rho → Mo Bool} {b : Rho → Sto → Option Fl} : ∀ {n : Nat} {ρ : Rho} {S : Sto} {r : Fl}, whileF c b n ρ S = some r → whileF c b (n + 1) ρ S = some r
  | 0, _, _, _, h => by cases h
  | n + 1, ρ, S, r, h => by
    unfold whileF at h ⊢
    cases e : c ρ S with
    | none => rw [e] at h; cases h
    | some x =>
      rw [e] at h
      cases x with
      | exc => exact h
      | ok k S1 =>
        simp only [bindS_ok] at h ⊢
        cases k with
        | false => exact h
        | true =>
          simp only [if_true] at h ⊢
          cases eb : b ρ S1 with
          | none => rw [eb] at h; cases h
          | some y =>
            rw [eb] at h
            cases y with
            | nx ρ2 S2 => exact whileF_mono h
            | ct ρ2 S2 => exact whileF_mono h
            | bk ρ2 S2 => exact h
            | rt v S2 => exact h
            | exc c f S2 => exact h
theorem whileF_add {c : Rho → Mo Bool} {b : Rho → Sto → Option Fl} {n : Nat} {ρ : Rho} {S : Sto} {r : Fl} (h : whileF c b n ρ S = some r) (m : Nat) : whileF c b (n + m) ρ S = some r := by
  induction m with
  | zero => exact h
  | succ m ih => exact whileF_mono ih
theorem sWhile_of {c : Rho → Mo Bool} {b : Rho → Sto → Option Fl} {n : Nat} {ρ : Rho} {S : Sto} {r : Fl} (h : whileF c b n ρ S = some r) : sWhile c b ρ S = some r := by
  unfold sWhile
  have hx : ∃ n r, whileF c b n ρ S = some r := ⟨n, r, h⟩
  rw [dif_pos hx]
  have h2 := hx.choose_spec.choose_spec
  have e1 := whileF_add h hx.choose
  have e2 := whileF_add h2 n
  rw [Nat.add_comm] at e2
  rw [e1] at e2
  exact e2.symm
theorem sWhile_some {c : Rho → Mo Bool} {b : Rho → Sto → Option Fl} {ρ : Rho} {S : Sto} {r : Fl} (h : sWhile c b ρ S = some r) : ∃ n, whileF c b n ρ S = some r := by
  unfold sWhile at h
  split at h
  · rename_i hx
    cases h
    exact ⟨_, hx.choose_spec.choose_spec⟩
  · cases h

/-! ### their readings -/
section
variable {C : Ct} {W : WX} {ρ ρ' : Rho} {S S' : Sto} {A A' : List Addr} {G G' : List (List Addr)} {σ σ' : L2.St} {H H' : Hp} {D : Ends}
theorem Ct.pr_self : C.pr C.Pr = C := rfl
theorem SGood.step {α V1 : Type} {post1 : α → Sto → V1 → Hp → Prop} {m : Option (Res α)} {k : α → Sto → Option Fl} {Q1 : V1 → Hp → Prop} (q : SGood C W A G H D (bindS ρ m k))
    (h : ∀ x S', SGood C W A G H D (k x S') → ∀ v H', post1 x S' v H' → Q1 v H') : EGood post1 (XPost C ρ A G σ H) W σ Q1 m := by
  cases m with
  | none => exact q
  | some r =>
    cases r with
    | ok x S' => exact h x S' q
    | exc c fs S' => exact fun cls d H' ⟨A', e, I, r⟩ => q A' G σ H' cls d e.s I r
theorem SGood.nx (q : SGood C W A G H D (some (.nx ρ' S'))) (e : ExtS A G H A' G' H') (I : Sim C ρ' S' A' G' σ' H') : D.nx σ' H' := q A' G' σ' H' e I
/-- at a return -/
theorem RSto.of {g : List Addr} (I : Sim (C.pr fun a => C.Pr a ∨ a ∈ g) ρ S' A' G σ H') (nd : g.Nodup) (h0 : ∀ a ∈ g, C.E0 a = none) : RSto C A' g S' H' := by
  refine ⟨I.pre, I.ls, List.nodup_append.mpr ⟨(List.nodup_append.mp I.nd).1, nd, fun a h b h' e => ?_⟩, fun a m => ?_, h0, fun n xs e => ?_, I.frame, fun a h => ?_⟩
  · subst e
    exact (I.prot a (.inr h')).1 (List.mem_append_left _ h)
  · rcases List.mem_append.mp m with m | m
    · exact ⟨I.trk a (List.mem_append_left _ m), I.fresh a (List.mem_append_left _ m)⟩
    · exact ⟨(I.prot a (.inr m)).2, .inr (h0 a m)⟩
  · obtain ⟨a, vs, e1, e2, l, r⟩ := I.sto n xs e
    exact ⟨a, vs, e1, e2, l, RsL.mono (fun _ _ q => q) (fun a z => .inl (z.elim .inl fun z => z.elim (fun z => .inr (.inr (.inr z))) fun z => .inr (.inr (.inl z)))) (fun a o q n => q) _ _ _ (fun a m o q => q) r⟩
  · cases q : C.E0 a with
    | none => exact absurd q h
    | some o =>
      by_cases z : a ∈ C.A0
      · exact I.trk a (List.mem_append_left _ (I.pre.subset z))
      · rw [I.frame a o q z]; simp
end
section
variable {X : Cx} {C : Ct} {W : WX} {kd ka kb : Kd} {tg e iter : Expr} {es : List Expr} {st : Stmt} {rest body : List Stmt} {pos : Pos} {f fa fb : Rho → Mo SV} {fs : Rho → Mo (List SV)} {fi : Rho → Mo (List SV)} {fc : Rho → Mo Bool} {s s1 s2 : Rho → Sto → Option Fl} {tf : TgF} {is : List Nat} {g : TG}
theorem ss_nil : PSs X [] (tS C W sNil) := pss_imp pss_nil fun D σ H ⟨ρ, S, A, G, I, q⟩ => q A G σ H ExtS.refl I
theorem ss_cons (h1 : PS X st (tS C W s1)) (h2 : PSs X rest (tS C W s2)) : PSs X (st :: rest) (tS C W (sSeq s1 s2)) := by
  refine pss_imp (pss_cons h1 h2) fun D σ H ⟨ρ, S, A, G, I, q⟩ => ⟨ρ, S, A, G, I, ?_⟩
  unfold sSeq at q
  cases e : s1 ρ S with
  | none => rw [e] at q; exact q
  | some r =>
    rw [e] at q
    cases r with
    | nx ρ' S' => exact fun A' G' σ' H' x J => ⟨ρ', S', A', G', J, q.ext x⟩
    | rt x S' => exact q
    | bk ρ' S' => exact q
    | ct ρ' S' => exact q
    | exc c fs ρ' S' => exact q
theorem ss_one (h1 : PS X st (tS C W s1)) : PSs X [st] (tS C W s1) := pss_one h1
theorem s_pass : PS X (.Pass pos) (tS C W sNil) := ps_imp ps_pass fun D σ H ⟨ρ, S, A, G, I, q⟩ => q A G σ H ExtS.refl I
theorem s_doc {x j pos pos'} : PS X (.Expr (.Constant (.str x) j pos) pos') (tS C W sNil) := ps_imp ps_doc fun D σ H ⟨ρ, S, A, G, I, q⟩ => q A G σ H ExtS.refl I
theorem s_brk : PS X (.Break pos) (tS C W sBrk) := ps_imp ps_break fun D σ H ⟨ρ, S, A, G, I, q⟩ => q A G σ H ExtS.refl I
theorem s_cnt : PS X (.Continue pos) (tS C W sCnt) := ps_imp ps_continue fun D σ H ⟨ρ, S, A, G, I, q⟩ => q A G σ H ExtS.refl I
theorem put_ext {A A' : List Addr} {G : List (List Addr)} {H H' : Hp} {g : List Addr} {i : Nat} (e : Ext A H A' H') (h : ∀ a ∈ g, H a = none) : ExtS A G H A' (G.set i g) H' := by
  refine ⟨e.pre, fun a m => ?_, e.s (G := G).keep, e.there⟩
  rcases List.mem_append.mp m with m | m
  · exact (e.new a m).imp (List.mem_append_left _) id
  · rcases flatten_set_sub m with m | m
    · exact .inl (List.mem_append_right _ m)
    · exact .inr (h a m)
theorem s_set {i : Nat} {x : Str} {pos' : Pos} (hN : X.N.Nodup) (hi : X.N[i]? = some x) (hx : Loc X.env.scope x) (he : PE X e (tV C W .fe f)) (hs : swapsWith e (some (.Name x pos')) pos.line X.env = pure false := by rfl) (hf : X.fn x = true ∨ X.env.scope.names.lookup x = some .local := by first | exact .inl rfl | exact .inr rfl | assumption) :
    PS X (.Assign [.Name x pos'] e pos) (tS C W (sSet i f)) := by
  refine ps_imp (ps_set hN hi hx he hs hf) fun D σ H ⟨ρ, S, A, G, I, q⟩ => ⟨C.Pr, ρ, S, A, G, fun _ h => h, I, SGood.step q fun x S' q v H' p => ?_⟩
  obtain ⟨A', g, e, J, r⟩ := p
  exact q _ _ _ _ (put_ext e fun a m => (r.2.2 a m).1) (Sim.put J r.1 r.2.1 (fun a m => I.e0 a (r.2.2 a m).1) fun a m z => (I.prot a z).2 (r.2.2 a m).1)
theorem t_setlc {i : Nat} {t : TE} (h : ∀ σ H Q, tV C W .fe f σ H Q → t σ H Q) : ∀ D σ H, tS C W (sSet i f) D σ H → tAsg t (gName i) D σ H := by
  intro D σ H ⟨ρ, S, A, G, I, q⟩
  refine h σ H _ ⟨C.Pr, ρ, S, A, G, fun _ h => h, I, SGood.step q fun x S' q v H' p => ?_⟩
  obtain ⟨A', g, e, J, r⟩ := p
  exact q _ _ _ _ (put_ext e fun a m => (r.2.2 a m).1) (Sim.put J r.1 r.2.1 (fun a m => I.e0 a (r.2.2 a m).1) fun a m z => (I.prot a z).2 (r.2.2 a m).1)
theorem s_asg (he : PE X e (tV C W .fe f)) (hg : PG X tg g) (hgo : GOk C tf is g) (hs : swapsWithSole [tg] e pos.line X.env = pure false := by rfl) (hw : swappedStores [tg] e X.env = pure none := by rfl)
    (h1 : (assignEach [tg] X.env).map (·.2) = [assign tg X.env] := by rfl) : PS X (.Assign [tg] e pos) (tS C W (sAsg tf f)) := by
  refine ps_imp (ps_asg he hg hs hw h1) fun D σ H ⟨ρ, S, A, G, I, q⟩ => ⟨C.Pr, ρ, S, A, G, fun _ h => h, I, SGood.step q fun x S' q v H' p => ?_⟩
  obtain ⟨A', g', e, J, r⟩ := p
  cases ef : frz x with
  | none => rw [ef] at q; exact q.elim
  | some y =>
    rw [ef] at q
    simp only [Option.bind_some] at q
    cases et : tf y ρ with
    | none => rw [et] at q; exact q.elim
    | some ρ' =>
      rw [et] at q
      have J0 : Sim (C.pr C.Pr) ρ S' A' G σ H' := Sim.prc (C := C.pr fun a => C.Pr a ∨ a ∈ g') J fun a z => .inl z
      exact hgo C.Pr ρ ρ' S' A' G σ H' y v _ J0 (Rk.frz (C := C) r (new_not1 (P := C.Pr) (S1 := S') I r) ef) et fun σ' J' _ => q A' G σ' H' e.s J'
theorem s_par {i j : Nat} {x y : Str} {a b : Expr} {px py pt : Pos} {kt k2 pt2} (hc : X.calm = true) (hN : X.N.Nodup) (hi : X.N[i]? = some x) (hj : X.N[j]? = some y) (hij : i ≠ j)
    (hx : X.env.scope.names.lookup x = some .local) (hy : X.env.scope.names.lookup y = some .local) (ha : PA X [a, b] (tVs C W .fe fs))
    (hw : swappedStores [.Tuple [.Name x px, .Name y py] kt pt] (.Tuple [a, b] k2 pt2) X.env = pure (some [x, y]))
    (hs : swapsWithSole [.Tuple [.Name x px, .Name y py] kt pt] (.Tuple [a, b] k2 pt2) pos.line X.env = pure false := by rfl) : PS X (.Assign [.Tuple [.Name x px, .Name y py] kt pt] (.Tuple [a, b] k2 pt2) pos) (tS C W (sPar i j fs)) := by
  refine ps_imp (ps_par hc hN hi hj hij hx hy ha hw hs) fun D σ H ⟨ρ, S, A, G, I, q⟩ => ⟨C.Pr, ρ, S, A, G, fun _ h => h, I, SGood.step q fun xs S' q vs H' p => ?_⟩
  obtain ⟨A', g', e, J, r⟩ := p
  split at q
  · rename_i x y
    obtain ⟨r0, nd, hg⟩ := r
    cases r0 with
    | cons r1 r2 =>
      rename_i v us g1 g2
      cases r2 with
      | cons r2 r3 =>
        rename_i w ws g3 g4
        cases r3
        rw [List.append_nil] at *
        have n := List.nodup_append.mp nd
        refine ⟨v, w, rfl, ?_⟩
        have e0 : ∀ a ∈ g1 ++ g3, C.E0 a = none := fun a m => I.e0 a (hg a m).1
        have np : ∀ a ∈ g1 ++ g3, ¬ C.Pr a := fun a m z => (I.prot a z).2 (hg a m).1
        -- the first
        have K1 : Sim ((C.pr fun a => C.Pr a ∨ a ∈ g3).pr fun a => (C.pr fun a => C.Pr a ∨ a ∈ g3).Pr a ∨ a ∈ g1) ρ S' A' G σ H' := Sim.prc (C := C.pr fun a => C.Pr a ∨ a ∈ g1 ++ g3) J fun a z => by
          rcases z with (z | z) | z
          · exact .inl z
          · exact .inr (List.mem_append_right _ z)
          · exact .inr (List.mem_append_left _ z)
        have J1 := Sim.put (i := i) K1 (x := x) (v := v) (Rs.mono (fun _ _ q => q) (fun a z => .inl (by
          rcases z with (z | z | z | z) | z
          · exact .inl (.inl z)
          · exact .inl (.inr (.inl z))
          · exact .inl (.inr (.inr z))
          · exact .inr (List.mem_append_right _ z)
          · exact .inr (List.mem_append_left _ z))) (fun a o q n => q) _ _ _ (fun a m o q => q) r1) n.1 (fun a m => e0 a (List.mem_append_left _ m)) (fun a m z => z.elim (np a (List.mem_append_left _ m)) fun z => n.2.2 a m a z rfl)
        -- the second
        have J2 := Sim.put (C := C) (i := j) (x := y) (v := w) (g := g3) J1 (Rs.mono (fun _ _ q => q) (fun a z => .inl (by
          rcases z with (z | z | z) | z
          · exact .inl (.inl z)
          · rcases flatten_set_sub z with z | z
            · exact .inl (.inr (.inl z))
            · exact .inr (List.mem_append_left _ z)
          · exact .inl (.inr (.inr z))
          · exact .inr (List.mem_append_right _ z))) (fun a o q n => q) _ _ _ (fun a m o q => q) r2) n.2.1 (fun a m => e0 a (List.mem_append_right _ m)) (fun a m => np a (List.mem_append_right _ m))
        refine q _ _ _ _ ⟨e.pre, fun a m => ?_, e.s (G := G).keep, e.there⟩ J2
        rcases List.mem_append.mp m with m | m
        · exact (e.new a m).imp (List.mem_append_left _) id
        · rcases flatten_set_sub m with m | m
          · rcases flatten_set_sub m with m | m
            · exact .inl (List.mem_append_right _ m)
            · exact .inr (hg a (List.mem_append_left _ m)).1
          · exact .inr (hg a (List.mem_append_right _ m)).1
  · exact q.elim
theorem s_ret (he : PE X e (tV C W .fe f)) : PS X (.Return (some e) pos) (tS C W (sRet f)) := by
  refine ps_imp (ps_ret he) fun D σ H ⟨ρ, S, A, G, I, q⟩ => ⟨C.Pr, ρ, S, A, G, fun _ h => h, I, SGood.step q fun x S' q v H' p => ?_⟩
  obtain ⟨A', g, e, J, r⟩ := p
  refine q v H' ⟨A', g, RSto.of J r.2.1 (fun a m => I.e0 a (r.2.2 a m).1), Rs.mono (fun _ _ q => q) (fun a z => .inl ?_) (fun a o q n => q) _ _ _ (fun a m o q => q) r.1⟩
  rcases z with z | z | z
  · exact .inl (.inl z)
  · exact .inr z
  · exact .inl (.inr (.inr z))
theorem s_retV {i : Nat} (he : PE X e (tVar i)) : PS X (.Return (some e) pos) (tS C W (sRetV i)) := by
  refine ps_imp (ps_ret he) fun D σ H ⟨ρ, S, A, G, I, q⟩ => ?_
  unfold sRetV at q
  split at q
  · rename_i x hx
    obtain ⟨v, g, e1, r, sb⟩ := I.slots i x hx
    have hm : ∀ a ∈ g, a ∈ G.flatten := fun a m => getD_mem (sb.subset m)
    have hnd : (A ++ g).Nodup := by
      have n := List.nodup_append.mp I.nd
      refine List.nodup_append.mpr ⟨n.1, ?_, fun a h b h' e => n.2.2 a h b (hm b h') e⟩
      cases hG : G[i]? with
      | none => rw [hG] at sb; rw [List.sublist_nil.mp sb]; exact List.nodup_nil
      | some l =>
        rw [hG] at sb
        exact ((List.pairwise_flatten.mp n.2.1).1 l (List.mem_of_getElem? hG)).sublist sb
    have hE : ∀ a ∈ g, C.E0 a = none := fun a m => by
      rcases I.fresh a (List.mem_append_right _ (hm a m)) with z | z
      · exact absurd rfl ((List.nodup_append.mp hnd).2.2 a (I.pre.subset z) a m)
      · exact z
    refine ⟨v, e1, q v H ⟨A, g, ⟨I.pre, I.ls, hnd, fun a m => ?_, hE, fun n xs e => ?_, I.frame, fun a h => ?_⟩, Rs.mono (fun _ _ q => q) (fun a z => .inl ?_) (fun a o q n => q) _ _ _ (fun a m o q => q) r⟩⟩
    · rcases List.mem_append.mp m with m | m
      · exact ⟨I.trk a (List.mem_append_left _ m), I.fresh a (List.mem_append_left _ m)⟩
      · exact ⟨I.trk a (List.mem_append_right _ (hm a m)), .inr (hE a m)⟩
    · obtain ⟨a, vs, e1, e2, l, r⟩ := I.sto n xs e
      exact ⟨a, vs, e1, e2, l, RsL.mono (fun _ _ q => q) (fun a z => .inl (z.elim .inl fun z => z.elim (fun z => .inr (.inl (hm a z))) fun z => .inr (.inr z))) (fun a o q n => q) _ _ _ (fun a m o q => q) r⟩
    · cases q : C.E0 a with
      | none => exact absurd q h
      | some o =>
        by_cases z : a ∈ C.A0
        · exact I.trk a (List.mem_append_left _ (I.pre.subset z))
        · rw [I.frame a o q z]; simp
    · exact z.elim .inl fun z => z.elim (fun z => .inr (.inl (hm a z))) fun z => .inr (.inr z)
  · exact q.elim
theorem s_retN : PS X (.Return none pos) (tS C W sRetN) := by
  refine ps_imp ps_retN fun D σ H ⟨ρ, S, A, G, I, q⟩ => ?_
  have J : Sim (C.pr fun a => C.Pr a ∨ a ∈ ([] : List Addr)) ρ S A G σ H := I.prc fun a h => h.elim id fun m => by cases m
  exact q _ H ⟨A, [], RSto.of J List.nodup_nil (fun a m => by cases m), .d .non⟩
theorem s_if {a b : List Stmt} (hc : PT X e (tTs C W fc)) (ha : PSs X a (tS C W s1)) (hb : PSs X b (tS C W s2)) : PS X (.If e a b pos) (tS C W (sIf fc s1 s2)) := by
  refine ps_imp (ps_if hc ha hb) fun D σ H ⟨ρ, S, A, G, I, q⟩ => ⟨C.Pr, ρ, S, A, G, fun _ h => h, I, SGood.step q fun k S' q v H' p => ?_⟩
  obtain ⟨rfl, A', e, J⟩ := p
  cases v with
  | true => exact ⟨ρ, S', A', G, J, q.ext e.s⟩
  | false => exact ⟨ρ, S', A', G, J, q.ext e.s⟩
theorem s_drop (he : PE X e (tV C W kd f)) (hs : swapsWith e none pos.line X.env = pure false := by rfl) : PS X (.Expr e pos) (tS C W (sDrop f)) := by
  refine ps_imp (ps_expr he hs) fun D σ H ⟨ρ, S, A, G, I, q⟩ => ⟨C.Pr, ρ, S, A, G, fun _ h => h, I, SGood.step q fun x S' q v H' p => ?_⟩
  obtain ⟨A', g, e, J, r⟩ := p
  exact q _ _ _ _ e.s J.pgw
theorem s_for (hp : PassesOwn (model X.prog X.w) X.A X.env X.xe) (hc : X.calm = true) (hi : PI X tg iter (tI C W true fi)) (hg : PG X tg g) (hgo : GOk C tf is g) (hb : PSs X body (tS C W s))
    (hs : ∀ x, foldedSetIterable iter X.env x = pure x := by intro _; rfl) : PS X (.For tg iter body [] pos) (tS C W (sFor fi tf s)) := by
  refine ps_imp (ps_for hp hc hi hg hb hs) fun D σ H ⟨ρ, S, A, G, I, q⟩ => ⟨C.Pr, ρ, S, A, G, fun _ h => h, I, SGood.step q fun xs S1 q J H1 p => ?_⟩
  obtain ⟨A1, e1, I1, wk⟩ := p
  have q := q.ext e1.s
  refine ⟨fun i m σ H' => m = xs.length - i ∧ i ≤ xs.length ∧ ∃ ρi Si Ai Gi, ExtS A1 G H1 Ai Gi H' ∧ Sim C ρi Si Ai Gi σ H' ∧ SGood C W A1 G H1 D (forL tf s (xs.drop i) ρi Si), ⟨xs.length - 0, rfl, Nat.zero_le _, ρ, S1, A1, G, ExtS.refl, I1, by rw [List.drop_zero]; exact q⟩, ?_⟩
  rintro i m σ H' ⟨rfl, hi, ρi, Si, Ai, Gi, ex, Is, qi⟩
  by_cases hlt : i < xs.length
  · have hx : xs[i]? = some xs[i] := List.getElem?_eq_getElem hlt
    obtain ⟨jgo, jy⟩ := wk.go C.Pr Ai Gi H' (fun a h => .inl h) ex (fun z => by cases z) (fun a z => Is.fsTrk z) i _ hx
    refine .inr ⟨jgo, fun σ' H'' => i + 1 ≤ xs.length ∧ ∃ ρi Si Ai Gi, ExtS A1 G H1 Ai Gi H'' ∧ Sim C ρi Si Ai Gi σ' H'' ∧ SGood C W A1 G H1 D (forL tf s (xs.drop (i + 1)) ρi Si), fun σ' H'' h => ⟨xs.length - (i + 1), by omega, rfl, h⟩, fun v H3 y => ?_⟩
    obtain ⟨hn, rx⟩ := jy v H3 y
    have e3 : Ext Ai H' Ai H3 := by
      rcases hn with rfl | ⟨p, o, hp, rfl⟩
      · exact Ext.refl
      · exact Ext.upd hp
    have I3 : Sim C ρi Si Ai Gi σ H3 := by
      rcases hn with rfl | ⟨p, o, hp, rfl⟩
      · exact Is
      · exact Is.new hp
    rw [List.drop_eq_getElem_cons hlt] at qi
    unfold forL at qi
    cases htf : tf xs[i] ρi with
    | none => rw [htf] at qi; exact qi.elim
    | some ρ' =>
    rw [htf] at qi
    simp only at qi
    refine hgo C.Pr ρi ρ' Si Ai Gi σ H3 _ v _ I3 rx htf fun σ2 I4 _ => ⟨ρ', Si, Ai, Gi, I4, ?_⟩
    have ex3 := ex.trans e3.s
    cases hb : s ρ' Si with
    | none => rw [hb] at qi; exact qi.elim
    | some r =>
      rw [hb] at qi
      cases r with
      | nx ρ2 S2 => exact fun A' G' σ' H'' x J' => ⟨hlt, ρ2, S2, A', G', ex3.trans x, J', qi⟩
      | ct ρ2 S2 => exact fun A' G' σ' H'' x J' => ⟨hlt, ρ2, S2, A', G', ex3.trans x, J', qi⟩
      | bk ρ2 S2 => exact fun A' G' σ' H'' x J' => qi A' G' σ' H'' (ex3.trans x) J'
      | rt z S2 => exact qi
      | exc c fs ρ2 S2 => exact fun A' G' σ' H'' cls d x J' r => qi A' G' σ' H'' cls d (ex3.trans x) J' r
  · rw [List.drop_eq_nil_of_le (by omega)] at qi
    exact .inl ⟨wk.stop Ai Gi H' ex (fun z => by cases z) i (by omega), qi Ai Gi σ H' ex Is⟩
theorem s_while (hp : PassesOwn (model X.prog X.w) X.A X.env X.xe) (hc : PT X e (tTs C W fc)) (hb : PSs X body (tS C W s)) : PS X (.While e body [] pos) (tS C W (sWhile fc s)) := by
  refine ps_imp (ps_while hp hc hb) fun D σ H ⟨ρ, S, A, G, I, q⟩ => ?_
  cases hw : sWhile fc s ρ S with
  | none => rw [hw] at q; exact q.elim
  | some r =>
  rw [hw] at q
  obtain ⟨n, hn⟩ := sWhile_some hw
  refine ⟨fun m σ H' => ∃ ρi Si Ai Gi, ExtS A G H Ai Gi H' ∧ Sim C ρi Si Ai Gi σ H' ∧ whileF fc s m ρi Si = some r, ⟨n, ρ, S, A, G, ExtS.refl, I, hn⟩, ?_⟩
  rintro m σ H' ⟨ρi, Si, Ai, Gi, ex, Is, hm⟩
  cases m with
  | zero => cases hm
  | succ m =>
  have qm : SGood C W A G H D (whileF fc s (m + 1) ρi Si) := by rw [hm]; exact q
  have qm := qm.ext ex
  unfold whileF at hm qm
  refine ⟨C.Pr, ρi, Si, Ai, Gi, fun _ h => h, Is, ?_⟩
  cases hcc : fc ρi Si with
  | none => rw [hcc] at hm; cases hm
  | some rc =>
  rw [hcc] at hm qm
  cases rc with
  | exc c fs S' => exact fun cls d H'' ⟨A', e, J, r⟩ => qm A' Gi σ H'' cls d e.s J r
  | ok k S1 =>
  simp only [bindS_ok] at hm qm
  rintro k' H2 ⟨rfl, A2, e2, I2⟩
  cases k' with
  | false => exact qm A2 Gi σ H2 e2.s I2
  | true =>
    simp only [if_true] at hm qm ⊢
    refine ⟨fun σ' H'' => ∃ ρi Si Ai Gi, ExtS A G H Ai Gi H'' ∧ Sim C ρi Si Ai Gi σ' H'' ∧ whileF fc s m ρi Si = some r, fun σ' H'' h => ⟨m, Nat.lt_succ_self m, h⟩, ρi, S1, A2, Gi, I2, ?_⟩
    have ex2 := ex.trans e2.s
    have qm := qm.ext e2.s
    cases hb : s ρi S1 with
    | none => rw [hb] at hm; cases hm
    | some rb =>
      rw [hb] at hm qm
      cases rb with
      | nx ρ2 S2 => exact fun A' G' σ' H'' x J' => ⟨ρ2, S2, A', G', ex2.trans x, J', hm⟩
      | ct ρ2 S2 => exact fun A' G' σ' H'' x J' => ⟨ρ2, S2, A', G', ex2.trans x, J', hm⟩
      | bk ρ2 S2 => exact qm
      | rt z S2 => exact qm
      | exc c fs ρ2 S2 => exact qm
end
end VL

end
section
set_option Elab.async false
set_option linter.all false
set_option maxRecDepth 100000
/-! VL9: what a def promises, by its function; the rule for a def; the rule for a call. -/
namespace VL
open PySem PySem.Spec PyProof.Rows L2

/-! ### the frame of a body -/
def rho0 (n : Nat) (xs : List SV) : Rho := xs.map some ++ List.replicate (n - xs.length) none
def runF (n : Nat) (fb : Rho → Sto → Option Fl) : List SV → Mo SV := fun xs S => match fb (rho0 n xs) S with
  | some (.nx _ S') => some (.ok (.d .none) S')
  | some (.rt x S') => some (.ok x S')
  | some (.exc c fs _ S') => some (.exc c fs S')
  | _ => none
/-- at the entry -/
structure Ent (C : Ct) (S : Sto) (xs : List SV) (vs : List V) : Prop where
  args : RsL C.K C.mg C.E0 C.A0 (fun a => a ∈ C.A0 ∨ C.Pr a) xs vs []
  ls : S.length = C.A0.length
  nd : C.A0.Nodup
  trk : ∀ a ∈ C.A0, C.E0 a ≠ none
  prot : ∀ a, C.Pr a → a ∉ C.A0 ∧ C.E0 a ≠ none
  sto : ∀ (n : Nat) xs, S[n]? = some xs → ∃ a vs, C.A0[n]? = some a ∧ C.E0 a = some (.lst vs) ∧ vs.length ≤ sizeLine ∧ RsL C.K C.mg C.E0 C.A0 (fun a => a ∈ C.A0 ∨ C.Pr a) xs vs []
def XP (C : Ct) (c : Str) (fs : List (Str × SV)) (S' : Sto) (cls : Value) (d : Option Addr) (H' : Hp) : Prop := ∃ A', RSto C A' [] S' H' ∧ XRep C H' c fs cls d
def CGood (C : Ct) (Q : VK) (E : XK) : Option (Res SV) → Prop
  | none => False
  | some (.ok x S') => ∀ v H', RPost C x S' v H' → Q v H'
  | some (.exc c fs S') => ∀ cls d H', XP C c fs S' cls d H' → E cls d H'
def spF (K : PySem.W.Frag) (mg : Str → Option Value) (n : Nat) (F : List SV → Mo SV) : Sp := fun vs H Q E => vs.length = n ∧ ∃ C xs S, C.K = K ∧ C.mg = mg ∧ C.E0 = H ∧ Ent C S xs vs ∧ CGood C Q E (F xs S)
theorem RsL.get2 {K : PySem.W.Frag} {mg : Str → Option Value} {H : Hp} {A : List Addr} {F : Addr → Prop} {xs : List SV} {vs : List V} {i : Nat} {x : SV} (r : RsL K mg H A F xs vs []) (h : xs[i]? = some x) : ∃ v, vs[i]? = some v ∧ Rs K mg H A F x v [] := RsL.get1 r h
theorem replicate_flatten_nil {α : Type} (n : Nat) : (List.replicate n ([] : List α)).flatten = [] := by induction n with
  | zero => rfl
  | succ n ih => simp [List.replicate_succ, ih]
theorem Ent.sim {C : Ct} {S : Sto} {xs : List SV} {vs : List V} {N : List Str} (e : Ent C S xs vs) (hl : xs.length ≤ N.length) : Sim C (rho0 N.length xs) S C.A0 (List.replicate N.length []) (L2.start N vs) C.E0 := by
  have hx : vs.length = xs.length := e.args.length
  have lr : (rho0 N.length xs).length = N.length := by unfold rho0; simp; omega
  have ls : (L2.start N vs).length = N.length := by unfold L2.start; simp; omega
  have hG : (List.replicate N.length ([] : List Addr)).flatten = [] := replicate_flatten_nil _
  have hF : Fs C C.A0 (List.replicate N.length []) = fun a => a ∈ C.A0 ∨ C.Pr a := by
    funext a
    unfold Fs
    rw [hG]
    simp
  refine ⟨List.prefix_refl _, lr.trans ls.symm, by simp [lr], e.ls, ?_, fun a m => ?_, fun a p => ?_, fun i x hi => ?_, fun n ys hn => ?_, fun a o q _ => q, fun a m => ?_, e.trk⟩
  · rw [hG, List.append_nil]; exact e.nd
  · rw [hG, List.append_nil] at m; exact e.trk a m
  · rw [hG, List.append_nil]; exact e.prot a p
  · unfold rho0 at hi
    by_cases h : i < xs.length
    · rw [List.getElem?_append_left (by simpa using h), List.getElem?_map] at hi
      cases q : xs[i]? with
      | none => rw [q] at hi; cases hi
      | some y =>
        rw [q] at hi
        simp only [Option.map_some, Option.some.injEq] at hi
        subst hi
        obtain ⟨v, hv, r⟩ := RsL.get1 e.args q
        refine ⟨v, [], ?_, by rw [hF]; exact r, List.nil_sublist _⟩
        unfold L2.start
        rw [List.getElem?_append_left (by simp; omega), List.getElem?_map, hv]
        rfl
    · rw [List.getElem?_append_right (by simpa using h), List.getElem?_replicate] at hi
      split at hi <;> cases hi
  · obtain ⟨a, us, e1, e2, l, r⟩ := e.sto n ys hn
    exact ⟨a, us, e1, e2, l, by rw [hF]; exact r⟩
  · rw [hG, List.append_nil] at m; exact .inl m
theorem Sim.rsto {C : Ct} {ρ : Rho} {S : Sto} {A : List Addr} {G : List (List Addr)} {σ : L2.St} {H : Hp} (I : Sim C ρ S A G σ H) : RSto C A [] S H := by
  have J : Sim (C.pr fun a => C.Pr a ∨ a ∈ ([] : List Addr)) ρ S A G σ H := I.prc fun a h => h.elim id fun m => by cases m
  exact RSto.of J List.nodup_nil fun a m => by cases m
/-- THE RULE for a def -/
theorem fn_vl {P : Program} {w : World} {K : PySem.W.Frag} {mg : Str → Option Value} {base : Heap} {x qual : Str} {params : Arguments} {body : List Stmt} {scope : Scope} {f : Addr} {fd : FuncData} {N ps : List Str} {k : Nat} {fb : Rho → Sto → Option Fl}
    (F : FunD K x qual params body scope [] [] f fd) (Sc : FnScope N ps scope) (hl : ps.length ≤ N.length)
    (hb : ∀ (cdv : Value) (A : Around) (outer : List Env) (s : Shared) (H : Hp) (E : XK), Room k (A.deeper (envOfC qual scope s.heap.objs.size f cdv)) → ∀ C : Ct, C.K = K → C.mg = mg →
      PSs (cxOf (L2.CX P w) P w K mg base N qual scope f cdv A outer s H E) body (tS C (fun cls d _ H => E cls d H) fb)) : FnOk P w K mg base (L2.CX P w) (k + 1) f fd ps (spF K mg ps.length (runF N.length fb)) := by
  refine F.ok Sc (fun vs H Q E h => h.1) fun cdv A outer s H vs Q E hr h => ?_
  obtain ⟨hlen, C, xs, S, hK, hm, rfl, e, q⟩ := h
  refine ⟨_, hb cdv A outer s C.E0 E hr C hK hm, rho0 N.length xs, S, C.A0, List.replicate N.length [], e.sim (by have := e.args.length; omega), ?_⟩
  unfold runF at q
  cases hf : fb (rho0 N.length xs) S with
  | none => rw [hf] at q; exact q.elim
  | some r =>
    rw [hf] at q
    cases r with
    | nx ρ' S' => exact fun A' G' σ' H' x J => q .non H' ⟨A', [], J.rsto, .d .non⟩
    | rt y S' => exact q
    | bk ρ' S' => exact q.elim
    | ct ρ' S' => exact q.elim
    | exc c fs ρ' S' => exact fun A' G' σ' H' cls d x J r => q cls d H' ⟨A', J.rsto, r⟩

/-! ### what is handed to a def: data, or a list that the def may change, made a shared one -/
def cvt : List Bool → List SV → Sto → Option (List SV × Sto)
  | _, [], S => some ([], S)
  | [], x :: xs, S => (frz x).bind fun y => (cvt [] xs S).map fun p => (y :: p.1, p.2)
  | false :: bs, x :: xs, S => (frz x).bind fun y => (cvt bs xs S).map fun p => (y :: p.1, p.2)
  | true :: bs, x :: xs, S => match x with
    | .own zs => (frzs zs).bind fun ys => (cvt bs xs (S ++ [ys])).map fun p => (.ref S.length :: p.1, p.2)
    | _ => (frz x).bind fun y => (cvt bs xs S).map fun p => (y :: p.1, p.2)
theorem Rs.frzF {K : PySem.W.Frag} {mg : Str → Option Value} {H : Hp} {A A' : List Addr} {F F1 : Addr → Prop} {x y : SV} {v : V} {g : List Addr} (hA : ∀ (n : Nat) a, A[n]? = some a → A'[n]? = some a) (hF : ∀ a, F a → F1 a) (r : Rs K mg H A F1 x v g) (hg : ∀ a ∈ g, ¬ F a) (h : VL.frz x = some y) : Rs K mg H A' F y v [] := by
  unfold VL.frz at h
  split at h
  · rename_i hn
    cases h
    obtain rfl := r.noOwn hn
    exact Rs.mono hA (fun a z => .inl (hF a z)) (fun a o q n => q) _ _ _ (fun a m o q => q) r
  · simp only [Option.map_eq_some_iff] at h
    obtain ⟨d, h, rfl⟩ := h
    exact .d (Rs.datO hF _ _ _ _ r h hg)
theorem RsL.frzF {K : PySem.W.Frag} {mg : Str → Option Value} {H : Hp} {A A' : List Addr} {F F1 : Addr → Prop} (hA : ∀ (n : Nat) a, A[n]? = some a → A'[n]? = some a) (hF : ∀ a, F a → F1 a) : ∀ {xs ys : List SV} {vs : List V} {g : List Addr}, RsL K mg H A F1 xs vs g → (∀ a ∈ g, ¬ F a) → VL.frzs xs = some ys → RsL K mg H A' F ys vs []
  | [], ys, _, _, r, _, h => by
    cases r
    cases h
    exact .nil
  | x :: xs, ys, _, _, r, hg, h => by
    cases r with
    | cons r1 r2 =>
      simp only [VL.frzs, Option.bind_eq_some_iff, Option.map_eq_some_iff] at h
      obtain ⟨y, hy, zs, hz, rfl⟩ := h
      exact .cons (g := []) (g' := []) (Rs.frzF hA hF r1 (fun a m => hg a (List.mem_append_left _ m)) hy) (RsL.frzF hA hF r2 (fun a m => hg a (List.mem_append_right _ m)) hz)
section
variable {K : PySem.W.Frag} {mg : Str → Option Value} {H : Hp} {A : List Addr} {F1 : Addr → Prop}
/-- what the lists that became shared ones are -/
structure Cvt (K : PySem.W.Frag) (mg : Str → Option Value) (H : Hp) (A : List Addr) (F1 : Addr → Prop) (S S2 : Sto) (ys : List SV) (vs : List V) (gs as : List Addr) (es : Sto) : Prop where
  sto : S2 = S ++ es
  len : as.length = es.length
  sub : as.Sublist gs
  to : ∀ (F : Addr → Prop) (A2 : List Addr), (∀ a, F a → F1 a) → (∀ a ∈ gs, F a → a ∈ as) → (∀ (n : Nat) a, A[n]? = some a → A2[n]? = some a) → (∀ (j : Nat) a, as[j]? = some a → A2[S.length + j]? = some a) →
    RsL K mg H A2 F ys vs [] ∧ ∀ (j : Nat) e, es[j]? = some e → ∃ a us, as[j]? = some a ∧ H a = some (.lst us) ∧ us.length ≤ sizeLine ∧ RsL K mg H A2 F e us []
theorem Cvt.frz {S S2 : Sto} {x y : SV} {ys : List SV} {v : V} {vs : List V} {g gs as : List Addr} {es : Sto} (h : Cvt K mg H A F1 S S2 ys vs gs as es) (r : Rs K mg H A F1 x v g) (nd : (g ++ gs).Nodup) (hf : VL.frz x = some y) : Cvt K mg H A F1 S S2 (y :: ys) (v :: vs) (g ++ gs) as es := by
  have hd : ∀ a ∈ g, a ∉ as := fun a m z => (List.nodup_append.mp nd).2.2 a m a (h.sub.subset z) rfl
  refine ⟨h.sto, h.len, h.sub.trans (List.sublist_append_right _ _), fun F A2 hF hg hA hs => ?_⟩
  obtain ⟨r2, q⟩ := h.to F A2 hF (fun a m z => hg a (List.mem_append_right _ m) z) hA hs
  exact ⟨.cons (g := []) (g' := []) (Rs.frzF hA hF r (fun a m z => hd a m (hg a (List.mem_append_left _ m) z)) hf) r2, q⟩
theorem cvt_ok : ∀ (bs : List Bool) (xs : List SV) (S : Sto) (ys : List SV) (S2 : Sto) (vs : List V) (gs : List Addr), cvt bs xs S = some (ys, S2) → RsL K mg H A F1 xs vs gs → gs.Nodup → ∃ as es, Cvt K mg H A F1 S S2 ys vs gs as es := by
  intro bs xs
  induction xs generalizing bs with
  | nil =>
    intro S ys S2 vs gs h r nd
    cases r
    cases bs <;> (simp only [cvt, Option.some.injEq, Prod.mk.injEq] at h; obtain ⟨rfl, rfl⟩ := h; exact ⟨[], [], (List.append_nil _).symm, rfl, List.Sublist.refl _, fun F A2 _ _ _ _ => ⟨.nil, fun j e h => by simp at h⟩⟩)
  | cons x xs ih =>
    intro S ys S2 vs gs h r nd
    cases r with
    | cons r1 r2 =>
    rename_i v vs g gs
    have nd2 := (List.nodup_append.mp nd).2.1
    have fz : ∀ bs', ((VL.frz x).bind fun y => (cvt bs' xs S).map fun p => (y :: p.1, p.2)) = some (ys, S2) → ∃ as es, Cvt K mg H A F1 S S2 ys (v :: vs) (g ++ gs) as es := fun bs' h' => by
      simp only [Option.bind_eq_some_iff, Option.map_eq_some_iff] at h'
      obtain ⟨y, hy, ⟨ys', S'⟩, h', e⟩ := h'
      obtain ⟨rfl, rfl⟩ := Prod.mk.inj e
      obtain ⟨as, es, q⟩ := ih bs' S ys' S' vs gs h' r2 nd2
      exact ⟨as, es, q.frz r1 nd hy⟩
    cases bs with
    | nil => exact fz [] h
    | cons b bs =>
      cases b with
      | false => exact fz bs h
      | true =>
        cases x with
        | d _ => exact fz bs h
        | ref _ => exact fz bs h
        | fn _ => exact fz bs h
        | scr _ => exact fz bs h
        | own zs =>
          simp only [cvt, Option.bind_eq_some_iff, Option.map_eq_some_iff] at h
          obtain ⟨zs', hz, ⟨ys', S'⟩, h, e⟩ := h
          obtain ⟨rfl, rfl⟩ := Prod.mk.inj e
          cases r1 with
          | own e1 l r1 =>
          rename_i a us g
          obtain ⟨as, es, q⟩ := ih bs (S ++ [zs']) ys' S' vs gs h r2 nd2
          have n := List.nodup_append.mp nd
          have nh : a ∉ g := (List.nodup_cons.mp n.1).1
          refine ⟨a :: as, zs' :: es, by rw [q.sto, List.append_assoc]; rfl, by simp [q.len], ?_, fun F A2 hF hg hA hs => ?_⟩
          · exact (List.Sublist.cons_cons a (q.sub.trans (List.sublist_append_right _ _)))
          · have hg2 : ∀ b ∈ g, ¬ F b := fun b m z => by
              rcases List.mem_cons.mp (hg b (List.mem_append_left _ (List.mem_cons_of_mem _ m)) z) with rfl | z
              · exact nh m
              · exact n.2.2 b (List.mem_cons_of_mem _ m) b (q.sub.subset z) rfl
            obtain ⟨q1, q2⟩ := q.to F A2 hF (fun b m z => by
              rcases List.mem_cons.mp (hg b (List.mem_append_right _ m) z) with rfl | z
              · exact absurd rfl (n.2.2 b List.mem_cons_self b m)
              · exact z) hA (fun j b hj => by
              have := hs (j + 1) b (by simpa using hj)
              rw [List.length_append, List.length_singleton, Nat.add_assoc, Nat.add_comm 1 j]
              exact this)
            refine ⟨.cons (g := []) (g' := []) (.ref (by simpa using hs 0 a rfl)) q1, fun j e hj => ?_⟩
            cases j with
            | zero =>
              simp only [List.getElem?_cons_zero, Option.some.injEq] at hj
              subst hj
              exact ⟨a, us, rfl, e1, l, RsL.frzF hA hF r1 hg2 hz⟩
            | succ j => simpa using q2 j e (by simpa using hj)
end
/-- new lists are left alone from here on -/
theorem Sim.extP {C : Ct} {ρ : Rho} {S S' : Sto} {A A' : List Addr} {G : List (List Addr)} {σ : L2.St} {H H' : Hp} {g : List Addr} (I : Sim C ρ S A G σ H) (x : Ext A H A' H') (hg : ∀ a ∈ g, H a = none ∧ H' a ≠ none ∧ a ∉ A') (ls : S'.length = A'.length) (nd : A'.Nodup) (trk : ∀ a ∈ A', H' a ≠ none)
    (sto : ∀ (n : Nat) xs, S'[n]? = some xs → ∃ a vs, A'[n]? = some a ∧ H' a = some (.lst vs) ∧ vs.length ≤ sizeLine ∧ RsL C.K C.mg H' A' (fun a => Fs C A' G a ∨ a ∈ g) xs vs []) : Sim (C.pr fun a => C.Pr a ∨ a ∈ g) ρ S' A' G σ H' := by
  have J : Sim C ρ S' A' G σ H' := I.ext x ls nd trk fun n xs e => by
    obtain ⟨a, vs, e1, e2, l, r⟩ := sto n xs e
    exact ⟨a, vs, e1, e2, l, RsL.mono (fun _ _ q => q) (fun a z => .inl (.inl z)) (fun a o q n => q) _ _ _ (fun a m o q => q) r⟩
  have hF : ∀ a, Fs (C.pr fun a => C.Pr a ∨ a ∈ g) A' G a ↔ (Fs C A' G a ∨ a ∈ g) := fun a => by
    constructor
    · rintro (z | z | z | z)
      · exact .inl (.inl z)
      · exact .inl (.inr (.inl z))
      · exact .inl (.inr (.inr z))
      · exact .inr z
    · rintro ((z | z | z) | z)
      · exact .inl z
      · exact .inr (.inl z)
      · exact .inr (.inr (.inl z))
      · exact .inr (.inr (.inr z))
  refine ⟨J.pre, J.lr, J.lg, J.ls, J.nd, J.trk, fun a q => ?_, fun i y e => ?_, fun n xs e => ?_, J.frame, J.fresh, J.a0⟩
  · rcases q with q | q
    · exact J.prot a q
    · refine ⟨fun z => ?_, (hg a q).2.1⟩
      rcases List.mem_append.mp z with z | z
      · exact (hg a q).2.2 z
      · exact I.trk a (List.mem_append_right _ z) (hg a q).1
  · obtain ⟨v, g', e1, r, sb⟩ := I.slots i y e
    refine ⟨v, g', e1, Rs.mono (prefix_get x.pre) (fun a z => ?_) (fun a o q n => x.keep a o q fun z => n (.inl z)) _ _ _ (fun a m o q => ?_) r, sb⟩
    · rcases (hF a).mp z with z | z
      · exact fs_ext x a z
      · exact .inr (hg a z).1
    · exact x.keep a o q fun z => (List.nodup_append.mp I.nd).2.2 a z a (getD_mem (sb.subset m)) rfl
  · obtain ⟨a, vs, e1, e2, l, r⟩ := sto n xs e
    exact ⟨a, vs, e1, e2, l, RsL.mono (fun _ _ q => q) (fun a z => .inl ((hF a).mp z)) (fun a o q n => q) _ _ _ (fun a m o q => q) r⟩

/-! ### a call -/
def eCall (n : Nat) (F : List SV → Mo SV) (bs : List Bool) (fs : Rho → Mo (List SV)) : Rho → Mo SV := fun ρ S => bindM (fs ρ S) fun xs S1 => if xs.length = n then (cvt bs xs S1).bind fun p => F p.1 p.2 else none
theorem prefix_app_get {A as : List Addr} : ∀ (j : Nat) a, as[j]? = some a → (A ++ as)[A.length + j]? = some a := fun j a h => by rw [List.getElem?_append_right (by omega)]; simpa using h
theorem t_call {C : Ct} {W : WX} {kd : Kd} {n : Nat} {F : List SV → Mo SV} {bs : List Bool} {fs : Rho → Mo (List SV)} : ∀ σ H Q, tV C W kd (eCall n F bs fs) σ H Q → tVs C W .fe fs σ H fun vs H1 => spF C.K C.mg n F vs H1 Q (WE W σ) := by
  intro σ H Q ⟨P, ρ, S, A, G, hP, I, q⟩
  refine ⟨P, ρ, S, A, G, hP, I, EGood.step q (fun _ _ _ _ _ _ z => z) fun xs S1 q vs H1 p => ?_⟩
  obtain ⟨A1, gs, e1, I1, r, nd, hgs⟩ := p
  split at q
  case isFalse => exact q.elim
  rename_i hn
  have hn : vs.length = n := r.length.trans hn
  cases hc : cvt bs xs S1 with
  | none => rw [hc] at q; exact q.elim
  | some p =>
  obtain ⟨ys, S2⟩ := p
  rw [hc] at q
  simp only [Option.bind_some] at q
  obtain ⟨as, es, c⟩ := cvt_ok bs xs S1 ys S2 vs gs hc r nd
  obtain ⟨rfl, cl, csub, cto⟩ := c
  have hA1 : S1.length = A1.length := I1.ls
  have nG : ∀ a ∈ gs, a ∉ G.flatten := fun a m z => I.trk a (List.mem_append_right _ z) (hgs a m).1
  have nP : ∀ a ∈ gs, ¬ P a := fun a m z => (I.prot a z).2 (hgs a m).1
  -- the state, the new shared lists among the store's
  have hF1 : ∀ a, Fs (C.pr P) (A1 ++ as) G a → (Fs (C.pr P) A1 G a ∨ a ∈ gs) := fun a z => by
    rcases z with z | z
    · rcases List.mem_append.mp z with z | z
      · exact .inl (.inl z)
      · exact .inr (csub.subset z)
    · exact .inl (.inr z)
  have hF2 : ∀ a ∈ gs, Fs (C.pr P) (A1 ++ as) G a → a ∈ as := fun a m z => by
    rcases z with z | z | z
    · exact (List.mem_append.mp z).elim (fun z => absurd z (hgs a m).2.2) id
    · exact absurd z (nG a m)
    · exact absurd z (nP a m)
  obtain ⟨ra, rs⟩ := cto (Fs (C.pr P) (A1 ++ as) G) (A1 ++ as) hF1 hF2 (fun n a h => by rw [List.getElem?_append_left (List.getElem?_eq_some_iff.mp h).1]; exact h) (fun j a h => by rw [hA1]; exact prefix_app_get j a h)
  have e2 : Ext A H (A1 ++ as) H1 := ⟨e1.pre.trans (List.prefix_append _ _), fun a z => by
    rcases List.mem_append.mp z with z | z
    · exact e1.new a z
    · exact .inr (hgs a (csub.subset z)).1, e1.keep, e1.there⟩
  have ndA : (A1 ++ as).Nodup := List.nodup_append.mpr ⟨(List.nodup_append.mp I1.nd).1, nd.sublist csub, fun a z b z' e => by subst e; exact (hgs a (csub.subset z')).2.2 z⟩
  have I2 : Sim (C.pr P) ρ (S1 ++ es) (A1 ++ as) G σ H1 := by
    refine I.ext e2 (by simp [hA1, cl]) ndA (fun a z => ?_) fun k zs hk => ?_
    · rcases List.mem_append.mp z with z | z
      · exact I1.trk a (List.mem_append_left _ z)
      · exact (hgs a (csub.subset z)).2.1
    · by_cases hlt : k < S1.length
      · rw [List.getElem?_append_left hlt] at hk
        obtain ⟨a, us, q1, q2, l, rr⟩ := I1.sto k zs hk
        refine ⟨a, us, by rw [List.getElem?_append_left (by omega)]; exact q1, q2, l, RsL.mono (fun n a h => by rw [List.getElem?_append_left (List.getElem?_eq_some_iff.mp h).1]; exact h) (fun a z => .inl ?_) (fun a o q n => q) _ _ _ (fun a m o q => q) rr⟩
        rcases hF1 a z with (z | z | z) | z
        · exact .inl z
        · exact .inr (.inl z)
        · exact .inr (.inr (.inl z))
        · exact .inr (.inr (.inr z))
      · rw [List.getElem?_append_right (by omega)] at hk
        obtain ⟨a, us, q1, q2, l, rr⟩ := rs _ zs hk
        refine ⟨a, us, ?_, q2, l, rr⟩
        have := prefix_app_get (A := A1) _ _ q1
        rw [← hA1, show S1.length + (k - S1.length) = k by omega] at this
        exact this
  -- the callee
  refine ⟨hn, ⟨C.K, C.mg, H1, A1 ++ as, fun a => a ∈ G.flatten ∨ P a⟩, ys, S1 ++ es, rfl, rfl, rfl, ⟨ra, I2.ls, ndA, fun a z => I2.trk a (List.mem_append_left _ z), fun a z => ?_, I2.sto⟩, ?_⟩
  · rcases z with z | z
    · exact ⟨fun m => (List.nodup_append.mp I2.nd).2.2 a m a z rfl, I2.trk a (List.mem_append_right _ z)⟩
    · exact ⟨fun m => (I2.prot a z).1 (List.mem_append_left _ m), (I2.prot a z).2⟩
  have ext : ∀ A' g S' H', RSto ⟨C.K, C.mg, H1, A1 ++ as, fun a => a ∈ G.flatten ∨ P a⟩ A' g S' H' → Ext (A1 ++ as) H1 A' H' ∧ Sim ((C.pr P).pr fun a => (C.pr P).Pr a ∨ a ∈ g) ρ S' A' G σ H' ∧ g.Nodup ∧ ∀ a ∈ g, H1 a = none ∧ H' a ≠ none ∧ a ∉ A' := fun A' g S' H' R => by
    have x : Ext (A1 ++ as) H1 A' H' := ⟨R.pre, fun a z => (R.trk a (List.mem_append_left _ z)).2, R.frame, R.there⟩
    have hg : ∀ a ∈ g, H1 a = none ∧ H' a ≠ none ∧ a ∉ A' := fun a m => ⟨R.own a m, (R.trk a (List.mem_append_right _ m)).1, fun z => (List.nodup_append.mp R.nd).2.2 a z a m rfl⟩
    refine ⟨x, I2.extP x hg R.ls (List.nodup_append.mp R.nd).1 (fun a z => (R.trk a (List.mem_append_left _ z)).1) fun k zs hk => ?_, (List.nodup_append.mp R.nd).2.1, hg⟩
    obtain ⟨a, us, q1, q2, l, rr⟩ := R.sto k zs hk
    refine ⟨a, us, q1, q2, l, RsL.mono (fun _ _ q => q) (fun a z => .inl ?_) (fun a o q n => q) _ _ _ (fun a m o q => q) rr⟩
    rcases z with (z | z) | z
    · exact .inl z
    · exact .inr (.inr z)
    · exact .inr (.inl z)
  cases hf : F ys (S1 ++ es) with
  | none => rw [hf] at q; exact q.elim
  | some rr =>
  rw [hf] at q
  cases rr with
  | ok x S' =>
    rintro v H' ⟨A', g, R, rx⟩
    obtain ⟨x2, J, ndg, hg⟩ := ext A' g S' H' R
    refine q v H' (EPost.be (kd := kd) ⟨A', g, e2.trans x2, J, Rs.mono (fun _ _ q => q) (fun a z => .inl ?_) (fun a o q n => q) _ _ _ (fun a m o q => q) rx, ndg, fun a m => ⟨none_back e2 (hg a m).1, (hg a m).2⟩⟩)
    rcases z with (z | z | z) | z
    · exact .inl z
    · exact .inr (.inr (.inl z))
    · exact .inr (.inr (.inr z))
    · exact .inr (.inl z)
  | exc c fs S' =>
    rintro cls d H' ⟨A', R, rx⟩
    obtain ⟨x2, J, _, _⟩ := ext A' [] S' H' R
    exact q cls d H' ⟨A', e2.trans x2, Sim.prw (C := C) (P := fun a => (C.pr P).Pr a ∨ a ∈ ([] : List Addr)) J fun a z => .inl (hP a z), rx⟩
end VL

end
section
set_option Elab.async false
set_option linter.all false
set_option maxRecDepth 100000
/-! VL10: calls by name, by a local; what is frozen; raise; try. -/
namespace VL
open PySem PySem.Spec PyProof.Rows L2

/-- a def of the module, what it does -/
structure DefOk (P : Program) (w : World) (K : PySem.W.Frag) (mg : Str → Option Value) (base : Heap) (k : Nat) (x : Str) (n : Nat) (F : List SV → Mo SV) : Prop where
  ex : ∃ (f : Addr) (fd : FuncData) (ps : List Str), FnOk P w K mg base (L2.CX P w) k f fd ps (spF K mg n F) ∧ mg x = some (.ref f) ∧ PySem.W.keepIn K (.ref f) = true ∧ Binds K fd ps []
section
variable {X : Cx} {C : Ct} {W : WX} {kd ka kb : Kd} {e a b c : Expr} {es : List Expr} {pos : Pos} {f fa fb fc : Rho → Mo SV} {fs : Rho → Mo (List SV)} {n k : Nat} {x : Str} {Fn : List SV → Mo SV} {bs : List Bool}
theorem takes0 {X : Cx} : Takes X WF := fun u s' ⟨a, B, sI, pins, σ, H, cls, d, _, _, _, _, _, _, _, _, w⟩ => w.elim
theorem v_call {p : Pos} (D : DefOk X.prog X.w X.K X.mg X.base k x n Fn) (hK : C.K = X.K) (hM : C.mg = X.mg) (hr : Room k X.A) (hg : Gl X x) (tk : Takes X W) (ha : PA X (e :: es) (tVs C W .fe fs))
    (hdb : (x == ("__debug__" : Str)) = false := by decide) (he : starEach (e :: es) X.env = (false, eval e X.env) :: starEach es X.env := by rfl) (hpl : (backTo pos (starEach es X.env)).any (·.1) = false := by rfl) :
    PE X (.Call (.Name x p) (e :: es) [] pos) (tV C W kd (eCall n Fn bs fs)) := by
  obtain ⟨f, fd, ps, F, hm, hk, hb⟩ := D.ex
  refine pe_imp (pe_callS F hr hg hm hk hb (passAt tk) ha hdb he hpl) fun σ H Q q => ?_
  have h := t_call (n := n) (kd := kd) σ H Q q
  rw [hK, hM] at h
  exact h
/-- f() -/
theorem v_call0 {p : Pos} (D : DefOk X.prog X.w X.K X.mg X.base k x 0 Fn) (hK : C.K = X.K) (hM : C.mg = X.mg) (hr : Room k X.A) (hg : Gl X x) (tk : Takes X W) (hdb : (x == ("__debug__" : Str)) = false := by decide) :
    PE X (.Call (.Name x p) [] [] pos) (tV C W kd (eCall 0 Fn [] fun _ S => some (.ok [] S))) := by
  obtain ⟨f, fd, ps, F, hm, hk, hb⟩ := D.ex
  refine ⟨fun pins s σ H Q I h => ?_⟩
  have h := t_call (n := 0) (kd := kd) σ H Q h
  rw [hK, hM] at h
  obtain ⟨P, ρ, S, A, G, hP, J, q⟩ := h
  refine wpAny_Call_Name_kw (ld_glob I hg hm ?_ hdb)
  exact PySem.W.callWith_K0 I.kIn hk (run_fnS (us := []) F hr hb (passAt tk σ) I .nil (q [] H ⟨A, [], Ext.refl, J.pg0, .nil, List.nodup_nil, fun a m => by cases m⟩))
/-- a local that holds a def -/
def eCallL (i n : Nat) (D : List (Str × (List SV → Mo SV))) (bs : List Bool) (fs : Rho → Mo (List SV)) : Rho → Mo SV := fun ρ S => match ρ[i]? with
  | some (some (.fn x)) => (D.lookup x).bind fun Fn => eCall n Fn bs fs ρ S
  | _ => none
theorem v_callL {p : Pos} {i : Nat} {D : List (Str × (List SV → Mo SV))} (hD : ∀ x Fn, D.lookup x = some Fn → DefOk X.prog X.w X.K X.mg X.base k x n Fn) (hK : C.K = X.K) (hM : C.mg = X.mg) (hr : Room k X.A) (hN : X.N[i]? = some x) (hv : Vis X.env.scope x) (tk : Takes X W) (ha : PA X (e :: es) (tVs C W .fe fs))
    (hdb : (x == ("__debug__" : Str)) = false := by decide) (hcd : (x == ("__classdict__" : Str)) = false := by decide) (he : starEach (e :: es) X.env = (false, eval e X.env) :: starEach es X.env := by rfl) (hpl : (backTo pos (starEach es X.env)).any (·.1) = false := by rfl) :
    PE X (.Call (.Name x p) (e :: es) [] pos) (tV C W kd (eCallL i n D bs fs)) := by
  refine ⟨fun pins s σ H Q I h => ?_⟩
  obtain ⟨P, ρ, S, A, G, hP, J, q⟩ := h
  unfold eCallL at q
  split at q
  case h_2 => exact q.elim
  rename_i y hy
  cases hl : D.lookup y with
  | none => rw [hl] at q; exact q.elim
  | some Fn =>
  rw [hl] at q
  simp only [Option.bind_some] at q
  obtain ⟨f, fd, ps, F, hm, hk, hb⟩ := (hD y Fn hl).ex
  obtain ⟨v, g, e1, r, _⟩ := J.slots i _ hy
  have hv1 : v = .ref f := by
    cases r with
    | fn h =>
      have h : C.mg y = some (.ref _) := h
      rw [hM, hm] at h
      cases h
      rfl
  subst hv1
  have h := t_call (n := n) (kd := kd) σ H Q ⟨P, ρ, S, A, G, hP, J, q⟩
  rw [hK, hM] at h
  refine wpAny_Call_Name_kw (thn ((pe_var (pos := p) hN hv hdb hcd).run pins s σ H (fun v H1 => v = .ref f ∧ H1 = H) I ⟨.ref f, e1, rfl, rfl⟩) fun u s1 ⟨v, H1, I1, r1, q1⟩ => ?_)
  obtain ⟨rfl, rfl⟩ := q1
  cases r1
  refine PySem.W.callWith_K (h₀ := X.base) I.ok.mod.kin hk (thn (ha.run pos pins s1 σ _ _ I1 h) fun us s2 ⟨vs, H2, I2, r, q⟩ => ⟨I2.kIn, ?_⟩) he hpl
  exact run_fnS F hr hb (passAt tk σ) I2 r q
/-! ### what is frozen -/
def eFrz (f : Rho → Mo SV) : Rho → Mo SV := fun ρ S => bindM (f ρ S) fun x S1 => (frz x).map fun y => .ok y S1
theorem noOwn_frz {x y : SV} (h : frz x = some y) : noOwn y = true := by
  unfold frz at h
  split at h
  · rename_i hn; cases h; exact hn
  · simp only [Option.map_eq_some_iff] at h
    obtain ⟨d, _, rfl⟩ := h
    rfl
theorem v_frz (h : PE X e (tV C W .fe f)) : PE X e (tV C W kd (eFrz f)) := by
  refine pe_imp h fun σ H Q ⟨P, ρ, S, A, G, hP, I, q⟩ => ⟨P, ρ, S, A, G, hP, I, EGood.step q (fun _ _ _ _ _ _ z => z) fun x S1 q v H1 p => ?_⟩
  obtain ⟨A1, g, e1, I1, r⟩ := p
  cases hf : frz x with
  | none => rw [hf] at q; exact q.elim
  | some y =>
    rw [hf] at q
    refine q v H1 ⟨A1, [], e1, (I1.pgw).pg0, Rk.noOwn (C := C.pr P) (r.frz (C := C.pr P) (new_not1 (P := P) (S1 := S1) I r) hf) (noOwn_frz hf)⟩
/-- a slot's list becomes data for good -/
def ghF (is : List Nat) (s : Rho → Sto → Option Fl) : Rho → Sto → Option Fl := fun ρ S => match is with
  | [] => s ρ S
  | i :: r => match ρ[i]? with
    | some (some x) => match frz x with
      | some y => ghF r s (ρ.set i (some y)) S
      | none => none
    | _ => none
/-- a slot's list becomes a shared one -/
def ghA (i : Nat) (s : Rho → Sto → Option Fl) : Rho → Sto → Option Fl := fun ρ S => match ρ[i]? with
  | some (some (.own zs)) => (frzs zs).bind fun ys => s (ρ.set i (some (.ref S.length))) (S ++ [ys])
  | _ => none
end
section
variable {C : Ct} {ρ : Rho} {S : Sto} {A : List Addr} {G : List (List Addr)} {σ : L2.St} {H : Hp}
theorem flatten_set_nil {G : List (List Addr)} {i : Nat} : (G.set i []).flatten.Sublist G.flatten := by
  induction G generalizing i with
  | nil => exact List.Sublist.refl _
  | cons l G ih =>
    cases i with
    | zero => simp
    | succ i => simpa using List.Sublist.append_left ih l
/-- a slot is let go of -/
theorem Sim.drop (I : Sim C ρ S A G σ H) (i : Nat) : Sim (C.pr fun a => C.Pr a ∨ a ∈ G[i]?.getD []) (ρ.set i none) S A (G.set i []) σ H := by
  have sub := flatten_set_nil (G := G) (i := i)
  have hg : ∀ a ∈ G[i]?.getD [], a ∉ (G.set i []).flatten ∧ a ∈ G.flatten := fun a m => by
    refine ⟨fun z => ?_, getD_mem m⟩
    obtain ⟨l, hl, hz⟩ := List.mem_flatten.mp z
    obtain ⟨j, hj⟩ := List.getElem?_of_mem hl
    have nd := (List.nodup_append.mp I.nd).2.1
    cases hG : G[i]? with
    | none => rw [hG] at m; cases m
    | some g =>
      rw [hG] at m
      by_cases e : j = i
      · subst e
        rw [List.getElem?_set_self (List.getElem?_eq_some_iff.mp hG).1] at hj
        cases hj
        cases hz
      · rw [List.getElem?_set_ne (Ne.symm e)] at hj
        have pw := (List.pairwise_flatten.mp nd).2
        rw [List.pairwise_iff_getElem] at pw
        obtain ⟨h1, e1⟩ := List.getElem?_eq_some_iff.mp hG
        obtain ⟨h2, e2⟩ := List.getElem?_eq_some_iff.mp hj
        rcases Nat.lt_or_gt_of_ne e with lt | lt
        · exact pw j i h2 h1 lt a (by rw [e2]; exact hz) a (by rw [e1]; exact m) rfl
        · exact pw i j h1 h2 lt a (by rw [e1]; exact m) a (by rw [e2]; exact hz) rfl
  have hF : ∀ a, Fs (C.pr fun a => C.Pr a ∨ a ∈ G[i]?.getD []) A (G.set i []) a → Fs C A G a := fun a z => by
    rcases z with z | z | z | z
    · exact .inl z
    · exact .inr (.inl (sub.subset z))
    · exact .inr (.inr z)
    · exact .inr (.inl (hg a z).2)
  refine ⟨I.pre, by simp [I.lr], by simp [I.lg], I.ls, I.nd.sublist (List.Sublist.append_left sub A), fun a m => I.trk a ((List.Sublist.append_left sub A).subset m), fun a q => ?_, fun j x e => ?_, fun n xs e => ?_, I.frame, fun a m => I.fresh a ((List.Sublist.append_left sub A).subset m), I.a0⟩
  · rcases q with q | q
    · exact ⟨fun z => (I.prot a q).1 ((List.Sublist.append_left sub A).subset z), (I.prot a q).2⟩
    · refine ⟨fun z => ?_, I.trk a (List.mem_append_right _ (hg a q).2)⟩
      rcases List.mem_append.mp z with z | z
      · exact (List.nodup_append.mp I.nd).2.2 a z a (hg a q).2 rfl
      · exact (hg a q).1 z
  · by_cases hj : j = i
    · subst hj
      rw [List.getElem?_set] at e
      split at e
      · split at e <;> cases e
      · rename_i h; exact absurd rfl h
    · rw [List.getElem?_set_ne (Ne.symm hj)] at e
      obtain ⟨v, g, e1, r, sb⟩ := I.slots j x e
      exact ⟨v, g, e1, Rs.mono (fun _ _ q => q) (fun a z => .inl (hF a z)) (fun a o q n => q) _ _ _ (fun a m o q => q) r, by rw [List.getElem?_set_ne (Ne.symm hj)]; exact sb⟩
  · obtain ⟨a, vs, e1, e2, l, r⟩ := I.sto n xs e
    exact ⟨a, vs, e1, e2, l, RsL.mono (fun _ _ q => q) (fun a z => .inl (hF a z)) (fun a o q n => q) _ _ _ (fun a m o q => q) r⟩
theorem set_same {σ : L2.St} {i : Nat} {v : V} (h : σ[i]? = some (some v)) : σ.set i (some v) = σ := by
  obtain ⟨h1, h2⟩ := List.getElem?_eq_some_iff.mp h
  apply List.ext_getElem?
  intro j
  by_cases e : j = i
  · subst e; rw [List.getElem?_set_self h1, h]
  · rw [List.getElem?_set_ne (Ne.symm e)]
theorem Sim.frz (I : Sim C ρ S A G σ H) {i : Nat} {x y : SV} (h : ρ[i]? = some (some x)) (hf : VL.frz x = some y) : Sim C (ρ.set i (some y)) S A (G.set i []) σ H := by
  obtain ⟨v, g, e1, r, sb⟩ := I.slots i x h
  have J := I.drop i
  have J0 : Sim C (ρ.set i none) S A (G.set i []) σ H := J.prw fun a z => .inl z
  have r2 : Rs C.K C.mg H A (Fs C A (G.set i [])) y v [] := Rs.frzF (fun _ _ q => q) (fun a z => by
    rcases z with z | z | z
    · exact .inl z
    · exact .inr (.inl (flatten_set_nil.subset z))
    · exact .inr (.inr z)) r (fun a m z => by
    have hp := (J.prot a (.inr (sb.subset m))).1
    rcases z with z | z | z
    · exact hp (List.mem_append_left _ z)
    · exact hp (List.mem_append_right _ z)
    · exact (I.prot a z).1 (List.mem_append_right _ (getD_mem (sb.subset m)))) hf
  have K := J0.putV (i := i) r2
  rw [List.set_set, set_same e1] at K
  exact K
theorem set_ext {i : Nat} : ExtS A G H A (G.set i []) H := ⟨List.prefix_refl _, fun a m => .inl ((List.Sublist.append_left flatten_set_nil A).subset m), fun _ _ h _ => h, fun _ h => h⟩
theorem t_ghF {C : Ct} {W : WX} {s : Rho → Sto → Option Fl} : ∀ (is : List Nat) (D : Ends) (σ : L2.St) (H : Hp), tS C W (ghF is s) D σ H → tS C W s D σ H
  | [], D, σ, H, h => by
    obtain ⟨ρ, S, A, G, I, q⟩ := h
    unfold ghF at q
    exact ⟨ρ, S, A, G, I, q⟩
  | i :: r, D, σ, H, h => by
    obtain ⟨ρ, S, A, G, I, q⟩ := h
    unfold ghF at q
    split at q
    · rename_i x hx
      split at q
      · rename_i y hy
        exact t_ghF r D σ H ⟨_, S, A, _, I.frz hx hy, q.ext set_ext⟩
      · exact q.elim
    · exact q.elim
theorem ss_ghF {X : Cx} {C : Ct} {W : WX} {sts : List Stmt} {s : Rho → Sto → Option Fl} (is : List Nat) (h : PSs X sts (tS C W s)) : PSs X sts (tS C W (ghF is s)) := pss_imp h (t_ghF is)
theorem s_ghF {X : Cx} {C : Ct} {W : WX} {st : Stmt} {s : Rho → Sto → Option Fl} (is : List Nat) (h : PS X st (tS C W s)) : PS X st (tS C W (ghF is s)) := ps_imp h (t_ghF is)
end
section
variable {X : Cx} {C : Ct} {W : WX} {e : Expr} {pos : Pos} {x : Str}
/-! ### raise X() -/
structure ExcOk (K : PySem.W.Frag) (mg : Str → Option Value) (x : Str) : Prop where
  ex : ∃ Ca, mg x = some (.ref Ca) ∧ PySem.W.excIn K Ca [.type "ValueError", .type "Exception", .type "BaseException", .type "object"] "ValueError.__new__" = true ∧ PySem.W.keepIn K (.ref Ca) = true ∧ PySem.W.subIn K (.ref Ca) (.type "BaseException") = some true ∧ PySem.W.typeIn K (.ref Ca) = some (.type "type")
theorem pmk_own0 {Ca : Addr} {bmB : List Value} {B newId initId : String} {p : Pos} (F : ExcBaseFacts B newId initId bmB) (q : PySem.W.excIn X.K Ca bmB newId = true) (gC : X.mg x = some (.ref Ca)) (kC : PySem.W.keepIn X.K (.ref Ca) = true) (r : Raises X (.ref Ca)) (hg : Gl X x)
    (hdb : (x == ("__debug__" : Str)) = false := by decide) : PMk X (.Call (.Name x p) [] [] pos) (fun _ H Q => Q (.ref Ca) none H) := by
  intro pins s σ H Q I h
  refine wpAny_Call_Name_kw (ld_glob I hg gC ?_ hdb)
  refine PySem.W.callWith_K0 I.kIn kC ?_
  show wpAny _ _ (call (.ref Ca) []) _ _ _
  obtain ⟨bm, N, nm, qn, bs, hdct, sn, sub, ab, col, dd, k0, k1, k2, k3, k5, mN, hC, hN, hni, T⟩ := exc_obj I.kIn q
  refine wpAny_call_exc_subT F T hC hN hni (fun h' e hm => ?_) (by show 0 ≤ sizeLine; omega)
  exact mk_of I hm r h (I.hok.gone hm.new)
def sRaise (c : Str) : Rho → Sto → Option Fl := fun ρ S => some (.exc c [] ρ S)
theorem s_raise0 {p : Pos} (hM : C.mg = X.mg) (E : ExcOk X.K X.mg x) (hc : X.calm = true) (tk : Takes X W) (hg : Gl X x) (hdb : (x == ("__debug__" : Str)) = false := by decide) : PS X (.Raise (some (.Call (.Name x p) [] [] pos)) none pos) (tS C W (sRaise x)) := by
  obtain ⟨Ca, hm, q, kC, s1, s2⟩ := E.ex
  refine ps_imp (ps_raise hc tk (pmk_own0 PySem.F.excBase_ValueError q hm kC (raises_own s1 s2) hg hdb)) fun D σ H ⟨ρ, S, A, G, I, q⟩ => ?_
  exact q A G σ H (.ref Ca) none ExtS.refl I ⟨Ca, by rw [hM]; exact hm, rfl, .inl ⟨rfl, rfl⟩⟩
theorem s_raise {p p2 : Pos} (hM : C.mg = X.mg) (E : ExcOk X.K X.mg x) (hc : X.calm = true) (tk : Takes X W) (hg : Gl X x) (hdb : (x == ("__debug__" : Str)) = false := by decide) : PS X (.Raise (some (.Call (.Name x p) [] [] pos)) none p2) (tS C W (sRaise x)) := by
  obtain ⟨Ca, hm, q, kC, s1, s2⟩ := E.ex
  refine ps_imp (ps_raise hc tk (pmk_own0 PySem.F.excBase_ValueError q hm kC (raises_own s1 s2) hg hdb)) fun D σ H ⟨ρ, S, A, G, I, q⟩ => ?_
  exact q A G σ H (.ref Ca) none ExtS.refl I ⟨Ca, by rw [hM]; exact hm, rfl, .inl ⟨rfl, rfl⟩⟩
/-! ### try .. except X: -/
/-- which class a clause takes -/
def MtOk (K : PySem.W.Frag) (mg : Str → Option Value) (mt : Str → Str → Option Bool) : Prop := ∀ c x b Ca Cx, mt c x = some b → mg c = some (.ref Ca) → mg x = some (.ref Cx) → PySem.W.exmOne K (.ref Ca) (.ref Cx) = some b
/-- .. that raises nothing -/
def noX : Option Fl → Option Fl
  | some (.exc _ _ _ _) => none
  | r => r
theorem SGood.noX {W' : WX} {A : List Addr} {G : List (List Addr)} {H : Hp} {D : Ends} {r : Option Fl} (h : SGood C W A G H D (noX r)) : SGood C W' A G H D r := by
  cases r with
  | none => exact h
  | some f => cases f <;> first | exact h | exact h.elim
def sTry (mt : Str → Str → Option Bool) (x : Str) (b h : Rho → Sto → Option Fl) : Rho → Sto → Option Fl := fun ρ S => match b ρ S with
  | some (.exc c fs ρ1 S1) => match mt c x with
    | some true => noX (h ρ1 S1)
    | some false => some (.exc c fs ρ1 S1)
    | none => none
  | r => r
theorem s_try {mt : Str → Str → Option Bool} {fb fh : Rho → Sto → Option Fl} {body suite : List Stmt} {b₀ : Stmt} {np pos' : Pos} {Cx : Addr} (hK : C.K = X.K) (hM : C.mg = X.mg) (hmt : MtOk X.K X.mg mt) (hs : X.stack = X.env :: X.outer) (hf : X.env.frame = some X.env.locals)
    (hg : Gl X x) (hx : X.mg x = some (.ref Cx)) (tk : Takes X W)
    (hb : ∀ (W : WX) (pn : List (Addr × Obj)) (xe : Value → Shared → Prop), Takes (X.tr pn xe) W → PassesOwn (model X.prog X.w) X.A X.env xe → PSs (X.tr pn xe) body (tS C W fb))
    (hsu : ∀ (a : Addr) (oe : Obj) (pn : List (Addr × Obj)), PSs (X.suite a ((a, oe) :: pn)) (b₀ :: suite) (tS C WF fh)) (hdb : (x == ("__debug__" : Str)) = false := by decide) :
    PS X (.Try body [.ExceptHandler (some (.Name x np)) none (b₀ :: suite) pos'] [] [] pos) (tS C W (sTry mt x fb fh)) := by
  refine ps_imp (ps_try_only (c := .ref Cx) (tb := fun W => tS C W fb) (ts := fun _ _ _ => tS C WF fh) hs hf ⟨hg, hdb, .inl hx⟩ tk hb fun a oe cls d pn _ _ => hsu a oe pn) fun D σ H ⟨ρ, S, A, G, I, q⟩ => ⟨ρ, S, A, G, I, ?_⟩
  unfold sTry at q
  cases hr : fb ρ S with
  | none => rw [hr] at q; exact q
  | some r =>
    rw [hr] at q
    cases r with
    | nx ρ' S' => exact q
    | bk ρ' S' => exact q
    | ct ρ' S' => exact q
    | rt z S' => exact q
    | exc c fs ρ' S' =>
      rintro A' G' σ' H' cls d ex J ⟨Ca, hc, rfl, hfs⟩
      simp only at q
      cases hmc : mt c x with
      | none => rw [hmc] at q; exact q.elim
      | some k =>
        rw [hmc] at q
        refine ⟨k, hmt c x k Ca Cx hmc (by rw [← hM]; exact hc) hx, fun e a _ => ?_, fun e => ?_⟩
        · subst e
          exact ⟨ρ', S', A', G', J, SGood.ext ex (SGood.noX q)⟩
        · subst e
          exact q A' G' σ' H' (.ref Ca) d ex J ⟨Ca, hc, rfl, hfs⟩
end
end VL

end
section
set_option Elab.async false
set_option linter.all false
set_option maxRecDepth 100000
/-! VL11: lists that are changed: a slot's own (within others of its own) or a shared one. -/
namespace VL
open PySem PySem.Spec PyProof.Rows L2

def getP : List Nat → SV → Option (List SV)
  | [], .own xs => some xs
  | j :: p, .own xs => (xs[j]?).bind (getP p)
  | _, _ => none
def putP : List Nat → List SV → SV → SV
  | [], ys, .own _ => .own ys
  | j :: p, ys, .own xs => match xs[j]? with
    | some z => .own (xs.set j (putP p ys z))
    | none => .own xs
  | _, _, x => x
def addrP (H : Hp) : List Nat → V → Option Addr
  | [], .ref a => some a
  | j :: p, .ref a => match H a with
    | some (.lst vs) => (vs[j]?).bind (addrP H p)
    | _ => none
  | _, _ => none
section
variable {K : PySem.W.Frag} {mg : Str → Option Value} {H H' : Hp} {A : List Addr} {F F' : Addr → Prop}
theorem RsL.at' : ∀ {xs : List SV} {vs : List V} {g : List Addr} {j : Nat} {z : SV}, RsL K mg H A F xs vs g → xs[j]? = some z → ∃ v gl gz gr, vs[j]? = some v ∧ Rs K mg H A F z v gz ∧ g = gl ++ (gz ++ gr) ∧
    ∀ (H' : Hp) (F' : Addr → Prop), (∀ a, F' a → F a ∨ H a = none) → (∀ a o, H a = some o → ¬ F a → H' a = some o) → (∀ b ∈ gl ++ gr, ∀ o, H b = some o → H' b = some o) → ∀ z' gz', Rs K mg H' A F' z' v gz' → RsL K mg H' A F' (xs.set j z') vs (gl ++ (gz' ++ gr))
  | [], _, _, _, _, _, e => by simp at e
  | x :: xs, _, _, j, z, r, e => by
    cases r with
    | cons r1 r2 =>
      rename_i v vs g1 g2
      cases j with
      | zero =>
        simp only [List.getElem?_cons_zero, Option.some.injEq] at e
        subst e
        refine ⟨v, [], g1, g2, rfl, r1, rfl, fun H' F' hF hH hk z' gz' r' => ?_⟩
        show RsL K mg H' A F' _ _ (gz' ++ g2)
        exact .cons r' (RsL.mono (fun _ _ q => q) hF hH _ _ _ (fun a m o q => hk a m o q) r2)
      | succ j =>
        obtain ⟨v', gl, gz, gr, h1, h2, h3, h4⟩ := RsL.at' r2 (by simpa using e)
        refine ⟨v', g1 ++ gl, gz, gr, by simpa using h1, h2, by rw [h3, List.append_assoc], fun H' F' hF hH hk z' gz' r' => ?_⟩
        have q := h4 H' F' hF hH (fun b m => hk b (by
          rw [List.append_assoc]
          exact List.mem_append_right _ m)) z' gz' r'
        rw [List.append_assoc]
        exact .cons (Rs.mono (fun _ _ q => q) hF hH _ _ _ (fun a m o q => hk a (List.mem_append_left _ (List.mem_append_left _ m)) o q) r1) q
structure PutOk (K : PySem.W.Frag) (mg : Str → Option Value) (H : Hp) (A : List Addr) (F : Addr → Prop) (p : List Nat) (x : SV) (v : V) (g : List Addr) (a : Addr) (gx : List Addr) : Prop where
  to : ∀ (F' : Addr → Prop), (∀ b, F' b → F b ∨ H b = none) → (∀ b ∈ g, F b) → g.Nodup → ∀ ys ws gy, RsL K mg (upd H a (.lst ws)) A F' ys ws gy → ws.length ≤ sizeLine → gy.Nodup → (∀ b ∈ gy, b ∉ g ∨ b ∈ gx) →
    ∃ g', Rs K mg (upd H a (.lst ws)) A F' (putP p ys x) v g' ∧ g'.Nodup ∧ ∀ b ∈ g', b ∈ g ∨ b ∈ gy
theorem Rs.path : ∀ {p : List Nat} {x : SV} {v : V} {g : List Addr} {xs : List SV}, Rs K mg H A F x v g → getP p x = some xs → ∃ a us gx, addrP H p v = some a ∧ H a = some (.lst us) ∧ us.length ≤ sizeLine ∧ (a :: gx).Sublist g ∧ RsL K mg H A F xs us gx ∧ PutOk K mg H A F p x v g a gx
  | [], .own zs, _, _, xs, r, h => by
    simp only [getP, Option.some.injEq] at h
    subst h
    cases r with
    | own e l r =>
      rename_i a vs g
      refine ⟨a, vs, g, rfl, e, l, List.Sublist.refl _, r, ⟨fun F' hF hg nd ys ws gy ry lw ng hy => ⟨a :: gy, .own upd_same lw ry, List.nodup_cons.mpr ⟨fun m => ?_, ng⟩, fun b m => ?_⟩⟩⟩
      · rcases hy a m with z | z
        · exact z List.mem_cons_self
        · exact (List.nodup_cons.mp nd).1 z
      · rcases List.mem_cons.mp m with rfl | m
        · exact .inl List.mem_cons_self
        · exact .inr m
  | j :: p, .own zs, _, _, xs, r, h => by
    simp only [getP, Option.bind_eq_some_iff] at h
    obtain ⟨z, hz, h⟩ := h
    cases r with
    | own e l r =>
      rename_i a0 vs g1
      obtain ⟨v, gl, gz, gr, h1, h2, rfl, h4⟩ := RsL.at' r hz
      obtain ⟨a, us, gx, q1, q2, q3, q4, q5, q6⟩ := Rs.path h2 h
      have sub : (a :: gx).Sublist (a0 :: (gl ++ (gz ++ gr))) := (q4.trans ((List.sublist_append_left _ _).trans (List.sublist_append_right _ _))).trans (List.sublist_cons_self _ _)
      have maz : a ∈ gz := q4.subset List.mem_cons_self
      refine ⟨a, us, gx, by simp only [addrP, e, h1, Option.bind_some]; exact q1, q2, q3, sub, q5, ⟨fun F' hF hg nd ys ws gy ry lw ng hy => ?_⟩⟩
      have nd1 := (List.nodup_cons.mp nd).2
      have n1 := List.nodup_append.mp nd1
      have n2 := List.nodup_append.mp n1.2.1
      obtain ⟨gz', r', nz, sz⟩ := q6.to F' hF (fun b m => hg b (List.mem_cons_of_mem _ (List.mem_append_right _ (List.mem_append_left _ m)))) n2.1 ys ws gy ry lw ng (fun b m => (hy b m).imp (fun z w => z (List.mem_cons_of_mem _ (List.mem_append_right _ (List.mem_append_left _ w)))) id)
      have ha : ∀ b, b ∈ gl ∨ b ∈ gr → b ≠ a := fun b m e => by
        subst e
        rcases m with m | m
        · exact n1.2.2 b m b (List.mem_append_left _ maz) rfl
        · exact n2.2.2 b maz b m rfl
      have hne0 : a0 ≠ a := fun e => (List.nodup_cons.mp nd).1 (by rw [e]; exact List.mem_append_right _ (List.mem_append_left _ maz))
      have hFa : F a := hg a (sub.subset List.mem_cons_self)
      have rr := h4 (upd H a (.lst ws)) F' hF (fun b o q n => by rw [upd_ne (show b ≠ a from fun e => n (by rw [e]; exact hFa))]; exact q) (fun b m o q => by rw [upd_ne (ha b (List.mem_append.mp m))]; exact q) _ gz' r'
      -- what is in the new part, but was elsewhere
      have key : ∀ b ∈ gz', b ∈ gz ∨ (b ∉ a0 :: (gl ++ (gz ++ gr))) := fun b m => by
        rcases sz b m with z | z
        · exact .inl z
        · rcases hy b z with w | w
          · exact .inr w
          · exact .inl (q4.subset (List.mem_cons_of_mem _ w))
      refine ⟨a0 :: (gl ++ (gz' ++ gr)), by simp only [putP, hz]; exact .own (by rw [upd_ne hne0]; exact e) l rr, List.nodup_cons.mpr ⟨fun m => ?_, List.nodup_append.mpr ⟨n1.1, List.nodup_append.mpr ⟨nz, n2.2.1, fun b m c m' e => ?_⟩, fun b m c m' e => ?_⟩⟩, fun b m => ?_⟩
      · rcases List.mem_append.mp m with m | m
        · exact (List.nodup_cons.mp nd).1 (List.mem_append_left _ m)
        · rcases List.mem_append.mp m with m | m
          · rcases key a0 m with z | z
            · exact (List.nodup_cons.mp nd).1 (List.mem_append_right _ (List.mem_append_left _ z))
            · exact z List.mem_cons_self
          · exact (List.nodup_cons.mp nd).1 (List.mem_append_right _ (List.mem_append_right _ m))
      · subst e
        rcases key b m with z | z
        · exact n2.2.2 b z b m' rfl
        · exact z (List.mem_cons_of_mem _ (List.mem_append_right _ (List.mem_append_right _ m')))
      · subst e
        rcases List.mem_append.mp m' with m' | m'
        · rcases key b m' with z | z
          · exact n1.2.2 b m b (List.mem_append_left _ z) rfl
          · exact z (List.mem_cons_of_mem _ (List.mem_append_left _ m))
        · exact n1.2.2 b m b (List.mem_append_right _ m') rfl
      · rcases List.mem_cons.mp m with rfl | m
        · exact .inl List.mem_cons_self
        · rcases List.mem_append.mp m with m | m
          · exact .inl (List.mem_cons_of_mem _ (List.mem_append_left _ m))
          · rcases List.mem_append.mp m with m | m
            · rcases sz b m with z | z
              · exact .inl (List.mem_cons_of_mem _ (List.mem_append_right _ (List.mem_append_left _ z)))
              · exact .inr z
            · exact .inl (List.mem_cons_of_mem _ (List.mem_append_right _ (List.mem_append_right _ m)))
  | [], .d _, _, _, _, _, h => by simp [getP] at h
  | [], .ref _, _, _, _, _, h => by simp [getP] at h
  | [], .fn _, _, _, _, _, h => by simp [getP] at h
  | [], .scr _, _, _, _, _, h => by simp [getP] at h
  | _ :: _, .d _, _, _, _, _, h => by simp [getP] at h
  | _ :: _, .ref _, _, _, _, _, h => by simp [getP] at h
  | _ :: _, .fn _, _, _, _, _, h => by simp [getP] at h
  | _ :: _, .scr _, _, _, _, _, h => by simp [getP] at h
theorem addrP_ext {g : List Addr} (hk : ∀ b ∈ g, ∀ o, H b = some o → H' b = some o) : ∀ {p : List Nat} {x : SV} {v : V} {xs : List SV} {g0 : List Addr}, (∀ b ∈ g0, b ∈ g) → Rs K mg H A F x v g0 → getP p x = some xs → addrP H' p v = addrP H p v
  | [], .own zs, _, xs, g0, hs, r, h => by
    cases r with
    | own e l r => rfl
  | j :: p, .own zs, _, xs, g0, hs, r, h => by
    simp only [getP, Option.bind_eq_some_iff] at h
    obtain ⟨z, hz, h⟩ := h
    cases r with
    | own e l r =>
      rename_i a0 vs g1
      obtain ⟨v, gl, gz, gr, h1, h2, rfl, _⟩ := RsL.at' r hz
      simp only [addrP, e, hk a0 (hs a0 List.mem_cons_self) _ e, h1, Option.bind_some]
      exact addrP_ext hk (fun b m => hs b (List.mem_cons_of_mem _ (List.mem_append_right _ (List.mem_append_left _ m)))) h2 h
  | [], .d _, _, _, _, _, _, h => by simp [getP] at h
  | [], .ref _, _, _, _, _, _, h => by simp [getP] at h
  | [], .fn _, _, _, _, _, _, h => by simp [getP] at h
  | [], .scr _, _, _, _, _, _, h => by simp [getP] at h
  | _ :: _, .d _, _, _, _, _, _, h => by simp [getP] at h
  | _ :: _, .ref _, _, _, _, _, _, h => by simp [getP] at h
  | _ :: _, .fn _, _, _, _, _, _, h => by simp [getP] at h
  | _ :: _, .scr _, _, _, _, _, _, h => by simp [getP] at h
theorem getP_app : ∀ {p : List Nat} {x : SV} {xs zs : List SV} {j : Nat}, getP p x = some xs → xs[j]? = some (.own zs) → getP (p ++ [j]) x = some zs
  | [], .own ys, xs, zs, j, h, e => by
    simp only [getP, Option.some.injEq] at h
    subst h
    simp [getP, e]
  | i :: p, .own ys, xs, zs, j, h, e => by
    simp only [getP, Option.bind_eq_some_iff] at h
    obtain ⟨z, hz, h⟩ := h
    show (ys[i]?).bind (getP (p ++ [j])) = some zs
    rw [hz]
    exact getP_app h e
  | [], .d _, _, _, _, h, _ => by simp [getP] at h
  | [], .ref _, _, _, _, h, _ => by simp [getP] at h
  | [], .fn _, _, _, _, h, _ => by simp [getP] at h
  | [], .scr _, _, _, _, h, _ => by simp [getP] at h
  | _ :: _, .d _, _, _, _, h, _ => by simp [getP] at h
  | _ :: _, .ref _, _, _, _, h, _ => by simp [getP] at h
  | _ :: _, .fn _, _, _, _, h, _ => by simp [getP] at h
  | _ :: _, .scr _, _, _, _, h, _ => by simp [getP] at h
theorem addrP_app : ∀ {p : List Nat} {v : V} {a : Addr} {us : List V} {j : Nat} {b : Addr}, addrP H p v = some a → H a = some (.lst us) → us[j]? = some (.ref b) → addrP H (p ++ [j]) v = some b
  | [], .ref c, a, us, j, b, h, e, q => by
    simp only [addrP, Option.some.injEq] at h
    subst h
    simp [addrP, e, q]
  | i :: p, .ref c, a, us, j, b, h, e, q => by
    simp only [addrP] at h
    show addrP H (i :: (p ++ [j])) (.ref c) = some b
    simp only [addrP]
    split at h
    · rename_i vs hc
      simp only [Option.bind_eq_some_iff] at h ⊢
      obtain ⟨w, hw, h⟩ := h
      exact ⟨w, hw, addrP_app h e q⟩
    · cases h
  | [], .non, _, _, _, _, h, _, _ => by simp [addrP] at h
  | _, .int _, _, _, _, _, h, _, _ => by cases ‹List Nat› <;> simp [addrP] at h
  | _, .bl _, _, _, _, _, h, _, _ => by cases ‹List Nat› <;> simp [addrP] at h
  | _, .str _, _, _, _, _, h, _, _ => by cases ‹List Nat› <;> simp [addrP] at h
  | _ :: _, .non, _, _, _, _, h, _, _ => by simp [addrP] at h
end
end VL

end
section
set_option Elab.async false
set_option linter.all false
set_option maxRecDepth 100000
/-! VL12: places of lists; stores into them, append, pop. -/
namespace VL
open PySem PySem.Spec PyProof.Rows L2

/-- where a list lies: within slot i's own, by a path; the shared list n -/
inductive Lo where
  | sl (i : Nat) (p : List Nat)
  | st (n : Nat)
def Lo.get (ρ : Rho) (S : Sto) : Lo → Option (List SV)
  | .sl i p => match ρ[i]? with
    | some (some x) => getP p x
    | _ => none
  | .st n => S[n]?
def Lo.put (ρ : Rho) (S : Sto) (ys : List SV) : Lo → Option (Rho × Sto)
  | .sl i p => match ρ[i]? with
    | some (some x) => some (ρ.set i (some (putP p ys x)), S)
    | _ => none
  | .st n => if ys.all noOwn then some (ρ, S.set n ys) else none
def LoA (A : List Addr) (σ : L2.St) (H : Hp) : Lo → Option Addr
  | .sl i p => match σ[i]? with
    | some (some v) => addrP H p v
    | _ => none
  | .st n => A[n]?
section
variable {C : Ct} {ρ ρ' : Rho} {S S' : Sto} {A A' : List Addr} {G : List (List Addr)} {σ : L2.St} {H H' : Hp} {l : Lo} {xs ys : List SV} {a : Addr} {us ws : List V} {gn : List Addr}
theorem Sim.lget (I : Sim C ρ S A G σ H) (h : l.get ρ S = some xs) : ∃ a us gx, LoA A σ H l = some a ∧ H a = some (.lst us) ∧ us.length ≤ sizeLine ∧ RsL C.K C.mg H A (Fs C A G) xs us gx ∧ gx.Nodup ∧ a ∉ gx ∧ a ∈ A ++ G.flatten ∧ (∀ b ∈ gx, b ∈ G.flatten) ∧ ∀ n, l = .st n → gx = [] := by
  cases l with
  | sl i p =>
    simp only [Lo.get] at h
    split at h
    · rename_i x hx
      obtain ⟨v, g, e1, r, sb⟩ := I.slots i x hx
      obtain ⟨a, us, gx, q1, q2, q3, q4, q5, _⟩ := Rs.path r h
      have nd : g.Nodup := by
        have n := (List.nodup_append.mp I.nd).2.1
        cases hG : G[i]? with
        | none => rw [hG] at sb; rw [List.sublist_nil.mp sb]; exact List.nodup_nil
        | some l => rw [hG] at sb; exact ((List.pairwise_flatten.mp n).1 l (List.mem_of_getElem? hG)).sublist sb
      have nd2 := List.nodup_cons.mp (nd.sublist q4)
      exact ⟨a, us, gx, by simp only [LoA, e1]; exact q1, q2, q3, q5, nd2.2, nd2.1, List.mem_append_right _ (getD_mem (sb.subset (q4.subset List.mem_cons_self))), fun b m => getD_mem (sb.subset (q4.subset (List.mem_cons_of_mem _ m))), fun n e => by cases e⟩
    · cases h
  | st n =>
    obtain ⟨a, vs, e1, e2, l, r⟩ := I.sto n xs h
    exact ⟨a, vs, [], e1, e2, l, r, List.nodup_nil, by simp, List.mem_append_left _ (List.mem_of_getElem? e1), (fun b m => by cases m), fun _ _ => rfl⟩
theorem LoA.ext (I : Sim C ρ S A G σ H) (e : Ext A H A' H') (h : l.get ρ S = some xs) (ha : LoA A σ H l = some a) : LoA A' σ H' l = some a := by
  cases l with
  | sl i p =>
    simp only [Lo.get] at h
    split at h
    · rename_i x hx
      obtain ⟨v, g, e1, r, sb⟩ := I.slots i x hx
      simp only [LoA, e1] at ha ⊢
      rw [addrP_ext (g := g) (fun b m o q => e.keep b o q fun z => (List.nodup_append.mp I.nd).2.2 b z b (getD_mem (sb.subset m)) rfl) (fun b m => m) r h]
      exact ha
    · cases h
  | st n => exact prefix_get e.pre n a ha
theorem Lo.get_ext (h : l.get ρ S = some xs) (hl : S.length ≤ S'.length) : ∃ ys, l.get ρ S' = some ys := by
  cases l with
  | sl i p => exact ⟨xs, h⟩
  | st n =>
    have := (List.getElem?_eq_some_iff.mp h).1
    exact ⟨S'[n]'(by omega), List.getElem?_eq_getElem (by omega)⟩
/-- a list's contents are put anew; gn: new lists that come in -/
theorem Sim.lput (I : Sim (C.pr fun a => C.Pr a ∨ a ∈ gn) ρ S A G σ H) (ngn : gn.Nodup) (h0 : ∀ b ∈ gn, C.E0 b = none) (hp : ∀ b ∈ gn, ¬ C.Pr b) (hx : l.get ρ S = some xs) (ha : LoA A σ H l = some a) (hu : H a = some (.lst us)) (lw : ws.length ≤ sizeLine) (hput : l.put ρ S ys = some (ρ', S'))
    (hc : ∀ gx, RsL C.K C.mg H A (Fs (C.pr fun a => C.Pr a ∨ a ∈ gn) A G) xs us gx → gx.Nodup → (∀ b ∈ gx, b ∉ gn) → ∃ gy, RsL C.K C.mg H A (fun b => Fs (C.pr fun a => C.Pr a ∨ a ∈ gn) A G b) ys ws gy ∧ gy.Nodup ∧ ∀ b ∈ gy, b ∈ gx ∨ b ∈ gn) :
    ∃ G', Sim C ρ' S' A G' σ (upd H a (.lst ws)) ∧ ∀ b ∈ G'.flatten, b ∈ G.flatten ∨ b ∈ gn := by
  have hgn : ∀ b ∈ gn, b ∉ A ++ G.flatten ∧ H b ≠ none := fun b m => I.prot b (.inr m)
  have hFs : ∀ b, Fs (C.pr fun a => C.Pr a ∨ a ∈ gn) A G b ↔ Fs C A G b ∨ b ∈ gn := fun b => by
    constructor
    · rintro (z | z | z | z)
      · exact .inl (.inl z)
      · exact .inl (.inr (.inl z))
      · exact .inl (.inr (.inr z))
      · exact .inr z
    · rintro ((z | z | z) | z)
      · exact .inl z
      · exact .inr (.inl z)
      · exact .inr (.inr (.inl z))
      · exact .inr (.inr (.inr z))
  cases l with
  | st n =>
    simp only [Lo.put] at hput
    split at hput
    case isFalse => cases hput
    rename_i hno
    cases hput
    obtain ⟨a', us', e1, e2, l', r⟩ := I.sto n xs hx
    have e1' : A[n]? = some a := ha
    rw [e1'] at e1
    cases e1
    rw [hu] at e2
    cases e2
    obtain ⟨gy, ry, _, _⟩ := hc [] r List.nodup_nil fun b m => by cases m
    obtain rfl := RsL.noOwn ry hno
    have aA : a ∈ A := List.mem_of_getElem? e1'
    have hFa : Fs C A G a := .inl aA
    have hH : ∀ b o, H b = some o → ¬ Fs C A G b → upd H a (.lst ws) b = some o := fun b o q n => by rw [upd_ne (show b ≠ a from fun e => n (by rw [e]; exact hFa))]; exact q
    have tr : ∀ b, H b ≠ none → upd H a (.lst ws) b ≠ none := fun b h => by
      by_cases e : b = a
      · rw [e, upd_same]; simp
      · rw [upd_ne e]; exact h
    have I0 : Sim C ρ S A G σ H := I.prw fun a z => .inl z
    refine ⟨G, ⟨I0.pre, I0.lr, I0.lg, by simp [I0.ls], I0.nd, fun b m => tr b (I0.trk b m), fun b p => ⟨(I0.prot b p).1, tr b (I0.prot b p).2⟩, fun i x e => ?_, fun k zs e => ?_, fun b o e n => ?_, I0.fresh, I0.a0⟩, fun b m => .inl m⟩
    · obtain ⟨v, g, e1, r, sb⟩ := I0.slots i x e
      refine ⟨v, g, e1, Rs.mono (fun _ _ q => q) (fun a z => .inl z) hH _ _ _ (fun b m o q => ?_) r, sb⟩
      rw [upd_ne (show b ≠ a from fun e => (List.nodup_append.mp I.nd).2.2 a aA b (getD_mem (sb.subset m)) e.symm)]
      exact q
    · by_cases hk : k = n
      · subst hk
        have hlt : k < S.length := (List.getElem?_eq_some_iff.mp hx).1
        rw [List.getElem?_set_self hlt] at e
        cases e
        exact ⟨a, ws, e1', upd_same, lw, RsL.mono (fun _ _ q => q) (fun b z => .inl ((hFs b).mpr (.inl z))) (fun b o q n => by rw [upd_ne (show b ≠ a from fun e => n (by rw [e]; exact (hFs a).mpr (.inl hFa)))]; exact q) _ _ _ (fun b m => by cases m) ry⟩
      · rw [List.getElem?_set_ne (Ne.symm hk)] at e
        obtain ⟨b, vs, q1, q2, q3, q4⟩ := I0.sto k zs e
        refine ⟨b, vs, q1, ?_, q3, RsL.mono (fun _ _ q => q) (fun a z => .inl z) hH _ _ _ (fun a m => by cases m) q4⟩
        rw [upd_ne]
        · exact q2
        · intro e
          subst e
          have nA := (List.nodup_append.mp I.nd).1
          obtain ⟨p1, p2⟩ := List.getElem?_eq_some_iff.mp q1
          obtain ⟨p3, p4⟩ := List.getElem?_eq_some_iff.mp e1'
          rw [List.nodup_iff_pairwise_ne, List.pairwise_iff_getElem] at nA
          rcases Nat.lt_or_gt_of_ne hk with lt | lt
          · exact nA k n p1 p3 lt (p2.trans p4.symm)
          · exact nA n k p3 p1 lt (p4.trans p2.symm)
    · rw [upd_ne]
      · exact I0.frame b o e n
      · intro z
        subst z
        rcases I0.fresh b (List.mem_append_left _ aA) with q | q
        · exact n q
        · rw [q] at e; cases e
  | sl i p =>
    simp only [Lo.put] at hput
    simp only [Lo.get] at hx
    split at hput
    case h_2 => cases hput
    rename_i x hρ
    cases hput
    rw [hρ] at hx
    simp only at hx
    obtain ⟨v, g, e1, r, sb⟩ := I.slots i x hρ
    obtain ⟨a', us', gx, q1, q2, q3, q4, q5, q6⟩ := Rs.path r hx
    simp only [LoA, e1] at ha
    rw [q1] at ha
    cases ha
    rw [hu] at q2
    cases q2
    have gG : ∀ b ∈ g, b ∈ G.flatten := fun b m => getD_mem (sb.subset m)
    have nd : g.Nodup := by
      have n := (List.nodup_append.mp I.nd).2.1
      cases hG : G[i]? with
      | none => rw [hG] at sb; rw [List.sublist_nil.mp sb]; exact List.nodup_nil
      | some l => rw [hG] at sb; exact ((List.pairwise_flatten.mp n).1 l (List.mem_of_getElem? hG)).sublist sb
    have nd2 := List.nodup_cons.mp (nd.sublist q4)
    have ag : a ∈ g := q4.subset List.mem_cons_self
    have xg : ∀ b ∈ gx, b ∈ g := fun b m => q4.subset (List.mem_cons_of_mem _ m)
    obtain ⟨gy, ry, ny, sy⟩ := hc gx q5 nd2.2 fun b m z => (hgn b z).1 (List.mem_append_right _ (gG b (xg b m)))
    have aF : Fs (C.pr fun a => C.Pr a ∨ a ∈ gn) A G a := .inr (.inl (gG a ag))
    have yna : ∀ b ∈ gy, b ≠ a := fun b m e => by
      subst e
      rcases sy b m with z | z
      · exact nd2.1 z
      · exact (hgn b z).1 (List.mem_append_right _ (gG b ag))
    have ry' : RsL C.K C.mg (upd H a (.lst ws)) A (Fs (C.pr fun a => C.Pr a ∨ a ∈ gn) A G) ys ws gy := RsL.mono (fun _ _ q => q) (fun b z => .inl z) (fun b o q n => by rw [upd_ne (show b ≠ a from fun e => n (by rw [e]; exact aF))]; exact q) _ _ _ (fun b m o q => by rw [upd_ne (yna b m)]; exact q) ry
    obtain ⟨g', r', n', s'⟩ := q6.to (Fs (C.pr fun a => C.Pr a ∨ a ∈ gn) A G) (fun b z => .inl z) (fun b m => .inr (.inl (gG b m))) nd ys ws gy ry' lw ny fun b m => by
      rcases sy b m with z | z
      · exact .inr z
      · exact .inl fun w => (hgn b z).1 (List.mem_append_right _ (gG b w))
    have s2 : ∀ b ∈ g', b ∈ g ∨ b ∈ gn := fun b m => by
      rcases s' b m with z | z
      · exact .inl z
      · exact (sy b z).imp (xg b) id
    have E0g : ∀ b ∈ g, C.E0 b = none := fun b m => by
      rcases I.fresh b (List.mem_append_right _ (gG b m)) with z | z
      · exact absurd rfl ((List.nodup_append.mp I.nd).2.2 b (I.pre.subset z) b (gG b m))
      · exact z
    have J := (I.drop i).updP (D := a) (o := .lst ws) (.inr (sb.subset ag)) (E0g a ag)
    have J2 : Sim (C.pr fun b => C.Pr b ∨ b ∈ g') (ρ.set i none) S A (G.set i []) σ (upd H a (.lst ws)) := J.prc fun b z => by
      rcases z with z | z
      · exact .inl (.inl z)
      · rcases s2 b z with w | w
        · exact .inr (sb.subset w)
        · exact .inl (.inr w)
    have K := Sim.put (C := C) (i := i) (x := putP p ys x) (v := v) (g := g') J2 (Rs.mono (fun _ _ q => q) (fun b z => .inl (by
      rcases z with (z | z | z) | z
      · exact .inl z
      · exact .inr (.inl (flatten_set_nil.subset z))
      · exact .inr (.inr (.inl z))
      · rcases s2 b z with w | w
        · exact .inr (.inl (gG b w))
        · exact .inr (.inr (.inr w)))) (fun b o q n => q) _ _ _ (fun b m o q => q) r') n' (fun b m => (s2 b m).elim (E0g b) (h0 b)) (fun b m z => (s2 b m).elim (fun w => (I.prot b (.inl z)).1 (List.mem_append_right _ (gG b w))) fun w => hp b w z)
    rw [List.set_set, set_same e1] at K
    refine ⟨_, K, fun b m => ?_⟩
    rw [List.set_set] at m
    rcases flatten_set_sub m with z | z
    · exact .inl z
    · exact (s2 b z).imp (gG b) id
end
end VL

end
section
set_option Elab.async false
set_option linter.all false
set_option maxRecDepth 100000
/-! VL13: statements that change lists. -/
namespace VL
open PySem PySem.Spec PyProof.Rows L2
def LPost (C : Ct) (ρ : Rho) (A : List Addr) (G : List (List Addr)) (σ : L2.St) (H : Hp) (l : Lo) (S' : Sto) (v : V) (H' : Hp) : Prop :=
  ∃ A' a xs, v = .ref a ∧ Ext A H A' H' ∧ Sim C ρ S' A' G σ H' ∧ l.get ρ S' = some xs ∧ LoA A' σ H' l = some a
def tL (C : Ct) (W : WX) (f : Rho → Mo Lo) : TE := fun σ H Q => ∃ P ρ S A G, (∀ a, C.Pr a → P a) ∧ Sim (C.pr P) ρ S A G σ H ∧ EGood (LPost (C.pr P) ρ A G σ H) (XPost C ρ A G σ H) W σ Q (f ρ S)
def lVar (i : Nat) : Rho → Mo Lo := fun ρ S => match ρ[i]? with
  | some (some (.own _)) => some (.ok (.sl i []) S)
  | some (some (.ref n)) => if n < S.length then some (.ok (.st n) S) else none
  | _ => none
def Lo.sub (ρ : Rho) (S : Sto) (l : Lo) (k : Int) : Option Lo := (l.get ρ S).bind fun xs => (ixN xs.length k).bind fun j => match xs[j]? with
  | some (.own _) => (match l with
    | .sl i p => some (.sl i (p ++ [j]))
    | .st _ => none)
  | some (.ref m) => if m < S.length then some (.st m) else none
  | _ => none
def lIx (fl : Rho → Mo Lo) (f : Rho → Mo SV) : Rho → Mo Lo := fun ρ S => bindM (fl ρ S) fun l S1 => bindM (f ρ S1) fun x S2 => match x with
  | .d (.int k) => (l.sub ρ S2 k).map fun l' => .ok l' S2
  | _ => none
section
variable {X : Cx} {C : Ct} {W : WX} {kd ka kb : Kd} {e a b c : Expr} {es : List Expr} {pos : Pos} {f fa fb fc : Rho → Mo SV} {fl : Rho → Mo Lo} {fs : Rho → Mo (List SV)}
theorem l_var {i : Nat} (h : PE X e (tVar i)) : PE X e (tL C W (lVar i)) := by
  refine pe_imp h fun σ H Q ⟨P, ρ, S, A, G, hP, I, q⟩ => ?_
  unfold lVar at q
  split at q
  · rename_i xs hx
    obtain ⟨v, g, e1, r, sb⟩ := I.slots i _ hx
    cases r with
    | own e l r =>
      exact ⟨_, e1, q _ H ⟨A, _, xs, rfl, Ext.refl, I, by simp only [Lo.get, hx, getP], by simp only [LoA, e1, addrP]⟩⟩
  · rename_i n hx
    obtain ⟨v, g, e1, r, sb⟩ := I.slots i _ hx
    split at q
    · rename_i hn
      cases r with
      | ref hA => exact ⟨_, e1, q _ H ⟨A, _, S[n], rfl, Ext.refl, I, List.getElem?_eq_getElem hn, hA⟩⟩
    · exact q.elim
  · exact q.elim
theorem l_ix (hk : C.K = X.K) (ha : PE X a (tL C W fl)) (hb : PE X b (tV C W kb fb)) (hs : PlainIx b) : PE X (.Subscript a b pos) (tL C W (lIx fl fb)) := by
  refine pe_imp (pe_ix ix_seq ha hb hs) fun σ H Q ⟨P, ρ, S, A, G, hP, I, q⟩ => ⟨P, ρ, S, A, G, hP, I, EGood.step q (fun _ _ _ _ _ _ z => z) fun l S1 q v H1 p => ?_⟩
  obtain ⟨A1, a, xs, rfl, e1, I1, hget, hA⟩ := p
  refine ⟨P, ρ, S1, A1, G, hP, I1, EGood.step q (fun _ _ _ _ _ _ z => z.trans e1) fun x S2 q u H2 p => ?_⟩
  obtain ⟨A2, g2, e2, I2, r2⟩ := p
  split at q
  case h_2 => exact q.elim
  rename_i k
  have I2' : Sim (C.pr P) ρ S2 A2 G σ H2 := I2.pgw
  obtain rfl := r2.int
  cases hsub : l.sub ρ S2 k with
  | none => rw [hsub] at q; exact q.elim
  | some l' =>
  rw [hsub] at q
  have hA2 := LoA.ext I1 e2 hget hA
  unfold Lo.sub at hsub
  simp only [Option.bind_eq_some_iff] at hsub
  obtain ⟨ys, hy, j, hj, hsub⟩ := hsub
  obtain ⟨a', us, gx, q1, q2, q3, q4, q5, q6, q7, q8, q9⟩ := I2'.lget hy
  rw [hA2] at q1
  cases q1
  have hlen : us.length = ys.length := q4.length
  have fin : ∀ w, us[j]? = some w → Q w H2 → rIx X.K (.ref a) (.int k) H2 Q := fun w hw hq => .inl ⟨a, us, k, w, rfl, rfl, .inl (.inl q2), by unfold atI; rw [hlen, hj]; exact hw, hq⟩
  split at hsub
  · rename_i zs hz
    obtain ⟨w, gl, gz, gr, h1, h2, _, _⟩ := RsL.at' q4 hz
    split at hsub
    · rename_i i p
      cases hsub
      cases h2 with
      | @own b _ vs g e l r =>
        refine fin (.ref b) h1 (q _ H2 ⟨A2, b, zs, rfl, e1.trans e2, I2', ?_, ?_⟩)
        · simp only [Lo.get] at hy ⊢
          split at hy
          · exact getP_app hy hz
          · cases hy
        · simp only [LoA] at hA2 ⊢
          split at hA2
          · exact addrP_app hA2 q2 h1
          · cases hA2
    · cases hsub
  · rename_i m hz
    obtain ⟨w, gl, gz, gr, h1, h2, _, _⟩ := RsL.at' q4 hz
    split at hsub
    · rename_i hm
      cases hsub
      cases h2 with
      | ref hA => exact fin _ h1 (q _ H2 ⟨A2, _, S2[m], rfl, e1.trans e2, I2', List.getElem?_eq_getElem hm, hA⟩)
    · cases hsub
  · cases hsub
theorem RsL.setN {K : PySem.W.Frag} {mg : Str → Option Value} {H : Hp} {A : List Addr} {F : Addr → Prop} : ∀ {xs : List SV} {vs : List V} {g : List Addr} {j : Nat} {z : SV}, RsL K mg H A F xs vs g → xs[j]? = some z → ∃ gl gz gr, g = gl ++ (gz ++ gr) ∧ ∀ z' v' gz', Rs K mg H A F z' v' gz' → RsL K mg H A F (xs.set j z') (vs.set j v') (gl ++ (gz' ++ gr))
  | [], _, _, _, _, _, e => by simp at e
  | x :: xs, _, _, j, z, r, e => by
    cases r with
    | cons r1 r2 =>
      rename_i v vs g1 g2
      cases j with
      | zero => exact ⟨[], g1, g2, rfl, fun z' v' gz' r' => show RsL K mg H A F _ _ (gz' ++ g2) from .cons r' r2⟩
      | succ j =>
        obtain ⟨gl, gz, gr, h3, h4⟩ := RsL.setN r2 (by simpa using e)
        refine ⟨g1 ++ gl, gz, gr, by rw [h3, List.append_assoc], fun z' v' gz' r' => ?_⟩
        rw [List.append_assoc]
        exact .cons r1 (h4 z' v' gz' r')
theorem SGood.step2 {α V1 : Type} {ρ : Rho} {A A1 : List Addr} {G : List (List Addr)} {σ : L2.St} {H H1 : Hp} {D : Ends} {post1 : α → Sto → V1 → Hp → Prop} {m : Option (Res α)} {k : α → Sto → Option Fl} {Q1 : V1 → Hp → Prop} (e : Ext A H A1 H1) (q : SGood C W A G H D (bindS ρ m k))
    (h : ∀ x S', SGood C W A G H D (k x S') → ∀ v H', post1 x S' v H' → Q1 v H') : EGood post1 (XPost C ρ A1 G σ H1) W σ Q1 m := by
  cases m with
  | none => exact q
  | some r =>
    cases r with
    | ok x S' => exact h x S' q
    | exc c fs S' => exact fun cls d H' ⟨A', e', I, r⟩ => q A' G σ H' cls d (e.trans e').s I r
/-! ### x[i] = e -/
def sStore (fl : Rho → Mo Lo) (fi f : Rho → Mo SV) : Rho → Sto → Option Fl := fun ρ S => bindS ρ (f ρ S) fun y S1 => bindS ρ (fl ρ S1) fun l S2 => bindS ρ (fi ρ S2) fun k S3 => match k with
  | .d (.int k) => (l.get ρ S3).bind fun xs => (ixN xs.length k).bind fun j => (l.put ρ S3 (xs.set j y)).map fun p => .nx p.1 p.2
  | _ => none
/-- what comes of a list's change -/
theorem lput_ends {A A3 : List Addr} {G G' : List (List Addr)} {H H3 : Hp} {gn : List Addr} {a : Addr} {ws : List V} (e : Ext A H A3 H3) (hg : ∀ b ∈ gn, H b = none) (ha : a ∈ A3 ++ G.flatten) (hG : ∀ b ∈ G'.flatten, b ∈ G.flatten ∨ b ∈ gn) : ExtS A G H A3 G' (upd H3 a (.lst ws)) := by
  refine ⟨e.pre, fun b m => ?_, fun b o q n => ?_, fun b h => ?_⟩
  · rcases List.mem_append.mp m with m | m
    · exact (e.new b m).imp (List.mem_append_left _) id
    · exact (hG b m).imp (List.mem_append_right _) (hg b)
  · have hb : b ≠ a := fun z => by
      subst z
      rcases List.mem_append.mp ha with z | z
      · rcases e.new b z with w | w
        · exact n (List.mem_append_left _ w)
        · rw [q] at w; cases w
      · exact n (List.mem_append_right _ z)
    rw [upd_ne hb]
    exact e.keep b o q fun z => n (List.mem_append_left _ z)
  · by_cases hb : b = a
    · rw [hb, upd_same]; simp
    · rw [upd_ne hb]; exact e.there b h
theorem s_store {o i : Expr} {pos' : Pos} (hl : PE X o (tL C W fl)) (hi : PE X i (tV C W kb fb)) (he : PE X e (tV C W .fe f)) (hs : swapsWithSole [.Subscript o i pos'] e pos.line X.env = pure false := by rfl) (hw : swappedStores [.Subscript o i pos'] e X.env = pure none := by rfl)
    (h1 : (assignEach [.Subscript o i pos'] X.env).map (·.2) = [assign (.Subscript o i pos') X.env] := by rfl)
    (ha : ∀ v, assign (.Subscript o i pos') X.env v = (do
      let ov ← holding [v] (eval o X.env)
      let iv ← holding [v, ov] (eval i X.env)
      standAt pos'
      holding [v, ov, iv] (setItem ov iv v)
      release [v, ov, iv] []) := by intro _; rfl) : PS X (.Assign [.Subscript o i pos'] e pos) (tS C W (sStore fl fb f)) := by
  refine ps_imp (ps_asg he (L2.pg_sub hl hi set_list ha) hs hw h1) fun D σ H ⟨ρ, S, A, G, I, q⟩ => ⟨C.Pr, ρ, S, A, G, fun _ h => h, I, SGood.step q fun y S1 q v H1 p => ?_⟩
  obtain ⟨A1, gn, e1, I1, r1⟩ := p
  have I1 : Sim (C.pr fun b => C.Pr b ∨ b ∈ gn) ρ S1 A1 G σ H1 := I1
  refine ⟨fun b => C.Pr b ∨ b ∈ gn, ρ, S1, A1, G, fun _ h => .inl h, I1, SGood.step2 e1 q fun l S2 q v2 H2 p => ?_⟩
  obtain ⟨A2, a, xs2, rfl, e2, I2, hget, hA⟩ := p
  refine ⟨fun b => C.Pr b ∨ b ∈ gn, ρ, S2, A2, G, fun _ h => .inl h, I2, SGood.step2 (e1.trans e2) q fun k S3 q v3 H3 p => ?_⟩
  obtain ⟨A3, g3, e3, I3, r3⟩ := p
  have I3 : Sim (C.pr fun b => C.Pr b ∨ b ∈ gn) ρ S3 A3 G σ H3 := Sim.pgw (C := C.pr fun b => C.Pr b ∨ b ∈ gn) (kd := kb) I3
  split at q
  case h_2 => exact q.elim
  rename_i k
  obtain rfl := r3.int
  cases hx : l.get ρ S3 with
  | none => rw [hx] at q; exact q.elim
  | some xs =>
  rw [hx] at q
  simp only [Option.bind_some] at q
  cases hj : ixN xs.length k with
  | none => rw [hj] at q; exact q.elim
  | some j =>
  rw [hj] at q
  simp only [Option.bind_some] at q
  cases hput : l.put ρ S3 (xs.set j y) with
  | none => rw [hput] at q; exact q.elim
  | some p =>
  obtain ⟨ρ', S'⟩ := p
  rw [hput] at q
  have hA3 := LoA.ext I2 e3 hget hA
  obtain ⟨a', us, gx, q1, q2, q3, q4, q5, q6, q7, q8, q9⟩ := I3.lget hx
  rw [hA3] at q1
  cases q1
  have hlen : us.length = xs.length := q4.length
  have e13 := e2.trans e3
  have ry : Rk (C.pr C.Pr) .fe gn A3 G H H3 y v := Rk.ext (C := C.pr C.Pr) e13 r1
  obtain ⟨ry, ngn, hgn⟩ := ry
  have hj2 := ixN_seq hj
  have hxj : xs[j]? = some xs[j] := List.getElem?_eq_getElem hj2.2.1
  have nF : ∀ b ∈ gn, ¬ C.Pr b := fun b m z => (I.prot b z).2 (hgn b m).1
  obtain ⟨G', J, sG⟩ := Sim.lput (C := C) (ys := xs.set j y) (ws := us.set j v) I3 ngn (fun b m => I.e0 b (hgn b m).1) nF hx hA3 q2 (by rw [List.length_set]; exact q3) hput (fun gx r n d => by
    obtain ⟨gl, gz, gr, h3, h4⟩ := RsL.setN r hxj
    subst h3
    have n1 := List.nodup_append.mp n
    have n2 := List.nodup_append.mp n1.2.1
    have mgn : ∀ b, (Fs (C.pr fun a => C.Pr a ∨ a ∈ gn) A3 G b) → (Fs (C.pr C.Pr) A3 G b ∨ b ∈ gn) := fun b z => by
      rcases z with z | z | z | z
      · exact .inl (.inl z)
      · exact .inl (.inr (.inl z))
      · exact .inl (.inr (.inr z))
      · exact .inr z
    have rset : RsL C.K C.mg H3 A3 (Fs (C.pr fun a => C.Pr a ∨ a ∈ gn) A3 G) (xs.set j y) (us.set j v) (gl ++ (gn ++ gr)) := by
      exact h4 y v gn (Rs.mono (fun _ _ q => q) (fun b z => .inl (mgn b z)) (fun b o q n => q) _ _ _ (fun b m o q => q) ry)
    refine ⟨_, rset, List.nodup_append.mpr ⟨n1.1, List.nodup_append.mpr ⟨ngn, n2.2.1, fun b m c m' e => ?_⟩, fun b m c m' e => ?_⟩, fun b m => ?_⟩
    · subst e
      exact d b (List.mem_append_right _ (List.mem_append_right _ m')) m
    · subst e
      rcases List.mem_append.mp m' with m' | m'
      · exact d b (List.mem_append_left _ m) m'
      · exact n1.2.2 b m b (List.mem_append_right _ m') rfl
    · rcases List.mem_append.mp m with m | m
      · exact .inl (List.mem_append_left _ m)
      · rcases List.mem_append.mp m with m | m
        · exact .inr m
        · exact .inl (List.mem_append_right _ (List.mem_append_right _ m)))
  refine ⟨a, us, k, j, rfl, rfl, q2, by rw [hlen]; exact hj, ?_⟩
  exact q _ _ _ _ (lput_ends (e1.trans e13) (fun b m => (hgn b m).1) q7 sG) J
/-! ### x.append(e) -/
def sAppend (fl : Rho → Mo Lo) (fs : Rho → Mo (List SV)) : Rho → Sto → Option Fl := fun ρ S => bindS ρ (fl ρ S) fun l S1 => bindS ρ (fs ρ S1) fun ys S2 => match ys with
  | [y] => (l.get ρ S2).bind fun xs => if xs.length < sizeLine then (l.put ρ S2 (xs ++ [y])).map fun p => .nx p.1 p.2 else none
  | _ => none
theorem RsL.lref {K : PySem.W.Frag} {H : Hp} {a : Addr} {us : List V} (h : H a = some (.lst us)) : tyV K "list" (.ref a) H := .inl ⟨rfl, us, .inl (.inl h)⟩
theorem s_append {o e : Expr} {es : List Expr} {apos cpos : Pos} (hl : PE X o (tL C W fl)) (ha : PA X (e :: es) (tVs C W .fe fs)) (hs : swapsWith (.Call (.Attribute o "append" apos) (e :: es) [] cpos) none pos.line X.env = pure false := by rfl)
    (hbase : attributeBase o "append" X.env (eval o X.env) = eval o X.env := by rfl)
    (hfew : ((backTo cpos (starEach (e :: es) X.env)).all (fun x => !x.1) && (backToKw cpos (keywordEach [] X.env)).all (fun x => x.1.isSome)
      && decide ((e :: es).length + ([] : List Keyword).length + (if ([] : List Keyword).isEmpty then 0 else 1) < 30)) = true := by rfl)
    (hline : (apos.endLine == cpos.line) = true := by rfl) (hst : starEach (e :: es) X.env = (false, eval e X.env) :: starEach es X.env := by rfl) (hplain : (backTo cpos (starEach es X.env)).any (·.1) = false := by rfl) :
    PS X (.Expr (.Call (.Attribute o "append" apos) (e :: es) [] cpos) pos) (tS C W (sAppend fl fs)) := by
  refine ps_imp (ps_expr (pe_bm PySem.F.plainAttrs_list PySem.F.slot_list_append PySem.F.type_list_append mt_append hl ha hbase hfew hline hst hplain) hs) fun D σ H ⟨ρ, S, A, G, I, q⟩ => ⟨C.Pr, ρ, S, A, G, fun _ h => h, I, SGood.step q fun l S2 q v2 H2 p => ?_⟩
  obtain ⟨A2, a, xs2, rfl, e2, I2, hget, hA⟩ := p
  obtain ⟨a', us0, gx0, w1, w2, _⟩ := I2.lget hget
  rw [hA] at w1
  cases w1
  refine ⟨RsL.lref w2, C.Pr, ρ, S2, A2, G, fun _ h => h, I2, SGood.step2 e2 q fun ys S3 q v3 H3 p => ?_⟩
  obtain ⟨A3, gn, e3, I3, r3⟩ := p
  have I3 : Sim (C.pr fun b => C.Pr b ∨ b ∈ gn) ρ S3 A3 G σ H3 := I3
  split at q
  case h_2 => exact q.elim
  rename_i y
  cases hx : l.get ρ S3 with
  | none => rw [hx] at q; exact q.elim
  | some xs =>
  rw [hx] at q
  simp only [Option.bind_some] at q
  split at q
  case isFalse => exact q.elim
  rename_i hlt
  cases hput : l.put ρ S3 (xs ++ [y]) with
  | none => rw [hput] at q; exact q.elim
  | some p =>
  obtain ⟨ρ', S'⟩ := p
  rw [hput] at q
  have hA3 := LoA.ext I2 e3 hget hA
  obtain ⟨a', us, gx, q1, q2, q3, q4, q5, q6, q7, q8, q9⟩ := I3.lget hx
  rw [hA3] at q1
  cases q1
  have hlen : us.length = xs.length := q4.length
  obtain ⟨ry, ngn, hgn⟩ := r3
  cases ry with
  | @cons _ _ v _ gn _ ry rn =>
  cases rn
  simp only [List.append_nil] at ngn hgn I3 ry
  have hgn0 : ∀ b ∈ gn, H b = none := fun b m => none_back e2 (hgn b m).1
  have nF : ∀ b ∈ gn, ¬ C.Pr b := fun b m z => (I.prot b z).2 (hgn0 b m)
  obtain ⟨G', J, sG⟩ := Sim.lput (C := C) (ys := xs ++ [y]) (ws := us ++ [v]) I3 ngn (fun b m => I.e0 b (hgn0 b m)) nF hx hA3 q2 (by rw [List.length_append, List.length_singleton]; omega) hput (fun gx r n d => by
    have mgn : ∀ b, (Fs (C.pr fun a => C.Pr a ∨ a ∈ gn) A3 G b) → (Fs (C.pr C.Pr) A3 G b ∨ b ∈ gn) := fun b z => by
      rcases z with z | z | z | z
      · exact .inl (.inl z)
      · exact .inl (.inr (.inl z))
      · exact .inl (.inr (.inr z))
      · exact .inr z
    have ryF : Rs C.K C.mg H3 A3 (Fs (C.pr fun a => C.Pr a ∨ a ∈ gn) A3 G) y v gn := Rs.mono (fun _ _ q => q) (fun b z => .inl (mgn b z)) (fun b o q n => q) _ _ _ (fun b m o q => q) ry
    have r1 : RsL C.K C.mg H3 A3 (Fs (C.pr fun a => C.Pr a ∨ a ∈ gn) A3 G) [y] [v] gn := by
      have := RsL.cons ryF RsL.nil
      rw [List.append_nil] at this
      exact this
    exact ⟨gx ++ gn, RsL.app r r1, List.nodup_append.mpr ⟨n, ngn, fun b m c m' e => d b m (by rw [e]; exact m')⟩, fun b m => List.mem_append.mp m⟩)
  exact ⟨a, us, v, rfl, rfl, q2, by omega, q _ _ _ _ (lput_ends (e2.trans e3) hgn0 q7 sG) J⟩
/-! ### y = x.pop(), x.pop() -/
def popL (fl : Rho → Mo Lo) (k : Rho → Sto → SV → Option Fl) : Rho → Sto → Option Fl := fun ρ S => bindS ρ (fl ρ S) fun l S1 => (l.get ρ S1).bind fun xs => (xs[xs.length - 1]?).bind fun y => if noOwn y then (l.put ρ S1 xs.dropLast).bind fun p => k p.1 p.2 y else none
def sPop (fl : Rho → Mo Lo) (i : Nat) : Rho → Sto → Option Fl := popL fl fun ρ S y => some (.nx (ρ.set i (some y)) S)
def sPopD (fl : Rho → Mo Lo) : Rho → Sto → Option Fl := popL fl fun ρ S _ => some (.nx ρ S)
theorem RsL.dropLast {K : PySem.W.Frag} {mg : Str → Option Value} {H : Hp} {A : List Addr} {F : Addr → Prop} : ∀ {xs : List SV} {vs : List V} {g : List Addr}, RsL K mg H A F xs vs g → ∃ g', RsL K mg H A F xs.dropLast vs.dropLast g' ∧ g'.Sublist g
  | [], _, _, r => by cases r; exact ⟨[], .nil, List.Sublist.refl _⟩
  | [x], _, _, r => by
    cases r with
    | cons r1 r2 => cases r2; exact ⟨[], .nil, List.nil_sublist _⟩
  | x :: y :: xs, _, _, r => by
    cases r with
    | cons r1 r2 =>
      obtain ⟨g', r', s⟩ := RsL.dropLast r2
      cases r2 with
      | cons r3 r4 => exact ⟨_, .cons r1 r', List.Sublist.append_left s _⟩
theorem t_pop {k : Rho → Sto → SV → Option Fl} {D : Ends} {σ : L2.St} {H : Hp} {Q : VK}
    (hQ : ∀ (ρ' : Rho) (S' : Sto) (y : SV) (A' : List Addr) (G' : List (List Addr)) (v : V) (H' : Hp) (A : List Addr) (G : List (List Addr)) (H0 : Hp), SGood C W A G H0 D (k ρ' S' y) → ExtS A G H0 A' G' H' → Sim C ρ' S' A' G' σ H' → Rs C.K C.mg H' A' (Fs C A' G') y v [] → Q v H')
    (h : tS C W (popL fl k) D σ H) : tBM0 C.K "list" rPop (tL C W fl) σ H Q := by
  obtain ⟨ρ, S, A, G, I, q⟩ := h
  refine ⟨C.Pr, ρ, S, A, G, fun _ h => h, I, SGood.step q fun l S2 q v2 H2 p => ?_⟩
  obtain ⟨A2, a, xs, rfl, e2, I2, hx, hA⟩ := p
  have I2 : Sim C ρ S2 A2 G σ H2 := I2
  rw [hx] at q
  simp only [Option.bind_some] at q
  obtain ⟨a', us, gx, q1, q2, q3, q4, q5, q6, q7, q8, q9⟩ := I2.lget hx
  rw [hA] at q1
  cases q1
  have hlen : us.length = xs.length := q4.length
  cases hy : xs[xs.length - 1]? with
  | none => rw [hy] at q; exact q.elim
  | some y =>
  rw [hy] at q
  simp only [Option.bind_some] at q
  split at q
  case isFalse => exact q.elim
  rename_i hno
  cases hput : l.put ρ S2 xs.dropLast with
  | none => rw [hput] at q; exact q.elim
  | some p =>
  obtain ⟨ρ', S'⟩ := p
  rw [hput] at q
  simp only [Option.bind_some] at q
  obtain ⟨v, gl, gz, gr, h1, h2, _, _⟩ := RsL.at' q4 hy
  obtain rfl := h2.noOwn hno
  have I3 : Sim (C.pr fun b => C.Pr b ∨ b ∈ ([] : List Addr)) ρ S2 A2 G σ H2 := I2.prc fun b h => h.elim id fun m => by cases m
  obtain ⟨G', J, sG⟩ := Sim.lput (C := C) (ys := xs.dropLast) (ws := us.dropLast) I3 List.nodup_nil (fun b m => by cases m) (fun b m => by cases m) hx hA q2 (by rw [List.length_dropLast]; omega) hput (fun gx r n d => by
    obtain ⟨g', r', s⟩ := RsL.dropLast r
    exact ⟨g', r', n.sublist s, fun b m => .inl (s.subset m)⟩)
  refine ⟨RsL.lref q2, a, us, v, rfl, rfl, q2, by rw [hlen]; exact h1, ?_⟩
  refine hQ _ _ _ _ _ _ _ A G H q (lput_ends e2 (fun b m => by cases m) q7 sG) J (Rs.mono (fun _ _ q => q) (fun b z => ?_) (fun b o q n => ?_) _ _ _ (fun b m => by cases m) h2)
  · rcases z with z | z | z
    · exact .inl (.inl z)
    · exact .inl (.inr (.inl ((sG b z).elim id fun m => by cases m)))
    · exact .inl (.inr (.inr z))
  · rw [upd_ne (show b ≠ a from fun e => n (by
      subst e
      rcases List.mem_append.mp q7 with z | z
      · exact .inl z
      · exact .inr (.inl z)))]
    exact q
theorem s_pop {i : Nat} {x : Str} {o : Expr} {apos cpos pos' : Pos} (hk : C.K = X.K) (hN : X.N.Nodup) (hi : X.N[i]? = some x) (hx : Loc X.env.scope x) (hl : PE X o (tL C W fl)) (hs : swapsWith (.Call (.Attribute o "pop" apos) [] [] cpos) (some (.Name x pos')) pos.line X.env = pure false := by rfl)
    (hf : X.fn x = true ∨ X.env.scope.names.lookup x = some .local := by first | exact .inl rfl | exact .inr rfl | assumption)
    (hbase : attributeBase o "pop" X.env (eval o X.env) = eval o X.env := by rfl) (hline : (apos.endLine == cpos.line) = true := by rfl) :
    PS X (.Assign [.Name x pos'] (.Call (.Attribute o "pop" apos) [] [] cpos) pos) (tS C W (sPop fl i)) := by
  refine ps_imp (ps_set hN hi hx (pe_bm0 PySem.F.plainAttrs_list PySem.F.slot_list_pop PySem.F.type_list_pop mt_pop hl hbase hline) hs hf) fun D σ H h => ?_
  rw [← hk]
  refine t_pop (k := fun ρ S y => some (.nx (ρ.set i (some y)) S)) (fun ρ' S' y A' G' v H' A G H0 q e J r => ?_) h
  exact q _ _ _ _ e (J.putV r)
theorem s_popD {o : Expr} {apos cpos : Pos} (hk : C.K = X.K) (hl : PE X o (tL C W fl)) (hs : swapsWith (.Call (.Attribute o "pop" apos) [] [] cpos) none pos.line X.env = pure false := by rfl)
    (hbase : attributeBase o "pop" X.env (eval o X.env) = eval o X.env := by rfl) (hline : (apos.endLine == cpos.line) = true := by rfl) :
    PS X (.Expr (.Call (.Attribute o "pop" apos) [] [] cpos) pos) (tS C W (sPopD fl)) := by
  refine ps_imp (ps_expr (pe_bm0 PySem.F.plainAttrs_list PySem.F.slot_list_pop PySem.F.type_list_pop mt_pop hl hbase hline) hs) fun D σ H h => ?_
  rw [← hk]
  exact t_pop (k := fun ρ S y => some (.nx ρ S)) (fun ρ' S' y A' G' v H' A G H0 q e J r => q _ _ _ _ e J) h
end
end VL

end
section
set_option Elab.async false
set_option linter.all false
set_option maxRecDepth 100000
/-! VL14: a law's defs, its end. -/
namespace VL
open PySem PySem.Spec PyProof.Rows L2

/-- no name of a builtin is the module's own -/
structure Fr (mg : Str → Option Value) : Prop where
  len : mg "len" = none
  range : mg "range" = none
  isinstance : mg "isinstance" = none
  int : mg "int" = none
  bool : mg "bool" = none
  str : mg "str" = none
  tuple : mg "tuple" = none
  list : mg "list" = none
  abs : mg "abs" = none
  max : mg "max" = none
  min : mg "min" = none
  all : mg "all" = none
  any : mg "any" = none
  sum : mg "sum" = none
  sorted : mg "sorted" = none
  enumerate : mg "enumerate" = none
  zip : mg "zip" = none
  set : mg "set" = none
  dict : mg "dict" = none
  repr : mg "repr" = none
/-- a constant of the module -/
structure GlobC (K : PySem.W.Frag) (mg : Str → Option Value) (x : Str) (d : PyData) : Prop where
  ex : ∃ u v, mg x = some u ∧ RelV v u ∧ ∀ (H : Hp) (F : Addr → Prop), Dq K H F d v
section
variable {X : Cx} {C : Ct} {W : WX} {kd : Kd} {pos : Pos} {x : Str} {d : PyData}
theorem v_gc (hK : C.K = X.K) (G : GlobC X.K X.mg x d) (hg : Gl X x) (hd : (x == ("__debug__" : Str)) = false := by decide) : PE X (.Name x pos) (tV C W kd (eCon d)) := by
  obtain ⟨u, v, hm, r, q⟩ := G.ex
  exact v_glob hg hm r (by rw [hK]; exact q) hd
theorem v_fnD {P : Program} {w : World} {base : Heap} {k n : Nat} {F : List SV → Mo SV} (hM : C.mg = X.mg) (D : DefOk P w X.K X.mg base k x n F) (hg : Gl X x) (hd : (x == ("__debug__" : Str)) = false := by decide) : PE X (.Name x pos) (tV C W kd (eFn x)) := by
  obtain ⟨f, fd, ps, _, hm, _⟩ := D.ex
  exact v_fn hM hg hm hd
end
section
variable {P : Program} {w : World} {K : PySem.W.Frag} {mg : Str → Option Value} {base : Heap} {x qual : Str} {params : Arguments} {body : List Stmt} {scope : Scope} {f : Addr} {fd : FuncData} {N ps : List Str} {k : Nat} {fb : Rho → Sto → Option Fl}
theorem fn_vl2 (F : FunD K x qual params body scope [] [] f fd) (Sc : FnScope N ps scope) (hl : ps.length ≤ N.length)
    (hb : ∀ (cdv : Value) (A : Around) (outer : List Env) (s : Shared) (H : Hp) (E : XK), Room k (A.deeper (envOfC qual scope s.heap.objs.size f cdv)) → ∀ (E0 : Hp) (A0 : List Addr) (Pr : Addr → Prop),
      PSs (cxOf (L2.CX P w) P w K mg base N qual scope f cdv A outer s H E) body (tS ⟨K, mg, E0, A0, Pr⟩ (fun cls d _ H => E cls d H) fb)) : FnOk P w K mg base (L2.CX P w) (k + 1) f fd ps (spF K mg ps.length (runF N.length fb)) := by
  refine fn_vl F Sc hl fun cdv A outer s H E hr C hK hm => ?_
  obtain ⟨K', mg', E0, A0, Pr⟩ := C
  have hK : K' = K := hK
  have hm : mg' = mg := hm
  subst hK
  subst hm
  exact hb cdv A outer s H E hr E0 A0 Pr
theorem mk_def (F : FunD K x qual params body scope [] [] f fd) (hm : mg x = some (.ref f)) (Sc : FnScope N ps scope) (hl : ps.length ≤ N.length)
    (hbind : ∀ (kV doc pm : Value) (an : Option Addr) (cdv ct : Value) (us : List Value), us.length = ps.length → bindArgs (PySem.W.fnOf x qual params body scope .none kV doc pm an cdv ct) ⟨us, []⟩ = pure (ps.zip us))
    (hb : ∀ (cdv : Value) (A : Around) (outer : List Env) (s : Shared) (H : Hp) (E : XK), Room k (A.deeper (envOfC qual scope s.heap.objs.size f cdv)) → ∀ (E0 : Hp) (A0 : List Addr) (Pr : Addr → Prop),
      PSs (cxOf (L2.CX P w) P w K mg base N qual scope f cdv A outer s H E) body (tS ⟨K, mg, E0, A0, Pr⟩ (fun cls d _ H => E cls d H) fb)) : DefOk P w K mg base (k + 1) x ps.length (runF N.length fb) :=
  ⟨f, fd, ps, fn_vl2 F Sc hl hb, hm, F.kp, F.bindsN hbind⟩
theorem DefOk.mono {j k n : Nat} {Fn : List SV → Mo SV} (D : DefOk P w K mg base j x n Fn) (h : j ≤ k) : DefOk P w K mg base k x n Fn := by
  obtain ⟨f, fd, ps, F, hm, hk, hb⟩ := D.ex
  exact ⟨f, fd, ps, F.mono h, hm, hk, hb⟩
end
/-- the law's promise -/
theorem spF_law {K : PySem.W.Frag} {mg : Str → Option Value} {Fn : List SV → Mo SV} {H : Hp} {a : Addr} {ns : List Int} {S' : Sto} (hl : ns.length ≤ sizeLine) (hO : Only H) (hS : SqL K H a (ns.map V.int)) (h : Fn [.scr ns] [] = some (.ok (.d (.bool true)) S')) :
    spF K mg 1 Fn [.ref a] H (fun v _ => v = .bl true) fun _ _ _ => False := by
  refine ⟨rfl, ⟨K, mg, H, [], fun _ => False⟩, [.scr ns], [], rfl, rfl, rfl, ⟨?_, rfl, List.nodup_nil, (fun b m => by cases m), (fun b m => False.elim m), fun n xs e => by cases n <;> cases e⟩, ?_⟩
  · refine .cons (g := []) (g' := []) ?_ .nil
    have nf : ¬ (a ∈ ([] : List Addr) ∨ False) := fun z => by rcases z with z | z <;> cases z
    rcases hS with hS | hS
    · rcases hS with hS | ⟨o, hS⟩
      · rcases hO a with e | ⟨o, xs, e⟩
        · rw [hS] at e; cases e
        · rw [hS] at e; cases e
      · exact .scr hS nf hl
    · exact .scrK (.inr hS) hl
  · rw [h]
    rintro v H' ⟨A', g, R, r⟩
    obtain ⟨_, r⟩ := r.nil_d
    cases r
    rfl
theorem walk_vl {l : PySem.W.OpenLaw} {n k : Nat} {q : Program} {loose : List Str} {XP : (Str → Option Value) → Heap → Prop} {YP : World → Heap → Prop} {d : DefRec} {x : Str} {Fn : List SV → Mo SV}
    (hn : l.most = some n) (hn2 : n ≤ sizeLine) (hdf : d.params.defaults = []) (hr : Room k callerA)
    (hlaw : ∀ ns : List Int, ns.length ≤ n → (∀ z ∈ ns, Builtin.Int.intBits z ≤ 1048576) → ∃ S, Fn [.scr ns] [] = some (.ok (.d (.bool true)) S))
    (F : ∀ (w : World) (mg : Str → Option Value) (fa : Addr) (h : Heap), YP w h → h.Ns mainGlobals mg → mg d.name = some (.ref fa) →
      ∃ (K : PySem.W.Frag) (fd : FuncData), K.In h ∧ (∀ (s : Shared) (u : Value), BindsTo s fd ⟨[u], []⟩ [(x, u)]) ∧
        ∀ base : Heap, K.In base → base.Ns mainGlobals mg → FnOk l.prog w K mg base (L2.CX l.prog w) k fa fd [x] (spF K mg 1 Fn)) :
    PySem.W.WalkO q loose XP YP l.row.toRowW d [] (fun f vs => PySem.call f vs) := by
  refine Att.attach_callB hn hdf fun w s₀ s₁ mg mb fa o pm cd doc a vs ns G Y ho hd hcd hmg hobj hints hlen hbits hg => ?_
  obtain ⟨K, fd, KX, hb, hF⟩ := F w mg fa _ Y G.T.g hmg
  obtain ⟨S, hS⟩ := hlaw ns hlen hbits
  exact law_call KX G.T.g G.T.b G.T.builtins G.T.nolimit hg hobj hints (Nat.le_trans hlen hn2) hr hF hb (fun H hO hs => spF_law (Nat.le_trans hlen hn2) hO hs hS) fun H e s' z => by
    obtain ⟨_, _, _, _, _, _, _, _, _, _, _, _, z⟩ := z
    exact z
abbrev FnP (K : PySem.W.Frag) (x : Str) (st : Stmt) (f : Addr) (fd : FuncData) : Prop := FunD K x x (defArgs st) (defBody st) (defScope st) [] [] f fd
end VL

end
section
set_option Elab.async false
set_option linter.all false
set_option maxRecDepth 100000
/-! VL15: short names for what a program prints. -/
namespace VL
open PySem PySem.Spec PyProof.Rows L2
section
variable {X : Cx} {C : Ct} {W : WX} {kd ka kb : Kd} {a b c e : Expr} {es : List Expr} {pos : Pos} {f fa fb fc : Rho → Mo SV} {fs : Rho → Mo (List SV)}
theorem u65 {k : Nat} {A : Around} (r : Room k A) : A.units + 65 < cLine := by have := r.un; omega
theorem t_lt (hk : C.K = X.K) (hu : X.A.units + 64 < cLine) (ha : PE X a (tV C W ka fa)) (hb : PE X b (tV C W kb fb)) : PT X (.Compare a [.Lt] [b] pos) (tTs C W (bB (eBin (cB gLt) fa fb))) := t_cmp (op_lt.or (op_ltD hu)) (hk ▸ c_lt) ha hb (nomark _)
theorem t_le (ha : PE X a (tV C W ka fa)) (hb : PE X b (tV C W kb fb)) : PT X (.Compare a [.LtE] [b] pos) (tTs C W (bB (eBin (cB gLe) fa fb))) := t_cmp op_le (c_le (K := C.K)) ha hb (nomark _)
theorem t_gt (ha : PE X a (tV C W ka fa)) (hb : PE X b (tV C W kb fb)) : PT X (.Compare a [.Gt] [b] pos) (tTs C W (bB (eBin (cB gGt) fa fb))) := t_cmp op_gt (c_gt (K := C.K)) ha hb (nomark _)
theorem t_ge (ha : PE X a (tV C W ka fa)) (hb : PE X b (tV C W kb fb)) : PT X (.Compare a [.GtE] [b] pos) (tTs C W (bB (eBin (cB gGe) fa fb))) := t_cmp op_ge (c_ge (K := C.K)) ha hb (nomark _)
theorem t_eq (hk : C.K = X.K) (hu : X.A.units + 64 < cLine) (ha : PE X a (tV C W ka fa)) (hb : PE X b (tV C W kb fb)) : PT X (.Compare a [.Eq] [b] pos) (tTs C W (bB (eBin (cB gEq) fa fb))) := t_cmp (op_eqD hu) (hk ▸ c_eq) ha hb (nomark _)
theorem t_ne (hk : C.K = X.K) (hu : X.A.units + 64 < cLine) (ha : PE X a (tV C W ka fa)) (hb : PE X b (tV C W kb fb)) : PT X (.Compare a [.NotEq] [b] pos) (tTs C W (bB (eBin (cB gNe) fa fb))) := t_cmp (op_neD hu) (hk ▸ c_ne) ha hb (nomark _)
theorem t_isN (ha : PE X a (tV C W ka fa)) (hb : PE X b (tV C W kb fb)) : PT X (.Compare a [.Is] [b] pos) (tTs C W (bB (eBin (cB gIsN) fa fb))) := t_cmp op_isN (c_isN (K := C.K)) ha hb (nomark _)
theorem t_notN (ha : PE X a (tV C W ka fa)) (hb : PE X b (tV C W kb fb)) : PT X (.Compare a [.IsNot] [b] pos) (tTs C W (bB (eBin (cB gNotN) fa fb))) := t_cmp op_notN (c_notN (K := C.K)) ha hb (nomark _)
theorem t_in (hk : C.K = X.K) (hu : X.A.units + 65 < cLine) (ha : PE X a (tV C W ka fa)) (hb : PE X b (tV C W kb fb)) (hm : behindInMarks .In b = false := by rfl) : PT X (.Compare a [.In] [b] pos) (tTs C W (bB (eBin (cB gIn) fa fb))) := t_cmp (op_inD hu) (hk ▸ c_in) ha hb hm
theorem t_notIn (hk : C.K = X.K) (hu : X.A.units + 65 < cLine) (ha : PE X a (tV C W ka fa)) (hb : PE X b (tV C W kb fb)) (hm : behindInMarks .NotIn b = false := by rfl) : PT X (.Compare a [.NotIn] [b] pos) (tTs C W (bB (eBin (cB gNotIn) fa fb))) := t_cmp (op_notInD hu) (hk ▸ c_notIn) ha hb hm
end
section
variable {X : Cx} {C : Ct} {W : WX} {kd ka kb : Kd} {e : Expr} {es : List Expr} {pos p : Pos} {fs : Rho → Mo (List SV)}
theorem boot_tuple' : bootBuiltins "tuple" = some (.type "tuple") := by decide +kernel
theorem boot_list' : bootBuiltins "list" = some (.type "list") := by decide +kernel
theorem boot_int' : bootBuiltins "int" = some (.type "int") := by decide +kernel
theorem boot_bool' : bootBuiltins "bool" = some (.type "bool") := by decide +kernel
theorem boot_str' : bootBuiltins "str" = some (.type "str") := by decide +kernel
theorem boot_len' : bootBuiltins "len" = some (.builtin "len") := by decide +kernel
theorem boot_abs' : bootBuiltins "abs" = some (.builtin "abs") := by decide +kernel
theorem boot_max' : bootBuiltins "max" = some (.builtin "max") := by decide +kernel
theorem boot_min' : bootBuiltins "min" = some (.builtin "min") := by decide +kernel
theorem boot_all' : bootBuiltins "all" = some (.builtin "all") := by decide +kernel
theorem boot_any' : bootBuiltins "any" = some (.builtin "any") := by decide +kernel
theorem boot_sum' : bootBuiltins "sum" = some (.builtin "sum") := by decide +kernel
end
/-- a, b, c = x, y, z -/
def sPar3 (i j l : Nat) (fs : Rho → Mo (List SV)) : Rho → Sto → Option Fl := fun ρ S => bindS ρ (fs ρ S) fun xs S1 => (frzs xs).bind fun ys => match ys with
  | [x, y, z] => some (.nx (((ρ.set i (some x)).set j (some y)).set l (some z)) S1)
  | _ => none
theorem new_notL {C : Ct} {P : Addr → Prop} {ρ : Rho} {S : Sto} {A A1 : List Addr} {G : List (List Addr)} {σ : L2.St} {H H1 : Hp} {g : List Addr} (I : Sim (C.pr P) ρ S A G σ H) {xs : List SV} {vs : List V} (r : RkL (C.pr P) .fe g A1 G H H1 xs vs) : ∀ a ∈ g, ¬ Fs (C.pr P) A1 G a := fun a m z => by
  obtain ⟨h0, _, hA⟩ := r.2.2 a m
  rcases z with z | z | z
  · exact hA z
  · exact I.trk a (List.mem_append_right _ z) h0
  · exact I.prTrk z h0
theorem s_par3 {X : Cx} {C : Ct} {W : WX} {i j l : Nat} {x y z : Str} {a b c : Expr} {px py pz pt pos : Pos} {kt k2 pt2} {fs : Rho → Mo (List SV)} (hc : X.calm = true) (hN : X.N.Nodup) (hi : X.N[i]? = some x) (hj : X.N[j]? = some y) (hl : X.N[l]? = some z) (hij : i ≠ j) (hil : i ≠ l) (hjl : j ≠ l)
    (hx : X.env.scope.names.lookup x = some .local) (hy : X.env.scope.names.lookup y = some .local) (hz : X.env.scope.names.lookup z = some .local) (ha : PA X [a, b, c] (tVs C W .fe fs))
    (hw : swappedStores [.Tuple [.Name x px, .Name y py, .Name z pz] kt pt] (.Tuple [a, b, c] k2 pt2) X.env = pure (some [x, y, z]))
    (hs : swapsWithSole [.Tuple [.Name x px, .Name y py, .Name z pz] kt pt] (.Tuple [a, b, c] k2 pt2) pos.line X.env = pure false := by rfl) :
    PS X (.Assign [.Tuple [.Name x px, .Name y py, .Name z pz] kt pt] (.Tuple [a, b, c] k2 pt2) pos) (tS C W (sPar3 i j l fs)) := by
  refine ps_imp (ps_par3 hc hN hi hj hl hij hil hjl hx hy hz ha hw hs) fun D σ H ⟨ρ, S, A, G, I, q⟩ => ⟨C.Pr, ρ, S, A, G, fun _ h => h, I, SGood.step q fun xs S1 q vs H1 p => ?_⟩
  obtain ⟨A1, g, e1, I1, r⟩ := p
  have I1' : Sim C ρ S1 A1 G σ H1 := Sim.prw (C := C) (P := fun a => C.Pr a ∨ a ∈ g) I1 fun a h => .inl h
  cases hf : frzs xs with
  | none => rw [hf] at q; exact q.elim
  | some ys =>
  rw [hf] at q
  simp only [Option.bind_some] at q
  have ry : RsL C.K C.mg H1 A1 (Fs C A1 G) ys vs [] := RkL.frz (C := C) r (new_notL (P := C.Pr) (S := S) I r) hf
  split at q
  case h_2 => exact q.elim
  rename_i x y z
  have hlen : vs.length = 3 := ry.length
  match vs, hlen with
  | [v1, v2, v3], _ =>
  obtain ⟨_, e1', r1⟩ := RsL.get1 (i := 0) ry rfl
  cases e1'
  obtain ⟨_, e2', r2⟩ := RsL.get1 (i := 1) ry rfl
  cases e2'
  obtain ⟨_, e3', r3⟩ := RsL.get1 (i := 2) ry rfl
  cases e3'
  exact ⟨v1, v2, v3, rfl, q _ _ _ _ e1.s (((I1'.putV r1).putV r2).putV r3)⟩
end VL

end
section
set_option Elab.async false
set_option linter.all false
set_option maxRecDepth 100000
/-! VL16: more short names. -/
namespace VL
open PySem PySem.Spec PyProof.Rows L2
section
variable {X : Cx} {C : Ct} {W : WX} {tg elt iter : Expr} {ifs : List Expr} {scope : Scope} {own : List (Str × Nat)} {pos spos py : Pos} {fi : Rho → Mo (List SV)} {ft : Rho → Mo Bool} {fe : Rho → Mo SV} {tf : TgF} {is : List Nat} {g : TG} {i : Nat} {y : Str}
theorem s_setLc (hy : X.N[i]? = some y) (hyl : X.env.scope.names.lookup y = some .local) (hc : X.calm = true) (hN : X.N.Nodup) (hi : PI X tg iter (tI C W false fi)) (ok : BlkOk X.N X.env.scope scope own) (hg : ∀ (s : Shared) (H : Hp) (Ca : Addr) (cl : List (Str × Addr)) (fp : List Addr), PG (X.blk s H scope (compEnvC scope cl Ca X.env) fp) tg g) (hgo : GOk C tf is g)
    (his : ∀ j ∈ is, j ∈ own.map (·.2)) (ht : ∀ (s : Shared) (H : Hp) (Ca : Addr) (cl : List (Str × Addr)) (fp : List Addr), PTs (X.blk s H scope (compEnvC scope cl Ca X.env) fp) ifs (tTs C WF ft))
    (he : ∀ (s : Shared) (H : Hp) (Ca : Addr) (cl : List (Str × Addr)) (fp : List Addr), PE (X.blk s H scope (compEnvC scope cl Ca X.env) fp) elt (tV C WF .fe fe))
    (hsw : swapsWith (.ListComp elt [⟨tg, iter, ifs, 0⟩] scope pos) (some (.Name y py)) spos.line X.env = pure true := by rfl) (hs : ∀ x, foldedSetIterable iter X.env x = pure x := by intro _; rfl) :
    PS X (.Assign [.Name y py] (.ListComp elt [⟨tg, iter, ifs, 0⟩] scope pos) spos) (tS C W (sSet i (eLc fi tf ft fe (own.map (·.2))))) := ps_imp (ps_setLc hc hN hy hyl hsw hi ok hg ht he hs) (t_setlc (t_lc hgo his))
end
section
variable {P : Program} {w : World} {K : PySem.W.Frag} {mg : Str → Option Value} {base : Heap} {k n : Nat} {l : List (Str × (List SV → Mo SV))} {y : Str} {F : List SV → Mo SV}
theorem hd_nil : ∀ x Fn, ([] : List (Str × (List SV → Mo SV))).lookup x = some Fn → DefOk P w K mg base k x n Fn := fun x Fn h => by cases h
theorem hd_cons (D : DefOk P w K mg base k y n F) (h : ∀ x Fn, l.lookup x = some Fn → DefOk P w K mg base k x n Fn) : ∀ x Fn, ((y, F) :: l).lookup x = some Fn → DefOk P w K mg base k x n Fn := fun x Fn e => by
  rw [List.lookup_cons] at e
  split at e
  · rename_i hx
    cases e
    rw [beq_iff_eq.mp hx]
    exact D
  · exact h x Fn e
/-- classes of exceptions by a table -/
def mtOf (l : List ((Str × Str) × Bool)) (c x : Str) : Option Bool := l.lookup (c, x)
def EmOk (K : PySem.W.Frag) (mg : Str → Option Value) (q : (Str × Str) × Bool) : Prop := ∃ Ca Cx, mg q.1.1 = some (.ref Ca) ∧ mg q.1.2 = some (.ref Cx) ∧ PySem.W.exmOne K (.ref Ca) (.ref Cx) = some q.2
theorem mt_ok : ∀ {l : List ((Str × Str) × Bool)}, (∀ q ∈ l, EmOk K mg q) → MtOk K mg (mtOf l)
  | [], _, c, x, b, Ca, Cx, h, _, _ => by cases h
  | q :: l, hl, c, x, b, Ca, Cx, h, h1, h2 => by
    obtain ⟨⟨c', x'⟩, b'⟩ := q
    unfold mtOf at h
    rw [List.lookup_cons] at h
    split at h
    · rename_i e
      cases h
      have e := beq_iff_eq.mp e
      cases e
      obtain ⟨Ca', Cx', e1, e2, e3⟩ := hl _ List.mem_cons_self
      have e1 : mg c = some (.ref Ca') := e1
      have e2 : mg x = some (.ref Cx') := e2
      rw [h1] at e1
      rw [h2] at e2
      cases e1
      cases e2
      exact e3
    · exact mt_ok (fun q m => hl q (List.mem_cons_of_mem _ m)) c x b Ca Cx h h1 h2
end
section
variable {X : Cx} {C : Ct} {W : WX} {x : Str} {pos : Pos}
theorem s_tryE {mt : Str → Str → Option Bool} {fb fh : Rho → Sto → Option Fl} {body suite : List Stmt} {b₀ : Stmt} {np pos' : Pos} (hK : C.K = X.K) (hM : C.mg = X.mg) (hmt : MtOk X.K X.mg mt) (E : ExcOk X.K X.mg x) (hs : X.stack = X.env :: X.outer) (hf : X.env.frame = some X.env.locals)
    (hg : Gl X x) (tk : Takes X W)
    (hb : ∀ (W : WX) (pn : List (Addr × Obj)) (xe : Value → Shared → Prop), Takes (X.tr pn xe) W → PassesOwn (model X.prog X.w) X.A X.env xe → PSs (X.tr pn xe) body (tS C W fb))
    (hsu : ∀ (a : Addr) (oe : Obj) (pn : List (Addr × Obj)), PSs (X.suite a ((a, oe) :: pn)) (b₀ :: suite) (tS C WF fh)) (hdb : (x == ("__debug__" : Str)) = false := by decide) :
    PS X (.Try body [.ExceptHandler (some (.Name x np)) none (b₀ :: suite) pos'] [] [] pos) (tS C W (sTry mt x fb fh)) := by
  obtain ⟨Ca, hm, _⟩ := E.ex
  exact s_try hK hM hmt hs hf hg hm tk hb hsu hdb
end
/-- a comprehension's block, by a look -/
def blkB (N : List Str) (sc scope : Scope) (own : List (Str × Nat)) : Bool :=
  (match scope.kind with
    | .function => true
    | _ => false) && scope.names.all (fun y => decide (scope.names.lookup y.1 = some y.2)) && own.all (fun p => decide (N[p.2]? = some p.1)) &&
  scope.names.all (fun y => decide (y.2 ≠ .free) || decide (sc.names.lookup y.1 = some .cell) || decide (sc.names.lookup y.1 = some .free)) &&
  scope.names.all fun y => decide (y.2 ≠ .local ∧ y.2 ≠ .cell) || decide (y.1 ∈ own.map (·.1)) || decide (y.1 ∉ N)
theorem blk_of {N : List Str} {sc scope : Scope} {own : List (Str × Nat)} (h : blkB N sc scope own = true) : BlkOk N sc scope own := by
  unfold blkB at h
  simp only [Bool.and_eq_true, List.all_eq_true, Bool.or_eq_true, decide_eq_true_eq] at h
  obtain ⟨⟨⟨⟨h1, h2⟩, h3⟩, h4⟩, h5⟩ := h
  refine ⟨?_, fun y m => h2 y m, fun p m => h3 p m, fun y m e => ?_, fun y m e => ?_⟩
  · split at h1
    · assumption
    · cases h1
  · rcases h4 y m with (z | z) | z
    · exact absurd e z
    · exact .inl z
    · exact .inr z
  · rcases h5 y m with (z | z) | z
    · exact absurd e (fun w => w.elim z.1 z.2)
    · exact .inl z
    · exact .inr z
end VL

end
section
set_option Elab.async false
set_option linter.all false
set_option maxRecDepth 100000
/-! VL17: what the head tells. -/
namespace VL
open PySem PySem.Spec PyProof.Rows L2
mutual
/-- constant data -/
def dqB (K : PySem.W.Frag) : PyData → Value → Bool
  | .none, .none => true
  | .bool b, .bool c => b == c
  | .int i, .int j _ => i == j
  | .str x, .str y _ => decide (x = y)
  | .tuple ds, .ref a => (match K.lookup a with
    | some ⟨.type c, _, .seq its _, _⟩ => decide (c = "tuple") && (decide (its.size ≤ sizeLine) && dqBs K ds its.toList)
    | _ => false)
  | _, _ => false
def dqBs (K : PySem.W.Frag) : List PyData → List Value → Bool
  | [], [] => true
  | d :: ds, u :: us => dqB K d u && dqBs K ds us
  | _, _ => false
end
mutual
theorem dqB_ok {K : PySem.W.Frag} : ∀ (d : PyData) (u : Value), dqB K d u = true → ∃ v, RelV v u ∧ ∀ (H : Hp) (F : Addr → Prop), Dq K H F d v
  | .none, u, h => by
    cases u <;> simp only [dqB, Bool.false_eq_true] at h
    exact ⟨.non, rfl, fun _ _ => .non⟩
  | .bool b, u, h => by
    cases u <;> simp only [dqB, Bool.false_eq_true] at h
    rename_i c
    have h := beq_iff_eq.mp h
    subst h
    exact ⟨.bl b, rfl, fun _ _ => .bl b⟩
  | .int i, u, h => by
    cases u <;> simp only [dqB, Bool.false_eq_true] at h
    rename_i c t
    have h := beq_iff_eq.mp h
    subst h
    exact ⟨.int i, ⟨t, rfl⟩, fun _ _ => .int i⟩
  | .str x, u, h => by
    cases u <;> simp only [dqB, Bool.false_eq_true] at h
    rename_i c t
    have h := of_decide_eq_true h
    subst h
    exact ⟨.str x, ⟨t, rfl⟩, fun _ _ => .str x⟩
  | .tuple ds, u, h => by
    cases u <;> simp only [dqB, Bool.false_eq_true] at h
    rename_i a
    split at h
    · rename_i c od its n sl hl
      obtain ⟨h1, h2⟩ := He.ba h
      obtain ⟨h3, h4⟩ := He.ba h2
      obtain ⟨vs, r, q⟩ := dqBs_ok ds its.toList h4
      have hlen : vs.length = its.size := by rw [r.length]; simp
      refine ⟨.ref a, rfl, fun H F => .ctup (.inr ⟨_, its, n, hl, congrArg Value.type (of_decide_eq_true h1), rfl, of_decide_eq_true h3, r⟩) (by rw [hlen]; exact of_decide_eq_true h3) (q H F)⟩
    · cases h
  | .list _, u, h => by cases u <;> simp [dqB] at h
  | .dict _, u, h => by cases u <;> simp [dqB] at h
theorem dqBs_ok {K : PySem.W.Frag} : ∀ (ds : List PyData) (us : List Value), dqBs K ds us = true → ∃ vs, Vals vs us ∧ ∀ (H : Hp) (F : Addr → Prop), DqL K H F ds vs
  | [], us, h => by
    cases us with
    | nil => exact ⟨[], .nil, fun _ _ => .nil⟩
    | cons _ _ => simp [dqBs] at h
  | d :: ds, us, h => by
    cases us with
    | nil => simp [dqBs] at h
    | cons u us =>
      obtain ⟨h1, h2⟩ := He.ba (by simpa only [dqBs] using h)
      obtain ⟨v, r, q⟩ := dqB_ok d u h1
      obtain ⟨vs, r2, q2⟩ := dqBs_ok ds us h2
      exact ⟨v :: vs, .cons r r2, fun H F => .cons (q H F) (q2 H F)⟩
end
def gcB (K : PySem.W.Frag) (x : Str) (d : PyData) : Bool := match PySem.W.nsIn K mainGlobals x with
  | some (some u) => dqB K d u
  | _ => false
section
variable {K : PySem.W.Frag} {h : Heap} {mg : Str → Option Value}
theorem gc_of (X : K.In h) (G : h.Ns mainGlobals mg) {x : Str} {d : PyData} (e : gcB K x d = true) : GlobC K mg x d := by
  unfold gcB at e
  split at e
  · rename_i u hu
    obtain ⟨v, r, q⟩ := dqB_ok d u e
    exact ⟨u, v, PySem.W.mg_of X G hu, r, q⟩
  · cases e
theorem exc_of (X : K.In h) (G : h.Ns mainGlobals mg) {x : Str} (c1 : (He.Fa.glo x).ok K = true) (c2 : (He.Fa.exc x).ok K = true) : ExcOk K mg x := by
  obtain ⟨a, b, c, d⟩ := He.exc_ok c2
  exact ⟨He.ga K x, He.glo_ok X G c1, a, b, c, d⟩
theorem em_of (X : K.In h) (G : h.Ns mainGlobals mg) {x y : Str} {b : Bool} (c1 : (He.Fa.glo x).ok K = true) (c2 : (He.Fa.glo y).ok K = true) (c3 : (He.Fa.exm x y b).ok K = true) : EmOk K mg ((x, y), b) := ⟨_, _, He.glo_ok X G c1, He.glo_ok X G c2, He.exm_ok c3⟩
def frs : List Str := ["len", "range", "isinstance", "int", "bool", "str", "tuple", "list", "abs", "max", "min", "all", "any", "sum", "sorted", "enumerate", "zip", "set", "dict", "repr"]
theorem fr_of (X : K.In h) (G : h.Ns mainGlobals mg) (c : ∀ x ∈ frs, (He.Fa.free x).ok K = true) : Fr mg := by
  have g : ∀ x ∈ frs, mg x = none := fun x m => He.free_ok X G (c x m)
  exact ⟨g _ (by decide), g _ (by decide), g _ (by decide), g _ (by decide), g _ (by decide), g _ (by decide), g _ (by decide), g _ (by decide), g _ (by decide), g _ (by decide), g _ (by decide), g _ (by decide), g _ (by decide), g _ (by decide), g _ (by decide), g _ (by decide), g _ (by decide), g _ (by decide), g _ (by decide), g _ (by decide)⟩
end
end VL

end
section
set_option Elab.async false
set_option linter.all false
set_option maxRecDepth 100000
/-! VL18: t[::-1] of a tuple, {k: v, ..}[e] of texts, several except clauses. -/
namespace VL
open PySem PySem.Spec PyProof.Rows L2
section
variable {prog : Program} {w : World} {A : Around} {E : Value → Shared → Prop} {s : Shared}
theorem adjust_rev (n : Nat) : Builtin.Slice.sliceAdjust none none (-1) (n : Int) = ((n : Int) - 1, -1) := rfl
theorem places_rev (n : Nat) : Builtin.Slice.slicePlaces ((n : Int) - 1) (-1) (-1) = n := by
  unfold Builtin.Slice.slicePlaces
  have h1 : ¬ ((-1 : Int) > 0) := by omega
  simp only [h1, if_false]
  by_cases h : (n : Int) - 1 > -1
  · rw [if_pos h, show (-(-1 : Int)) = 1 from rfl, Int.ediv_one]
    omega
  · rw [if_neg h]
    omega
theorem pick_rev (xs : Array Value) : ((List.range xs.size).filterMap fun (m : Nat) => xs[(((xs.size : Int) - 1) + (m : Int) * (-1)).toNat]?).toArray = xs.toList.reverse.toArray := by
  have e : (List.range xs.size).filterMap (fun (m : Nat) => xs[(((xs.size : Int) - 1) + (m : Int) * (-1)).toNat]?) = ((List.range xs.size).map fun k => xs.size - 1 - k).filterMap (xs[·]?) := by
    rw [List.filterMap_map]
    have cg : ∀ (l : List Nat) (f g : Nat → Option Value), (∀ k ∈ l, f k = g k) → l.filterMap f = l.filterMap g := by
      intro l f g h
      induction l with
      | nil => rfl
      | cons k l ih => rw [List.filterMap_cons, List.filterMap_cons, h k List.mem_cons_self, ih fun j m => h j (List.mem_cons_of_mem _ m)]
    refine cg _ _ _ fun k hk => ?_
    have hk := List.mem_range.mp hk
    have e : (((xs.size : Int) - 1) + (k : Int) * (-1)).toNat = xs.size - 1 - k := by omega
    show xs[(((xs.size : Int) - 1) + (k : Int) * (-1)).toNat]? = xs[xs.size - 1 - k]?
    rw [e]
  rw [e, PySem.W.krv_range, List.filterMap_reverse, PySem.W.krv_all]
theorem rev_ap {sl : Addr} {vl vu vs : Value} {n : Nat} {Q : Int × Int × Nat → Shared → Prop} (hs : s.heap.IsSliceOf sl vl vu vs) (pl : IsPart vl none) (pu : IsPart vu none) (ps : IsPart vs (some (-1))) (h : Q (((n : Int) - 1), -1, n) s) : wpAny (model prog w) A (Builtin.Slice.sliceApplied (.ref sl) (pure (n : Int))) Q E s := by
  obtain ⟨os, hos, hcs, hds⟩ := id hs
  unfold Builtin.Slice.sliceApplied Builtin.Slice.sliceFields
  refine wpAny_bind (wpAny_bind (wpAny_field hos hds (x := vl) rfl (wpAny_bind (wpAny_field hos hds (x := vu) rfl (wpAny_bind (wpAny_field hos hds (x := vs) rfl (wpAny_pure ?_)))))))
  refine wpAny_bind (HT.slicePart_ ps ?_)
  show wpAny _ _ (if ((-1 : Int) == 0) = true then _ else _) _ _ s
  rw [if_neg (by decide)]
  refine wpAny_bind (HT.slicePart_ pl (wpAny_bind (HT.slicePart_ pu (wpAny_bind (wpAny_pure ?_)))))
  show wpAny _ _ (match Builtin.Slice.sliceAdjust none none (-1) (n : Int) with | (lo, hi) => pure (lo, (-1 : Int), Builtin.Slice.slicePlaces lo hi (-1))) _ _ s
  rw [adjust_rev]
  show wpAny _ _ (pure (((n : Int) - 1), (-1 : Int), Builtin.Slice.slicePlaces ((n : Int) - 1) (-1) (-1))) _ _ s
  rw [places_rev]
  exact wpAny_pure h
theorem getItem_tuple_rev {t sl : Addr} {items : Array Value} {vl vu vs : Value} {Q : Value → Shared → Prop} (ht : IsTup s.heap t items) (hs : s.heap.IsSliceOf sl vl vu vs) (pl : IsPart vl none) (pu : IsPart vu none) (ps : IsPart vs (some (-1)))
    (h : Q (.ref s.heap.objs.size) { s with heap := s.heap.push { cls := .type "tuple", data := .seq items.toList.reverse.toArray } })
    (hsz : items.size ≤ sizeLine) : wpAny (model prog w) A (getItem (.ref t) (.ref sl)) Q E s := by
  have htake : sizeOk (.seq items.toList.reverse.toArray) := by
    show items.toList.reverse.toArray.size ≤ sizeLine
    rw [List.size_toArray, List.length_reverse, Array.length_toList]
    exact hsz
  obtain ⟨os, hos, hcs, hds⟩ := id hs
  have hTs : s.TypeIs (.ref sl) "slice" := ⟨os, hos, hcs⟩
  unfold getItem
  try with_reducible refine wpAny_holding ?_
  first | refine wpAny_bind (wpAny_pure ?_) | skip
  refine wpAny_bind (wpAny_sequenceKey ht.typeIs (by decide) ?_)
  refine wpAny_bind (wpAny_callSpecial?_slot (name := Str.ofString "__getitem__") ht.typeIs PyProof.Rows.slot_tuple_getitem
    (wpAny_call_entry PyProof.Rows.slot_tuple_getitem ht.typeIs entry_tuple_getitem ?_ (args_tuple_getitem _ _)))
  show wpAny _ _ (Builtin.Tuple.tupleItemsOf (.ref t) >>= _) _ _ s
  refine wpAny_bind (tupleItemsOf_ ht ?_)
  refine wpAny_bind (wpAny_typeOf hTs ?_)
  rw [if_pos (by decide)]
  refine wpAny_bind (rev_ap hs pl pu ps ?_)
  have hno : ¬ ((((items.size : Int) - 1) == 0 && (-1 : Int) == 1 && items.size == items.size) = true) := by
    intro q
    rw [Bool.and_eq_true, Bool.and_eq_true] at q
    exact absurd q.1.2 (by decide)
  show wpAny _ _ (if (((items.size : Int) - 1) == 0 && (-1 : Int) == 1 && items.size == items.size) = true then _ else _) _ _ s
  rw [if_neg hno, pick_rev]
  first
    | exact wpAny_bind (m := Builtin.Tuple.tupleExact _) (wpAny_newObj_type (wpAny_pure ⟨_, rfl, wpAny_pure h⟩) htake)
    | exact wpAny_bind (m := Builtin.Tuple.tupleExact _) (wpAny_newObj_type (wpAny_bind (wpAny_pure (wpAny_pure ⟨_, rfl, wpAny_pure h⟩))) htake)
    | exact wpAny_bind (wpAny_bind (m := Builtin.Tuple.tupleExact _) (wpAny_newObj_type (wpAny_pure (wpAny_pure ⟨_, rfl, wpAny_pure h⟩)) htake))
    | exact wpAny_bind (wpAny_bind (m := Builtin.Tuple.tupleExact _) (wpAny_newObj_type (wpAny_pure ⟨_, rfl, wpAny_pure h⟩) htake))
end
section
variable {X : Cx} {C : Ct} {W : WX} {pos : Pos}
/-- x[::-1] of a tuple or a list -/
def tRevA (K : PySem.W.Frag) (te : TE) : TE := fun σ H Q => te σ H fun x H1 => ∃ a xs, x = .ref a ∧ ((SqT K H1 a xs ∧ ∀ p, H1 p = none → Q (.ref p) (upd H1 p (.tup xs.reverse))) ∨ (SqL K H1 a xs ∧ ∀ p, H1 p = none → Q (.ref p) (upd H1 p (.lst xs.reverse))))
theorem pe_revA {e : Expr} {te : TE} {k : Nat} {p1 p2 p3 pos : Pos} (he : PE X e te) : PE X (.Subscript e (.Slice none none (some (.UnaryOp .USub (.Constant (.int 1) k p1) p2)) p3) pos) (tRevA X.K te) := by
  refine ⟨fun pins s σ H Q I h => ?_⟩
  refine Subscript_ (thn (he.run pins s σ H _ I h) fun v s1 ⟨x, H1, I1, r1, q1⟩ => ?_)
  obtain ⟨a, xs, ex, q⟩ := q1
  subst ex
  cases r1
  have hst : PO X (some (.UnaryOp .USub (.Constant (.int 1) k p1) p2)) (tPart (tUn (rU fun i => .int (-i)) (tC (.int 1)))) := po_some (pe_un un_neg pe_int)
  refine wpAny_Slice (thn (po_none.run pins s1 σ H1 (fun o H2 => o = none ∧ H2 = H1) I1 ⟨rfl, rfl⟩) fun vl s2 ⟨l, H2, I2, pl, el, e2⟩ => ?_)
  subst el e2
  refine thn (po_none.run pins s2 σ H2 (fun o H3 => o = none ∧ H3 = H2) I2 ⟨rfl, rfl⟩) fun vu s3 ⟨u, H3, I3, pu, eu, e3⟩ => ?_
  subst eu e3
  refine thn (hst.run pins s3 σ H3 (fun o H4 => o = some (-1) ∧ H4 = H3) I3 ⟨1, rfl, -1, rfl, rfl, rfl⟩) fun vs s4 ⟨o, H4, I4, ps, eo, e4⟩ => ?_
  subst eo e4
  have I5 : Inv X pins σ H4 { s4 with heap := s4.heap.push { cls := .type "slice", data := .fields #[vl, vu, vs] } } := I4.kept (t' := s4.toks) fun b ob q => Heap.get?_push_of_some _ q
  show wpAny (model X.prog X.w) X.A (subscriptTail e (.Slice none none (some (.UnaryOp .USub (.Constant (.int 1) k p1) p2)) p3) (.ref a) (.ref s4.heap.objs.size)) (EP X pins σ Q) X.xe { s4 with heap := s4.heap.push { cls := .type "slice", data := .fields #[vl, vu, vs] } }
  rcases q with ⟨hx, q⟩ | ⟨hx, q⟩
  · obtain ⟨its, r, ht, hz⟩ := I5.tuple hx
    have hlen := r.length
    refine tail_any (ops := [.ref a, .ref s4.heap.objs.size]) ht.typeIs (PyProof.Rows.slot_tuple_getitem.lookup) ?_ (by with_unfolding_all rfl)
    refine getItem_tuple_rev ht (Heap.IsSliceOf.new _ vl vu vs) pl pu ps ?_ (by rw [List.size_toArray]; omega)
    refine ⟨.ref _, _, I5.laid (t' := s4.toks) (o := .tup xs.reverse) (fun b ob q => Heap.get?_push_of_some _ q) (Nat.le_refl _) ?_, rfl, q _ (I5.hok.fresh (Nat.le_refl _))⟩
    exact ⟨by rw [List.length_reverse]; exact hz, _, r.reverse, IsTup.new _ _⟩
  · obtain ⟨its, r, ht, hz⟩ := I5.list hx
    have hlen := r.length
    refine tail_any (ops := [.ref a, .ref s4.heap.objs.size]) ht.isList.typeIs (PySem.slot_list_getitem.lookup) ?_ (by with_unfolding_all rfl)
    refine wpAny_getItem_list_slice ht.isList (Heap.IsSliceOf.new _ vl vu vs) pl pu ps (by decide) ?_ (by rw [List.size_toArray]; omega)
    rw [PySem.W.krv_pick]
    refine ⟨.ref _, _, I5.laid (t' := s4.toks) (o := .lst xs.reverse) (fun b ob q => Heap.get?_push_of_some _ q) (Nat.le_refl _) ?_, rfl, q _ (I5.hok.fresh (Nat.le_refl _))⟩
    exact ⟨by rw [List.length_reverse]; exact hz, _, 0, r.reverse, Heap.get?_push_size _ rfl⟩
theorem DqL.reverse {K : PySem.W.Frag} {H : Hp} {F : Addr → Prop} : ∀ {ds : List PyData} {vs : List V}, DqL K H F ds vs → DqL K H F ds.reverse vs.reverse
  | [], _, h => by cases h; exact .nil
  | d :: ds, _, h => by
    cases h with
    | cons h1 h2 =>
      rw [List.reverse_cons, List.reverse_cons]
      exact DqL.app (DqL.reverse h2) (.cons h1 .nil)
def gRev (_ : Sto) (x : SV) : Option SV := match x with
  | .d (.tuple ds) => some (.d (.tuple ds.reverse))
  | _ => none
def eRev (f : Rho → Mo SV) : Rho → Mo SV := fun ρ S => bindM (f ρ S) fun x S1 => match x with
  | .d (.tuple ds) => some (.ok (.d (.tuple ds.reverse)) S1)
  | _ => none
theorem v_rev (hk : C.K = X.K) {e : Expr} {fa : Rho → Mo SV} {ka kd : Kd} {k : Nat} {p1 p2 p3 : Pos} (ha : PE X e (tV C W ka fa)) : PE X (.Subscript e (.Slice none none (some (.UnaryOp .USub (.Constant (.int 1) k p1) p2)) p3) pos) (tV C W kd (eRev fa)) := by
  refine pe_imp (pe_revA ha) fun σ H Q ⟨P, ρ, S, A, G, hP, I, q⟩ => ⟨P, ρ, S, A, G, hP, I, EGood.step q (fun _ _ _ _ _ _ z => z) fun x S1 q v H1 p__ => ?_⟩
  obtain ⟨A1, g1, P1, e1, hP1, I1, k1, _⟩ := p__.next
  split at q
  · rename_i ds
    obtain ⟨a, vs, rfl, hs, l, r⟩ := k1.tup
    have I2 : Sim (C.pr P) ρ S1 A1 G σ H1 := (show Sim ((C.pr P1).pr P) ρ S1 A1 G σ H1 from Sim.prc I1 hP1)
    refine ⟨a, vs, rfl, .inl ⟨hk ▸ hs, fun p hp => q _ _ ((EPost.tup I2 (DqL.reverse r) (by rw [List.length_reverse]; exact l) hp).trans e1)⟩⟩
  · exact q.elim
/-! ### {k: v, ..}[e] -/
theorem u1 {k : Nat} {A : Around} (r : Room k A) : A.units + 1 < cLine := by have := r.un; omega
def mapAt (l : List (Str × Str)) (s : Str) : Option Str := l.foldl (fun o kv => if s = kv.1 then some kv.2 else o) none
def eMap (l : List (Str × Str)) (f : Rho → Mo SV) : Rho → Mo SV := fun ρ S => bindM (f ρ S) fun x S1 => match x with
  | .d (.str s) => (mapAt l s).map fun t => .ok (.d (.str t)) S1
  | _ => none
theorem tPairs_str {σ : L2.St} : ∀ (l : List (Str × Str)) (H : Hp) (Q : List (V × V) → Hp → Prop), Q (l.map fun kv => (V.str kv.1, V.str kv.2)) H → tPairs (l.map fun kv => (tC (.str kv.1), tC (.str kv.2))) σ H Q
  | [], H, Q, h => h
  | kv :: l, H, Q, h => tPairs_str l H _ h
theorem valV_merge (s : Str) : ∀ (l : List (Str × Str)) (acc : List (Key × V)) (o : Option Str), valV acc (.inr s) = o.map V.str → valV (mergeK acc (l.map fun kv => ((.inr kv.1 : Key), V.str kv.2))) (.inr s) = (l.foldl (fun o kv => if s = kv.1 then some kv.2 else o) o).map V.str
  | [], acc, o, h => h
  | kv :: l, acc, o, h => by
    refine valV_merge s l (putK acc (.inr kv.1) (.str kv.2)) _ ?_
    rw [valV_put]
    by_cases e : s = kv.1
    · simp [e]
    · have e2 : ¬ kv.1 = s := fun z => e z.symm
      simp [e, e2, h]
theorem v_map (l : List (Str × Str)) {keys : List (Option Expr)} {values : List Expr} {i : Expr} {f : Rho → Mo SV} {kd : Kd} {p2 : Pos} (hu : X.A.units + 1 < cLine) (h : PPs X p2 keys values (l.map fun kv => (tC (.str kv.1), tC (.str kv.2))))
    (hall : keys.all (·.isSome) = true) (hl : keys.length = values.length) (h0 : keys ≠ []) (h15 : keys.length ≤ 15) (hl15 : l.length ≤ 15) (ha : PE X i (tV C W .be f)) (hs : NoSl i) :
    PE X (.Subscript (.Dict keys values p2) i pos) (tV C W kd (eMap l f)) := by
  refine pe_imp (pe_dget hu (pe_disp h hall hl h0 h15) ha hs) fun σ H Q ⟨P, ρ, S, A, G, hP, I, q⟩ => fun p hp => tPairs_str l _ _ ⟨upd_same .., l.map fun kv => ((.inr kv.1 : Key), V.str kv.2), by rw [List.map_map]; rfl, by rw [List.length_map]; exact hl15, ?_⟩
  rw [upd_upd]
  have I1 := Sim.newP (o := .dK (mergeK [] (l.map fun kv => ((.inr kv.1 : Key), V.str kv.2)))) I hp
  refine ⟨fun a => P a ∨ a = p, ρ, S, A, G, fun a z => .inl (hP a z), I1, EGood.step q (fun _ _ _ _ _ _ z => z.trans (Ext.upd hp)) fun x S1 q v H1 p__ => ?_⟩
  obtain ⟨A1, g1, P1, e1, hP1, I2, k1, _⟩ := p__.next
  split at q
  · rename_i s
    have hv := k1.str
    subst hv
    cases hm : mapAt l s with
    | none => rw [hm] at q; exact q.elim
    | some t =>
      rw [hm] at q
      have np : p ∉ A := fun z => (I.fsTrk (.inl z)) hp
      have hH : H1 p = some (.dK (mergeK [] (l.map fun kv => ((.inr kv.1 : Key), V.str kv.2)))) := e1.keep p _ (upd_same ..) np
      have hg : DGet H1 p (.str s) (some (.str t)) := by
        have := DGet.k (k := .inr s) hH
        rw [valV_merge s l [] none rfl] at this
        rw [show (l.foldl (fun o kv => if s = kv.1 then some kv.2 else o) none) = some t from hm] at this
        exact this
      have I3 : Sim (C.pr P) ρ S1 A1 G σ H1 := (show Sim ((C.pr P1).pr P) ρ S1 A1 G σ H1 from Sim.prc I2 fun a z => hP1 a (.inl z))
      exact ⟨p, .str t, rfl, hg, q _ _ ((EPost.same I3 (Rk.dat (.str _))).trans ((Ext.upd hp).trans e1))⟩
  · exact q.elim
/-! ### several except clauses -/
abbrev SFn := Rho → Sto → Option Fl
def exM (mt : Str → Str → Option Bool) : List (Str × SFn) → Str → List (Str × SV) → Rho → Sto → Option Fl
  | [], c, fs, ρ, S => some (.exc c fs ρ S)
  | (x, h) :: r, c, fs, ρ, S => match mt c x with
    | some true => noX (h ρ S)
    | some false => exM mt r c fs ρ S
    | none => none
def sTryM (mt : Str → Str → Option Bool) (l : List (Str × SFn)) (b : SFn) : SFn := fun ρ S => match b ρ S with
  | some (.exc c fs ρ1 S1) => exM mt l c fs ρ1 S1
  | r => r
inductive HdM (X : Cx) (C : Ct) : List ExceptHandler → List (Str × SFn) → Prop
  | nil : HdM X C [] []
  | cons {x : Str} {fh : SFn} {b₀ : Stmt} {suite : List Stmt} {np pos' : Pos} {hds : List ExceptHandler} {l : List (Str × SFn)} (E : ExcOk X.K X.mg x) (hg : Gl X x)
      (hsu : ∀ (a : Addr) (oe : Obj) (pn : List (Addr × Obj)), PSs (X.suite a ((a, oe) :: pn)) (b₀ :: suite) (tS C WF fh)) (r : HdM X C hds l) (hdb : (x == ("__debug__" : Str)) = false := by decide) :
      HdM X C (.ExceptHandler (some (.Name x np)) none (b₀ :: suite) pos' :: hds) ((x, fh) :: l)
theorem HdM.ok {mt : Str → Str → Option Bool} (hM : C.mg = X.mg) (hmt : MtOk X.K X.mg mt) {hds : List ExceptHandler} {l : List (Str × SFn)} (h : HdM X C hds l) :
    ∃ l', HdsOk X hds l' ∧ ∀ (D : Ends) (A : List Addr) (G : List (List Addr)) (H : Hp) (c : Str) (fs : List (Str × SV)) (ρ : Rho) (S : Sto), SGood C W A G H D (exM mt l c fs ρ S) → SGood C (wMany X.K W D l') A G H D (some (.exc c fs ρ S)) := by
  induction h with
  | nil => exact ⟨[], .nil, fun D A G H c fs ρ S q => q⟩
  | @cons x fh b₀ suite np pos' hds l E hg hsu r hdb ih =>
    obtain ⟨l', hl, ih⟩ := ih
    obtain ⟨Cx, hx, _⟩ := E.ex
    refine ⟨(.ref Cx, fun _ _ _ => tS C WF fh) :: l', .cons ⟨hg, hdb, .inl hx⟩ (fun a oe cls d pn _ _ => hsu a oe pn) hl, fun D A G H c fs ρ S q => ?_⟩
    unfold exM at q
    rintro A' G' σ' H' cls d ex J ⟨Ca, hc, rfl, hfs⟩
    cases hmc : mt c x with
    | none => rw [hmc] at q; exact q.elim
    | some k =>
      rw [hmc] at q
      refine ⟨k, hmt c x k Ca Cx hmc (by rw [← hM]; exact hc) hx, fun e a _ => ?_, fun e => ?_⟩
      · subst e
        exact ⟨ρ, S, A', G', J, SGood.ext ex (SGood.noX q)⟩
      · subst e
        exact ih D A G H c fs ρ S q A' G' σ' H' (.ref Ca) d ex J ⟨Ca, hc, rfl, hfs⟩
theorem s_tryM {mt : Str → Str → Option Bool} {fb : SFn} {body : List Stmt} {h₀ : ExceptHandler} {hds : List ExceptHandler} {l : List (Str × SFn)} (hM : C.mg = X.mg) (hmt : MtOk X.K X.mg mt) (hd : HdM X C (h₀ :: hds) l) (hs : X.stack = X.env :: X.outer) (hf : X.env.frame = some X.env.locals)
    (tk : Takes X W)
    (hb : ∀ (W : WX) (pn : List (Addr × Obj)) (xe : Value → Shared → Prop), Takes (X.tr pn xe) W → PassesOwn (model X.prog X.w) X.A X.env xe → PSs (X.tr pn xe) body (tS C W fb)) :
    PS X (.Try body (h₀ :: hds) [] [] pos) (tS C W (sTryM mt l fb)) := by
  obtain ⟨l', hl, hw⟩ := hd.ok (W := W) hM hmt
  refine ps_imp (ps_try_many (tb := fun W => tS C W fb) hs hf tk hb hl) fun D σ H ⟨ρ, S, A, G, I, q⟩ => ⟨ρ, S, A, G, I, ?_⟩
  unfold sTryM at q
  cases hr : fb ρ S with
  | none => rw [hr] at q; exact q
  | some r =>
    rw [hr] at q
    cases r with
    | nx ρ' S' => exact q
    | bk ρ' S' => exact q
    | ct ρ' S' => exact q
    | rt z S' => exact q
    | exc c fs ρ' S' => exact hw D A G H c fs ρ' S' q
end
end VL

end
section
set_option Elab.async false
set_option linter.all false
set_option maxRecDepth 100000
/-! VL19: tuple * int; x in a tuple of flat items. -/
namespace VL
open PySem PySem.Spec PyProof.Rows L2
section
variable {X : Cx} {C : Ct} {W : WX} {kd ka kb : Kd} {a b : Expr} {pos : Pos} {fa fb : Rho → Mo SV}
/-! ### tuple * int -/
def gMulA (S : Sto) (x y : SV) : Option SV := match x, y with
  | .d (.tuple ds), .d (.int k) => if decide (ds ≠ []) && decide (2 ≤ k ∧ k ≤ 1000) && decide (ds.length ≤ 1000) then some (.d (.tuple (List.replicate k.toNat ds).flatten)) else none
  | x, y => gMul S x y
theorem DqL.rep {K : PySem.W.Frag} {H : Hp} {F : Addr → Prop} {ds : List PyData} {vs : List V} (r : DqL K H F ds vs) : ∀ n : Nat, DqL K H F (List.replicate n ds).flatten (List.replicate n vs).flatten
  | 0 => .nil
  | n + 1 => by
    rw [List.replicate_succ, List.replicate_succ, List.flatten_cons, List.flatten_cons]
    exact r.app (DqL.rep r n)
theorem sizeL : 1000000 ≤ sizeLine := by rw [sizeLine_eq]; omega
theorem v_mulA (hk : C.K = X.K) (ha : PE X a (tV C W ka fa)) (hb : PE X b (tV C W kb fb)) : PE X (.BinOp a .Mult b pos) (tV C W kd (eBin gMulA fa fb)) := v_op (op_repT.or (op_mulI.or op_rep)) (fun C ρ S A G σ H0 H1 H x y z v u gx gy Q hK I rx ry h q => by
  unfold gMulA at h
  split at h
  · rename_i ds k
    split at h
    · rename_i hc
      cases h
      simp only [Bool.and_eq_true, decide_eq_true_eq] at hc
      obtain ⟨⟨h0, h2, h3⟩, h4⟩ := hc
      obtain ⟨a, vs, rfl, hs, l, r⟩ := rx.tup
      have hl := r.length
      refine .inl ⟨a, k, vs, rfl, ry.int, (by rw [← hk, ← hK]; exact hs), fun e => h0 (by rw [e] at hl; exact List.length_eq_zero_iff.mp hl.symm), h2, h3, by rw [hl]; exact h4, fun p hp => q _ _ (EPost.tup I (r.rep k.toNat) ?_ hp)⟩
      simp only [List.length_flatten, List.map_replicate, List.sum_replicate_nat]
      refine Nat.le_trans (Nat.mul_le_mul (show k.toNat ≤ 1000 by omega) (show vs.length ≤ 1000 by omega)) sizeL
    · cases h
  · unfold gMul at h
    split at h
    · rename_i i j _
      split at h
      · rename_i hm
        cases h
        exact .inr (.inl ⟨i, j, rx.int, ry.int, mulOk.ok hm, q _ H (EPost.same I (Rk.dat (.int _)))⟩)
      · cases h
    · rename_i k _ _
      simp only [Option.bind_eq_some_iff] at h
      obtain ⟨xs, hx, h⟩ := h
      split at h
      · rename_i hc
        cases h
        simp only [Bool.and_eq_true, decide_eq_true_eq] at hc
        obtain ⟨a, vs, ga, rfl, ha, l1, r1⟩ := rx.lst I hx
        have hl := r1.len
        refine .inr (.inr ⟨a, k, vs, rfl, ry.int, ha, (smI_lt hc.1.2).1, (smI_lt hc.1.2).2, by rw [hl]; exact hc.2, fun p hp => q _ _ ?_⟩)
        obtain ⟨r1, n1⟩ := r1
        obtain rfl := r1.noOwn hc.1.1
        refine EPost.lst (g := []) (H1 := H) I ⟨r1.rep k.toNat, fun a m => by cases m⟩ ?_ ?_ hp
        · rw [List.all_flatten]
          simp only [List.all_eq_true, List.mem_replicate]
          rintro l ⟨_, rfl⟩
          intro y hy
          exact List.all_eq_true.mp hc.1.1 y hy
        · simp only [List.length_flatten, List.map_replicate, List.sum_replicate_nat]
          rw [Nat.mul_comm, hl]
          exact hc.2
      · cases h
    · cases h) ha hb
/-! ### x in (a, b, ..) -/
def flatD : PyData → Option V
  | .none => some .non
  | .bool b => some (.bl b)
  | .int i => some (.int i)
  | .str s => some (.str s)
  | _ => none
def flatDs : List PyData → Option (List V)
  | [] => some []
  | d :: ds => (flatD d).bind fun v => (flatDs ds).map (v :: ·)
theorem flatD_ok {K : PySem.W.Frag} {H : Hp} {F : Addr → Prop} {d : PyData} {v w : V} (r : Dq K H F d v) (h : flatD d = some w) : v = w ∧ flatV w = true := by
  cases r <;> simp [flatD] at h <;> subst h <;> exact ⟨rfl, rfl⟩
theorem flatDs_ok {K : PySem.W.Frag} {H : Hp} {F : Addr → Prop} : ∀ {ds : List PyData} {vs ws : List V}, DqL K H F ds vs → flatDs ds = some ws → vs = ws ∧ ws.all flatV = true
  | [], _, _, r, h => by cases r; cases h; exact ⟨rfl, rfl⟩
  | d :: ds, _, _, r, h => by
    cases r with
    | cons r1 r2 =>
      simp only [flatDs, Option.bind_eq_some_iff, Option.map_eq_some_iff] at h
      obtain ⟨v, h1, ws, h2, rfl⟩ := h
      obtain ⟨rfl, f1⟩ := flatD_ok r1 h1
      obtain ⟨rfl, f2⟩ := flatDs_ok r2 h2
      exact ⟨rfl, by rw [List.all_cons, f1, f2]; rfl⟩
def inT (neg : Bool) (x y : SV) : Option Bool := match x, y with
  | .d d, .d (.tuple ds) => (flatD d).bind fun v => (flatDs ds).map fun vs => xor neg (inV v vs)
  | _, _ => none
def gInT (_ : Sto) (x y : SV) : Option Bool := inT false x y
def gNotInT (_ : Sto) (x y : SV) : Option Bool := inT true x y
theorem c_inN (neg : Bool) {K : PySem.W.Frag} : CmpOk K ka kb (fun _ x y => inT neg x y) (rIn K neg) := (fun C ρ S A G σ H0 H1 H x y b v u gx gy Q hK I rx ry h q => by
  subst hK
  have h : inT neg x y = some b := h
  unfold inT at h
  split at h
  · rename_i d ds
    simp only [Option.bind_eq_some_iff, Option.map_eq_some_iff] at h
    obtain ⟨v', h1, vs', h2, rfl⟩ := h
    obtain ⟨a, vs, rfl, hs, l, r⟩ := ry.tup
    obtain ⟨rfl, f1⟩ := flatD_ok rx.undat h1
    obtain ⟨rfl, f2⟩ := flatDs_ok r h2
    exact ⟨a, vs, rfl, .inr hs, f1, f2, by cases neg <;> simpa using q⟩
  · cases h)
theorem v_inT (hk : C.K = X.K) (ha : PE X a (tV C W ka fa)) (hb : PE X b (tV C W kb fb)) (hm : behindInMarks .In b = false) : PE X (.Compare a [.In] [b] pos) (tV C W kd (eBin (cB gInT) fa fb)) := v_cmpB op_in_seq (hk ▸ c_inN false) ha hb hm
theorem v_notInT (hk : C.K = X.K) (ha : PE X a (tV C W ka fa)) (hb : PE X b (tV C W kb fb)) (hm : behindInMarks .NotIn b = false) : PE X (.Compare a [.NotIn] [b] pos) (tV C W kd (eBin (cB gNotInT) fa fb)) := v_cmpB op_notIn_seq (hk ▸ c_inN true) ha hb hm
theorem t_inT (hk : C.K = X.K) (ha : PE X a (tV C W ka fa)) (hb : PE X b (tV C W kb fb)) (hm : behindInMarks .In b = false) : PT X (.Compare a [.In] [b] pos) (tTs C W (bB (eBin (cB gInT) fa fb))) := t_cmp op_in_seq (hk ▸ c_inN false) ha hb hm
theorem t_notInT (hk : C.K = X.K) (ha : PE X a (tV C W ka fa)) (hb : PE X b (tV C W kb fb)) (hm : behindInMarks .NotIn b = false) : PT X (.Compare a [.NotIn] [b] pos) (tTs C W (bB (eBin (cB gNotInT) fa fb))) := t_cmp op_notIn_seq (hk ▸ c_inN true) ha hb hm
end
end VL

end
section
set_option Elab.async false
set_option linter.all false
set_option maxRecDepth 100000
/-! VL20: x *= e, x += e of ints; 1 << e; e.bit_length(). -/
namespace VL
open PySem PySem.Spec PyProof.Rows L2
section
variable {X : Cx} {C : Ct} {W : WX} {kd ka kb : Kd} {a b e : Expr} {pos : Pos} {f fa fb : Rho → Mo SV} {i : Nat} {x : Str}
/-- x op= e where both are ints -/
def sAug (i : Nat) (g : Int → Int → Option Int) (f : Rho → Mo SV) : Rho → Sto → Option Fl := fun ρ S => match ρ[i]? with
  | some (some (.d (.int a))) => bindS ρ (f ρ S) fun y S1 => match y with
    | .d (.int b) => (g a b).map fun c => .nx (ρ.set i (some (.d (.int c)))) S1
    | _ => none
  | _ => none
theorem iop_mulI : OpR X (inplaceOp .Mult) (rI IntMulOk fun i j => .int (i * j)) := opI fun _ _ _ _ _ _ _ hc q => imul_int q hc
theorem s_augI {op : Operator} {g : Int → Int → Option Int} {r : R2} {pos' : Pos} (hN : X.N.Nodup) (hi : X.N[i]? = some x) (hx : Loc X.env.scope x) (he : PE X e (tV C W .be f)) (ho : OpR X (inplaceOp op) r)
    (hr : ∀ (p q c : Int) (H : Hp) (Q : VK), g p q = some c → Q (.int c) H → r (.int p) (.int q) H Q) (hf : X.fn x = true ∨ X.env.scope.names.lookup x = some .local := by first | exact .inl rfl | exact .inr rfl | assumption) :
    PS X (.AugAssign (.Name x pos') op e pos) (tS C W (sAug i g f)) := by
  refine ps_imp (ps_aug (ti := r) hN hi hx he ho hf) fun D σ H ⟨ρ, S, A, G, I, q⟩ => ?_
  unfold sAug at q
  split at q
  · rename_i p hρ
    obtain ⟨v, g0, hv, hs, _⟩ := I.slots i _ hρ
    cases hs with
    | d hd =>
      cases hd
      refine ⟨.int p, hv, C.Pr, ρ, S, A, G, fun _ h => h, I, SGood.step q fun y S' q v' H' p' => ?_⟩
      obtain ⟨A', g', P1, e1, hP1, I1, k1, _⟩ := (show EPost (C.pr C.Pr) .be ρ A G σ H y S' v' H' from p').next
      split at q
      · rename_i b
        obtain rfl := k1.int
        cases hg : g p b with
        | none => rw [hg] at q; exact q.elim
        | some c =>
          rw [hg] at q
          refine hr p b c H' _ hg ?_
          have J : Sim C ρ S' A' G σ H' := (show Sim ((C.pr P1).pr C.Pr) ρ S' A' G σ H' from Sim.prc I1 hP1)
          exact q _ _ _ _ (put_ext (g := []) e1 fun a m => by cases m) (Sim.put (g := []) (Sim.prc J fun a z => z.elim id fun z => by cases z) (.d (.int c)) (by simp) (fun a m => by cases m) (fun a m => by cases m))
      · exact q.elim
  · exact q.elim
def gMulI (p q : Int) : Option Int := if mulOk p q then some (p * q) else none
def gAddI (p q : Int) : Option Int := some (p + q)
def gSubI (p q : Int) : Option Int := some (p - q)
theorem s_augMul {pos' : Pos} (hN : X.N.Nodup) (hi : X.N[i]? = some x) (hx : Loc X.env.scope x) (he : PE X e (tV C W .be f)) (hf : X.fn x = true ∨ X.env.scope.names.lookup x = some .local := by first | exact .inl rfl | exact .inr rfl | assumption) :
    PS X (.AugAssign (.Name x pos') .Mult e pos) (tS C W (sAug i gMulI f)) := s_augI hN hi hx he iop_mulI (fun p q c H Q hg hq => by
  unfold gMulI at hg
  split at hg
  · rename_i hm
    cases hg
    exact ⟨p, q, rfl, rfl, mulOk.ok hm, hq⟩
  · cases hg) hf
theorem s_augAdd {pos' : Pos} (hN : X.N.Nodup) (hi : X.N[i]? = some x) (hx : Loc X.env.scope x) (he : PE X e (tV C W .be f)) (hf : X.fn x = true ∨ X.env.scope.names.lookup x = some .local := by first | exact .inl rfl | exact .inr rfl | assumption) :
    PS X (.AugAssign (.Name x pos') .Add e pos) (tS C W (sAug i gAddI f)) := s_augI hN hi hx he iop_add (fun p q c H Q hg hq => by
  cases hg
  exact ⟨p, q, rfl, rfl, hq⟩) hf
theorem s_augSub {pos' : Pos} (hN : X.N.Nodup) (hi : X.N[i]? = some x) (hx : Loc X.env.scope x) (he : PE X e (tV C W .be f)) (hf : X.fn x = true ∨ X.env.scope.names.lookup x = some .local := by first | exact .inl rfl | exact .inr rfl | assumption) :
    PS X (.AugAssign (.Name x pos') .Sub e pos) (tS C W (sAug i gSubI f)) := s_augI hN hi hx he iop_sub (fun p q c H Q hg hq => by
  cases hg
  exact ⟨p, q, rfl, rfl, hq⟩) hf
/-! ### 1 << e, e.bit_length() -/
def gShl (_ : Sto) (x y : SV) : Option SV := match x, y with
  | .d (.int p), .d (.int q) => if decide (0 ≤ q) && decide (q.natAbs + Builtin.Int.intBits p < 134217728) then some (.d (.int (p * 2 ^ q.toNat))) else none
  | _, _ => none
theorem v_shl (ha : PE X a (tV C W ka fa)) (hb : PE X b (tV C W kb fb)) : PE X (.BinOp a .LShift b pos) (tV C W kd (eBin gShl fa fb)) := v_op op_shlW (fun C ρ S A G σ H0 H1 H x y z v u gx gy Q hK I rx ry h q => by
  unfold gShl at h
  split at h
  · rename_i p k
    split at h
    · rename_i hc
      cases h
      simp only [Bool.and_eq_true, decide_eq_true_eq] at hc
      exact ⟨p, k, rx.int, ry.int, ⟨hc.1, by have := hc.2; unfold CShl at *; omega⟩, q _ H (EPost.same I (Rk.dat (.int _)))⟩
    · cases h
  · cases h) ha hb
def eBits (f : Rho → Mo SV) : Rho → Mo SV := fun ρ S => bindM (f ρ S) fun x S1 => match x with
  | .d (.int p) => some (.ok (.d (.int (Builtin.Int.intBits p : Nat))) S1)
  | _ => none
theorem v_bits {apos : Pos} (ha : PE X a (tV C W ka fa)) (hbase : attributeBase a "bit_length" X.env (eval a X.env) = eval a X.env := by rfl) (hline : (apos.endLine == pos.line) = true := by rfl) :
    PE X (.Call (.Attribute a "bit_length" apos) [] [] pos) (tV C W kd (eBits fa)) := by
  refine pe_imp (pe_bits ha hbase hline) fun σ H Q ⟨P, ρ, S, A, G, hP, I, q⟩ => ⟨P, ρ, S, A, G, hP, I, EGood.step q (fun _ _ _ _ _ _ z => z) fun x S1 q v H1 p__ => ?_⟩
  obtain ⟨A1, g1, P1, e1, hP1, I1, k1, _⟩ := p__.next
  split at q
  · rename_i p
    have I2 : Sim (C.pr P) ρ S1 A1 G σ H1 := (show Sim ((C.pr P1).pr P) ρ S1 A1 G σ H1 from Sim.prc I1 hP1)
    exact ⟨p, k1.int, q _ _ ((EPost.same I2 (Rk.dat (.int _))).trans e1)⟩
  · exact q.elim
end
end VL

end
section
set_option Elab.async false
set_option linter.all false
set_option maxRecDepth 100000
/-! VM1: what the value functions are at values: for simp. -/
namespace VL
open PySem PySem.Spec PyProof.Rows L2
section
variable {α β : Type} (i j k n : Nat) (ρ : Rho) (S : Sto) (f f' g : Rho → Mo SV) (fs gs : Rho → Mo (List SV)) (b c : Rho → Mo Bool) (s t : Rho → Sto → Option Fl) (op : Sto → SV → SV → Option SV) (o1 : Sto → SV → Option SV) (cm cm' : Sto → SV → SV → Option Bool) (cl : Sto → List SV → Option SV)
@[simp] theorem a_eVar : eVar i ρ S = match ρ[i]? with
  | some (some x) => some (.ok x S)
  | _ => none := rfl
@[simp] theorem a_eVarV : eVarV i ρ S = match ρ[i]? with
  | some (some x) => if noOwn x then some (.ok x S) else none
  | _ => none := rfl
@[simp] theorem a_eCon (d : PyData) : eCon d ρ S = some (.ok (.d d) S) := rfl
@[simp] theorem a_eFn (x : Str) : eFn x ρ S = some (.ok (.fn x) S) := rfl
@[simp] theorem a_eBin : eBin op f f' ρ S = bindM (f ρ S) fun x S1 => bindM (f' ρ S1) fun y S2 => (op S2 x y).map fun z => .ok z S2 := rfl
@[simp] theorem a_eUn : eUn o1 f ρ S = bindM (f ρ S) fun x S1 => (o1 S1 x).map fun z => .ok z S1 := rfl
@[simp] theorem a_aNil : aNil ρ S = some (.ok [] S) := rfl
@[simp] theorem a_aCons : aCons f fs ρ S = bindM (f ρ S) fun x S1 => bindM (fs ρ S1) fun xs S2 => some (.ok (x :: xs) S2) := rfl
@[simp] theorem a_eCal : eCal cl fs ρ S = bindM (fs ρ S) fun xs S1 => (cl S1 xs).map fun z => .ok z S1 := rfl
@[simp] theorem a_eTup : eTup fs ρ S = bindM (fs ρ S) fun xs S1 => if xs.length ≤ sizeLine then (datOs xs).map fun ds => .ok (.d (.tuple ds)) S1 else none := rfl
@[simp] theorem a_eLst : eLst fs ρ S = bindM (fs ρ S) fun xs S1 => if xs.length ≤ sizeLine then some (.ok (.own xs) S1) else none := rfl
@[simp] theorem a_eCall (F : List SV → Mo SV) (bs : List Bool) : eCall n F bs fs ρ S = bindM (fs ρ S) fun xs S1 => if xs.length = n then (cvt bs xs S1).bind fun p => F p.1 p.2 else none := rfl
@[simp] theorem a_eNot : eNot f ρ S = bindM (f ρ S) fun x S1 => match x with
  | .d (.bool b) => some (.ok (.d (.bool !b)) S1)
  | _ => none := rfl
@[simp] theorem a_bVal : bVal f ρ S = bindM (f ρ S) fun x S1 => (truth S1 x).map fun b => .ok b S1 := rfl
@[simp] theorem a_bAnd : bAnd b c ρ S = bindM (b ρ S) fun k S1 => if k then c ρ S1 else some (.ok false S1) := rfl
@[simp] theorem a_bOr : bOr b c ρ S = bindM (b ρ S) fun k S1 => if k then some (.ok true S1) else c ρ S1 := rfl
@[simp] theorem a_bNot : bNot b ρ S = bindM (b ρ S) fun k S1 => some (.ok (!k) S1) := rfl
@[simp] theorem a_bB : bB f ρ S = bindM (f ρ S) fun x S1 => match x with
  | .d (.bool b) => some (.ok b S1)
  | _ => none := rfl
@[simp] theorem a_sNil : sNil ρ S = some (.nx ρ S) := rfl
@[simp] theorem a_sSeq : sSeq s t ρ S = match s ρ S with
  | some (.nx ρ' S') => t ρ' S'
  | r => r := rfl
@[simp] theorem a_sSet : sSet i f ρ S = bindS ρ (f ρ S) fun x S1 => some (.nx (ρ.set i (some x)) S1) := rfl
@[simp] theorem a_sAsg (tf : TgF) : sAsg tf f ρ S = bindS ρ (f ρ S) fun x S1 => (frz x).bind fun y => (tf y ρ).map fun ρ' => .nx ρ' S1 := rfl
@[simp] theorem a_sPar : sPar i j fs ρ S = bindS ρ (fs ρ S) fun xs S1 => match xs with
  | [x, y] => some (.nx ((ρ.set i (some x)).set j (some y)) S1)
  | _ => none := rfl
@[simp] theorem a_sPar3 : sPar3 i j k fs ρ S = bindS ρ (fs ρ S) fun xs S1 => (frzs xs).bind fun ys => match ys with
  | [x, y, z] => some (.nx (((ρ.set i (some x)).set j (some y)).set k (some z)) S1)
  | _ => none := rfl
@[simp] theorem a_sRet : sRet f ρ S = bindS ρ (f ρ S) fun x S1 => some (.rt x S1) := rfl
@[simp] theorem a_sRetV : sRetV i ρ S = match ρ[i]? with
  | some (some x) => some (.rt x S)
  | _ => none := rfl
@[simp] theorem a_sRetN : sRetN ρ S = some (.rt (.d .none) S) := rfl
@[simp] theorem a_sIf : sIf b s t ρ S = bindS ρ (b ρ S) fun k S1 => if k then s ρ S1 else t ρ S1 := rfl
@[simp] theorem a_sRaise (x : Str) : sRaise x ρ S = some (.exc x [] ρ S) := rfl
@[simp] theorem a_sDrop : sDrop f ρ S = bindS ρ (f ρ S) fun _ S1 => some (.nx ρ S1) := rfl
@[simp] theorem a_sFor (it : Rho → Mo (List SV)) (tf : TgF) : sFor it tf s ρ S = bindS ρ (it ρ S) fun xs S1 => forL tf s xs ρ S1 := rfl
end
@[simp] theorem a_gNm (i : Nat) (x : SV) (ρ : Rho) : gNm i x ρ = if noOwn x then some (ρ.set i (some x)) else none := rfl
@[simp] theorem noOwn_d (d : PyData) : noOwn (.d d) = true := rfl
@[simp] theorem noOwn_ref (n : Nat) : noOwn (.ref n) = true := rfl
@[simp] theorem noOwn_fn (x : Str) : noOwn (.fn x) = true := rfl
@[simp] theorem noOwn_scr (ns : List Int) : noOwn (.scr ns) = true := rfl
@[simp] theorem noOwn_own (xs : List SV) : noOwn (.own xs) = false := rfl
@[simp] theorem frz_d (d : PyData) : frz (.d d) = some (.d d) := rfl
@[simp] theorem frz_ref (n : Nat) : frz (.ref n) = some (.ref n) := rfl
@[simp] theorem frz_fn (x : Str) : frz (.fn x) = some (.fn x) := rfl
@[simp] theorem frz_scr (ns : List Int) : frz (.scr ns) = some (.scr ns) := rfl
@[simp] theorem datO_d (d : PyData) : datO (.d d) = some d := by simp [datO]
@[simp] theorem datOs_nil : datOs [] = some [] := by simp [datOs]
@[simp] theorem datOs_cons (x : SV) (xs : List SV) : datOs (x :: xs) = (datO x).bind fun d => (datOs xs).map (d :: ·) := by simp [datOs]
@[simp] theorem frzs_nil : frzs [] = some [] := rfl
@[simp] theorem frzs_cons (x : SV) (xs : List SV) : frzs (x :: xs) = (frz x).bind fun y => (frzs xs).map (y :: ·) := rfl
@[simp] theorem cvt_nil (bs : List Bool) (S : Sto) : cvt bs [] S = some ([], S) := by cases bs <;> rfl
@[simp] theorem cvt_0 (x : SV) (xs : List SV) (S : Sto) : cvt [] (x :: xs) S = (frz x).bind fun y => (cvt [] xs S).map fun p => (y :: p.1, p.2) := rfl
@[simp] theorem cvt_f (bs : List Bool) (x : SV) (xs : List SV) (S : Sto) : cvt (false :: bs) (x :: xs) S = (frz x).bind fun y => (cvt bs xs S).map fun p => (y :: p.1, p.2) := rfl
@[simp] theorem cvt_t (bs : List Bool) (zs xs : List SV) (S : Sto) : cvt (true :: bs) (.own zs :: xs) S = (frzs zs).bind fun ys => (cvt bs xs (S ++ [ys])).map fun p => (.ref S.length :: p.1, p.2) := rfl
section
variable (S : Sto) (i j : Int) (a b : Bool)
@[simp] theorem gAdd_i : gAdd S (.d (.int i)) (.d (.int j)) = some (.d (.int (i + j))) := rfl
@[simp] theorem gSub_i : gSub S (.d (.int i)) (.d (.int j)) = some (.d (.int (i - j))) := rfl
@[simp] theorem gMul_i : gMul S (.d (.int i)) (.d (.int j)) = if mulOk i j then some (.d (.int (i * j))) else none := rfl
@[simp] theorem gMulA_i : gMulA S (.d (.int i)) (.d (.int j)) = if mulOk i j then some (.d (.int (i * j))) else none := rfl
@[simp] theorem gFdiv_i : gFdiv S (.d (.int i)) (.d (.int j)) = if divOk i j then some (.d (.int (i.fdiv j))) else none := rfl
@[simp] theorem gMod_i : gMod S (.d (.int i)) (.d (.int j)) = if j ≠ 0 then some (.d (.int (i.fmod j))) else none := rfl
@[simp] theorem gNeg_i : gNeg S (.d (.int i)) = some (.d (.int (-i))) := rfl
@[simp] theorem gLt_i : gLt S (.d (.int i)) (.d (.int j)) = some (decide (i < j)) := rfl
@[simp] theorem gLe_i : gLe S (.d (.int i)) (.d (.int j)) = some (decide (i ≤ j)) := rfl
@[simp] theorem gGt_i : gGt S (.d (.int i)) (.d (.int j)) = some (decide (j < i)) := rfl
@[simp] theorem gGe_i : gGe S (.d (.int i)) (.d (.int j)) = some (decide (j ≤ i)) := rfl
theorem sh_int : SeqAt.shaped (.int i) = true := by
  unfold SeqAt.shaped PyData.canLay0
  simp [PyData.depth]
@[simp] theorem dat_d (d : PyData) : dat? S (.d d) = some d := rfl
@[simp] theorem gAbs_i : gAbs S [.d (.int i)] = some (.d (.int (if i < 0 then -i else i))) := rfl
@[simp] theorem gMax2_i : gMax2 S [.d (.int i), .d (.int j)] = some (.d (.int (if j > i then j else i))) := rfl
@[simp] theorem gMin2_i : gMin2 S [.d (.int i), .d (.int j)] = some (.d (.int (if j < i then j else i))) := rfl
@[simp] theorem gInt_i : gInt S [.d (.int i)] = some (.d (.int i)) := rfl
@[simp] theorem gInt_b : gInt S [.d (.bool a)] = some (.d (.int (if a then 1 else 0))) := rfl
@[simp] theorem truth_b : truth S (.d (.bool a)) = some a := rfl
@[simp] theorem truth_i : truth S (.d (.int i)) = some (i != 0) := rfl
@[simp] theorem truth_n : truth S (.d .none) = some false := rfl
@[simp] theorem isNone_n : isNone (.d .none) = true := rfl
@[simp] theorem isNone_t (ds : List PyData) : isNone (.d (.tuple ds)) = false := rfl
@[simp] theorem seq_t (ds : List PyData) : seq? S (.d (.tuple ds)) = some (ds.map .d) := rfl
@[simp] theorem seq_l (ds : List PyData) : seq? S (.d (.list ds)) = some (ds.map .d) := rfl
@[simp] theorem seq_s (ns : List Int) : seq? S (.scr ns) = some (ns.map fun n => .d (.int n)) := rfl
@[simp] theorem seq_o (xs : List SV) : seq? S (.own xs) = some xs := rfl
@[simp] theorem seq_r (n : Nat) : seq? S (.ref n) = S[n]? := rfl
@[simp] theorem gIxB_i (x : SV) : gIxB S x (.d (.int i)) = (seq? S x).bind fun xs => atI xs i := rfl
end
end VL

end
section
set_option Elab.async false
set_option linter.all false
set_option maxRecDepth 100000
/-! VM2: equality; loops. -/
namespace VL
open PySem PySem.Spec PyProof.Rows L2
theorem shaped_def (d : PyData) : SeqAt.shaped d = (d.canLay0 && decide (d.depth ≤ 64)) := rfl
/-- plain data: ints and so on, tuples and lists of such -/
@[simp] theorem sh_i (i : Int) : SeqAt.shaped (.int i) = true := by
  rw [shaped_def]; simp [PyData.canLay0, PyData.depth]
@[simp] theorem sh_b (i : Bool) : SeqAt.shaped (.bool i) = true := by
  rw [shaped_def]; simp [PyData.canLay0, PyData.depth]
@[simp] theorem sh_n : SeqAt.shaped .none = true := by
  rw [shaped_def]; simp [PyData.canLay0, PyData.depth]
@[simp] theorem eqv_i (i j : Int) : PyData.eqv (.int i) (.int j) = (i == j) := by simp [PyData.eqv]
@[simp] theorem eqv_b (i j : Bool) : PyData.eqv (.bool i) (.bool j) = (i == j) := by simp [PyData.eqv]
@[simp] theorem gEq_i (S : Sto) (i j : Int) : gEq S (.d (.int i)) (.d (.int j)) = some (i == j) := by simp [gEq]
@[simp] theorem gNe_i (S : Sto) (i j : Int) : gNe S (.d (.int i)) (.d (.int j)) = some (!(i == j)) := by simp [gNe]
/-! ### while -/
theorem whileF_stop {c : Rho → Mo Bool} {b : Rho → Sto → Option Fl} {n : Nat} {ρ : Rho} {S S1 : Sto} (h : c ρ S = some (.ok false S1)) : whileF c b (n + 1) ρ S = some (.nx ρ S1) := by
  unfold whileF; rw [h]; rfl
theorem whileF_go {c : Rho → Mo Bool} {b : Rho → Sto → Option Fl} {n : Nat} {ρ ρ2 : Rho} {S S1 S2 : Sto} (h : c ρ S = some (.ok true S1)) (hb : b ρ S1 = some (.nx ρ2 S2)) : whileF c b (n + 1) ρ S = whileF c b n ρ2 S2 := by
  conv => lhs; unfold whileF
  rw [h]
  simp [hb]
theorem while_stop {c : Rho → Mo Bool} {b : Rho → Sto → Option Fl} {ρ : Rho} {S S1 : Sto} (h : c ρ S = some (.ok false S1)) : sWhile c b ρ S = some (.nx ρ S1) := sWhile_of (n := 1) (whileF_stop h)
theorem while_go {c : Rho → Mo Bool} {b : Rho → Sto → Option Fl} {ρ ρ2 : Rho} {S S1 S2 : Sto} {r : Fl} (h : c ρ S = some (.ok true S1)) (hb : b ρ S1 = some (.nx ρ2 S2)) (q : sWhile c b ρ2 S2 = some r) : sWhile c b ρ S = some r := by
  obtain ⟨n, hn⟩ := sWhile_some q
  exact sWhile_of (n := n + 1) ((whileF_go h hb).trans hn)
end VL

end
section
set_option Elab.async false
set_option linter.all false
set_option maxRecDepth 100000
/-! VM3: for, comprehensions, isinstance, equality of tuples. -/
namespace VL
open PySem PySem.Spec PyProof.Rows L2
/-- a for that leaves the store as it is: it goes on, or hands back at the first hit -/
theorem forL_find {t : TgF} {body : Rho → Sto → Option Fl} {S : Sto} (I : Rho → Prop) (hit : SV → Option SV) : ∀ (xs : List SV), (∀ x ∈ xs, ∀ ρ, I ρ → ∃ ρ', t x ρ = some ρ' ∧ ((∃ v, hit x = some v ∧ body ρ' S = some (.rt v S)) ∨ (hit x = none ∧ ∃ ρ2, I ρ2 ∧ body ρ' S = some (.nx ρ2 S)))) → ∀ ρ, I ρ →
    (∃ v, xs.findSome? hit = some v ∧ forL t body xs ρ S = some (.rt v S)) ∨ (xs.findSome? hit = none ∧ ∃ ρ2, I ρ2 ∧ forL t body xs ρ S = some (.nx ρ2 S))
  | [], _, ρ, h => .inr ⟨rfl, ρ, h, rfl⟩
  | x :: xs, hx, ρ, h => by
    obtain ⟨ρ', ht, q⟩ := hx x List.mem_cons_self ρ h
    rcases q with ⟨v, hv, hb⟩ | ⟨hn, ρ2, h2, hb⟩
    · refine .inl ⟨v, by simp [List.findSome?, hv], ?_⟩
      unfold forL
      simp [ht, hb]
    · rcases forL_find I hit xs (fun y m => hx y (List.mem_cons_of_mem _ m)) ρ2 h2 with ⟨v, hv, hf⟩ | ⟨hv, ρ3, h3, hf⟩
      · refine .inl ⟨v, by simp [List.findSome?, hn, hv], ?_⟩
        unfold forL
        simp [ht, hb, hf]
      · refine .inr ⟨by simp [List.findSome?, hn, hv], ρ3, h3, ?_⟩
        unfold forL
        simp [ht, hb, hf]
/-- a for that goes through, the state changing as told -/
theorem forL_step {t : TgF} {body : Rho → Sto → Option Fl} (I : Nat → Rho → Sto → Prop) (xs : List SV) (h : ∀ (i : Nat) x, xs[i]? = some x → ∀ ρ S, I i ρ S → ∃ ρ', t x ρ = some ρ' ∧ ∃ ρ2 S2, I (i + 1) ρ2 S2 ∧ (body ρ' S = some (.nx ρ2 S2) ∨ body ρ' S = some (.ct ρ2 S2))) : ∀ ρ S, I 0 ρ S → ∃ ρ2 S2, I xs.length ρ2 S2 ∧ forL t body xs ρ S = some (.nx ρ2 S2) := by
  suffices H : ∀ (ys : List SV) (k : Nat), (∀ (i : Nat) x, ys[i]? = some x → xs[k + i]? = some x) → k + ys.length = xs.length → ∀ ρ S, I k ρ S → ∃ ρ2 S2, I xs.length ρ2 S2 ∧ forL t body ys ρ S = some (.nx ρ2 S2) by
    exact H xs 0 (fun i x e => by rwa [Nat.zero_add]) (by omega)
  intro ys
  induction ys with
  | nil => intro k _ hl ρ S hI; exact ⟨ρ, S, by rw [← hl]; exact hI, rfl⟩
  | cons y ys ih =>
    intro k hk hl ρ S hI
    obtain ⟨ρ', ht, ρ2, S2, h2, hb⟩ := h k y (hk 0 y rfl) ρ S hI
    obtain ⟨ρ3, S3, h3, hf⟩ := ih (k + 1) (fun i x e => by have := hk (i + 1) x (by simpa using e); rwa [show k + (i + 1) = k + 1 + i by omega] at this) (by simp at hl; omega) ρ2 S2 h2
    refine ⟨ρ3, S3, h3, ?_⟩
    unfold forL
    rcases hb with hb | hb <;> simp [ht, hb, hf]
theorem compL_ok {tf : TgF} {tst : Rho → Mo Bool} {elt : Rho → Mo SV} {ρ : Rho} {S : Sto} (k : SV → Option SV) : ∀ (xs acc : List SV), (∀ x ∈ xs, ∃ ρ', tf x ρ = some ρ' ∧ ((∃ y, k x = some y ∧ tst ρ' S = some (.ok true S) ∧ elt ρ' S = some (.ok y S)) ∨ (k x = none ∧ tst ρ' S = some (.ok false S)))) → acc.length + xs.length ≤ sizeLine →
    compL tf tst elt ρ xs acc S = some (.ok (acc ++ xs.filterMap k) S)
  | [], acc, _, _ => by simp [compL]
  | x :: xs, acc, h, hl => by
    obtain ⟨ρ', ht, q⟩ := h x List.mem_cons_self
    rw [List.length_cons] at hl
    rcases q with ⟨y, hy, h1, h2⟩ | ⟨hn, h1⟩
    · have ih := compL_ok k xs (acc ++ [y]) (fun z m => h z (List.mem_cons_of_mem _ m)) (by simp; omega)
      unfold compL
      simp only [ht, h1, h2]
      rw [if_pos (by omega), ih]
      simp [List.filterMap_cons, hy]
    · have ih := compL_ok k xs acc (fun z m => h z (List.mem_cons_of_mem _ m)) (by omega)
      unfold compL
      simp only [ht, h1]
      rw [ih]
      simp [List.filterMap_cons, hn]
/-- without a test -/
theorem eLc_map {it : Rho → Mo (List SV)} {tf : TgF} {elt : Rho → Mo SV} {vs : List Nat} {ρ : Rho} {S : Sto} {xs : List SV} (g : SV → SV) (hi : it ρ S = some (.ok xs S)) (h : ∀ x ∈ xs, ∃ ρ', tf x (wipeR ρ vs) = some ρ' ∧ elt ρ' S = some (.ok (g x) S)) (hl : xs.length ≤ sizeLine) :
    eLc it tf bYes elt vs ρ S = some (.ok (.own (xs.map g)) S) := by
  unfold eLc
  rw [hi]
  have := compL_ok (tf := tf) (tst := bYes) (elt := elt) (ρ := wipeR ρ vs) (S := S) (fun x => some (g x)) xs [] (fun x m => by
    obtain ⟨ρ', h1, h2⟩ := h x m
    exact ⟨ρ', h1, .inl ⟨_, rfl, rfl, h2⟩⟩) (by simpa using hl)
  simp only [bindM_ok, this]
  simp
@[simp] theorem a_eIsi1 (f : Rho → Mo SV) (cs : List String) (ρ : Rho) (S : Sto) : eIsi1 f cs ρ S = bindM (f ρ S) fun x S1 => if refOk S1 x then (tyOf x).map fun t => .ok (.d (.bool (cs.any (isB t)))) S1 else none := rfl
@[simp] theorem refOk_d (S : Sto) (d : PyData) : refOk S (.d d) = true := rfl
@[simp] theorem tyOf_n : tyOf (.d .none) = some "NoneType" := rfl
@[simp] theorem tyOf_b (b : Bool) : tyOf (.d (.bool b)) = some "bool" := rfl
@[simp] theorem tyOf_i (i : Int) : tyOf (.d (.int i)) = some "int" := rfl
@[simp] theorem tyOf_s (i : Str) : tyOf (.d (.str i)) = some "str" := rfl
@[simp] theorem tyOf_l (i : List PyData) : tyOf (.d (.list i)) = some "list" := rfl
@[simp] theorem tyOf_t (i : List PyData) : tyOf (.d (.tuple i)) = some "tuple" := rfl
@[simp] theorem tyOf_o (i : List SV) : tyOf (.own i) = some "list" := rfl
@[simp] theorem gLen_t (S : Sto) (ds : List PyData) : gLen S [.d (.tuple ds)] = some (.d (.int ds.length)) := by simp [gLen]
@[simp] theorem gLen_l (S : Sto) (ds : List PyData) : gLen S [.d (.list ds)] = some (.d (.int ds.length)) := by simp [gLen]
@[simp] theorem gLen_o (S : Sto) (ds : List SV) : gLen S [.own ds] = some (.d (.int ds.length)) := by simp [gLen]
@[simp] theorem gLen_s (S : Sto) (ds : List Int) : gLen S [.scr ds] = some (.d (.int ds.length)) := by simp [gLen]
@[simp] theorem isNone_i (i : Int) : isNone (.d (.int i)) = false := rfl
@[simp] theorem a_iSeq (f : Rho → Mo SV) (ρ : Rho) (S : Sto) : iSeq f ρ S = bindM (f ρ S) fun x S1 => if isRef x then none else (seq? S1 x).bind fun xs => if xs.all noOwn then some (.ok xs S1) else none := rfl
@[simp] theorem isRef_d (d : PyData) : isRef (.d d) = false := rfl
@[simp] theorem isRef_o (d : List SV) : isRef (.own d) = false := rfl
@[simp] theorem isRef_s (d : List Int) : isRef (.scr d) = false := rfl
@[simp] theorem a_iRng1 (fs : Rho → Mo (List SV)) (ρ : Rho) (S : Sto) : iRng1 fs ρ S = bindM (fs ρ S) fun xs S1 => match xs with
  | [.d (.int j)] => if inR j then some (.ok (rangeL 0 j.toNat) S1) else none
  | _ => none := rfl
@[simp] theorem a_iRng2 (fs : Rho → Mo (List SV)) (ρ : Rho) (S : Sto) : iRng2 fs ρ S = bindM (fs ρ S) fun xs S1 => match xs with
  | [.d (.int i), .d (.int j)] => if inR i && inR j then some (.ok (rangeL i (j - i).toNat) S1) else none
  | _ => none := rfl
@[simp] theorem allNo_map (ds : List PyData) : (ds.map SV.d).all noOwn = true := by simp [noOwn]
theorem inR_of {i : Int} (h : -1000000 ≤ i ∧ i ≤ 1000000) : inR i = true := by
  unfold inR
  rw [decide_eq_true_eq]
  omega
theorem mem_rangeL {lo : Int} {n : Nat} {x : SV} (h : x ∈ rangeL lo n) : ∃ k : Nat, k < n ∧ x = .d (.int (lo + k)) := by
  unfold rangeL at h
  obtain ⟨k, hk, rfl⟩ := List.mem_map.mp h
  exact ⟨k, List.mem_range.mp hk, rfl⟩
@[simp] theorem rangeL_length (lo : Int) (n : Nat) : (rangeL lo n).length = n := by simp [rangeL]
theorem canTuple (ds : List PyData) : (PyData.tuple ds).canLay0 = PyData.canLayAll0 ds := by simp [PyData.canLay0]
@[simp] theorem sh_p (a b : Int) : SeqAt.shaped (.tuple [.int a, .int b]) = true := by
  rw [shaped_def]; simp [PyData.canLay0, PyData.canLayAll0, PyData.depth, PyData.depthAll]
@[simp] theorem sh_3 (a b c : Int) : SeqAt.shaped (.tuple [.int a, .int b, .int c]) = true := by
  rw [shaped_def]; simp [PyData.canLay0, PyData.canLayAll0, PyData.depth, PyData.depthAll]
@[simp] theorem sh_4 (a b c d : Int) : SeqAt.shaped (.tuple [.int a, .int b, .int c, .int d]) = true := by
  rw [shaped_def]; simp [PyData.canLay0, PyData.canLayAll0, PyData.depth, PyData.depthAll]
@[simp] theorem eqv_p (a b c d : Int) : PyData.eqv (.tuple [.int a, .int b]) (.tuple [.int c, .int d]) = (a == c && b == d) := by simp [PyData.eqv, PyData.eqvAll]
end VL

end
section
set_option Elab.async false
set_option linter.all false
set_option maxRecDepth 100000
set_option maxHeartbeats 0
/-! printed by gen.py for law_k71_whole_endless_rows: each def's value function, and that the def keeps it -/
namespace G
open PySem PySem.Spec PyProof.Rows L2 VL
abbrev prog : Program := PySem.Challenge.pw_currentwebs_k71_whole_endless_rows
def top (i : Nat) : Stmt := prog.main.body.getD i (.Pass ⟨0, 0, 0, 0⟩)
def mt : Str → Str → Option Bool := mtOf [(("BadValue", "BadValue"), true), (("BadValue", "NoSuch"), false), (("BadValue", "TooFar"), false), (("NoSuch", "BadValue"), false), (("NoSuch", "NoSuch"), true), (("NoSuch", "TooFar"), false), (("TooFar", "BadValue"), false), (("TooFar", "NoSuch"), false), (("TooFar", "TooFar"), true)]
section
variable {P : Program} {w : World} {K : PySem.W.Frag} {mg : Str → Option Value} {base : Heap} {f : Addr} {fd : FuncData}
/-! ### common -/
noncomputable def f_common : Rho → Sto → Option Fl :=
  (sSeq
  (sWhile (bB (eBin (cB gNe) (eVar 1) (eCon (.int 0))))
  (sPar 0 1 (aCons (eVarV 1) (aCons (eBin gMod (eVar 0) (eVar 1)) aNil))))
  (sRet (eCal gAbs (aCons (eVar 0) aNil))))
noncomputable def F_common : List SV → Mo SV := runF 2 f_common
theorem sc_common : FnScope ["p", "q"] ["p", "q"] (defScope (top 6)) := ⟨rfl, rfl, rfl, by decide +kernel, rfl, by decide +kernel, by decide +kernel⟩
theorem ok_common (F : VL.FnP K "common" (top 6) f fd) (hm : mg "common" = some (.ref f)) (fr : Fr mg) : DefOk P w K mg base 1 "common" 2 F_common :=
  mk_def (k := 0) (fb := f_common) F hm sc_common (by decide) (fun _ _ _ _ _ _ us hl => match us, hl with | [_, _], _ => rfl) fun cdv A outer s H E hr E0 A0 Pr =>
  (ss_cons (s_while (passes_of rfl) (t_ne (ka := .be) (kb := .be) rfl hr.units (v_var (pv 1)) v_int)
  (ss_one (s_par (i := 0) (j := 1) rfl sc_common.nd rfl rfl (by decide) rfl rfl (a_cons (v_varV (pv 1)) (a_cons (v_mod (ka := .be) (kb := .be) (v_var (pv 0)) (v_var (pv 1))) a_nil)) (by rfl))))
  (ss_one (s_ret (v_calB (ka := .be) call_abs ok_abs rfl fr.abs boot_abs' (a_cons (v_var (pv 0)) a_nil)))))
/-! ### sign -/
noncomputable def f_sign : Rho → Sto → Option Fl :=
  (sRet (eBin gSub (eCal gInt (aCons (eBin (cB gGt) (eBin gIxB (eVar 0) (eCon (.int 0))) (eCon (.int 0))) aNil)) (eCal gInt (aCons (eBin (cB gLt) (eBin gIxB (eVar 0) (eCon (.int 0))) (eCon (.int 0))) aNil))))
noncomputable def F_sign : List SV → Mo SV := runF 1 f_sign
theorem sc_sign : FnScope ["x"] ["x"] (defScope (top 12)) := ⟨rfl, rfl, rfl, by decide +kernel, rfl, by decide +kernel, by decide +kernel⟩
theorem ok_sign (F : VL.FnP K "sign" (top 12) f fd) (hm : mg "sign" = some (.ref f)) (fr : Fr mg) : DefOk P w K mg base 1 "sign" 1 F_sign :=
  mk_def (k := 0) (fb := f_sign) F hm sc_sign (by decide) (fun _ _ _ _ _ _ us hl => match us, hl with | [_], _ => rfl) fun cdv A outer s H E hr E0 A0 Pr =>
  (ss_one (s_ret (v_sub (ka := .be) (kb := .be) (v_calT (ka := .be) call_int1 ok_int rfl fr.int boot_int' (a_cons (v_gt (ka := .be) (kb := .be) (v_ixB (ka := .be) (kb := .be) rfl (v_var (pv 0)) v_int (fun _ _ => rfl)) v_int) a_nil)) (v_calT (ka := .be) call_int1 ok_int rfl fr.int boot_int' (a_cons (v_lt (ka := .be) (kb := .be) rfl hr.units (v_ixB (ka := .be) (kb := .be) rfl (v_var (pv 0)) v_int (fun _ _ => rfl)) v_int) a_nil)))))
/-! ### less -/
noncomputable def f_less : Rho → Sto → Option Fl :=
  (sRet (eBin (cB gLt) (eBin gMulA (eBin gIxB (eVar 0) (eCon (.int 0))) (eBin gIxB (eVar 1) (eCon (.int 1)))) (eBin gMulA (eBin gIxB (eVar 1) (eCon (.int 0))) (eBin gIxB (eVar 0) (eCon (.int 1))))))
noncomputable def F_less : List SV → Mo SV := runF 2 f_less
theorem sc_less : FnScope ["x", "y"] ["x", "y"] (defScope (top 13)) := ⟨rfl, rfl, rfl, by decide +kernel, rfl, by decide +kernel, by decide +kernel⟩
theorem ok_less (F : VL.FnP K "less" (top 13) f fd) (hm : mg "less" = some (.ref f)) (fr : Fr mg) : DefOk P w K mg base 1 "less" 2 F_less :=
  mk_def (k := 0) (fb := f_less) F hm sc_less (by decide) (fun _ _ _ _ _ _ us hl => match us, hl with | [_, _], _ => rfl) fun cdv A outer s H E hr E0 A0 Pr =>
  (ss_one (s_ret (v_lt (ka := .be) (kb := .be) rfl hr.units (v_mulA (hk := rfl) (ka := .be) (kb := .be) (v_ixB (ka := .be) (kb := .be) rfl (v_var (pv 0)) v_int (fun _ _ => rfl)) (v_ixB (ka := .be) (kb := .be) rfl (v_var (pv 1)) v_int (fun _ _ => rfl))) (v_mulA (hk := rfl) (ka := .be) (kb := .be) (v_ixB (ka := .be) (kb := .be) rfl (v_var (pv 1)) v_int (fun _ _ => rfl)) (v_ixB (ka := .be) (kb := .be) rfl (v_var (pv 0)) v_int (fun _ _ => rfl))))))
/-! ### is_number -/
noncomputable def f_is_number : Rho → Sto → Option Fl :=
  (sSeq
  (sIf (bOr (bNot (bVal (eIsi1 (eVar 0) ["tuple"]))) (bB (eBin (cB gNe) (eCal gLen (aCons (eVar 0) aNil)) (eCon (.int 2)))))
  (sRet (eCon (.bool false)))
  sNil)
  (sSeq
  (sAsg (gTp 2 (gsCons (gNm 1) (gsCons (gNm 2) gsNil))) (eVarV 0))
  (sSeq
  (sIf (bOr (bNot (bVal (eIsi1 (eVar 1) ["int"]))) (bOr (bVal (eIsi1 (eVar 1) ["bool"])) (bOr (bNot (bVal (eIsi1 (eVar 2) ["int"]))) (bOr (bVal (eIsi1 (eVar 2) ["bool"])) (bB (eBin (cB gLt) (eVar 2) (eCon (.int 1))))))))
  (sRet (eCon (.bool false)))
  sNil)
  (sSeq
  (sWhile (bB (eBin (cB gNe) (eVar 1) (eCon (.int 0))))
  (sPar 1 2 (aCons (eBin gMod (eVar 2) (eCal gAbs (aCons (eVar 1) aNil))) (aCons (eCal gAbs (aCons (eVar 1) aNil)) aNil))))
  (sRet (eBin (cB gEq) (eVar 2) (eCon (.int 1))))))))
noncomputable def F_is_number : List SV → Mo SV := runF 3 f_is_number
theorem sc_is_number : FnScope ["value", "p", "q"] ["value"] (defScope (top 21)) := ⟨rfl, rfl, rfl, by decide +kernel, rfl, by decide +kernel, by decide +kernel⟩
theorem ok_is_number (F : VL.FnP K "is_number" (top 21) f fd) (hm : mg "is_number" = some (.ref f)) (fr : Fr mg) : DefOk P w K mg base 1 "is_number" 1 F_is_number :=
  mk_def (k := 0) (fb := f_is_number) F hm sc_is_number (by decide) (fun _ _ _ _ _ _ us hl => match us, hl with | [_], _ => rfl) fun cdv A outer s H E hr E0 A0 Pr =>
  (ss_cons (s_if (PW.pt (b_or (b_not (b_val (ka := .be) rfl (v_isi (ka := .be) (T := "tuple") rfl (by decide) rfl fr.isinstance (v_var (pv 0)) rfl fr.tuple boot_tuple'))) (b_or1 (t_ne (ka := .be) (kb := .be) rfl hr.units (v_calB (ka := .be) call_len ok_len rfl fr.len boot_len' (a_cons (v_var (pv 0)) a_nil)) v_int))))
  (ss_one (s_ret v_bl))
  ss_nil)
  (ss_cons (s_asg (v_varV (pv 0)) (L2.pg_tup rfl (pgs_cons (pg_name sc_is_number.nd rfl (by first | exact Or.inl rfl | exact Or.inr rfl)) (pgs_cons (pg_name sc_is_number.nd rfl (by first | exact Or.inl rfl | exact Or.inr rfl)) pgs_nil))) (g_tp (gs_cons g_nm (gs_cons g_nm gs_nil))))
  (ss_cons (s_if (PW.pt (b_or (b_not (b_val (ka := .be) rfl (v_isi (ka := .be) (T := "int") rfl (by decide) rfl fr.isinstance (v_var (pv 1)) rfl fr.int boot_int'))) (b_or (b_val (ka := .be) rfl (v_isi (ka := .be) (T := "bool") rfl (by decide) rfl fr.isinstance (v_var (pv 1)) rfl fr.bool boot_bool')) (b_or (b_not (b_val (ka := .be) rfl (v_isi (ka := .be) (T := "int") rfl (by decide) rfl fr.isinstance (v_var (pv 2)) rfl fr.int boot_int'))) (b_or (b_val (ka := .be) rfl (v_isi (ka := .be) (T := "bool") rfl (by decide) rfl fr.isinstance (v_var (pv 2)) rfl fr.bool boot_bool')) (b_or1 (t_lt (ka := .be) (kb := .be) rfl hr.units (v_var (pv 2)) v_int)))))))
  (ss_one (s_ret v_bl))
  ss_nil)
  (ss_cons (s_while (passes_of rfl) (t_ne (ka := .be) (kb := .be) rfl hr.units (v_var (pv 1)) v_int)
  (ss_one (s_par (i := 1) (j := 2) rfl sc_is_number.nd rfl rfl (by decide) rfl rfl (a_cons (v_mod (ka := .be) (kb := .be) (v_var (pv 2)) (v_calB (ka := .be) call_abs ok_abs rfl fr.abs boot_abs' (a_cons (v_var (pv 1)) a_nil))) (a_cons (v_calB (ka := .be) call_abs ok_abs rfl fr.abs boot_abs' (a_cons (v_var (pv 1)) a_nil)) a_nil)) (by rfl))))
  (ss_one (s_ret (v_eq (ka := .be) (kb := .be) rfl hr.units (v_var (pv 2)) v_int)))))))
/-! ### greatest_divisor -/
noncomputable def f_greatest_divisor : Rho → Sto → Option Fl :=
  (sSeq
  (sSet 1 (eCon (.int 0)))
  (sSeq
  (sFor (iSeq (eVarV 0)) (gNm 2)
  (sSeq
  (sPar 3 4 (aCons (eVarV 1) (aCons (eCal gAbs (aCons (eVar 2) aNil)) aNil)))
  (sSeq
  (sWhile (bB (eBin (cB gGt) (eVar 4) (eCon (.int 0))))
  (sPar 3 4 (aCons (eVarV 4) (aCons (eBin gMod (eVar 3) (eVar 4)) aNil))))
  (sSet 1 (eVarV 3)))))
  (sRetV 1)))
noncomputable def F_greatest_divisor : List SV → Mo SV := runF 5 f_greatest_divisor
theorem sc_greatest_divisor : FnScope ["numbers", "found", "number", "a", "b"] ["numbers"] (defScope (top 23)) := ⟨rfl, rfl, rfl, by decide +kernel, rfl, by decide +kernel, by decide +kernel⟩
theorem ok_greatest_divisor (F : VL.FnP K "greatest_divisor" (top 23) f fd) (hm : mg "greatest_divisor" = some (.ref f)) (fr : Fr mg) : DefOk P w K mg base 1 "greatest_divisor" 1 F_greatest_divisor :=
  mk_def (k := 0) (fb := f_greatest_divisor) F hm sc_greatest_divisor (by decide) (fun _ _ _ _ _ _ us hl => match us, hl with | [_], _ => rfl) fun cdv A outer s H E hr E0 A0 Pr =>
  (ss_cons (s_set (i := 1) sc_greatest_divisor.nd rfl (by first | exact Or.inl rfl | exact Or.inr rfl) v_int)
  (ss_cons (s_for (passes_of rfl) rfl (i_seqF rfl (v_varV (pv 0))) (pg_name sc_greatest_divisor.nd rfl (by first | exact Or.inl rfl | exact Or.inr rfl)) g_nm
  (ss_cons (s_par (i := 3) (j := 4) rfl sc_greatest_divisor.nd rfl rfl (by decide) rfl rfl (a_cons (v_varV (pv 1)) (a_cons (v_calB (ka := .be) call_abs ok_abs rfl fr.abs boot_abs' (a_cons (v_var (pv 2)) a_nil)) a_nil)) (by rfl))
  (ss_cons (s_while (passes_of rfl) (t_gt (ka := .be) (kb := .be) (v_var (pv 4)) v_int)
  (ss_one (s_par (i := 3) (j := 4) rfl sc_greatest_divisor.nd rfl rfl (by decide) rfl rfl (a_cons (v_varV (pv 4)) (a_cons (v_mod (ka := .be) (kb := .be) (v_var (pv 3)) (v_var (pv 4))) a_nil)) (by rfl))))
  (ss_one (s_set (i := 1) sc_greatest_divisor.nd rfl (by first | exact Or.inl rfl | exact Or.inr rfl) (v_varV (pv 3)))))))
  (ss_one (s_retV (pv 1)))))
/-! ### compare_by -/
noncomputable def f_compare_by : Rho → Sto → Option Fl :=
  (sSeq
  (sAsg (gTp 4 (gsCons (gNm 2) (gsCons (gNm 3) (gsCons (gNm 4) (gsCons (gNm 5) gsNil))))) (eVarV 0))
  (sSeq
  (sAsg (gTp 2 (gsCons (gNm 6) (gsCons (gNm 7) gsNil))) (eVarV 1))
  (sSeq
  (sIf (bB (eBin (cB gLe) (eVar 6) (eCon (.int 0))))
  (sRet (eCon (.int 1)))
  sNil)
  (sSeq
  (sSet 8 (eBin gAdd (eBin gAdd (eBin gMulA (eBin gMulA (eVar 3) (eVar 6)) (eVar 6)) (eBin gMulA (eBin gMulA (eVar 4) (eVar 6)) (eVar 7))) (eBin gMulA (eBin gMulA (eVar 5) (eVar 7)) (eVar 7))))
  (sRet (eBin gSub (eCal gInt (aCons (eBin (cB gLt) (eVar 8) (eCon (.int 0))) aNil)) (eCal gInt (aCons (eBin (cB gGt) (eVar 8) (eCon (.int 0))) aNil))))))))
noncomputable def F_compare_by : List SV → Mo SV := runF 9 f_compare_by
theorem sc_compare_by : FnScope ["root", "x", "_", "a", "b", "c", "p", "q", "value"] ["root", "x"] (defScope (top 26)) := ⟨rfl, rfl, rfl, by decide +kernel, rfl, by decide +kernel, by decide +kernel⟩
theorem ok_compare_by (F : VL.FnP K "compare_by" (top 26) f fd) (hm : mg "compare_by" = some (.ref f)) (fr : Fr mg) : DefOk P w K mg base 1 "compare_by" 2 F_compare_by :=
  mk_def (k := 0) (fb := f_compare_by) F hm sc_compare_by (by decide) (fun _ _ _ _ _ _ us hl => match us, hl with | [_, _], _ => rfl) fun cdv A outer s H E hr E0 A0 Pr =>
  (ss_cons (s_asg (v_varV (pv 0)) (L2.pg_tup rfl (pgs_cons (pg_name sc_compare_by.nd rfl (by first | exact Or.inl rfl | exact Or.inr rfl)) (pgs_cons (pg_name sc_compare_by.nd rfl (by first | exact Or.inl rfl | exact Or.inr rfl)) (pgs_cons (pg_name sc_compare_by.nd rfl (by first | exact Or.inl rfl | exact Or.inr rfl)) (pgs_cons (pg_name sc_compare_by.nd rfl (by first | exact Or.inl rfl | exact Or.inr rfl)) pgs_nil))))) (g_tp (gs_cons g_nm (gs_cons g_nm (gs_cons g_nm (gs_cons g_nm gs_nil))))))
  (ss_cons (s_asg (v_varV (pv 1)) (L2.pg_tup rfl (pgs_cons (pg_name sc_compare_by.nd rfl (by first | exact Or.inl rfl | exact Or.inr rfl)) (pgs_cons (pg_name sc_compare_by.nd rfl (by first | exact Or.inl rfl | exact Or.inr rfl)) pgs_nil))) (g_tp (gs_cons g_nm (gs_cons g_nm gs_nil))))
  (ss_cons (s_if (t_le (ka := .be) (kb := .be) (v_var (pv 6)) v_int)
  (ss_one (s_ret v_int))
  ss_nil)
  (ss_cons (s_set (i := 8) sc_compare_by.nd rfl (by first | exact Or.inl rfl | exact Or.inr rfl) (v_add (hk := rfl) (ka := .be) (kb := .be) (v_add (hk := rfl) (ka := .be) (kb := .be) (v_mulA (hk := rfl) (ka := .be) (kb := .be) (v_mulA (hk := rfl) (ka := .be) (kb := .be) (v_var (pv 3)) (v_var (pv 6))) (v_var (pv 6))) (v_mulA (hk := rfl) (ka := .be) (kb := .be) (v_mulA (hk := rfl) (ka := .be) (kb := .be) (v_var (pv 4)) (v_var (pv 6))) (v_var (pv 7)))) (v_mulA (hk := rfl) (ka := .be) (kb := .be) (v_mulA (hk := rfl) (ka := .be) (kb := .be) (v_var (pv 5)) (v_var (pv 7))) (v_var (pv 7)))))
  (ss_one (s_ret (v_sub (ka := .be) (kb := .be) (v_calT (ka := .be) call_int1 ok_int rfl fr.int boot_int' (a_cons (v_lt (ka := .be) (kb := .be) rfl hr.units (v_var (pv 8)) v_int) a_nil)) (v_calT (ka := .be) call_int1 ok_int rfl fr.int boot_int' (a_cons (v_gt (ka := .be) (kb := .be) (v_var (pv 8)) v_int) a_nil)))))))))
/-! ### square_root -/
noncomputable def f_square_root : Rho → Sto → Option Fl :=
  (sSeq
  (sIf (bB (eBin (cB gLt) (eVar 0) (eCon (.int 2))))
  (sRetV 0)
  sNil)
  (sSeq
  (sPar 1 2 (aCons (eCon (.int 1)) (aCons (eBin gShl (eCon (.int 1)) (eBin gAdd (eBin gFdiv (eBin gAdd (eBits (eVar 0)) (eCon (.int 1))) (eCon (.int 2))) (eCon (.int 1)))) aNil)))
  (sSeq
  (sWhile (bB (eBin (cB gGt) (eBin gSub (eVar 2) (eVar 1)) (eCon (.int 1))))
  (sSeq
  (sSet 3 (eBin gFdiv (eBin gAdd (eVar 1) (eVar 2)) (eCon (.int 2))))
  (sIf (bB (eBin (cB gLe) (eBin gMulA (eVar 3) (eVar 3)) (eVar 0)))
  (sSet 1 (eVarV 3))
  (sSet 2 (eVarV 3)))))
  (sRetV 1))))
noncomputable def F_square_root : List SV → Mo SV := runF 4 f_square_root
theorem sc_square_root : FnScope ["n", "low", "high", "middle"] ["n"] (defScope (top 28)) := ⟨rfl, rfl, rfl, by decide +kernel, rfl, by decide +kernel, by decide +kernel⟩
theorem ok_square_root (F : VL.FnP K "square_root" (top 28) f fd) (hm : mg "square_root" = some (.ref f)) (fr : Fr mg) : DefOk P w K mg base 1 "square_root" 1 F_square_root :=
  mk_def (k := 0) (fb := f_square_root) F hm sc_square_root (by decide) (fun _ _ _ _ _ _ us hl => match us, hl with | [_], _ => rfl) fun cdv A outer s H E hr E0 A0 Pr =>
  (ss_cons (s_if (t_lt (ka := .be) (kb := .be) rfl hr.units (v_var (pv 0)) v_int)
  (ss_one (s_retV (pv 0)))
  ss_nil)
  (ss_cons (s_par (i := 1) (j := 2) rfl sc_square_root.nd rfl rfl (by decide) rfl rfl (a_cons v_int (a_cons (v_shl (ka := .be) (kb := .be) v_int (v_add (hk := rfl) (ka := .be) (kb := .be) (v_fdiv (ka := .be) (kb := .be) (v_add (hk := rfl) (ka := .be) (kb := .be) (v_bits (ka := .be) (v_var (pv 0))) v_int) v_int) v_int)) a_nil)) (by rfl))
  (ss_cons (s_while (passes_of rfl) (t_gt (ka := .be) (kb := .be) (v_sub (ka := .be) (kb := .be) (v_var (pv 2)) (v_var (pv 1))) v_int)
  (ss_cons (s_set (i := 3) sc_square_root.nd rfl (by first | exact Or.inl rfl | exact Or.inr rfl) (v_fdiv (ka := .be) (kb := .be) (v_add (hk := rfl) (ka := .be) (kb := .be) (v_var (pv 1)) (v_var (pv 2))) v_int))
  (ss_one (s_if (t_le (ka := .be) (kb := .be) (v_mulA (hk := rfl) (ka := .be) (kb := .be) (v_var (pv 3)) (v_var (pv 3))) (v_var (pv 0)))
  (ss_one (s_set (i := 1) sc_square_root.nd rfl (by first | exact Or.inl rfl | exact Or.inr rfl) (v_varV (pv 3))))
  (ss_one (s_set (i := 2) sc_square_root.nd rfl (by first | exact Or.inl rfl | exact Or.inr rfl) (v_varV (pv 3))))))))
  (ss_one (s_retV (pv 1))))))
/-! ### _law_bag -/
noncomputable def f__law_bag : Rho → Sto → Option Fl :=
  (sSeq
  (sSet 2 (eCon (.int 0)))
  (sSeq
  (sIf (bB (eBin (cB gLt) (eVar 1) (eCal gLen (aCons (eVar 0) aNil))))
  (sSet 2 (eCal gInt (aCons (eBin gIxB (eVar 0) (eVar 1)) aNil)))
  sNil)
  (sSeq
  (sIf (bB (eBin (cB gGe) (eVar 2) (eBin gPow (eCon (.int 10)) (eCon (.int 18)))))
  (sRet (eLst (aCons (eVarV 2) (aCons (eVarV 2) (aCons (eVarV 1) aNil)))))
  sNil)
  (sRet (eLst (aCons (eCon (.int 0)) (aCons (eVarV 2) (aCons (eVarV 1) aNil))))))))
noncomputable def F__law_bag : List SV → Mo SV := runF 3 f__law_bag
theorem sc__law_bag : FnScope ["script", "k", "cell"] ["script", "k"] (defScope (top 44)) := ⟨rfl, rfl, rfl, by decide +kernel, rfl, by decide +kernel, by decide +kernel⟩
theorem ok__law_bag (F : VL.FnP K "_law_bag" (top 44) f fd) (hm : mg "_law_bag" = some (.ref f)) (fr : Fr mg) : DefOk P w K mg base 1 "_law_bag" 2 F__law_bag :=
  mk_def (k := 0) (fb := f__law_bag) F hm sc__law_bag (by decide) (fun _ _ _ _ _ _ us hl => match us, hl with | [_, _], _ => rfl) fun cdv A outer s H E hr E0 A0 Pr =>
  (ss_cons (s_set (i := 2) sc__law_bag.nd rfl (by first | exact Or.inl rfl | exact Or.inr rfl) v_int)
  (ss_cons (s_if (t_lt (ka := .be) (kb := .be) rfl hr.units (v_var (pv 1)) (v_calB (ka := .be) call_len ok_len rfl fr.len boot_len' (a_cons (v_var (pv 0)) a_nil)))
  (ss_one (s_set (i := 2) sc__law_bag.nd rfl (by first | exact Or.inl rfl | exact Or.inr rfl) (v_calT (ka := .be) call_int1 ok_int rfl fr.int boot_int' (a_cons (v_ixB (ka := .be) (kb := .be) rfl (v_var (pv 0)) (v_var (pv 1)) (fun _ _ => rfl)) a_nil))))
  ss_nil)
  (ss_cons (s_if (t_ge (ka := .be) (kb := .be) (v_var (pv 2)) (v_pow (ka := .be) (kb := .be) v_int v_int))
  (ss_one (s_ret (v_lst (a_cons (v_varV (pv 2)) (a_cons (v_varV (pv 2)) (a_cons (v_varV (pv 1)) a_nil))))))
  ss_nil)
  (ss_one (s_ret (v_lst (a_cons v_int (a_cons (v_varV (pv 2)) (a_cons (v_varV (pv 1)) a_nil)))))))))
/-! ### _law_draw -/
noncomputable def f__law_draw : Rho → Sto → Option Fl :=
  (sSeq
  (sIf (bB (eBin (cB gEq) (eBin gIxB (eVar 0) (eCon (.int 0))) (eCon (.int 0))))
  (sSeq
  (sSet 2 (eBin gMod (eCal gInt (aCons (eBin gAdd (eBin gAdd (eBin gMulA (eBin gIxB (eVar 0) (eCon (.int 1))) (eCon (.int 48271))) (eBin gMulA (eBin gIxB (eVar 0) (eCon (.int 2))) (eCon (.int 69621)))) (eCon (.int 11))) aNil)) (eCon (.int 2147483647))))
  (sSeq
  (sStore (lVar 0) (eCon (.int 0)) (eBin gAdd (eBin gMulA (eVar 2) (eCon (.int 2147483629))) (eBin gMod (eCal gInt (aCons (eBin gAdd (eBin gMulA (eVar 2) (eVar 2)) (eBin gMulA (eBin gIxB (eVar 0) (eCon (.int 2))) (eCon (.int 16807)))) aNil)) (eCon (.int 2147483629)))))
  (sStore (lVar 0) (eCon (.int 1)) (eVarV 2))))
  sNil)
  (sSeq
  (sSet 3 (eBin gIx (eVar 0) (eCon (.int 0))))
  (sSeq
  (sStore (lVar 0) (eCon (.int 0)) (eBin gFdiv (eVar 3) (eVar 1)))
  (sRet (eBin gMod (eCal gInt (aCons (eVar 3) aNil)) (eVar 1))))))
noncomputable def F__law_draw : List SV → Mo SV := runF 4 f__law_draw
theorem sc__law_draw : FnScope ["bag", "many", "seed", "rest"] ["bag", "many"] (defScope (top 45)) := ⟨rfl, rfl, rfl, by decide +kernel, rfl, by decide +kernel, by decide +kernel⟩
theorem ok__law_draw (F : VL.FnP K "_law_draw" (top 45) f fd) (hm : mg "_law_draw" = some (.ref f)) (fr : Fr mg) : DefOk P w K mg base 1 "_law_draw" 2 F__law_draw :=
  mk_def (k := 0) (fb := f__law_draw) F hm sc__law_draw (by decide) (fun _ _ _ _ _ _ us hl => match us, hl with | [_, _], _ => rfl) fun cdv A outer s H E hr E0 A0 Pr =>
  (ss_cons (s_if (t_eq (ka := .be) (kb := .be) rfl hr.units (v_ixB (ka := .be) (kb := .be) rfl (v_var (pv 0)) v_int (fun _ _ => rfl)) v_int)
  (ss_cons (s_set (i := 2) sc__law_draw.nd rfl (by first | exact Or.inl rfl | exact Or.inr rfl) (v_mod (ka := .be) (kb := .be) (v_calT (ka := .be) call_int1 ok_int rfl fr.int boot_int' (a_cons (v_add (hk := rfl) (ka := .be) (kb := .be) (v_add (hk := rfl) (ka := .be) (kb := .be) (v_mulA (hk := rfl) (ka := .be) (kb := .be) (v_ixB (ka := .be) (kb := .be) rfl (v_var (pv 0)) v_int (fun _ _ => rfl)) v_int) (v_mulA (hk := rfl) (ka := .be) (kb := .be) (v_ixB (ka := .be) (kb := .be) rfl (v_var (pv 0)) v_int (fun _ _ => rfl)) v_int)) v_int) a_nil)) v_int))
  (ss_cons (s_store (kb := .be) (l_var (pv 0)) v_int (v_add (hk := rfl) (ka := .be) (kb := .be) (v_mulA (hk := rfl) (ka := .be) (kb := .be) (v_var (pv 2)) v_int) (v_mod (ka := .be) (kb := .be) (v_calT (ka := .be) call_int1 ok_int rfl fr.int boot_int' (a_cons (v_add (hk := rfl) (ka := .be) (kb := .be) (v_mulA (hk := rfl) (ka := .be) (kb := .be) (v_var (pv 2)) (v_var (pv 2))) (v_mulA (hk := rfl) (ka := .be) (kb := .be) (v_ixB (ka := .be) (kb := .be) rfl (v_var (pv 0)) v_int (fun _ _ => rfl)) v_int)) a_nil)) v_int)))
  (ss_one (s_store (kb := .be) (l_var (pv 0)) v_int (v_varV (pv 2))))))
  ss_nil)
  (ss_cons (s_set (i := 3) sc__law_draw.nd rfl (by first | exact Or.inl rfl | exact Or.inr rfl) (v_ix (ka := .be) (kb := .be) rfl (v_var (pv 0)) v_int (fun _ _ => rfl)))
  (ss_cons (s_store (kb := .be) (l_var (pv 0)) v_int (v_fdiv (ka := .be) (kb := .be) (v_var (pv 3)) (v_var (pv 1))))
  (ss_one (s_ret (v_mod (ka := .be) (kb := .be) (v_calT (ka := .be) call_int1 ok_int rfl fr.int boot_int' (a_cons (v_var (pv 3)) a_nil)) (v_var (pv 1))))))))
/-! ### _law_fr -/
noncomputable def f__law_fr : Rho → Sto → Option Fl :=
  (sSeq
  (sPar 2 3 (aCons (eCal gAbs (aCons (eVar 0) aNil)) (aCons (eCal gAbs (aCons (eVar 1) aNil)) aNil)))
  (sSeq
  (sWhile (bB (eBin (cB gNe) (eVar 3) (eCon (.int 0))))
  (sPar 2 3 (aCons (eVarV 3) (aCons (eBin gMod (eVar 2) (eVar 3)) aNil))))
  (sSeq
  (sIf (bB (eBin (cB gLt) (eVar 1) (eCon (.int 0))))
  (sSet 2 (eBin gSub (eCon (.int 0)) (eVar 2)))
  sNil)
  (sRet (eTup (aCons (eBin gFdiv (eVar 0) (eVar 2)) (aCons (eBin gFdiv (eVar 1) (eVar 2)) aNil)))))))
noncomputable def F__law_fr : List SV → Mo SV := runF 4 f__law_fr
theorem sc__law_fr : FnScope ["p", "q", "a", "b"] ["p", "q"] (defScope (top 46)) := ⟨rfl, rfl, rfl, by decide +kernel, rfl, by decide +kernel, by decide +kernel⟩
theorem ok__law_fr (F : VL.FnP K "_law_fr" (top 46) f fd) (hm : mg "_law_fr" = some (.ref f)) (fr : Fr mg) : DefOk P w K mg base 1 "_law_fr" 2 F__law_fr :=
  mk_def (k := 0) (fb := f__law_fr) F hm sc__law_fr (by decide) (fun _ _ _ _ _ _ us hl => match us, hl with | [_, _], _ => rfl) fun cdv A outer s H E hr E0 A0 Pr =>
  (ss_cons (s_par (i := 2) (j := 3) rfl sc__law_fr.nd rfl rfl (by decide) rfl rfl (a_cons (v_calB (ka := .be) call_abs ok_abs rfl fr.abs boot_abs' (a_cons (v_var (pv 0)) a_nil)) (a_cons (v_calB (ka := .be) call_abs ok_abs rfl fr.abs boot_abs' (a_cons (v_var (pv 1)) a_nil)) a_nil)) (by rfl))
  (ss_cons (s_while (passes_of rfl) (t_ne (ka := .be) (kb := .be) rfl hr.units (v_var (pv 3)) v_int)
  (ss_one (s_par (i := 2) (j := 3) rfl sc__law_fr.nd rfl rfl (by decide) rfl rfl (a_cons (v_varV (pv 3)) (a_cons (v_mod (ka := .be) (kb := .be) (v_var (pv 2)) (v_var (pv 3))) a_nil)) (by rfl))))
  (ss_cons (s_if (t_lt (ka := .be) (kb := .be) rfl hr.units (v_var (pv 1)) v_int)
  (ss_one (s_set (i := 2) sc__law_fr.nd rfl (by first | exact Or.inl rfl | exact Or.inr rfl) (v_sub (ka := .be) (kb := .be) v_int (v_var (pv 2)))))
  ss_nil)
  (ss_one (s_ret (v_tup (a_cons (v_fdiv (ka := .be) (kb := .be) (v_var (pv 0)) (v_var (pv 2))) (a_cons (v_fdiv (ka := .be) (kb := .be) (v_var (pv 1)) (v_var (pv 2))) a_nil))))))))
/-! ### _law_whole -/
noncomputable def f__law_whole : Rho → Sto → Option Fl :=
  (sSeq
  (sSet 1 (eCon (.int 0)))
  (sSeq
  (sSet 2 (eCon (.int 1)))
  (sSeq
  (sWhile (bB (eBin (cB gLe) (eBin gMulA (eVar 2) (eVar 2)) (eVar 0)))
  (sSet 2 (eBin gMulA (eCon (.int 2)) (eVar 2))))
  (sSeq
  (sWhile (bB (eBin (cB gGt) (eVar 2) (eCon (.int 0))))
  (sSeq
  (sIf (bB (eBin (cB gLe) (eBin gMulA (eBin gAdd (eVar 1) (eVar 2)) (eBin gAdd (eVar 1) (eVar 2))) (eVar 0)))
  (sSet 1 (eBin gAdd (eVar 1) (eVar 2)))
  sNil)
  (sSet 2 (eBin gFdiv (eVar 2) (eCon (.int 2))))))
  (sRet (eIf (bB (eBin (cB gEq) (eBin gMulA (eVar 1) (eVar 1)) (eVar 0))) (eVarV 1) (eCon (.none))))))))
noncomputable def F__law_whole : List SV → Mo SV := runF 3 f__law_whole
theorem sc__law_whole : FnScope ["n", "t", "step"] ["n"] (defScope (top 57)) := ⟨rfl, rfl, rfl, by decide +kernel, rfl, by decide +kernel, by decide +kernel⟩
theorem ok__law_whole (F : VL.FnP K "_law_whole" (top 57) f fd) (hm : mg "_law_whole" = some (.ref f)) (fr : Fr mg) : DefOk P w K mg base 1 "_law_whole" 1 F__law_whole :=
  mk_def (k := 0) (fb := f__law_whole) F hm sc__law_whole (by decide) (fun _ _ _ _ _ _ us hl => match us, hl with | [_], _ => rfl) fun cdv A outer s H E hr E0 A0 Pr =>
  (ss_cons (s_set (i := 1) sc__law_whole.nd rfl (by first | exact Or.inl rfl | exact Or.inr rfl) v_int)
  (ss_cons (s_set (i := 2) sc__law_whole.nd rfl (by first | exact Or.inl rfl | exact Or.inr rfl) v_int)
  (ss_cons (s_while (passes_of rfl) (t_le (ka := .be) (kb := .be) (v_mulA (hk := rfl) (ka := .be) (kb := .be) (v_var (pv 2)) (v_var (pv 2))) (v_var (pv 0)))
  (ss_one (s_set (i := 2) sc__law_whole.nd rfl (by first | exact Or.inl rfl | exact Or.inr rfl) (v_mulA (hk := rfl) (ka := .be) (kb := .be) v_int (v_var (pv 2))))))
  (ss_cons (s_while (passes_of rfl) (t_gt (ka := .be) (kb := .be) (v_var (pv 2)) v_int)
  (ss_cons (s_if (t_le (ka := .be) (kb := .be) (v_mulA (hk := rfl) (ka := .be) (kb := .be) (v_add (hk := rfl) (ka := .be) (kb := .be) (v_var (pv 1)) (v_var (pv 2))) (v_add (hk := rfl) (ka := .be) (kb := .be) (v_var (pv 1)) (v_var (pv 2)))) (v_var (pv 0)))
  (ss_one (s_set (i := 1) sc__law_whole.nd rfl (by first | exact Or.inl rfl | exact Or.inr rfl) (v_add (hk := rfl) (ka := .be) (kb := .be) (v_var (pv 1)) (v_var (pv 2)))))
  ss_nil)
  (ss_one (s_set (i := 2) sc__law_whole.nd rfl (by first | exact Or.inl rfl | exact Or.inr rfl) (v_fdiv (ka := .be) (kb := .be) (v_var (pv 2)) v_int)))))
  (ss_one (s_ret (v_if (t_eq (ka := .be) (kb := .be) rfl hr.units (v_mulA (hk := rfl) (ka := .be) (kb := .be) (v_var (pv 1)) (v_var (pv 1))) (v_var (pv 0))) (v_varV (pv 1)) v_non)))))))
/-! ### fraction -/
noncomputable def f_fraction : Rho → Sto → Option Fl :=
  (sSeq
  (sIf (bB (eBin (cB gEq) (eVar 1) (eCon (.int 0))))
  (sRaise "BadValue")
  sNil)
  (sSeq
  (sIf (bB (eBin (cB gLt) (eVar 1) (eCon (.int 0))))
  (sPar 0 1 (aCons (eUn gNeg (eVar 0)) (aCons (eUn gNeg (eVar 1)) aNil)))
  sNil)
  (sSeq
  (sSet 2 (eCall 2 F_common [] (aCons (eVarV 0) (aCons (eVarV 1) aNil))))
  (sRet (eTup (aCons (eBin gFdiv (eVar 0) (eVar 2)) (aCons (eBin gFdiv (eVar 1) (eVar 2)) aNil)))))))
noncomputable def F_fraction : List SV → Mo SV := runF 3 f_fraction
theorem sc_fraction : FnScope ["p", "q", "divisor"] ["p", "q"] (defScope (top 7)) := ⟨rfl, rfl, rfl, by decide +kernel, rfl, by decide +kernel, by decide +kernel⟩
theorem ok_fraction (F : VL.FnP K "fraction" (top 7) f fd) (hm : mg "fraction" = some (.ref f)) (fr : Fr mg) (d_common : DefOk P w K mg base 1 "common" 2 F_common) (e_BadValue : ExcOk K mg "BadValue") : DefOk P w K mg base 2 "fraction" 2 F_fraction :=
  mk_def (k := 1) (fb := f_fraction) F hm sc_fraction (by decide) (fun _ _ _ _ _ _ us hl => match us, hl with | [_, _], _ => rfl) fun cdv A outer s H E hr E0 A0 Pr =>
  (ss_cons (s_if (t_eq (ka := .be) (kb := .be) rfl hr.units (v_var (pv 1)) v_int)
  (ss_one (s_raise rfl e_BadValue rfl (takes_of rfl rfl rfl rfl) rfl))
  ss_nil)
  (ss_cons (s_if (t_lt (ka := .be) (kb := .be) rfl hr.units (v_var (pv 1)) v_int)
  (ss_one (s_par (i := 0) (j := 1) rfl sc_fraction.nd rfl rfl (by decide) rfl rfl (a_cons (v_neg (ka := .be) (v_var (pv 0))) (a_cons (v_neg (ka := .be) (v_var (pv 1))) a_nil)) (by rfl)))
  ss_nil)
  (ss_cons (s_set (i := 2) sc_fraction.nd rfl (by first | exact Or.inl rfl | exact Or.inr rfl) (v_call (bs := []) (d_common.mono (k := 1) (by decide)) rfl rfl hr rfl (takes_of rfl rfl rfl rfl) (a_cons (v_varV (pv 0)) (a_cons (v_varV (pv 1)) a_nil))))
  (ss_one (s_ret (v_tup (a_cons (v_fdiv (ka := .be) (kb := .be) (v_var (pv 0)) (v_var (pv 2))) (a_cons (v_fdiv (ka := .be) (kb := .be) (v_var (pv 1)) (v_var (pv 2))) a_nil))))))))
/-! ### is_any_fraction -/
noncomputable def f_is_any_fraction : Rho → Sto → Option Fl :=
  (sSeq
  (sIf (bOr (bNot (bVal (eIsi1 (eVar 0) ["tuple"]))) (bB (eBin (cB gNe) (eCal gLen (aCons (eVar 0) aNil)) (eCon (.int 2)))))
  (sRet (eCon (.bool false)))
  sNil)
  (sSeq
  (sAsg (gTp 2 (gsCons (gNm 1) (gsCons (gNm 2) gsNil))) (eVarV 0))
  (sSeq
  (sIf (bOr (bNot (bVal (eIsi1 (eVar 1) ["int"]))) (bOr (bVal (eIsi1 (eVar 1) ["bool"])) (bOr (bNot (bVal (eIsi1 (eVar 2) ["int"]))) (bOr (bVal (eIsi1 (eVar 2) ["bool"])) (bB (eBin (cB gLt) (eVar 2) (eCon (.int 1))))))))
  (sRet (eCon (.bool false)))
  sNil)
  (sRet (eBin (cB gEq) (eCall 2 F_common [] (aCons (eVarV 1) (aCons (eVarV 2) aNil))) (eCon (.int 1)))))))
noncomputable def F_is_any_fraction : List SV → Mo SV := runF 3 f_is_any_fraction
theorem sc_is_any_fraction : FnScope ["value", "p", "q"] ["value"] (defScope (top 14)) := ⟨rfl, rfl, rfl, by decide +kernel, rfl, by decide +kernel, by decide +kernel⟩
theorem ok_is_any_fraction (F : VL.FnP K "is_any_fraction" (top 14) f fd) (hm : mg "is_any_fraction" = some (.ref f)) (fr : Fr mg) (d_common : DefOk P w K mg base 1 "common" 2 F_common) : DefOk P w K mg base 2 "is_any_fraction" 1 F_is_any_fraction :=
  mk_def (k := 1) (fb := f_is_any_fraction) F hm sc_is_any_fraction (by decide) (fun _ _ _ _ _ _ us hl => match us, hl with | [_], _ => rfl) fun cdv A outer s H E hr E0 A0 Pr =>
  (ss_cons (s_if (PW.pt (b_or (b_not (b_val (ka := .be) rfl (v_isi (ka := .be) (T := "tuple") rfl (by decide) rfl fr.isinstance (v_var (pv 0)) rfl fr.tuple boot_tuple'))) (b_or1 (t_ne (ka := .be) (kb := .be) rfl hr.units (v_calB (ka := .be) call_len ok_len rfl fr.len boot_len' (a_cons (v_var (pv 0)) a_nil)) v_int))))
  (ss_one (s_ret v_bl))
  ss_nil)
  (ss_cons (s_asg (v_varV (pv 0)) (L2.pg_tup rfl (pgs_cons (pg_name sc_is_any_fraction.nd rfl (by first | exact Or.inl rfl | exact Or.inr rfl)) (pgs_cons (pg_name sc_is_any_fraction.nd rfl (by first | exact Or.inl rfl | exact Or.inr rfl)) pgs_nil))) (g_tp (gs_cons g_nm (gs_cons g_nm gs_nil))))
  (ss_cons (s_if (PW.pt (b_or (b_not (b_val (ka := .be) rfl (v_isi (ka := .be) (T := "int") rfl (by decide) rfl fr.isinstance (v_var (pv 1)) rfl fr.int boot_int'))) (b_or (b_val (ka := .be) rfl (v_isi (ka := .be) (T := "bool") rfl (by decide) rfl fr.isinstance (v_var (pv 1)) rfl fr.bool boot_bool')) (b_or (b_not (b_val (ka := .be) rfl (v_isi (ka := .be) (T := "int") rfl (by decide) rfl fr.isinstance (v_var (pv 2)) rfl fr.int boot_int'))) (b_or (b_val (ka := .be) rfl (v_isi (ka := .be) (T := "bool") rfl (by decide) rfl fr.isinstance (v_var (pv 2)) rfl fr.bool boot_bool')) (b_or1 (t_lt (ka := .be) (kb := .be) rfl hr.units (v_var (pv 2)) v_int)))))))
  (ss_one (s_ret v_bl))
  ss_nil)
  (ss_one (s_ret (v_eq (ka := .be) (kb := .be) rfl hr.units (v_call (bs := []) (d_common.mono (k := 1) (by decide)) rfl rfl hr rfl (takes_of rfl rfl rfl rfl) (a_cons (v_varV (pv 1)) (a_cons (v_varV (pv 2)) a_nil))) v_int))))))
/-! ### is_root -/
noncomputable def f_is_root : Rho → Sto → Option Fl :=
  (sSeq
  (sIf (bOr (bNot (bVal (eIsi1 (eVar 0) ["tuple"]))) (bOr (bB (eBin (cB gNe) (eCal gLen (aCons (eVar 0) aNil)) (eCon (.int 4)))) (bOr (bNot (bVal (eIsi1 (eBin gIxB (eVar 0) (eCon (.int 0))) ["str"]))) (bB (eBin (cB gNe) (eBin gIxB (eVar 0) (eCon (.int 0))) (eCon (.str "root")))))))
  (sRet (eCon (.bool false)))
  sNil)
  (sSeq
  (sIf (bNot (bVal (eCal gAll (aCons (eLc (iSeq (eSl (eVar 0) (pSome (eCon (.int 1))) pNone)) (gNm 1) bYes (eAnd (eIsi1 (eVar 1) ["int"]) (eNot (eIsi1 (eVar 1) ["bool"]))) [1]) aNil))))
  (sRet (eCon (.bool false)))
  sNil)
  (sRet (eAnd (eBin (cB gGt) (eBin gIxB (eVar 0) (eCon (.int 1))) (eCon (.int 0))) (eAnd (eBin (cB gLt) (eBin gIxB (eVar 0) (eCon (.int 3))) (eCon (.int 0))) (eBin (cB gEq) (eCall 1 F_greatest_divisor [] (aCons (eSl (eVar 0) (pSome (eCon (.int 1))) pNone) aNil)) (eCon (.int 1))))))))
noncomputable def F_is_root : List SV → Mo SV := runF 2 f_is_root
theorem sc_is_root : FnScope ["value", "one"] ["value"] (defScope (top 24)) := ⟨rfl, rfl, rfl, by decide +kernel, rfl, by decide +kernel, by decide +kernel⟩
theorem ok_is_root (F : VL.FnP K "is_root" (top 24) f fd) (hm : mg "is_root" = some (.ref f)) (fr : Fr mg) (d_greatest_divisor : DefOk P w K mg base 1 "greatest_divisor" 1 F_greatest_divisor) : DefOk P w K mg base 2 "is_root" 1 F_is_root :=
  mk_def (k := 1) (fb := f_is_root) F hm sc_is_root (by decide) (fun _ _ _ _ _ _ us hl => match us, hl with | [_], _ => rfl) fun cdv A outer s H E hr E0 A0 Pr =>
  (ss_cons (s_if (PW.pt (b_or (b_not (b_val (ka := .be) rfl (v_isi (ka := .be) (T := "tuple") rfl (by decide) rfl fr.isinstance (v_var (pv 0)) rfl fr.tuple boot_tuple'))) (b_or (t_ne (ka := .be) (kb := .be) rfl hr.units (v_calB (ka := .be) call_len ok_len rfl fr.len boot_len' (a_cons (v_var (pv 0)) a_nil)) v_int) (b_or (b_not (b_val (ka := .be) rfl (v_isi (ka := .be) (T := "str") rfl (by decide) rfl fr.isinstance (v_ixB (ka := .be) (kb := .be) rfl (v_var (pv 0)) v_int (fun _ _ => rfl)) rfl fr.str boot_str'))) (b_or1 (t_ne (ka := .be) (kb := .be) rfl hr.units (v_ixB (ka := .be) (kb := .be) rfl (v_var (pv 0)) v_int (fun _ _ => rfl)) v_str))))))
  (ss_one (s_ret v_bl))
  ss_nil)
  (ss_cons (s_if (b_not (b_val (ka := .be) rfl (v_calB (ka := .be) (cr_all rfl) ok_all rfl fr.all boot_all' (a_cons (v_lc (own := [("one", 1)]) rfl sc_is_root.nd (i_seq (ka := .be) rfl (v_sl (ka := .be) rfl (v_var (pv 0)) (o_some (ka := .be) v_int) o_none)) (blk_of (by rfl)) (fun _ _ _ _ _ => (pg_name sc_is_root.nd rfl (by first | exact Or.inl rfl | exact Or.inr rfl))) g_nm (by decide) (fun _ _ _ _ _ => ts_nil) (fun _ _ _ _ _ => (v_and (ka := .fe) (v_isi (ka := .be) (T := "int") rfl (by decide) rfl fr.isinstance (v_var (pv 1)) rfl fr.int boot_int') (v_one (v_not (ka := .be) (v_isi (ka := .be) (T := "bool") rfl (by decide) rfl fr.isinstance (v_var (pv 1)) rfl fr.bool boot_bool')))))) a_nil))))
  (ss_one (s_ret v_bl))
  ss_nil)
  (ss_one (s_ret (v_and (ka := .fe) (v_gt (ka := .be) (kb := .be) (v_ixB (ka := .be) (kb := .be) rfl (v_var (pv 0)) v_int (fun _ _ => rfl)) v_int) (v_and (ka := .fe) (v_lt (ka := .be) (kb := .be) rfl hr.units (v_ixB (ka := .be) (kb := .be) rfl (v_var (pv 0)) v_int (fun _ _ => rfl)) v_int) (v_one (v_eq (ka := .be) (kb := .be) rfl hr.units (v_call (bs := []) (d_greatest_divisor.mono (k := 1) (by decide)) rfl rfl hr rfl (takes_of rfl rfl rfl rfl) (a_cons (v_sl (ka := .be) rfl (v_var (pv 0)) (o_some (ka := .be) v_int) o_none) a_nil)) v_int))))))))
/-! ### _law_add -/
noncomputable def f__law_add : Rho → Sto → Option Fl :=
  (sRet (eCall 2 F__law_fr [] (aCons (eBin gAdd (eBin gMulA (eBin gIxB (eVar 0) (eCon (.int 0))) (eBin gIxB (eVar 1) (eCon (.int 1)))) (eBin gMulA (eBin gIxB (eVar 1) (eCon (.int 0))) (eBin gIxB (eVar 0) (eCon (.int 1))))) (aCons (eBin gMulA (eBin gIxB (eVar 0) (eCon (.int 1))) (eBin gIxB (eVar 1) (eCon (.int 1)))) aNil))))
noncomputable def F__law_add : List SV → Mo SV := runF 2 f__law_add
theorem sc__law_add : FnScope ["x", "y"] ["x", "y"] (defScope (top 47)) := ⟨rfl, rfl, rfl, by decide +kernel, rfl, by decide +kernel, by decide +kernel⟩
theorem ok__law_add (F : VL.FnP K "_law_add" (top 47) f fd) (hm : mg "_law_add" = some (.ref f)) (fr : Fr mg) (d__law_fr : DefOk P w K mg base 1 "_law_fr" 2 F__law_fr) : DefOk P w K mg base 2 "_law_add" 2 F__law_add :=
  mk_def (k := 1) (fb := f__law_add) F hm sc__law_add (by decide) (fun _ _ _ _ _ _ us hl => match us, hl with | [_, _], _ => rfl) fun cdv A outer s H E hr E0 A0 Pr =>
  (ss_one (s_ret (v_call (bs := []) (d__law_fr.mono (k := 1) (by decide)) rfl rfl hr rfl (takes_of rfl rfl rfl rfl) (a_cons (v_add (hk := rfl) (ka := .be) (kb := .be) (v_mulA (hk := rfl) (ka := .be) (kb := .be) (v_ixB (ka := .be) (kb := .be) rfl (v_var (pv 0)) v_int (fun _ _ => rfl)) (v_ixB (ka := .be) (kb := .be) rfl (v_var (pv 1)) v_int (fun _ _ => rfl))) (v_mulA (hk := rfl) (ka := .be) (kb := .be) (v_ixB (ka := .be) (kb := .be) rfl (v_var (pv 1)) v_int (fun _ _ => rfl)) (v_ixB (ka := .be) (kb := .be) rfl (v_var (pv 0)) v_int (fun _ _ => rfl)))) (a_cons (v_mulA (hk := rfl) (ka := .be) (kb := .be) (v_ixB (ka := .be) (kb := .be) rfl (v_var (pv 0)) v_int (fun _ _ => rfl)) (v_ixB (ka := .be) (kb := .be) rfl (v_var (pv 1)) v_int (fun _ _ => rfl))) a_nil)))))
/-! ### _law_sub -/
noncomputable def f__law_sub : Rho → Sto → Option Fl :=
  (sRet (eCall 2 F__law_fr [] (aCons (eBin gSub (eBin gMulA (eBin gIxB (eVar 0) (eCon (.int 0))) (eBin gIxB (eVar 1) (eCon (.int 1)))) (eBin gMulA (eBin gIxB (eVar 1) (eCon (.int 0))) (eBin gIxB (eVar 0) (eCon (.int 1))))) (aCons (eBin gMulA (eBin gIxB (eVar 0) (eCon (.int 1))) (eBin gIxB (eVar 1) (eCon (.int 1)))) aNil))))
noncomputable def F__law_sub : List SV → Mo SV := runF 2 f__law_sub
theorem sc__law_sub : FnScope ["x", "y"] ["x", "y"] (defScope (top 48)) := ⟨rfl, rfl, rfl, by decide +kernel, rfl, by decide +kernel, by decide +kernel⟩
theorem ok__law_sub (F : VL.FnP K "_law_sub" (top 48) f fd) (hm : mg "_law_sub" = some (.ref f)) (fr : Fr mg) (d__law_fr : DefOk P w K mg base 1 "_law_fr" 2 F__law_fr) : DefOk P w K mg base 2 "_law_sub" 2 F__law_sub :=
  mk_def (k := 1) (fb := f__law_sub) F hm sc__law_sub (by decide) (fun _ _ _ _ _ _ us hl => match us, hl with | [_, _], _ => rfl) fun cdv A outer s H E hr E0 A0 Pr =>
  (ss_one (s_ret (v_call (bs := []) (d__law_fr.mono (k := 1) (by decide)) rfl rfl hr rfl (takes_of rfl rfl rfl rfl) (a_cons (v_sub (ka := .be) (kb := .be) (v_mulA (hk := rfl) (ka := .be) (kb := .be) (v_ixB (ka := .be) (kb := .be) rfl (v_var (pv 0)) v_int (fun _ _ => rfl)) (v_ixB (ka := .be) (kb := .be) rfl (v_var (pv 1)) v_int (fun _ _ => rfl))) (v_mulA (hk := rfl) (ka := .be) (kb := .be) (v_ixB (ka := .be) (kb := .be) rfl (v_var (pv 1)) v_int (fun _ _ => rfl)) (v_ixB (ka := .be) (kb := .be) rfl (v_var (pv 0)) v_int (fun _ _ => rfl)))) (a_cons (v_mulA (hk := rfl) (ka := .be) (kb := .be) (v_ixB (ka := .be) (kb := .be) rfl (v_var (pv 0)) v_int (fun _ _ => rfl)) (v_ixB (ka := .be) (kb := .be) rfl (v_var (pv 1)) v_int (fun _ _ => rfl))) a_nil)))))
/-! ### _law_mul -/
noncomputable def f__law_mul : Rho → Sto → Option Fl :=
  (sRet (eCall 2 F__law_fr [] (aCons (eBin gMulA (eBin gIxB (eVar 0) (eCon (.int 0))) (eBin gIxB (eVar 1) (eCon (.int 0)))) (aCons (eBin gMulA (eBin gIxB (eVar 0) (eCon (.int 1))) (eBin gIxB (eVar 1) (eCon (.int 1)))) aNil))))
noncomputable def F__law_mul : List SV → Mo SV := runF 2 f__law_mul
theorem sc__law_mul : FnScope ["x", "y"] ["x", "y"] (defScope (top 49)) := ⟨rfl, rfl, rfl, by decide +kernel, rfl, by decide +kernel, by decide +kernel⟩
theorem ok__law_mul (F : VL.FnP K "_law_mul" (top 49) f fd) (hm : mg "_law_mul" = some (.ref f)) (fr : Fr mg) (d__law_fr : DefOk P w K mg base 1 "_law_fr" 2 F__law_fr) : DefOk P w K mg base 2 "_law_mul" 2 F__law_mul :=
  mk_def (k := 1) (fb := f__law_mul) F hm sc__law_mul (by decide) (fun _ _ _ _ _ _ us hl => match us, hl with | [_, _], _ => rfl) fun cdv A outer s H E hr E0 A0 Pr =>
  (ss_one (s_ret (v_call (bs := []) (d__law_fr.mono (k := 1) (by decide)) rfl rfl hr rfl (takes_of rfl rfl rfl rfl) (a_cons (v_mulA (hk := rfl) (ka := .be) (kb := .be) (v_ixB (ka := .be) (kb := .be) rfl (v_var (pv 0)) v_int (fun _ _ => rfl)) (v_ixB (ka := .be) (kb := .be) rfl (v_var (pv 1)) v_int (fun _ _ => rfl))) (a_cons (v_mulA (hk := rfl) (ka := .be) (kb := .be) (v_ixB (ka := .be) (kb := .be) rfl (v_var (pv 0)) v_int (fun _ _ => rfl)) (v_ixB (ka := .be) (kb := .be) rfl (v_var (pv 1)) v_int (fun _ _ => rfl))) a_nil)))))
/-! ### _law_div -/
noncomputable def f__law_div : Rho → Sto → Option Fl :=
  (sRet (eCall 2 F__law_fr [] (aCons (eBin gMulA (eBin gIxB (eVar 0) (eCon (.int 0))) (eBin gIxB (eVar 1) (eCon (.int 1)))) (aCons (eBin gMulA (eBin gIxB (eVar 0) (eCon (.int 1))) (eBin gIxB (eVar 1) (eCon (.int 0)))) aNil))))
noncomputable def F__law_div : List SV → Mo SV := runF 2 f__law_div
theorem sc__law_div : FnScope ["x", "y"] ["x", "y"] (defScope (top 50)) := ⟨rfl, rfl, rfl, by decide +kernel, rfl, by decide +kernel, by decide +kernel⟩
theorem ok__law_div (F : VL.FnP K "_law_div" (top 50) f fd) (hm : mg "_law_div" = some (.ref f)) (fr : Fr mg) (d__law_fr : DefOk P w K mg base 1 "_law_fr" 2 F__law_fr) : DefOk P w K mg base 2 "_law_div" 2 F__law_div :=
  mk_def (k := 1) (fb := f__law_div) F hm sc__law_div (by decide) (fun _ _ _ _ _ _ us hl => match us, hl with | [_, _], _ => rfl) fun cdv A outer s H E hr E0 A0 Pr =>
  (ss_one (s_ret (v_call (bs := []) (d__law_fr.mono (k := 1) (by decide)) rfl rfl hr rfl (takes_of rfl rfl rfl rfl) (a_cons (v_mulA (hk := rfl) (ka := .be) (kb := .be) (v_ixB (ka := .be) (kb := .be) rfl (v_var (pv 0)) v_int (fun _ _ => rfl)) (v_ixB (ka := .be) (kb := .be) rfl (v_var (pv 1)) v_int (fun _ _ => rfl))) (a_cons (v_mulA (hk := rfl) (ka := .be) (kb := .be) (v_ixB (ka := .be) (kb := .be) rfl (v_var (pv 0)) v_int (fun _ _ => rfl)) (v_ixB (ka := .be) (kb := .be) rfl (v_var (pv 1)) v_int (fun _ _ => rfl))) a_nil)))))
/-! ### _law_ladder -/
noncomputable def f__law_ladder : Rho → Sto → Option Fl :=
  (sSeq
  (sSet 1 (eLst aNil))
  (sSeq
  (sFor (iRng1 (aCons (eBin gAdd (eCon (.int 1)) (eCall 2 F__law_draw [] (aCons (eVarV 0) (aCons (eCon (.int 4)) aNil)))) aNil)) (gNm 2)
  (sAppend (lVar 1) (aCons (eTup (aCons (eBin gIx (eLst (aCons (eCon (.str "row")) (aCons (eCon (.str "beside")) aNil))) (eCall 2 F__law_draw [] (aCons (eVarV 0) (aCons (eCon (.int 2)) aNil)))) (aCons (eBin gIx (eLst (aCons (eTup (aCons (eCon (.int 1)) (aCons (eCon (.int 1)) aNil))) (aCons (eTup (aCons (eCon (.int 2)) (aCons (eCon (.int 1)) aNil))) (aCons (eTup (aCons (eCon (.int 1)) (aCons (eCon (.int 2)) aNil))) (aCons (eTup (aCons (eCon (.int 3)) (aCons (eCon (.int 4)) aNil))) (aCons (eTup (aCons (eCon (.int 5)) (aCons (eCon (.int 1)) aNil))) aNil)))))) (eCall 2 F__law_draw [] (aCons (eVarV 0) (aCons (eCon (.int 5)) aNil)))) aNil))) aNil)))
  (sSeq
  (sSet 3 (eLc (iSeq (eVar 1)) (gTp 2 (gsCons (gNm 4) (gsCons (gNm 5) gsNil))) bYes (eVarV 4) [4, 5]))
  (sSeq
  (sIf (bB (eBin (cB gNotIn) (eCon (.str "row")) (eVar 3)))
  (sAppend (lVar 1) (aCons (eTup (aCons (eCon (.str "row")) (aCons (eTup (aCons (eCon (.int 2)) (aCons (eCon (.int 3)) aNil))) aNil))) aNil))
  sNil)
  (sSeq
  (sIf (bB (eBin (cB gNotIn) (eCon (.str "beside")) (eVar 3)))
  (sAppend (lVar 1) (aCons (eTup (aCons (eCon (.str "beside")) (aCons (eTup (aCons (eCon (.int 3)) (aCons (eCon (.int 2)) aNil))) aNil))) aNil))
  sNil)
  (sRet (eCal gTuple (aCons (eVar 1) aNil))))))))
noncomputable def F__law_ladder : List SV → Mo SV := runF 6 f__law_ladder
theorem sc__law_ladder : FnScope ["bag", "parts", "k", "words", "word", "r"] ["bag"] (defScope (top 53)) := ⟨rfl, rfl, rfl, by decide +kernel, rfl, by decide +kernel, by decide +kernel⟩
theorem ok__law_ladder (F : VL.FnP K "_law_ladder" (top 53) f fd) (hm : mg "_law_ladder" = some (.ref f)) (fr : Fr mg) (d__law_draw : DefOk P w K mg base 1 "_law_draw" 2 F__law_draw) : DefOk P w K mg base 2 "_law_ladder" 1 F__law_ladder :=
  mk_def (k := 1) (fb := f__law_ladder) F hm sc__law_ladder (by decide) (fun _ _ _ _ _ _ us hl => match us, hl with | [_], _ => rfl) fun cdv A outer s H E hr E0 A0 Pr =>
  (ss_cons (s_set (i := 1) sc__law_ladder.nd rfl (by first | exact Or.inl rfl | exact Or.inr rfl) (v_lst a_nil))
  (ss_cons (s_for (passes_of rfl) rfl (i_rng1 rfl fr.range (a_cons (v_add (hk := rfl) (ka := .be) (kb := .be) v_int (v_call (bs := []) (d__law_draw.mono (k := 1) (by decide)) rfl rfl hr rfl (takes_of rfl rfl rfl rfl) (a_cons (v_varV (pv 0)) (a_cons v_int a_nil)))) a_nil)) (pg_name sc__law_ladder.nd rfl (by first | exact Or.inl rfl | exact Or.inr rfl)) g_nm
  (ss_one (s_append (l_var (pv 1)) (a_cons (v_tup (a_cons (v_ix (ka := .be) (kb := .be) rfl (v_lst (a_cons v_str (a_cons v_str a_nil))) (v_call (bs := []) (d__law_draw.mono (k := 1) (by decide)) rfl rfl hr rfl (takes_of rfl rfl rfl rfl) (a_cons (v_varV (pv 0)) (a_cons v_int a_nil))) (fun _ _ => rfl)) (a_cons (v_ix (ka := .be) (kb := .be) rfl (v_lst (a_cons (v_tup (a_cons v_int (a_cons v_int a_nil))) (a_cons (v_tup (a_cons v_int (a_cons v_int a_nil))) (a_cons (v_tup (a_cons v_int (a_cons v_int a_nil))) (a_cons (v_tup (a_cons v_int (a_cons v_int a_nil))) (a_cons (v_tup (a_cons v_int (a_cons v_int a_nil))) a_nil)))))) (v_call (bs := []) (d__law_draw.mono (k := 1) (by decide)) rfl rfl hr rfl (takes_of rfl rfl rfl rfl) (a_cons (v_varV (pv 0)) (a_cons v_int a_nil))) (fun _ _ => rfl)) a_nil))) a_nil))))
  (ss_cons (s_setLc (own := [("word", 4), ("r", 5)]) (i := 3) rfl rfl rfl sc__law_ladder.nd (i_seq (ka := .be) rfl (v_var (pv 1))) (blk_of (by rfl)) (fun _ _ _ _ _ => (L2.pg_tup rfl (pgs_cons (pg_name sc__law_ladder.nd rfl (by first | exact Or.inl rfl | exact Or.inr rfl)) (pgs_cons (pg_name sc__law_ladder.nd rfl (by first | exact Or.inl rfl | exact Or.inr rfl)) pgs_nil)))) (g_tp (gs_cons g_nm (gs_cons g_nm gs_nil))) (by decide) (fun _ _ _ _ _ => ts_nil) (fun _ _ _ _ _ => (v_varV (pv 4))))
  (ss_cons (s_if (t_notIn (ka := .be) (kb := .be) rfl (u65 hr) v_str (v_var (pv 3)) (by rfl))
  (ss_one (s_append (l_var (pv 1)) (a_cons (v_tup (a_cons v_str (a_cons (v_tup (a_cons v_int (a_cons v_int a_nil))) a_nil))) a_nil)))
  ss_nil)
  (ss_cons (s_if (t_notIn (ka := .be) (kb := .be) rfl (u65 hr) v_str (v_var (pv 3)) (by rfl))
  (ss_one (s_append (l_var (pv 1)) (a_cons (v_tup (a_cons v_str (a_cons (v_tup (a_cons v_int (a_cons v_int a_nil))) a_nil))) a_nil)))
  ss_nil)
  (ss_one (s_ret (v_calT (ka := .be) call_tuple_of ok_tuple rfl fr.tuple boot_tuple' (a_cons (v_var (pv 1)) a_nil)))))))))
/-! ### plus -/
noncomputable def f_plus : Rho → Sto → Option Fl :=
  (sRet (eCall 2 F_fraction [] (aCons (eBin gAdd (eBin gMulA (eBin gIxB (eVar 0) (eCon (.int 0))) (eBin gIxB (eVar 1) (eCon (.int 1)))) (eBin gMulA (eBin gIxB (eVar 1) (eCon (.int 0))) (eBin gIxB (eVar 0) (eCon (.int 1))))) (aCons (eBin gMulA (eBin gIxB (eVar 0) (eCon (.int 1))) (eBin gIxB (eVar 1) (eCon (.int 1)))) aNil))))
noncomputable def F_plus : List SV → Mo SV := runF 2 f_plus
theorem sc_plus : FnScope ["x", "y"] ["x", "y"] (defScope (top 8)) := ⟨rfl, rfl, rfl, by decide +kernel, rfl, by decide +kernel, by decide +kernel⟩
theorem ok_plus (F : VL.FnP K "plus" (top 8) f fd) (hm : mg "plus" = some (.ref f)) (fr : Fr mg) (d_fraction : DefOk P w K mg base 2 "fraction" 2 F_fraction) : DefOk P w K mg base 3 "plus" 2 F_plus :=
  mk_def (k := 2) (fb := f_plus) F hm sc_plus (by decide) (fun _ _ _ _ _ _ us hl => match us, hl with | [_, _], _ => rfl) fun cdv A outer s H E hr E0 A0 Pr =>
  (ss_one (s_ret (v_call (bs := []) (d_fraction.mono (k := 2) (by decide)) rfl rfl hr rfl (takes_of rfl rfl rfl rfl) (a_cons (v_add (hk := rfl) (ka := .be) (kb := .be) (v_mulA (hk := rfl) (ka := .be) (kb := .be) (v_ixB (ka := .be) (kb := .be) rfl (v_var (pv 0)) v_int (fun _ _ => rfl)) (v_ixB (ka := .be) (kb := .be) rfl (v_var (pv 1)) v_int (fun _ _ => rfl))) (v_mulA (hk := rfl) (ka := .be) (kb := .be) (v_ixB (ka := .be) (kb := .be) rfl (v_var (pv 1)) v_int (fun _ _ => rfl)) (v_ixB (ka := .be) (kb := .be) rfl (v_var (pv 0)) v_int (fun _ _ => rfl)))) (a_cons (v_mulA (hk := rfl) (ka := .be) (kb := .be) (v_ixB (ka := .be) (kb := .be) rfl (v_var (pv 0)) v_int (fun _ _ => rfl)) (v_ixB (ka := .be) (kb := .be) rfl (v_var (pv 1)) v_int (fun _ _ => rfl))) a_nil)))))
/-! ### minus -/
noncomputable def f_minus : Rho → Sto → Option Fl :=
  (sRet (eCall 2 F_fraction [] (aCons (eBin gSub (eBin gMulA (eBin gIxB (eVar 0) (eCon (.int 0))) (eBin gIxB (eVar 1) (eCon (.int 1)))) (eBin gMulA (eBin gIxB (eVar 1) (eCon (.int 0))) (eBin gIxB (eVar 0) (eCon (.int 1))))) (aCons (eBin gMulA (eBin gIxB (eVar 0) (eCon (.int 1))) (eBin gIxB (eVar 1) (eCon (.int 1)))) aNil))))
noncomputable def F_minus : List SV → Mo SV := runF 2 f_minus
theorem sc_minus : FnScope ["x", "y"] ["x", "y"] (defScope (top 9)) := ⟨rfl, rfl, rfl, by decide +kernel, rfl, by decide +kernel, by decide +kernel⟩
theorem ok_minus (F : VL.FnP K "minus" (top 9) f fd) (hm : mg "minus" = some (.ref f)) (fr : Fr mg) (d_fraction : DefOk P w K mg base 2 "fraction" 2 F_fraction) : DefOk P w K mg base 3 "minus" 2 F_minus :=
  mk_def (k := 2) (fb := f_minus) F hm sc_minus (by decide) (fun _ _ _ _ _ _ us hl => match us, hl with | [_, _], _ => rfl) fun cdv A outer s H E hr E0 A0 Pr =>
  (ss_one (s_ret (v_call (bs := []) (d_fraction.mono (k := 2) (by decide)) rfl rfl hr rfl (takes_of rfl rfl rfl rfl) (a_cons (v_sub (ka := .be) (kb := .be) (v_mulA (hk := rfl) (ka := .be) (kb := .be) (v_ixB (ka := .be) (kb := .be) rfl (v_var (pv 0)) v_int (fun _ _ => rfl)) (v_ixB (ka := .be) (kb := .be) rfl (v_var (pv 1)) v_int (fun _ _ => rfl))) (v_mulA (hk := rfl) (ka := .be) (kb := .be) (v_ixB (ka := .be) (kb := .be) rfl (v_var (pv 1)) v_int (fun _ _ => rfl)) (v_ixB (ka := .be) (kb := .be) rfl (v_var (pv 0)) v_int (fun _ _ => rfl)))) (a_cons (v_mulA (hk := rfl) (ka := .be) (kb := .be) (v_ixB (ka := .be) (kb := .be) rfl (v_var (pv 0)) v_int (fun _ _ => rfl)) (v_ixB (ka := .be) (kb := .be) rfl (v_var (pv 1)) v_int (fun _ _ => rfl))) a_nil)))))
/-! ### times -/
noncomputable def f_times : Rho → Sto → Option Fl :=
  (sRet (eCall 2 F_fraction [] (aCons (eBin gMulA (eBin gIxB (eVar 0) (eCon (.int 0))) (eBin gIxB (eVar 1) (eCon (.int 0)))) (aCons (eBin gMulA (eBin gIxB (eVar 0) (eCon (.int 1))) (eBin gIxB (eVar 1) (eCon (.int 1)))) aNil))))
noncomputable def F_times : List SV → Mo SV := runF 2 f_times
theorem sc_times : FnScope ["x", "y"] ["x", "y"] (defScope (top 10)) := ⟨rfl, rfl, rfl, by decide +kernel, rfl, by decide +kernel, by decide +kernel⟩
theorem ok_times (F : VL.FnP K "times" (top 10) f fd) (hm : mg "times" = some (.ref f)) (fr : Fr mg) (d_fraction : DefOk P w K mg base 2 "fraction" 2 F_fraction) : DefOk P w K mg base 3 "times" 2 F_times :=
  mk_def (k := 2) (fb := f_times) F hm sc_times (by decide) (fun _ _ _ _ _ _ us hl => match us, hl with | [_, _], _ => rfl) fun cdv A outer s H E hr E0 A0 Pr =>
  (ss_one (s_ret (v_call (bs := []) (d_fraction.mono (k := 2) (by decide)) rfl rfl hr rfl (takes_of rfl rfl rfl rfl) (a_cons (v_mulA (hk := rfl) (ka := .be) (kb := .be) (v_ixB (ka := .be) (kb := .be) rfl (v_var (pv 0)) v_int (fun _ _ => rfl)) (v_ixB (ka := .be) (kb := .be) rfl (v_var (pv 1)) v_int (fun _ _ => rfl))) (a_cons (v_mulA (hk := rfl) (ka := .be) (kb := .be) (v_ixB (ka := .be) (kb := .be) rfl (v_var (pv 0)) v_int (fun _ _ => rfl)) (v_ixB (ka := .be) (kb := .be) rfl (v_var (pv 1)) v_int (fun _ _ => rfl))) a_nil)))))
/-! ### over -/
noncomputable def f_over : Rho → Sto → Option Fl :=
  (sRet (eCall 2 F_fraction [] (aCons (eBin gMulA (eBin gIxB (eVar 0) (eCon (.int 0))) (eBin gIxB (eVar 1) (eCon (.int 1)))) (aCons (eBin gMulA (eBin gIxB (eVar 0) (eCon (.int 1))) (eBin gIxB (eVar 1) (eCon (.int 0)))) aNil))))
noncomputable def F_over : List SV → Mo SV := runF 2 f_over
theorem sc_over : FnScope ["x", "y"] ["x", "y"] (defScope (top 11)) := ⟨rfl, rfl, rfl, by decide +kernel, rfl, by decide +kernel, by decide +kernel⟩
theorem ok_over (F : VL.FnP K "over" (top 11) f fd) (hm : mg "over" = some (.ref f)) (fr : Fr mg) (d_fraction : DefOk P w K mg base 2 "fraction" 2 F_fraction) : DefOk P w K mg base 3 "over" 2 F_over :=
  mk_def (k := 2) (fb := f_over) F hm sc_over (by decide) (fun _ _ _ _ _ _ us hl => match us, hl with | [_, _], _ => rfl) fun cdv A outer s H E hr E0 A0 Pr =>
  (ss_one (s_ret (v_call (bs := []) (d_fraction.mono (k := 2) (by decide)) rfl rfl hr rfl (takes_of rfl rfl rfl rfl) (a_cons (v_mulA (hk := rfl) (ka := .be) (kb := .be) (v_ixB (ka := .be) (kb := .be) rfl (v_var (pv 0)) v_int (fun _ _ => rfl)) (v_ixB (ka := .be) (kb := .be) rfl (v_var (pv 1)) v_int (fun _ _ => rfl))) (a_cons (v_mulA (hk := rfl) (ka := .be) (kb := .be) (v_ixB (ka := .be) (kb := .be) rfl (v_var (pv 0)) v_int (fun _ _ => rfl)) (v_ixB (ka := .be) (kb := .be) rfl (v_var (pv 1)) v_int (fun _ _ => rfl))) a_nil)))))
/-! ### is_fraction -/
noncomputable def f_is_fraction : Rho → Sto → Option Fl :=
  (sSeq
  (sIf (bNot (bVal (eCall 1 F_is_any_fraction [] (aCons (eVarV 0) aNil))))
  (sRet (eCon (.bool false)))
  sNil)
  (sRet (eAnd (eBin (cB gLt) (eCal gAbs (aCons (eBin gIxB (eVar 0) (eCon (.int 0))) aNil)) (eCon (.int 100000000000000000000))) (eBin (cB gLt) (eBin gIxB (eVar 0) (eCon (.int 1))) (eCon (.int 100000000000000000000))))))
noncomputable def F_is_fraction : List SV → Mo SV := runF 1 f_is_fraction
theorem sc_is_fraction : FnScope ["value"] ["value"] (defScope (top 17)) := ⟨rfl, rfl, rfl, by decide +kernel, rfl, by decide +kernel, by decide +kernel⟩
theorem ok_is_fraction (F : VL.FnP K "is_fraction" (top 17) f fd) (hm : mg "is_fraction" = some (.ref f)) (fr : Fr mg) (d_is_any_fraction : DefOk P w K mg base 2 "is_any_fraction" 1 F_is_any_fraction) (g_BEYOND : GlobC K mg "BEYOND" (.int 100000000000000000000)) : DefOk P w K mg base 3 "is_fraction" 1 F_is_fraction :=
  mk_def (k := 2) (fb := f_is_fraction) F hm sc_is_fraction (by decide) (fun _ _ _ _ _ _ us hl => match us, hl with | [_], _ => rfl) fun cdv A outer s H E hr E0 A0 Pr =>
  (ss_cons (s_if (b_not (b_val (ka := .be) rfl (v_call (bs := []) (d_is_any_fraction.mono (k := 2) (by decide)) rfl rfl hr rfl (takes_of rfl rfl rfl rfl) (a_cons (v_varV (pv 0)) a_nil))))
  (ss_one (s_ret v_bl))
  ss_nil)
  (ss_one (s_ret (v_and (ka := .fe) (v_lt (ka := .be) (kb := .be) rfl hr.units (v_calB (ka := .be) call_abs ok_abs rfl fr.abs boot_abs' (a_cons (v_ixB (ka := .be) (kb := .be) rfl (v_var (pv 0)) v_int (fun _ _ => rfl)) a_nil)) (v_gc rfl g_BEYOND rfl)) (v_one (v_lt (ka := .be) (kb := .be) rfl hr.units (v_ixB (ka := .be) (kb := .be) rfl (v_var (pv 0)) v_int (fun _ _ => rfl)) (v_gc rfl g_BEYOND rfl)))))))
/-! ### look_at_root -/
noncomputable def f_look_at_root : Rho → Sto → Option Fl :=
  (sIf (bNot (bVal (eCall 1 F_is_root [] (aCons (eVarV 0) aNil))))
  (sRaise "BadValue")
  sNil)
noncomputable def F_look_at_root : List SV → Mo SV := runF 1 f_look_at_root
theorem sc_look_at_root : FnScope ["root"] ["root"] (defScope (top 25)) := ⟨rfl, rfl, rfl, by decide +kernel, rfl, by decide +kernel, by decide +kernel⟩
theorem ok_look_at_root (F : VL.FnP K "look_at_root" (top 25) f fd) (hm : mg "look_at_root" = some (.ref f)) (fr : Fr mg) (d_is_root : DefOk P w K mg base 2 "is_root" 1 F_is_root) (e_BadValue : ExcOk K mg "BadValue") : DefOk P w K mg base 3 "look_at_root" 1 F_look_at_root :=
  mk_def (k := 2) (fb := f_look_at_root) F hm sc_look_at_root (by decide) (fun _ _ _ _ _ _ us hl => match us, hl with | [_], _ => rfl) fun cdv A outer s H E hr E0 A0 Pr =>
  (ss_one (s_if (b_not (b_val (ka := .be) rfl (v_call (bs := []) (d_is_root.mono (k := 2) (by decide)) rfl rfl hr rfl (takes_of rfl rfl rfl rfl) (a_cons (v_varV (pv 0)) a_nil))))
  (ss_one (s_raise rfl e_BadValue rfl (takes_of rfl rfl rfl rfl) rfl))
  ss_nil))
/-! ### fraction_by -/
noncomputable def f_fraction_by : Rho → Sto → Option Fl :=
  (sSeq
  (sAsg (gTp 4 (gsCons (gNm 1) (gsCons (gNm 2) (gsCons (gNm 3) (gsCons (gNm 4) gsNil))))) (eVarV 0))
  (sSeq
  (sSet 5 (eBin gSub (eBin gMulA (eVar 3) (eVar 3)) (eBin gMulA (eBin gMulA (eCon (.int 4)) (eVar 2)) (eVar 4))))
  (sSeq
  (sSet 6 (eCall 1 F_square_root [] (aCons (eVarV 5) aNil)))
  (sSeq
  (sIf (bB (eBin (cB gNe) (eBin gMulA (eVar 6) (eVar 6)) (eVar 5)))
  (sRet (eCon (.none)))
  sNil)
  (sRet (eCall 2 F_fraction [] (aCons (eBin gSub (eVar 6) (eVar 3)) (aCons (eBin gMulA (eCon (.int 2)) (eVar 2)) aNil))))))))
noncomputable def F_fraction_by : List SV → Mo SV := runF 7 f_fraction_by
theorem sc_fraction_by : FnScope ["root", "_", "a", "b", "c", "under", "found"] ["root"] (defScope (top 29)) := ⟨rfl, rfl, rfl, by decide +kernel, rfl, by decide +kernel, by decide +kernel⟩
theorem ok_fraction_by (F : VL.FnP K "fraction_by" (top 29) f fd) (hm : mg "fraction_by" = some (.ref f)) (fr : Fr mg) (d_square_root : DefOk P w K mg base 1 "square_root" 1 F_square_root) (d_fraction : DefOk P w K mg base 2 "fraction" 2 F_fraction) : DefOk P w K mg base 3 "fraction_by" 1 F_fraction_by :=
  mk_def (k := 2) (fb := f_fraction_by) F hm sc_fraction_by (by decide) (fun _ _ _ _ _ _ us hl => match us, hl with | [_], _ => rfl) fun cdv A outer s H E hr E0 A0 Pr =>
  (ss_cons (s_asg (v_varV (pv 0)) (L2.pg_tup rfl (pgs_cons (pg_name sc_fraction_by.nd rfl (by first | exact Or.inl rfl | exact Or.inr rfl)) (pgs_cons (pg_name sc_fraction_by.nd rfl (by first | exact Or.inl rfl | exact Or.inr rfl)) (pgs_cons (pg_name sc_fraction_by.nd rfl (by first | exact Or.inl rfl | exact Or.inr rfl)) (pgs_cons (pg_name sc_fraction_by.nd rfl (by first | exact Or.inl rfl | exact Or.inr rfl)) pgs_nil))))) (g_tp (gs_cons g_nm (gs_cons g_nm (gs_cons g_nm (gs_cons g_nm gs_nil))))))
  (ss_cons (s_set (i := 5) sc_fraction_by.nd rfl (by first | exact Or.inl rfl | exact Or.inr rfl) (v_sub (ka := .be) (kb := .be) (v_mulA (hk := rfl) (ka := .be) (kb := .be) (v_var (pv 3)) (v_var (pv 3))) (v_mulA (hk := rfl) (ka := .be) (kb := .be) (v_mulA (hk := rfl) (ka := .be) (kb := .be) v_int (v_var (pv 2))) (v_var (pv 4)))))
  (ss_cons (s_set (i := 6) sc_fraction_by.nd rfl (by first | exact Or.inl rfl | exact Or.inr rfl) (v_call (bs := []) (d_square_root.mono (k := 2) (by decide)) rfl rfl hr rfl (takes_of rfl rfl rfl rfl) (a_cons (v_varV (pv 5)) a_nil)))
  (ss_cons (s_if (t_ne (ka := .be) (kb := .be) rfl hr.units (v_mulA (hk := rfl) (ka := .be) (kb := .be) (v_var (pv 6)) (v_var (pv 6))) (v_var (pv 5)))
  (ss_one (s_ret v_non))
  ss_nil)
  (ss_one (s_ret (v_call (bs := []) (d_fraction.mono (k := 2) (by decide)) rfl rfl hr rfl (takes_of rfl rfl rfl rfl) (a_cons (v_sub (ka := .be) (kb := .be) (v_var (pv 6)) (v_var (pv 3))) (a_cons (v_mulA (hk := rfl) (ka := .be) (kb := .be) v_int (v_var (pv 2))) a_nil)))))))))
/-! ### _law_after -/
noncomputable def f__law_after : Rho → Sto → Option Fl :=
  (sSeq
  (sFor (iRng1 (aCons (eVar 1) aNil)) (gNm 3)
  (sFor (iSeq (eRev (eVar 0))) (gTp 2 (gsCons (gNm 4) (gsCons (gNm 5) gsNil)))
  (sIf (bB (eBin (cB gEq) (eVar 4) (eCon (.str "row"))))
  (sSet 2 (eIf (bB (eBin (cB gIsN) (eVar 2) (eCon (.none)))) (eCon (.none)) (eCall 2 F__law_add [] (aCons (eVarV 2) (aCons (eVarV 5) aNil)))))
  (sIf (bB (eBin (cB gIsN) (eVar 2) (eCon (.none))))
  (sSet 2 (eVarV 5))
  (sSet 2 (eCall 2 F__law_div [] (aCons (eCall 2 F__law_mul [] (aCons (eVarV 2) (aCons (eVarV 5) aNil))) (aCons (eCall 2 F__law_add [] (aCons (eVarV 2) (aCons (eVarV 5) aNil))) aNil))))))))
  (sRetV 2))
noncomputable def F__law_after : List SV → Mo SV := runF 6 f__law_after
theorem sc__law_after : FnScope ["ladder", "times_v", "x", "turn", "word", "r"] ["ladder", "times_v", "x"] (defScope (top 54)) := ⟨rfl, rfl, rfl, by decide +kernel, rfl, by decide +kernel, by decide +kernel⟩
theorem ok__law_after (F : VL.FnP K "_law_after" (top 54) f fd) (hm : mg "_law_after" = some (.ref f)) (fr : Fr mg) (d__law_add : DefOk P w K mg base 2 "_law_add" 2 F__law_add) (d__law_mul : DefOk P w K mg base 2 "_law_mul" 2 F__law_mul) (d__law_div : DefOk P w K mg base 2 "_law_div" 2 F__law_div) : DefOk P w K mg base 3 "_law_after" 3 F__law_after :=
  mk_def (k := 2) (fb := f__law_after) F hm sc__law_after (by decide) (fun _ _ _ _ _ _ us hl => match us, hl with | [_, _, _], _ => rfl) fun cdv A outer s H E hr E0 A0 Pr =>
  (ss_cons (s_for (passes_of rfl) rfl (i_rng1 rfl fr.range (a_cons (v_var (pv 1)) a_nil)) (pg_name sc__law_after.nd rfl (by first | exact Or.inl rfl | exact Or.inr rfl)) g_nm
  (ss_one (s_for (passes_of rfl) rfl (i_seqF rfl (v_rev (ka := .be) rfl (v_var (pv 0)))) (L2.pg_tup rfl (pgs_cons (pg_name sc__law_after.nd rfl (by first | exact Or.inl rfl | exact Or.inr rfl)) (pgs_cons (pg_name sc__law_after.nd rfl (by first | exact Or.inl rfl | exact Or.inr rfl)) pgs_nil))) (g_tp (gs_cons g_nm (gs_cons g_nm gs_nil)))
  (ss_one (s_if (t_eq (ka := .be) (kb := .be) rfl hr.units (v_var (pv 4)) v_str)
  (ss_one (s_set (i := 2) sc__law_after.nd rfl (by first | exact Or.inl rfl | exact Or.inr rfl) (v_if (t_isN (ka := .be) (kb := .be) (v_var (pv 2)) v_non) v_non (v_call (bs := []) (d__law_add.mono (k := 2) (by decide)) rfl rfl hr rfl (takes_of rfl rfl rfl rfl) (a_cons (v_varV (pv 2)) (a_cons (v_varV (pv 5)) a_nil))))))
  (ss_one (s_if (t_isN (ka := .be) (kb := .be) (v_var (pv 2)) v_non)
  (ss_one (s_set (i := 2) sc__law_after.nd rfl (by first | exact Or.inl rfl | exact Or.inr rfl) (v_varV (pv 5))))
  (ss_one (s_set (i := 2) sc__law_after.nd rfl (by first | exact Or.inl rfl | exact Or.inr rfl) (v_call (bs := []) (d__law_div.mono (k := 2) (by decide)) rfl rfl hr rfl (takes_of rfl rfl rfl rfl) (a_cons (v_call (bs := []) (d__law_mul.mono (k := 2) (by decide)) rfl rfl hr rfl (takes_of rfl rfl rfl rfl) (a_cons (v_varV (pv 2)) (a_cons (v_varV (pv 5)) a_nil))) (a_cons (v_call (bs := []) (d__law_add.mono (k := 2) (by decide)) rfl rfl hr rfl (takes_of rfl rfl rfl rfl) (a_cons (v_varV (pv 2)) (a_cons (v_varV (pv 5)) a_nil))) a_nil))))))))))))
  (ss_one (s_retV (pv 2))))
/-! ### _law_over -/
noncomputable def f__law_over : Rho → Sto → Option Fl :=
  (sSeq
  (sAsg (gTp 2 (gsCons (gNm 3) (gsCons (gNm 4) gsNil))) (eVarV 0))
  (sSeq
  (sAsg (gTp 2 (gsCons (gNm 5) (gsCons (gNm 6) gsNil))) (eVarV 1))
  (sSeq
  (sSet 7 (eCall 2 F__law_sub [] (aCons (eCall 2 F__law_mul [] (aCons (eVarV 5) (aCons (eVarV 5) aNil))) (aCons (eCall 2 F__law_mul [] (aCons (eTup (aCons (eVarV 2) (aCons (eCon (.int 1)) aNil))) (aCons (eCall 2 F__law_mul [] (aCons (eVarV 6) (aCons (eVarV 6) aNil))) aNil))) aNil))))
  (sSeq
  (sSet 8 (eCall 2 F__law_sub [] (aCons (eCall 2 F__law_mul [] (aCons (eVarV 3) (aCons (eVarV 5) aNil))) (aCons (eCall 2 F__law_mul [] (aCons (eTup (aCons (eVarV 2) (aCons (eCon (.int 1)) aNil))) (aCons (eCall 2 F__law_mul [] (aCons (eVarV 4) (aCons (eVarV 6) aNil))) aNil))) aNil))))
  (sRet (eTup (aCons (eCall 2 F__law_div [] (aCons (eVarV 8) (aCons (eVarV 7) aNil))) (aCons (eCall 2 F__law_div [] (aCons (eCall 2 F__law_sub [] (aCons (eCall 2 F__law_mul [] (aCons (eVarV 4) (aCons (eVarV 5) aNil))) (aCons (eCall 2 F__law_mul [] (aCons (eVarV 3) (aCons (eVarV 6) aNil))) aNil))) (aCons (eVarV 7) aNil))) aNil))))))))
noncomputable def F__law_over : List SV → Mo SV := runF 9 f__law_over
theorem sc__law_over : FnScope ["x", "y", "d", "u", "v", "w", "z", "under", "top"] ["x", "y", "d"] (defScope (top 55)) := ⟨rfl, rfl, rfl, by decide +kernel, rfl, by decide +kernel, by decide +kernel⟩
theorem ok__law_over (F : VL.FnP K "_law_over" (top 55) f fd) (hm : mg "_law_over" = some (.ref f)) (fr : Fr mg) (d__law_sub : DefOk P w K mg base 2 "_law_sub" 2 F__law_sub) (d__law_mul : DefOk P w K mg base 2 "_law_mul" 2 F__law_mul) (d__law_div : DefOk P w K mg base 2 "_law_div" 2 F__law_div) : DefOk P w K mg base 3 "_law_over" 3 F__law_over :=
  mk_def (k := 2) (fb := f__law_over) F hm sc__law_over (by decide) (fun _ _ _ _ _ _ us hl => match us, hl with | [_, _, _], _ => rfl) fun cdv A outer s H E hr E0 A0 Pr =>
  (ss_cons (s_asg (v_varV (pv 0)) (L2.pg_tup rfl (pgs_cons (pg_name sc__law_over.nd rfl (by first | exact Or.inl rfl | exact Or.inr rfl)) (pgs_cons (pg_name sc__law_over.nd rfl (by first | exact Or.inl rfl | exact Or.inr rfl)) pgs_nil))) (g_tp (gs_cons g_nm (gs_cons g_nm gs_nil))))
  (ss_cons (s_asg (v_varV (pv 1)) (L2.pg_tup rfl (pgs_cons (pg_name sc__law_over.nd rfl (by first | exact Or.inl rfl | exact Or.inr rfl)) (pgs_cons (pg_name sc__law_over.nd rfl (by first | exact Or.inl rfl | exact Or.inr rfl)) pgs_nil))) (g_tp (gs_cons g_nm (gs_cons g_nm gs_nil))))
  (ss_cons (s_set (i := 7) sc__law_over.nd rfl (by first | exact Or.inl rfl | exact Or.inr rfl) (v_call (bs := []) (d__law_sub.mono (k := 2) (by decide)) rfl rfl hr rfl (takes_of rfl rfl rfl rfl) (a_cons (v_call (bs := []) (d__law_mul.mono (k := 2) (by decide)) rfl rfl hr rfl (takes_of rfl rfl rfl rfl) (a_cons (v_varV (pv 5)) (a_cons (v_varV (pv 5)) a_nil))) (a_cons (v_call (bs := []) (d__law_mul.mono (k := 2) (by decide)) rfl rfl hr rfl (takes_of rfl rfl rfl rfl) (a_cons (v_tup (a_cons (v_varV (pv 2)) (a_cons v_int a_nil))) (a_cons (v_call (bs := []) (d__law_mul.mono (k := 2) (by decide)) rfl rfl hr rfl (takes_of rfl rfl rfl rfl) (a_cons (v_varV (pv 6)) (a_cons (v_varV (pv 6)) a_nil))) a_nil))) a_nil))))
  (ss_cons (s_set (i := 8) sc__law_over.nd rfl (by first | exact Or.inl rfl | exact Or.inr rfl) (v_call (bs := []) (d__law_sub.mono (k := 2) (by decide)) rfl rfl hr rfl (takes_of rfl rfl rfl rfl) (a_cons (v_call (bs := []) (d__law_mul.mono (k := 2) (by decide)) rfl rfl hr rfl (takes_of rfl rfl rfl rfl) (a_cons (v_varV (pv 3)) (a_cons (v_varV (pv 5)) a_nil))) (a_cons (v_call (bs := []) (d__law_mul.mono (k := 2) (by decide)) rfl rfl hr rfl (takes_of rfl rfl rfl rfl) (a_cons (v_tup (a_cons (v_varV (pv 2)) (a_cons v_int a_nil))) (a_cons (v_call (bs := []) (d__law_mul.mono (k := 2) (by decide)) rfl rfl hr rfl (takes_of rfl rfl rfl rfl) (a_cons (v_varV (pv 4)) (a_cons (v_varV (pv 6)) a_nil))) a_nil))) a_nil))))
  (ss_one (s_ret (v_tup (a_cons (v_call (bs := []) (d__law_div.mono (k := 2) (by decide)) rfl rfl hr rfl (takes_of rfl rfl rfl rfl) (a_cons (v_varV (pv 8)) (a_cons (v_varV (pv 7)) a_nil))) (a_cons (v_call (bs := []) (d__law_div.mono (k := 2) (by decide)) rfl rfl hr rfl (takes_of rfl rfl rfl rfl) (a_cons (v_call (bs := []) (d__law_sub.mono (k := 2) (by decide)) rfl rfl hr rfl (takes_of rfl rfl rfl rfl) (a_cons (v_call (bs := []) (d__law_mul.mono (k := 2) (by decide)) rfl rfl hr rfl (takes_of rfl rfl rfl rfl) (a_cons (v_varV (pv 4)) (a_cons (v_varV (pv 5)) a_nil))) (a_cons (v_call (bs := []) (d__law_mul.mono (k := 2) (by decide)) rfl rfl hr rfl (takes_of rfl rfl rfl rfl) (a_cons (v_varV (pv 3)) (a_cons (v_varV (pv 6)) a_nil))) a_nil))) (a_cons (v_varV (pv 7)) a_nil))) a_nil)))))))))
/-! ### compare -/
noncomputable def f_compare : Rho → Sto → Option Fl :=
  (sSeq
  (sDrop (eCall 1 F_look_at_root [] (aCons (eVarV 0) aNil)))
  (sSeq
  (sIf (bNot (bVal (eCall 1 F_is_number [] (aCons (eVarV 1) aNil))))
  (sRaise "BadValue")
  sNil)
  (sRet (eCall 2 F_compare_by [] (aCons (eVarV 0) (aCons (eVarV 1) aNil))))))
noncomputable def F_compare : List SV → Mo SV := runF 2 f_compare
theorem sc_compare : FnScope ["root", "x"] ["root", "x"] (defScope (top 27)) := ⟨rfl, rfl, rfl, by decide +kernel, rfl, by decide +kernel, by decide +kernel⟩
theorem ok_compare (F : VL.FnP K "compare" (top 27) f fd) (hm : mg "compare" = some (.ref f)) (fr : Fr mg) (d_is_number : DefOk P w K mg base 1 "is_number" 1 F_is_number) (d_compare_by : DefOk P w K mg base 1 "compare_by" 2 F_compare_by) (d_look_at_root : DefOk P w K mg base 3 "look_at_root" 1 F_look_at_root) (e_BadValue : ExcOk K mg "BadValue") : DefOk P w K mg base 4 "compare" 2 F_compare :=
  mk_def (k := 3) (fb := f_compare) F hm sc_compare (by decide) (fun _ _ _ _ _ _ us hl => match us, hl with | [_, _], _ => rfl) fun cdv A outer s H E hr E0 A0 Pr =>
  (ss_cons (s_drop (kd := .be) (v_call (bs := []) (d_look_at_root.mono (k := 3) (by decide)) rfl rfl hr rfl (takes_of rfl rfl rfl rfl) (a_cons (v_varV (pv 0)) a_nil)))
  (ss_cons (s_if (b_not (b_val (ka := .be) rfl (v_call (bs := []) (d_is_number.mono (k := 3) (by decide)) rfl rfl hr rfl (takes_of rfl rfl rfl rfl) (a_cons (v_varV (pv 1)) a_nil))))
  (ss_one (s_raise rfl e_BadValue rfl (takes_of rfl rfl rfl rfl) rfl))
  ss_nil)
  (ss_one (s_ret (v_call (bs := []) (d_compare_by.mono (k := 3) (by decide)) rfl rfl hr rfl (takes_of rfl rfl rfl rfl) (a_cons (v_varV (pv 0)) (a_cons (v_varV (pv 1)) a_nil)))))))
/-! ### order -/
noncomputable def f_order : Rho → Sto → Option Fl :=
  (sSeq
  (sDrop (eCall 1 F_look_at_root [] (aCons (eVarV 0) aNil)))
  (sSeq
  (sDrop (eCall 1 F_look_at_root [] (aCons (eVarV 1) aNil)))
  (sSeq
  (sSet 2 (eCall 1 F_fraction_by [] (aCons (eVarV 1) aNil)))
  (sSeq
  (sIf (bB (eBin (cB gNotN) (eVar 2) (eCon (.none))))
  (sRet (eCall 2 F_compare_by [] (aCons (eVarV 0) (aCons (eVarV 2) aNil))))
  sNil)
  (sSeq
  (sSet 2 (eCall 1 F_fraction_by [] (aCons (eVarV 0) aNil)))
  (sSeq
  (sIf (bB (eBin (cB gNotN) (eVar 2) (eCon (.none))))
  (sRet (eUn gNeg (eCall 2 F_compare_by [] (aCons (eVarV 1) (aCons (eVarV 2) aNil)))))
  sNil)
  (sSeq
  (sAsg (gTp 4 (gsCons (gNm 3) (gsCons (gNm 4) (gsCons (gNm 5) (gsCons (gNm 6) gsNil))))) (eVarV 0))
  (sSeq
  (sAsg (gTp 4 (gsCons (gNm 3) (gsCons (gNm 7) (gsCons (gNm 8) (gsCons (gNm 9) gsNil))))) (eVarV 1))
  (sSeq
  (sSet 10 (eBin gSub (eBin gMulA (eVar 5) (eVar 7)) (eBin gMulA (eVar 4) (eVar 8))))
  (sSeq
  (sSet 11 (eBin gSub (eBin gMulA (eVar 6) (eVar 7)) (eBin gMulA (eVar 4) (eVar 9))))
  (sSeq
  (sIf (bB (eBin (cB gEq) (eVar 10) (eCon (.int 0))))
  (sSet 12 (eCall 1 F_sign [] (aCons (eTup (aCons (eVarV 11) (aCons (eCon (.int 1)) aNil))) aNil)))
  (sSet 12 (eBin gMulA (eCall 1 F_sign [] (aCons (eTup (aCons (eVarV 10) (aCons (eCon (.int 1)) aNil))) aNil)) (eCall 2 F_compare_by [] (aCons (eVarV 1) (aCons (eCall 2 F_fraction [] (aCons (eUn gNeg (eVar 11)) (aCons (eVarV 10) aNil))) aNil))))))
  (sRet (eUn gNeg (eVar 12))))))))))))))
noncomputable def F_order : List SV → Mo SV := runF 13 f_order
theorem sc_order : FnScope ["root", "other", "known", "_", "a", "b", "c", "d", "e", "f", "by_one", "fixed", "value"] ["root", "other"] (defScope (top 30)) := ⟨rfl, rfl, rfl, by decide +kernel, rfl, by decide +kernel, by decide +kernel⟩
theorem ok_order (F : VL.FnP K "order" (top 30) f fd) (hm : mg "order" = some (.ref f)) (fr : Fr mg) (d_sign : DefOk P w K mg base 1 "sign" 1 F_sign) (d_compare_by : DefOk P w K mg base 1 "compare_by" 2 F_compare_by) (d_fraction : DefOk P w K mg base 2 "fraction" 2 F_fraction) (d_look_at_root : DefOk P w K mg base 3 "look_at_root" 1 F_look_at_root) (d_fraction_by : DefOk P w K mg base 3 "fraction_by" 1 F_fraction_by) : DefOk P w K mg base 4 "order" 2 F_order :=
  mk_def (k := 3) (fb := f_order) F hm sc_order (by decide) (fun _ _ _ _ _ _ us hl => match us, hl with | [_, _], _ => rfl) fun cdv A outer s H E hr E0 A0 Pr =>
  (ss_cons (s_drop (kd := .be) (v_call (bs := []) (d_look_at_root.mono (k := 3) (by decide)) rfl rfl hr rfl (takes_of rfl rfl rfl rfl) (a_cons (v_varV (pv 0)) a_nil)))
  (ss_cons (s_drop (kd := .be) (v_call (bs := []) (d_look_at_root.mono (k := 3) (by decide)) rfl rfl hr rfl (takes_of rfl rfl rfl rfl) (a_cons (v_varV (pv 1)) a_nil)))
  (ss_cons (s_set (i := 2) sc_order.nd rfl (by first | exact Or.inl rfl | exact Or.inr rfl) (v_call (bs := []) (d_fraction_by.mono (k := 3) (by decide)) rfl rfl hr rfl (takes_of rfl rfl rfl rfl) (a_cons (v_varV (pv 1)) a_nil)))
  (ss_cons (s_if (t_notN (ka := .be) (kb := .be) (v_var (pv 2)) v_non)
  (ss_one (s_ret (v_call (bs := []) (d_compare_by.mono (k := 3) (by decide)) rfl rfl hr rfl (takes_of rfl rfl rfl rfl) (a_cons (v_varV (pv 0)) (a_cons (v_varV (pv 2)) a_nil)))))
  ss_nil)
  (ss_cons (s_set (i := 2) sc_order.nd rfl (by first | exact Or.inl rfl | exact Or.inr rfl) (v_call (bs := []) (d_fraction_by.mono (k := 3) (by decide)) rfl rfl hr rfl (takes_of rfl rfl rfl rfl) (a_cons (v_varV (pv 0)) a_nil)))
  (ss_cons (s_if (t_notN (ka := .be) (kb := .be) (v_var (pv 2)) v_non)
  (ss_one (s_ret (v_neg (ka := .be) (v_call (bs := []) (d_compare_by.mono (k := 3) (by decide)) rfl rfl hr rfl (takes_of rfl rfl rfl rfl) (a_cons (v_varV (pv 1)) (a_cons (v_varV (pv 2)) a_nil))))))
  ss_nil)
  (ss_cons (s_asg (v_varV (pv 0)) (L2.pg_tup rfl (pgs_cons (pg_name sc_order.nd rfl (by first | exact Or.inl rfl | exact Or.inr rfl)) (pgs_cons (pg_name sc_order.nd rfl (by first | exact Or.inl rfl | exact Or.inr rfl)) (pgs_cons (pg_name sc_order.nd rfl (by first | exact Or.inl rfl | exact Or.inr rfl)) (pgs_cons (pg_name sc_order.nd rfl (by first | exact Or.inl rfl | exact Or.inr rfl)) pgs_nil))))) (g_tp (gs_cons g_nm (gs_cons g_nm (gs_cons g_nm (gs_cons g_nm gs_nil))))))
  (ss_cons (s_asg (v_varV (pv 1)) (L2.pg_tup rfl (pgs_cons (pg_name sc_order.nd rfl (by first | exact Or.inl rfl | exact Or.inr rfl)) (pgs_cons (pg_name sc_order.nd rfl (by first | exact Or.inl rfl | exact Or.inr rfl)) (pgs_cons (pg_name sc_order.nd rfl (by first | exact Or.inl rfl | exact Or.inr rfl)) (pgs_cons (pg_name sc_order.nd rfl (by first | exact Or.inl rfl | exact Or.inr rfl)) pgs_nil))))) (g_tp (gs_cons g_nm (gs_cons g_nm (gs_cons g_nm (gs_cons g_nm gs_nil))))))
  (ss_cons (s_set (i := 10) sc_order.nd rfl (by first | exact Or.inl rfl | exact Or.inr rfl) (v_sub (ka := .be) (kb := .be) (v_mulA (hk := rfl) (ka := .be) (kb := .be) (v_var (pv 5)) (v_var (pv 7))) (v_mulA (hk := rfl) (ka := .be) (kb := .be) (v_var (pv 4)) (v_var (pv 8)))))
  (ss_cons (s_set (i := 11) sc_order.nd rfl (by first | exact Or.inl rfl | exact Or.inr rfl) (v_sub (ka := .be) (kb := .be) (v_mulA (hk := rfl) (ka := .be) (kb := .be) (v_var (pv 6)) (v_var (pv 7))) (v_mulA (hk := rfl) (ka := .be) (kb := .be) (v_var (pv 4)) (v_var (pv 9)))))
  (ss_cons (s_if (t_eq (ka := .be) (kb := .be) rfl hr.units (v_var (pv 10)) v_int)
  (ss_one (s_set (i := 12) sc_order.nd rfl (by first | exact Or.inl rfl | exact Or.inr rfl) (v_call (bs := []) (d_sign.mono (k := 3) (by decide)) rfl rfl hr rfl (takes_of rfl rfl rfl rfl) (a_cons (v_tup (a_cons (v_varV (pv 11)) (a_cons v_int a_nil))) a_nil))))
  (ss_one (s_set (i := 12) sc_order.nd rfl (by first | exact Or.inl rfl | exact Or.inr rfl) (v_mulA (hk := rfl) (ka := .be) (kb := .be) (v_call (bs := []) (d_sign.mono (k := 3) (by decide)) rfl rfl hr rfl (takes_of rfl rfl rfl rfl) (a_cons (v_tup (a_cons (v_varV (pv 10)) (a_cons v_int a_nil))) a_nil)) (v_call (bs := []) (d_compare_by.mono (k := 3) (by decide)) rfl rfl hr rfl (takes_of rfl rfl rfl rfl) (a_cons (v_varV (pv 1)) (a_cons (v_call (bs := []) (d_fraction.mono (k := 3) (by decide)) rfl rfl hr rfl (takes_of rfl rfl rfl rfl) (a_cons (v_neg (ka := .be) (v_var (pv 11))) (a_cons (v_varV (pv 10)) a_nil))) a_nil)))))))
  (ss_one (s_ret (v_neg (ka := .be) (v_var (pv 12))))))))))))))))
/-! ### is_part -/
noncomputable def f_is_part : Rho → Sto → Option Fl :=
  (sSeq
  (sIf (bOr (bNot (bVal (eIsi1 (eVar 0) ["tuple"]))) (bOr (bB (eBin (cB gNe) (eCal gLen (aCons (eVar 0) aNil)) (eCon (.int 2)))) (bNot (bVal (eIsi1 (eBin gIxB (eVar 0) (eCon (.int 0))) ["str"])))))
  (sRet (eCon (.bool false)))
  sNil)
  (sRet (eAnd (eBin (cB gInT) (eBin gIxB (eVar 0) (eCon (.int 0))) (eTup (aCons (eCon (.str "row")) (aCons (eCon (.str "beside")) aNil)))) (eAnd (eCall 1 F_is_fraction [] (aCons (eBin gIx (eVar 0) (eCon (.int 1))) aNil)) (eBin (cB gGt) (eCall 1 F_sign [] (aCons (eBin gIx (eVar 0) (eCon (.int 1))) aNil)) (eCon (.int 0)))))))
noncomputable def F_is_part : List SV → Mo SV := runF 1 f_is_part
theorem sc_is_part : FnScope ["value"] ["value"] (defScope (top 34)) := ⟨rfl, rfl, rfl, by decide +kernel, rfl, by decide +kernel, by decide +kernel⟩
theorem ok_is_part (F : VL.FnP K "is_part" (top 34) f fd) (hm : mg "is_part" = some (.ref f)) (fr : Fr mg) (d_sign : DefOk P w K mg base 1 "sign" 1 F_sign) (d_is_fraction : DefOk P w K mg base 3 "is_fraction" 1 F_is_fraction) : DefOk P w K mg base 4 "is_part" 1 F_is_part :=
  mk_def (k := 3) (fb := f_is_part) F hm sc_is_part (by decide) (fun _ _ _ _ _ _ us hl => match us, hl with | [_], _ => rfl) fun cdv A outer s H E hr E0 A0 Pr =>
  (ss_cons (s_if (PW.pt (b_or (b_not (b_val (ka := .be) rfl (v_isi (ka := .be) (T := "tuple") rfl (by decide) rfl fr.isinstance (v_var (pv 0)) rfl fr.tuple boot_tuple'))) (b_or (t_ne (ka := .be) (kb := .be) rfl hr.units (v_calB (ka := .be) call_len ok_len rfl fr.len boot_len' (a_cons (v_var (pv 0)) a_nil)) v_int) (b_or1 (b_not (b_val (ka := .be) rfl (v_isi (ka := .be) (T := "str") rfl (by decide) rfl fr.isinstance (v_ixB (ka := .be) (kb := .be) rfl (v_var (pv 0)) v_int (fun _ _ => rfl)) rfl fr.str boot_str')))))))
  (ss_one (s_ret v_bl))
  ss_nil)
  (ss_one (s_ret (v_and (ka := .fe) (v_inT (ka := .be) (kb := .be) rfl (v_ixB (ka := .be) (kb := .be) rfl (v_var (pv 0)) v_int (fun _ _ => rfl)) (v_tup (a_cons v_str (a_cons v_str a_nil))) (by rfl)) (v_and (ka := .fe) (v_call (bs := []) (d_is_fraction.mono (k := 3) (by decide)) rfl rfl hr rfl (takes_of rfl rfl rfl rfl) (a_cons (v_ix (ka := .be) (kb := .be) rfl (v_var (pv 0)) v_int (fun _ _ => rfl)) a_nil)) (v_one (v_gt (ka := .be) (kb := .be) (v_call (bs := []) (d_sign.mono (k := 3) (by decide)) rfl rfl hr rfl (takes_of rfl rfl rfl rfl) (a_cons (v_ix (ka := .be) (kb := .be) rfl (v_var (pv 0)) v_int (fun _ _ => rfl)) a_nil)) v_int)))))))
/-! ### ahead -/
noncomputable def f_ahead : Rho → Sto → Option Fl :=
  (sSeq
  (sAsg (gTp 2 (gsCons (gNm 2) (gsCons (gNm 3) gsNil))) (eVarV 0))
  (sSeq
  (sIf (bB (eBin (cB gEq) (eVar 2) (eCon (.str "row"))))
  (sSeq
  (sIf (bB (eBin (cB gIsN) (eVar 1) (eCon (.none))))
  (sRet (eCon (.none)))
  sNil)
  (sRet (eCall 2 F_plus [] (aCons (eVarV 1) (aCons (eVarV 3) aNil)))))
  sNil)
  (sSeq
  (sIf (bB (eBin (cB gIsN) (eVar 1) (eCon (.none))))
  (sRetV 3)
  sNil)
  (sRet (eCall 2 F_over [] (aCons (eCall 2 F_times [] (aCons (eVarV 1) (aCons (eVarV 3) aNil))) (aCons (eCall 2 F_plus [] (aCons (eVarV 1) (aCons (eVarV 3) aNil))) aNil)))))))
noncomputable def F_ahead : List SV → Mo SV := runF 4 f_ahead
theorem sc_ahead : FnScope ["part", "x", "word", "r"] ["part", "x"] (defScope (top 36)) := ⟨rfl, rfl, rfl, by decide +kernel, rfl, by decide +kernel, by decide +kernel⟩
theorem ok_ahead (F : VL.FnP K "ahead" (top 36) f fd) (hm : mg "ahead" = some (.ref f)) (fr : Fr mg) (d_plus : DefOk P w K mg base 3 "plus" 2 F_plus) (d_times : DefOk P w K mg base 3 "times" 2 F_times) (d_over : DefOk P w K mg base 3 "over" 2 F_over) : DefOk P w K mg base 4 "ahead" 2 F_ahead :=
  mk_def (k := 3) (fb := f_ahead) F hm sc_ahead (by decide) (fun _ _ _ _ _ _ us hl => match us, hl with | [_, _], _ => rfl) fun cdv A outer s H E hr E0 A0 Pr =>
  (ss_cons (s_asg (v_varV (pv 0)) (L2.pg_tup rfl (pgs_cons (pg_name sc_ahead.nd rfl (by first | exact Or.inl rfl | exact Or.inr rfl)) (pgs_cons (pg_name sc_ahead.nd rfl (by first | exact Or.inl rfl | exact Or.inr rfl)) pgs_nil))) (g_tp (gs_cons g_nm (gs_cons g_nm gs_nil))))
  (ss_cons (s_if (t_eq (ka := .be) (kb := .be) rfl hr.units (v_var (pv 2)) v_str)
  (ss_cons (s_if (t_isN (ka := .be) (kb := .be) (v_var (pv 1)) v_non)
  (ss_one (s_ret v_non))
  ss_nil)
  (ss_one (s_ret (v_call (bs := []) (d_plus.mono (k := 3) (by decide)) rfl rfl hr rfl (takes_of rfl rfl rfl rfl) (a_cons (v_varV (pv 1)) (a_cons (v_varV (pv 3)) a_nil))))))
  ss_nil)
  (ss_cons (s_if (t_isN (ka := .be) (kb := .be) (v_var (pv 1)) v_non)
  (ss_one (s_retV (pv 3)))
  ss_nil)
  (ss_one (s_ret (v_call (bs := []) (d_over.mono (k := 3) (by decide)) rfl rfl hr rfl (takes_of rfl rfl rfl rfl) (a_cons (v_call (bs := []) (d_times.mono (k := 3) (by decide)) rfl rfl hr rfl (takes_of rfl rfl rfl rfl) (a_cons (v_varV (pv 1)) (a_cons (v_varV (pv 3)) a_nil))) (a_cons (v_call (bs := []) (d_plus.mono (k := 3) (by decide)) rfl rfl hr rfl (takes_of rfl rfl rfl rfl) (a_cons (v_varV (pv 1)) (a_cons (v_varV (pv 3)) a_nil))) a_nil))))))))
/-! ### product -/
noncomputable def f_product : Rho → Sto → Option Fl :=
  (sSeq
  (sAsg (gTp 4 (gsCons (gNm 2) (gsCons (gNm 3) (gsCons (gNm 4) (gsCons (gNm 5) gsNil))))) (eVarV 0))
  (sSeq
  (sAsg (gTp 4 (gsCons (gNm 6) (gsCons (gNm 7) (gsCons (gNm 8) (gsCons (gNm 9) gsNil))))) (eVarV 1))
  (sSeq
  (sSet 10 (eTup (aCons (eCall 2 F_plus [] (aCons (eCall 2 F_times [] (aCons (eVarV 2) (aCons (eVarV 6) aNil))) (aCons (eCall 2 F_times [] (aCons (eVarV 3) (aCons (eVarV 8) aNil))) aNil))) (aCons (eCall 2 F_plus [] (aCons (eCall 2 F_times [] (aCons (eVarV 2) (aCons (eVarV 7) aNil))) (aCons (eCall 2 F_times [] (aCons (eVarV 3) (aCons (eVarV 9) aNil))) aNil))) aNil))))
  (sRet (eBin gAdd (eVar 10) (eTup (aCons (eCall 2 F_plus [] (aCons (eCall 2 F_times [] (aCons (eVarV 4) (aCons (eVarV 6) aNil))) (aCons (eCall 2 F_times [] (aCons (eVarV 5) (aCons (eVarV 8) aNil))) aNil))) (aCons (eCall 2 F_plus [] (aCons (eCall 2 F_times [] (aCons (eVarV 4) (aCons (eVarV 7) aNil))) (aCons (eCall 2 F_times [] (aCons (eVarV 5) (aCons (eVarV 9) aNil))) aNil))) aNil))))))))
noncomputable def F_product : List SV → Mo SV := runF 11 f_product
theorem sc_product : FnScope ["one", "other", "a", "b", "c", "d", "e", "f", "g", "h", "top"] ["one", "other"] (defScope (top 38)) := ⟨rfl, rfl, rfl, by decide +kernel, rfl, by decide +kernel, by decide +kernel⟩
theorem ok_product (F : VL.FnP K "product" (top 38) f fd) (hm : mg "product" = some (.ref f)) (fr : Fr mg) (d_plus : DefOk P w K mg base 3 "plus" 2 F_plus) (d_times : DefOk P w K mg base 3 "times" 2 F_times) : DefOk P w K mg base 4 "product" 2 F_product :=
  mk_def (k := 3) (fb := f_product) F hm sc_product (by decide) (fun _ _ _ _ _ _ us hl => match us, hl with | [_, _], _ => rfl) fun cdv A outer s H E hr E0 A0 Pr =>
  (ss_cons (s_asg (v_varV (pv 0)) (L2.pg_tup rfl (pgs_cons (pg_name sc_product.nd rfl (by first | exact Or.inl rfl | exact Or.inr rfl)) (pgs_cons (pg_name sc_product.nd rfl (by first | exact Or.inl rfl | exact Or.inr rfl)) (pgs_cons (pg_name sc_product.nd rfl (by first | exact Or.inl rfl | exact Or.inr rfl)) (pgs_cons (pg_name sc_product.nd rfl (by first | exact Or.inl rfl | exact Or.inr rfl)) pgs_nil))))) (g_tp (gs_cons g_nm (gs_cons g_nm (gs_cons g_nm (gs_cons g_nm gs_nil))))))
  (ss_cons (s_asg (v_varV (pv 1)) (L2.pg_tup rfl (pgs_cons (pg_name sc_product.nd rfl (by first | exact Or.inl rfl | exact Or.inr rfl)) (pgs_cons (pg_name sc_product.nd rfl (by first | exact Or.inl rfl | exact Or.inr rfl)) (pgs_cons (pg_name sc_product.nd rfl (by first | exact Or.inl rfl | exact Or.inr rfl)) (pgs_cons (pg_name sc_product.nd rfl (by first | exact Or.inl rfl | exact Or.inr rfl)) pgs_nil))))) (g_tp (gs_cons g_nm (gs_cons g_nm (gs_cons g_nm (gs_cons g_nm gs_nil))))))
  (ss_cons (s_set (i := 10) sc_product.nd rfl (by first | exact Or.inl rfl | exact Or.inr rfl) (v_tup (a_cons (v_call (bs := []) (d_plus.mono (k := 3) (by decide)) rfl rfl hr rfl (takes_of rfl rfl rfl rfl) (a_cons (v_call (bs := []) (d_times.mono (k := 3) (by decide)) rfl rfl hr rfl (takes_of rfl rfl rfl rfl) (a_cons (v_varV (pv 2)) (a_cons (v_varV (pv 6)) a_nil))) (a_cons (v_call (bs := []) (d_times.mono (k := 3) (by decide)) rfl rfl hr rfl (takes_of rfl rfl rfl rfl) (a_cons (v_varV (pv 3)) (a_cons (v_varV (pv 8)) a_nil))) a_nil))) (a_cons (v_call (bs := []) (d_plus.mono (k := 3) (by decide)) rfl rfl hr rfl (takes_of rfl rfl rfl rfl) (a_cons (v_call (bs := []) (d_times.mono (k := 3) (by decide)) rfl rfl hr rfl (takes_of rfl rfl rfl rfl) (a_cons (v_varV (pv 2)) (a_cons (v_varV (pv 7)) a_nil))) (a_cons (v_call (bs := []) (d_times.mono (k := 3) (by decide)) rfl rfl hr rfl (takes_of rfl rfl rfl rfl) (a_cons (v_varV (pv 3)) (a_cons (v_varV (pv 9)) a_nil))) a_nil))) a_nil))))
  (ss_one (s_ret (v_add (hk := rfl) (ka := .be) (kb := .be) (v_var (pv 10)) (v_tup (a_cons (v_call (bs := []) (d_plus.mono (k := 3) (by decide)) rfl rfl hr rfl (takes_of rfl rfl rfl rfl) (a_cons (v_call (bs := []) (d_times.mono (k := 3) (by decide)) rfl rfl hr rfl (takes_of rfl rfl rfl rfl) (a_cons (v_varV (pv 4)) (a_cons (v_varV (pv 6)) a_nil))) (a_cons (v_call (bs := []) (d_times.mono (k := 3) (by decide)) rfl rfl hr rfl (takes_of rfl rfl rfl rfl) (a_cons (v_varV (pv 5)) (a_cons (v_varV (pv 8)) a_nil))) a_nil))) (a_cons (v_call (bs := []) (d_plus.mono (k := 3) (by decide)) rfl rfl hr rfl (takes_of rfl rfl rfl rfl) (a_cons (v_call (bs := []) (d_times.mono (k := 3) (by decide)) rfl rfl hr rfl (takes_of rfl rfl rfl rfl) (a_cons (v_varV (pv 4)) (a_cons (v_varV (pv 7)) a_nil))) (a_cons (v_call (bs := []) (d_times.mono (k := 3) (by decide)) rfl rfl hr rfl (takes_of rfl rfl rfl rfl) (a_cons (v_varV (pv 5)) (a_cons (v_varV (pv 9)) a_nil))) a_nil))) a_nil)))))))))
/-! ### _law_through -/
noncomputable def f__law_through : Rho → Sto → Option Fl :=
  (sSeq
  (sFor (iSeq (eRev (eVar 0))) (gTp 2 (gsCons (gNm 3) (gsCons (gNm 4) gsNil)))
  (sSeq
  (sSet 5 (eTup (aCons (eCall 2 F__law_add [] (aCons (eBin gIx (eVar 1) (eCon (.int 0))) (aCons (eVarV 4) aNil))) (aCons (eBin gIx (eVar 1) (eCon (.int 1))) aNil))))
  (sIf (bB (eBin (cB gEq) (eVar 3) (eCon (.str "row"))))
  (sSet 1 (eVarV 5))
  (sSet 1 (eCall 3 F__law_over [] (aCons (eTup (aCons (eCall 2 F__law_mul [] (aCons (eBin gIx (eVar 1) (eCon (.int 0))) (aCons (eVarV 4) aNil))) (aCons (eCall 2 F__law_mul [] (aCons (eBin gIx (eVar 1) (eCon (.int 1))) (aCons (eVarV 4) aNil))) aNil))) (aCons (eVarV 5) (aCons (eVarV 2) aNil))))))))
  (sRetV 1))
noncomputable def F__law_through : List SV → Mo SV := runF 6 f__law_through
theorem sc__law_through : FnScope ["ladder", "x", "d", "word", "r", "more"] ["ladder", "x", "d"] (defScope (top 56)) := ⟨rfl, rfl, rfl, by decide +kernel, rfl, by decide +kernel, by decide +kernel⟩
theorem ok__law_through (F : VL.FnP K "_law_through" (top 56) f fd) (hm : mg "_law_through" = some (.ref f)) (fr : Fr mg) (d__law_add : DefOk P w K mg base 2 "_law_add" 2 F__law_add) (d__law_mul : DefOk P w K mg base 2 "_law_mul" 2 F__law_mul) (d__law_over : DefOk P w K mg base 3 "_law_over" 3 F__law_over) : DefOk P w K mg base 4 "_law_through" 3 F__law_through :=
  mk_def (k := 3) (fb := f__law_through) F hm sc__law_through (by decide) (fun _ _ _ _ _ _ us hl => match us, hl with | [_, _, _], _ => rfl) fun cdv A outer s H E hr E0 A0 Pr =>
  (ss_cons (s_for (passes_of rfl) rfl (i_seqF rfl (v_rev (ka := .be) rfl (v_var (pv 0)))) (L2.pg_tup rfl (pgs_cons (pg_name sc__law_through.nd rfl (by first | exact Or.inl rfl | exact Or.inr rfl)) (pgs_cons (pg_name sc__law_through.nd rfl (by first | exact Or.inl rfl | exact Or.inr rfl)) pgs_nil))) (g_tp (gs_cons g_nm (gs_cons g_nm gs_nil)))
  (ss_cons (s_set (i := 5) sc__law_through.nd rfl (by first | exact Or.inl rfl | exact Or.inr rfl) (v_tup (a_cons (v_call (bs := []) (d__law_add.mono (k := 3) (by decide)) rfl rfl hr rfl (takes_of rfl rfl rfl rfl) (a_cons (v_ix (ka := .be) (kb := .be) rfl (v_var (pv 1)) v_int (fun _ _ => rfl)) (a_cons (v_varV (pv 4)) a_nil))) (a_cons (v_ix (ka := .be) (kb := .be) rfl (v_var (pv 1)) v_int (fun _ _ => rfl)) a_nil))))
  (ss_one (s_if (t_eq (ka := .be) (kb := .be) rfl hr.units (v_var (pv 3)) v_str)
  (ss_one (s_set (i := 1) sc__law_through.nd rfl (by first | exact Or.inl rfl | exact Or.inr rfl) (v_varV (pv 5))))
  (ss_one (s_set (i := 1) sc__law_through.nd rfl (by first | exact Or.inl rfl | exact Or.inr rfl) (v_call (bs := []) (d__law_over.mono (k := 3) (by decide)) rfl rfl hr rfl (takes_of rfl rfl rfl rfl) (a_cons (v_tup (a_cons (v_call (bs := []) (d__law_mul.mono (k := 3) (by decide)) rfl rfl hr rfl (takes_of rfl rfl rfl rfl) (a_cons (v_ix (ka := .be) (kb := .be) rfl (v_var (pv 1)) v_int (fun _ _ => rfl)) (a_cons (v_varV (pv 4)) a_nil))) (a_cons (v_call (bs := []) (d__law_mul.mono (k := 3) (by decide)) rfl rfl hr rfl (takes_of rfl rfl rfl rfl) (a_cons (v_ix (ka := .be) (kb := .be) rfl (v_var (pv 1)) v_int (fun _ _ => rfl)) (a_cons (v_varV (pv 4)) a_nil))) a_nil))) (a_cons (v_varV (pv 5)) (a_cons (v_varV (pv 2)) a_nil))))))))))
  (ss_one (s_retV (pv 1))))
/-! ### look_at_ladder -/
noncomputable def f_look_at_ladder : Rho → Sto → Option Fl :=
  (sIf (bOr (bNot (bVal (eIsi1 (eVar 0) ["tuple"]))) (bOr (bNot (bB (eChain gLe gLe (eCon (.int 1)) (eCal gLen (aCons (eVar 0) aNil)) (eCon (.int 12))))) (bNot (bVal (eCal gAll (aCons (eLc (iSeq (eVar 0)) (gNm 1) bYes (eCall 1 F_is_part [] (aCons (eVarV 1) aNil)) [1]) aNil))))))
  (sRaise "BadValue")
  sNil)
noncomputable def F_look_at_ladder : List SV → Mo SV := runF 2 f_look_at_ladder
theorem sc_look_at_ladder : FnScope ["value", "one"] ["value"] (defScope (top 35)) := ⟨rfl, rfl, rfl, by decide +kernel, rfl, by decide +kernel, by decide +kernel⟩
theorem ok_look_at_ladder (F : VL.FnP K "look_at_ladder" (top 35) f fd) (hm : mg "look_at_ladder" = some (.ref f)) (fr : Fr mg) (d_is_part : DefOk P w K mg base 4 "is_part" 1 F_is_part) (g_MOST_PARTS : GlobC K mg "MOST_PARTS" (.int 12)) (e_BadValue : ExcOk K mg "BadValue") : DefOk P w K mg base 5 "look_at_ladder" 1 F_look_at_ladder :=
  mk_def (k := 4) (fb := f_look_at_ladder) F hm sc_look_at_ladder (by decide) (fun _ _ _ _ _ _ us hl => match us, hl with | [_], _ => rfl) fun cdv A outer s H E hr E0 A0 Pr =>
  (ss_one (s_if (PW.pt (b_or (b_not (b_val (ka := .be) rfl (v_isi (ka := .be) (T := "tuple") rfl (by decide) rfl fr.isinstance (v_var (pv 0)) rfl fr.tuple boot_tuple'))) (b_or (b_not (t_chain (ka := .be) (kb := .be) (kc := .be) op_le op_le c_le c_le v_int (v_calB (ka := .be) call_len ok_len rfl fr.len boot_len' (a_cons (v_var (pv 0)) a_nil)) (v_gc rfl g_MOST_PARTS rfl))) (b_or1 (b_not (b_val (ka := .be) rfl (v_calB (ka := .be) (cr_all rfl) ok_all rfl fr.all boot_all' (a_cons (v_lc (own := [("one", 1)]) rfl sc_look_at_ladder.nd (i_seq (ka := .be) rfl (v_var (pv 0))) (blk_of (by rfl)) (fun _ _ _ _ _ => (pg_name sc_look_at_ladder.nd rfl (by first | exact Or.inl rfl | exact Or.inr rfl))) g_nm (by decide) (fun _ _ _ _ _ => ts_nil) (fun _ _ _ _ _ => (v_call (bs := []) (d_is_part.mono (k := 4) (by decide)) rfl rfl hr rfl VL.takes0 (a_cons (v_varV (pv 1)) a_nil)))) a_nil))))))))
  (ss_one (s_raise rfl e_BadValue rfl (takes_of rfl rfl rfl rfl) rfl))
  ss_nil))
/-! ### ahead_of_all -/
noncomputable def f_ahead_of_all : Rho → Sto → Option Fl :=
  (sSeq
  (sFor (iSeq (eRev (eVar 0))) (gNm 2)
  (sSet 1 (eCall 2 F_ahead [] (aCons (eVarV 2) (aCons (eVarV 1) aNil)))))
  (sRetV 1))
noncomputable def F_ahead_of_all : List SV → Mo SV := runF 3 f_ahead_of_all
theorem sc_ahead_of_all : FnScope ["ladder", "x", "part"] ["ladder", "x"] (defScope (top 37)) := ⟨rfl, rfl, rfl, by decide +kernel, rfl, by decide +kernel, by decide +kernel⟩
theorem ok_ahead_of_all (F : VL.FnP K "ahead_of_all" (top 37) f fd) (hm : mg "ahead_of_all" = some (.ref f)) (fr : Fr mg) (d_ahead : DefOk P w K mg base 4 "ahead" 2 F_ahead) : DefOk P w K mg base 5 "ahead_of_all" 2 F_ahead_of_all :=
  mk_def (k := 4) (fb := f_ahead_of_all) F hm sc_ahead_of_all (by decide) (fun _ _ _ _ _ _ us hl => match us, hl with | [_, _], _ => rfl) fun cdv A outer s H E hr E0 A0 Pr =>
  (ss_cons (s_for (passes_of rfl) rfl (i_seqF rfl (v_rev (ka := .be) rfl (v_var (pv 0)))) (pg_name sc_ahead_of_all.nd rfl (by first | exact Or.inl rfl | exact Or.inr rfl)) g_nm
  (ss_one (s_set (i := 1) sc_ahead_of_all.nd rfl (by first | exact Or.inl rfl | exact Or.inr rfl) (v_call (bs := []) (d_ahead.mono (k := 4) (by decide)) rfl rfl hr rfl (takes_of rfl rfl rfl rfl) (a_cons (v_varV (pv 2)) (a_cons (v_varV (pv 1)) a_nil))))))
  (ss_one (s_retV (pv 1))))
/-! ### endless_by -/
noncomputable def f_endless_by : Rho → Sto → Option Fl :=
  (sSeq
  (sSet 1 (eTup (aCons (eCon (.tuple [.int 1, .int 1])) (aCons (eCon (.tuple [.int 0, .int 1])) (aCons (eCon (.tuple [.int 0, .int 1])) (aCons (eCon (.tuple [.int 1, .int 1])) aNil))))))
  (sSeq
  (sFor (iSeq (eVarV 0)) (gTp 2 (gsCons (gNm 2) (gsCons (gNm 3) gsNil)))
  (sIf (bB (eBin (cB gEq) (eVar 2) (eCon (.str "row"))))
  (sSet 1 (eCall 2 F_product [] (aCons (eVarV 1) (aCons (eTup (aCons (eCon (.tuple [.int 1, .int 1])) (aCons (eVarV 3) (aCons (eCon (.tuple [.int 0, .int 1])) (aCons (eCon (.tuple [.int 1, .int 1])) aNil))))) aNil))))
  (sSet 1 (eCall 2 F_product [] (aCons (eVarV 1) (aCons (eTup (aCons (eVarV 3) (aCons (eCon (.tuple [.int 0, .int 1])) (aCons (eCon (.tuple [.int 1, .int 1])) (aCons (eVarV 3) aNil))))) aNil))))))
  (sSeq
  (sAsg (gTp 4 (gsCons (gNm 4) (gsCons (gNm 5) (gsCons (gNm 6) (gsCons (gNm 7) gsNil))))) (eVarV 1))
  (sSeq
  (sSet 8 (eLst (aCons (eVarV 6) (aCons (eCall 2 F_minus [] (aCons (eVarV 7) (aCons (eVarV 4) aNil))) (aCons (eCall 2 F_minus [] (aCons (eCon (.tuple [.int 0, .int 1])) (aCons (eVarV 5) aNil))) aNil)))))
  (sSeq
  (sSet 9 (eCon (.int 1)))
  (sSeq
  (ghF [8] (sFor (iSeq (eVarV 8)) (gTp 2 (gsCons (gNm 10) (gsCons (gNm 11) gsNil)))
  (sSet 9 (eBin gMulA (eVar 9) (eVar 11)))))
  (sSeq
  (sSet 12 (eLc (iSeq (eVar 8)) (gTp 2 (gsCons (gNm 14) (gsCons (gNm 11) gsNil))) bYes (eBin gMulA (eVar 14) (eBin gFdiv (eVar 9) (eVar 11))) [14, 11]))
  (sSeq
  (ghF [12] (sSet 13 (eCall 1 F_greatest_divisor [] (aCons (eVarV 12) aNil))))
  (ghF [12] (sRet (eBin gAdd (eTup (aCons (eCon (.str "root")) aNil)) (eCal gTuple (aCons (eLc (iSeq (eVar 12)) (gNm 15) bYes (eBin gFdiv (eVar 15) (eVar 13)) [15]) aNil)))))))))))))
noncomputable def F_endless_by : List SV → Mo SV := runF 16 f_endless_by
theorem sc_endless_by : FnScope ["ladder", "found", "word", "r", "a", "b", "c", "d", "rows", "scale", "_", "q", "whole", "common", "p", "one"] ["ladder"] (defScope (top 39)) := ⟨rfl, rfl, rfl, by decide +kernel, rfl, by decide +kernel, by decide +kernel⟩
theorem ok_endless_by (F : VL.FnP K "endless_by" (top 39) f fd) (hm : mg "endless_by" = some (.ref f)) (fr : Fr mg) (d_greatest_divisor : DefOk P w K mg base 1 "greatest_divisor" 1 F_greatest_divisor) (d_minus : DefOk P w K mg base 3 "minus" 2 F_minus) (d_product : DefOk P w K mg base 4 "product" 2 F_product) (g_ONE : GlobC K mg "ONE" (.tuple [.int 1, .int 1])) (g_ZERO : GlobC K mg "ZERO" (.tuple [.int 0, .int 1])) : DefOk P w K mg base 5 "endless_by" 1 F_endless_by :=
  mk_def (k := 4) (fb := f_endless_by) F hm sc_endless_by (by decide) (fun _ _ _ _ _ _ us hl => match us, hl with | [_], _ => rfl) fun cdv A outer s H E hr E0 A0 Pr =>
  (ss_cons (s_set (i := 1) sc_endless_by.nd rfl (by first | exact Or.inl rfl | exact Or.inr rfl) (v_tup (a_cons (v_gc rfl g_ONE rfl) (a_cons (v_gc rfl g_ZERO rfl) (a_cons (v_gc rfl g_ZERO rfl) (a_cons (v_gc rfl g_ONE rfl) a_nil))))))
  (ss_cons (s_for (passes_of rfl) rfl (i_seqF rfl (v_varV (pv 0))) (L2.pg_tup rfl (pgs_cons (pg_name sc_endless_by.nd rfl (by first | exact Or.inl rfl | exact Or.inr rfl)) (pgs_cons (pg_name sc_endless_by.nd rfl (by first | exact Or.inl rfl | exact Or.inr rfl)) pgs_nil))) (g_tp (gs_cons g_nm (gs_cons g_nm gs_nil)))
  (ss_one (s_if (t_eq (ka := .be) (kb := .be) rfl hr.units (v_var (pv 2)) v_str)
  (ss_one (s_set (i := 1) sc_endless_by.nd rfl (by first | exact Or.inl rfl | exact Or.inr rfl) (v_call (bs := []) (d_product.mono (k := 4) (by decide)) rfl rfl hr rfl (takes_of rfl rfl rfl rfl) (a_cons (v_varV (pv 1)) (a_cons (v_tup (a_cons (v_gc rfl g_ONE rfl) (a_cons (v_varV (pv 3)) (a_cons (v_gc rfl g_ZERO rfl) (a_cons (v_gc rfl g_ONE rfl) a_nil))))) a_nil)))))
  (ss_one (s_set (i := 1) sc_endless_by.nd rfl (by first | exact Or.inl rfl | exact Or.inr rfl) (v_call (bs := []) (d_product.mono (k := 4) (by decide)) rfl rfl hr rfl (takes_of rfl rfl rfl rfl) (a_cons (v_varV (pv 1)) (a_cons (v_tup (a_cons (v_varV (pv 3)) (a_cons (v_gc rfl g_ZERO rfl) (a_cons (v_gc rfl g_ONE rfl) (a_cons (v_varV (pv 3)) a_nil))))) a_nil))))))))
  (ss_cons (s_asg (v_varV (pv 1)) (L2.pg_tup rfl (pgs_cons (pg_name sc_endless_by.nd rfl (by first | exact Or.inl rfl | exact Or.inr rfl)) (pgs_cons (pg_name sc_endless_by.nd rfl (by first | exact Or.inl rfl | exact Or.inr rfl)) (pgs_cons (pg_name sc_endless_by.nd rfl (by first | exact Or.inl rfl | exact Or.inr rfl)) (pgs_cons (pg_name sc_endless_by.nd rfl (by first | exact Or.inl rfl | exact Or.inr rfl)) pgs_nil))))) (g_tp (gs_cons g_nm (gs_cons g_nm (gs_cons g_nm (gs_cons g_nm gs_nil))))))
  (ss_cons (s_set (i := 8) sc_endless_by.nd rfl (by first | exact Or.inl rfl | exact Or.inr rfl) (v_lst (a_cons (v_varV (pv 6)) (a_cons (v_call (bs := []) (d_minus.mono (k := 4) (by decide)) rfl rfl hr rfl (takes_of rfl rfl rfl rfl) (a_cons (v_varV (pv 7)) (a_cons (v_varV (pv 4)) a_nil))) (a_cons (v_call (bs := []) (d_minus.mono (k := 4) (by decide)) rfl rfl hr rfl (takes_of rfl rfl rfl rfl) (a_cons (v_gc rfl g_ZERO rfl) (a_cons (v_varV (pv 5)) a_nil))) a_nil)))))
  (ss_cons (s_set (i := 9) sc_endless_by.nd rfl (by first | exact Or.inl rfl | exact Or.inr rfl) v_int)
  (ss_cons (s_ghF [8] (s_for (passes_of rfl) rfl (i_seqF rfl (v_varV (pv 8))) (L2.pg_tup rfl (pgs_cons (pg_name sc_endless_by.nd rfl (by first | exact Or.inl rfl | exact Or.inr rfl)) (pgs_cons (pg_name sc_endless_by.nd rfl (by first | exact Or.inl rfl | exact Or.inr rfl)) pgs_nil))) (g_tp (gs_cons g_nm (gs_cons g_nm gs_nil)))
  (ss_one (s_set (i := 9) sc_endless_by.nd rfl (by first | exact Or.inl rfl | exact Or.inr rfl) (v_mulA (hk := rfl) (ka := .be) (kb := .be) (v_var (pv 9)) (v_var (pv 11)))))))
  (ss_cons (s_setLc (own := [("p", 14), ("q", 11)]) (i := 12) rfl rfl rfl sc_endless_by.nd (i_seq (ka := .be) rfl (v_var (pv 8))) (blk_of (by rfl)) (fun _ _ _ _ _ => (L2.pg_tup rfl (pgs_cons (pg_name sc_endless_by.nd rfl (by first | exact Or.inl rfl | exact Or.inr rfl)) (pgs_cons (pg_name sc_endless_by.nd rfl (by first | exact Or.inl rfl | exact Or.inr rfl)) pgs_nil)))) (g_tp (gs_cons g_nm (gs_cons g_nm gs_nil))) (by decide) (fun _ _ _ _ _ => ts_nil) (fun _ _ _ _ _ => (v_mulA (hk := rfl) (ka := .be) (kb := .be) (v_var (pv 14)) (v_fdiv (ka := .be) (kb := .be) (v_var (pv 9)) (v_var (pv 11))))))
  (ss_cons (s_ghF [12] (s_set (i := 13) sc_endless_by.nd rfl (by first | exact Or.inl rfl | exact Or.inr rfl) (v_call (bs := []) (d_greatest_divisor.mono (k := 4) (by decide)) rfl rfl hr rfl (takes_of rfl rfl rfl rfl) (a_cons (v_varV (pv 12)) a_nil))))
  (ss_one (s_ghF [12] (s_ret (v_add (hk := rfl) (ka := .be) (kb := .be) (v_tup (a_cons v_str a_nil)) (v_calT (ka := .be) call_tuple_of ok_tuple rfl fr.tuple boot_tuple' (a_cons (v_lc (own := [("one", 15)]) rfl sc_endless_by.nd (i_seq (ka := .be) rfl (v_var (pv 12))) (blk_of (by rfl)) (fun _ _ _ _ _ => (pg_name sc_endless_by.nd rfl (by first | exact Or.inl rfl | exact Or.inr rfl))) g_nm (by decide) (fun _ _ _ _ _ => ts_nil) (fun _ _ _ _ _ => (v_fdiv (ka := .be) (kb := .be) (v_var (pv 15)) (v_var (pv 13))))) a_nil))))))))))))))
/-! ### endless -/
noncomputable def f_endless : Rho → Sto → Option Fl :=
  (sSeq
  (sDrop (eCall 1 F_look_at_ladder [] (aCons (eVarV 0) aNil)))
  (sSeq
  (sSet 1 (eLc (iSeq (eVar 0)) (gTp 2 (gsCons (gNm 2) (gsCons (gNm 3) gsNil))) bYes (eVarV 2) [2, 3]))
  (sSeq
  (sIf (bOr (bB (eBin (cB gNotIn) (eCon (.str "row")) (eVar 1))) (bB (eBin (cB gNotIn) (eCon (.str "beside")) (eVar 1))))
  (sRaise "NoSuch")
  sNil)
  (sRet (eCall 1 F_endless_by [] (aCons (eVarV 0) aNil))))))
noncomputable def F_endless : List SV → Mo SV := runF 4 f_endless
theorem sc_endless : FnScope ["ladder", "words", "word", "_"] ["ladder"] (defScope (top 40)) := ⟨rfl, rfl, rfl, by decide +kernel, rfl, by decide +kernel, by decide +kernel⟩
theorem ok_endless (F : VL.FnP K "endless" (top 40) f fd) (hm : mg "endless" = some (.ref f)) (fr : Fr mg) (d_look_at_ladder : DefOk P w K mg base 5 "look_at_ladder" 1 F_look_at_ladder) (d_endless_by : DefOk P w K mg base 5 "endless_by" 1 F_endless_by) (e_NoSuch : ExcOk K mg "NoSuch") : DefOk P w K mg base 6 "endless" 1 F_endless :=
  mk_def (k := 5) (fb := f_endless) F hm sc_endless (by decide) (fun _ _ _ _ _ _ us hl => match us, hl with | [_], _ => rfl) fun cdv A outer s H E hr E0 A0 Pr =>
  (ss_cons (s_drop (kd := .be) (v_call (bs := []) (d_look_at_ladder.mono (k := 5) (by decide)) rfl rfl hr rfl (takes_of rfl rfl rfl rfl) (a_cons (v_varV (pv 0)) a_nil)))
  (ss_cons (s_setLc (own := [("word", 2), ("_", 3)]) (i := 1) rfl rfl rfl sc_endless.nd (i_seq (ka := .be) rfl (v_var (pv 0))) (blk_of (by rfl)) (fun _ _ _ _ _ => (L2.pg_tup rfl (pgs_cons (pg_name sc_endless.nd rfl (by first | exact Or.inl rfl | exact Or.inr rfl)) (pgs_cons (pg_name sc_endless.nd rfl (by first | exact Or.inl rfl | exact Or.inr rfl)) pgs_nil)))) (g_tp (gs_cons g_nm (gs_cons g_nm gs_nil))) (by decide) (fun _ _ _ _ _ => ts_nil) (fun _ _ _ _ _ => (v_varV (pv 2))))
  (ss_cons (s_if (PW.pt (b_or (t_notIn (ka := .be) (kb := .be) rfl (u65 hr) v_str (v_var (pv 1)) (by rfl)) (b_or1 (t_notIn (ka := .be) (kb := .be) rfl (u65 hr) v_str (v_var (pv 1)) (by rfl)))))
  (ss_one (s_raise rfl e_NoSuch rfl (takes_of rfl rfl rfl rfl) rfl))
  ss_nil)
  (ss_one (s_ret (v_call (bs := []) (d_endless_by.mono (k := 5) (by decide)) rfl rfl hr rfl (takes_of rfl rfl rfl rfl) (a_cons (v_varV (pv 0)) a_nil)))))))
/-! ### turned -/
noncomputable def f_turned : Rho → Sto → Option Fl :=
  (sSeq
  (sDrop (eCall 1 F_look_at_ladder [] (aCons (eVarV 0) aNil)))
  (sSeq
  (sSet 1 (eLst aNil))
  (sSeq
  (sFor (iSeq (eVarV 0)) (gTp 2 (gsCons (gNm 2) (gsCons (gNm 3) gsNil)))
  (sSeq
  (sSet 4 (eCon (.str "row")))
  (sSeq
  (sIf (bB (eBin (cB gEq) (eVar 2) (eCon (.str "row"))))
  (sSet 4 (eCon (.str "beside")))
  sNil)
  (sAppend (lVar 1) (aCons (eTup (aCons (eVarV 4) (aCons (eCall 2 F_over [] (aCons (eCon (.tuple [.int 1, .int 1])) (aCons (eVarV 3) aNil))) aNil))) aNil)))))
  (sRet (eCal gTuple (aCons (eVar 1) aNil))))))
noncomputable def F_turned : List SV → Mo SV := runF 5 f_turned
theorem sc_turned : FnScope ["ladder", "found", "word", "r", "other"] ["ladder"] (defScope (top 42)) := ⟨rfl, rfl, rfl, by decide +kernel, rfl, by decide +kernel, by decide +kernel⟩
theorem ok_turned (F : VL.FnP K "turned" (top 42) f fd) (hm : mg "turned" = some (.ref f)) (fr : Fr mg) (d_over : DefOk P w K mg base 3 "over" 2 F_over) (d_look_at_ladder : DefOk P w K mg base 5 "look_at_ladder" 1 F_look_at_ladder) (g_ONE : GlobC K mg "ONE" (.tuple [.int 1, .int 1])) : DefOk P w K mg base 6 "turned" 1 F_turned :=
  mk_def (k := 5) (fb := f_turned) F hm sc_turned (by decide) (fun _ _ _ _ _ _ us hl => match us, hl with | [_], _ => rfl) fun cdv A outer s H E hr E0 A0 Pr =>
  (ss_cons (s_drop (kd := .be) (v_call (bs := []) (d_look_at_ladder.mono (k := 5) (by decide)) rfl rfl hr rfl (takes_of rfl rfl rfl rfl) (a_cons (v_varV (pv 0)) a_nil)))
  (ss_cons (s_set (i := 1) sc_turned.nd rfl (by first | exact Or.inl rfl | exact Or.inr rfl) (v_lst a_nil))
  (ss_cons (s_for (passes_of rfl) rfl (i_seqF rfl (v_varV (pv 0))) (L2.pg_tup rfl (pgs_cons (pg_name sc_turned.nd rfl (by first | exact Or.inl rfl | exact Or.inr rfl)) (pgs_cons (pg_name sc_turned.nd rfl (by first | exact Or.inl rfl | exact Or.inr rfl)) pgs_nil))) (g_tp (gs_cons g_nm (gs_cons g_nm gs_nil)))
  (ss_cons (s_set (i := 4) sc_turned.nd rfl (by first | exact Or.inl rfl | exact Or.inr rfl) v_str)
  (ss_cons (s_if (t_eq (ka := .be) (kb := .be) rfl hr.units (v_var (pv 2)) v_str)
  (ss_one (s_set (i := 4) sc_turned.nd rfl (by first | exact Or.inl rfl | exact Or.inr rfl) v_str))
  ss_nil)
  (ss_one (s_append (l_var (pv 1)) (a_cons (v_tup (a_cons (v_varV (pv 4)) (a_cons (v_call (bs := []) (d_over.mono (k := 5) (by decide)) rfl rfl hr rfl (takes_of rfl rfl rfl rfl) (a_cons (v_gc rfl g_ONE rfl) (a_cons (v_varV (pv 3)) a_nil))) a_nil))) a_nil))))))
  (ss_one (s_ret (v_calT (ka := .be) call_tuple_of ok_tuple rfl fr.tuple boot_tuple' (a_cons (v_var (pv 1)) a_nil)))))))
/-! ### parts_enough -/
noncomputable def f_parts_enough : Rho → Sto → Option Fl :=
  (sSeq
  (sSet 2 (eCall 1 F_endless [] (aCons (eVarV 0) aNil)))
  (sSeq
  (sIf (bNot (bVal (eCall 1 F_is_number [] (aCons (eVarV 1) aNil))))
  (sRaise "BadValue")
  sNil)
  (sSeq
  (sIf (bB (eBin (cB gGe) (eCall 2 F_compare_by [] (aCons (eVarV 2) (aCons (eVarV 1) aNil))) (eCon (.int 0))))
  (sRet (eCon (.none)))
  sNil)
  (sSeq
  (sSet 3 (eCon (.none)))
  (sSeq
  (sFor (iRng1 (aCons (eBin gAdd (eCon (.int 40)) (eCon (.int 1))) aNil)) (gNm 4)
  (sSeq
  (sIf (bAnd (bB (eBin (cB gNotN) (eVar 3) (eCon (.none)))) (bVal (eCall 2 F_less [] (aCons (eVarV 3) (aCons (eVarV 1) aNil)))))
  (sRetV 4)
  sNil)
  (sSet 3 (eCall 2 F_ahead_of_all [] (aCons (eVarV 0) (aCons (eVarV 3) aNil))))))
  (sRaise "TooFar"))))))
noncomputable def F_parts_enough : List SV → Mo SV := runF 5 f_parts_enough
theorem sc_parts_enough : FnScope ["ladder", "x", "root", "found", "many"] ["ladder", "x"] (defScope (top 41)) := ⟨rfl, rfl, rfl, by decide +kernel, rfl, by decide +kernel, by decide +kernel⟩
theorem ok_parts_enough (F : VL.FnP K "parts_enough" (top 41) f fd) (hm : mg "parts_enough" = some (.ref f)) (fr : Fr mg) (d_less : DefOk P w K mg base 1 "less" 2 F_less) (d_is_number : DefOk P w K mg base 1 "is_number" 1 F_is_number) (d_compare_by : DefOk P w K mg base 1 "compare_by" 2 F_compare_by) (d_ahead_of_all : DefOk P w K mg base 5 "ahead_of_all" 2 F_ahead_of_all) (d_endless : DefOk P w K mg base 6 "endless" 1 F_endless) (g_MOST_TIMES : GlobC K mg "MOST_TIMES" (.int 40)) (e_BadValue : ExcOk K mg "BadValue") (e_TooFar : ExcOk K mg "TooFar") : DefOk P w K mg base 7 "parts_enough" 2 F_parts_enough :=
  mk_def (k := 6) (fb := f_parts_enough) F hm sc_parts_enough (by decide) (fun _ _ _ _ _ _ us hl => match us, hl with | [_, _], _ => rfl) fun cdv A outer s H E hr E0 A0 Pr =>
  (ss_cons (s_set (i := 2) sc_parts_enough.nd rfl (by first | exact Or.inl rfl | exact Or.inr rfl) (v_call (bs := []) (d_endless.mono (k := 6) (by decide)) rfl rfl hr rfl (takes_of rfl rfl rfl rfl) (a_cons (v_varV (pv 0)) a_nil)))
  (ss_cons (s_if (b_not (b_val (ka := .be) rfl (v_call (bs := []) (d_is_number.mono (k := 6) (by decide)) rfl rfl hr rfl (takes_of rfl rfl rfl rfl) (a_cons (v_varV (pv 1)) a_nil))))
  (ss_one (s_raise rfl e_BadValue rfl (takes_of rfl rfl rfl rfl) rfl))
  ss_nil)
  (ss_cons (s_if (t_ge (ka := .be) (kb := .be) (v_call (bs := []) (d_compare_by.mono (k := 6) (by decide)) rfl rfl hr rfl (takes_of rfl rfl rfl rfl) (a_cons (v_varV (pv 2)) (a_cons (v_varV (pv 1)) a_nil))) v_int)
  (ss_one (s_ret v_non))
  ss_nil)
  (ss_cons (s_set (i := 3) sc_parts_enough.nd rfl (by first | exact Or.inl rfl | exact Or.inr rfl) v_non)
  (ss_cons (s_for (passes_of rfl) rfl (i_rng1 rfl fr.range (a_cons (v_add (hk := rfl) (ka := .be) (kb := .be) (v_gc rfl g_MOST_TIMES rfl) v_int) a_nil)) (pg_name sc_parts_enough.nd rfl (by first | exact Or.inl rfl | exact Or.inr rfl)) g_nm
  (ss_cons (s_if (PW.pt (b_and (t_notN (ka := .be) (kb := .be) (v_var (pv 3)) v_non) (b_and1 (b_val (ka := .be) rfl (v_call (bs := []) (d_less.mono (k := 6) (by decide)) rfl rfl hr rfl (takes_of rfl rfl rfl rfl) (a_cons (v_varV (pv 3)) (a_cons (v_varV (pv 1)) a_nil)))))))
  (ss_one (s_retV (pv 4)))
  ss_nil)
  (ss_one (s_set (i := 3) sc_parts_enough.nd rfl (by first | exact Or.inl rfl | exact Or.inr rfl) (v_call (bs := []) (d_ahead_of_all.mono (k := 6) (by decide)) rfl rfl hr rfl (takes_of rfl rfl rfl rfl) (a_cons (v_varV (pv 0)) (a_cons (v_varV (pv 3)) a_nil)))))))
  (ss_one (s_raise rfl e_TooFar rfl (takes_of rfl rfl rfl rfl) rfl)))))))
/-! ### _law_told -/
noncomputable def f__law_told : Rho → Sto → Option Fl :=
  (sTryM mt [("BadValue", (sRet (eCon (.str "value")))),
  ("NoSuch", (sRet (eCon (.str "none")))),
  ("TooFar", (sRet (eCon (.str "far"))))]
  (sSeq
  (sIf (bB (eBin (cB gEq) (eCal gLen (aCons (eVar 1) aNil)) (eCon (.int 1))))
  (sRet (eCallL 0 1 [("endless", F_endless)] [] (aCons (eBin gIx (eVar 1) (eCon (.int 0))) aNil)))
  sNil)
  (sRet (eCallL 0 2 [("parts_enough", F_parts_enough)] [] (aCons (eBin gIx (eVar 1) (eCon (.int 0))) (aCons (eBin gIx (eVar 1) (eCon (.int 1))) aNil))))))
noncomputable def F__law_told : List SV → Mo SV := runF 2 f__law_told
theorem sc__law_told : FnScope ["call", "values"] ["call", "values"] (defScope (top 58)) := ⟨rfl, rfl, rfl, by decide +kernel, rfl, by decide +kernel, by decide +kernel⟩
theorem ok__law_told (F : VL.FnP K "_law_told" (top 58) f fd) (hm : mg "_law_told" = some (.ref f)) (fr : Fr mg) (d_endless : DefOk P w K mg base 6 "endless" 1 F_endless) (d_parts_enough : DefOk P w K mg base 7 "parts_enough" 2 F_parts_enough) (e_BadValue : ExcOk K mg "BadValue") (e_NoSuch : ExcOk K mg "NoSuch") (e_TooFar : ExcOk K mg "TooFar") (hmt : MtOk K mg mt) : DefOk P w K mg base 8 "_law_told" 2 F__law_told :=
  mk_def (k := 7) (fb := f__law_told) F hm sc__law_told (by decide) (fun _ _ _ _ _ _ us hl => match us, hl with | [_, _], _ => rfl) fun cdv A outer s H E hr E0 A0 Pr =>
  (ss_one (s_tryM rfl hmt (HdM.cons e_BadValue rfl (fun a oe pn => (ss_one (s_ret v_str))) (HdM.cons e_NoSuch rfl (fun a oe pn => (ss_one (s_ret v_str))) (HdM.cons e_TooFar rfl (fun a oe pn => (ss_one (s_ret v_str))) HdM.nil))) rfl rfl (takes_of rfl rfl rfl rfl) (fun W pn xe tk' hp' => (ss_cons (s_if (t_eq (ka := .be) (kb := .be) rfl hr.units (v_calB (ka := .be) call_len ok_len rfl fr.len boot_len' (a_cons (v_var (pv 1)) a_nil)) v_int)
  (ss_one (s_ret (v_callL (i := 0) (hd_cons (d_endless.mono (k := 7) (by decide)) hd_nil) rfl rfl hr rfl (by first | exact Or.inl rfl | exact Or.inr (Or.inl rfl) | exact Or.inr (Or.inr rfl)) tk' (a_cons (v_ix (ka := .be) (kb := .be) rfl (v_var (pv 1)) v_int (fun _ _ => rfl)) a_nil))))
  ss_nil)
  (ss_one (s_ret (v_callL (i := 0) (hd_cons (d_parts_enough.mono (k := 7) (by decide)) hd_nil) rfl rfl hr rfl (by first | exact Or.inl rfl | exact Or.inr (Or.inl rfl) | exact Or.inr (Or.inr rfl)) tk' (a_cons (v_ix (ka := .be) (kb := .be) rfl (v_var (pv 1)) v_int (fun _ _ => rfl)) (a_cons (v_ix (ka := .be) (kb := .be) rfl (v_var (pv 1)) v_int (fun _ _ => rfl)) a_nil)))))))))
/-! ### _law_case -/
noncomputable def f__law_case : Rho → Sto → Option Fl :=
  (sSeq
  (sSet 1 (eCall 1 F__law_ladder [] (aCons (eVarV 0) aNil)))
  (sSeq
  (sSet 2 (eCall 1 F_endless [] (aCons (eVarV 1) aNil)))
  (sSeq
  (sAsg (gTp 4 (gsCons (gNm 3) (gsCons (gNm 4) (gsCons (gNm 5) (gsCons (gNm 6) gsNil))))) (eVarV 2))
  (sSeq
  (sIf (bOr (bB (eBin (cB gNe) (eVar 3) (eCon (.str "root")))) (bOr (bB (eBin (cB gLt) (eVar 4) (eCon (.int 1)))) (bB (eBin (cB gGt) (eVar 6) (eUn gNeg (eCon (.int 1)))))))
  (sRet (eCon (.bool false)))
  sNil)
  (sSeq
  (sSet 7 (eBin gSub (eBin gMulA (eVar 5) (eVar 5)) (eBin gMulA (eBin gMulA (eCon (.int 4)) (eVar 4)) (eVar 6))))
  (sSeq
  (sSet 8 (eCall 1 F__law_whole [] (aCons (eVarV 7) aNil)))
  (sSeq
  (sIf (bB (eBin (cB gNotN) (eVar 8) (eCon (.none))))
  (sSeq
  (sSet 9 (eCall 2 F__law_fr [] (aCons (eBin gSub (eVar 8) (eVar 5)) (aCons (eBin gMulA (eCon (.int 2)) (eVar 4)) aNil))))
  (sIf (bB (eBin (cB gNe) (eCall 3 F__law_after [] (aCons (eVarV 1) (aCons (eCon (.int 1)) (aCons (eVarV 9) aNil)))) (eVar 9)))
  (sRet (eCon (.bool false)))
  sNil))
  (sSeq
  (sSet 9 (eTup (aCons (eCall 2 F__law_fr [] (aCons (eBin gSub (eCon (.int 0)) (eVar 5)) (aCons (eBin gMulA (eCon (.int 2)) (eVar 4)) aNil))) (aCons (eCall 2 F__law_fr [] (aCons (eCon (.int 1)) (aCons (eBin gMulA (eCon (.int 2)) (eVar 4)) aNil))) aNil))))
  (sIf (bB (eBin (cB gNe) (eCall 3 F__law_through [] (aCons (eVarV 1) (aCons (eVarV 9) (aCons (eVarV 7) aNil)))) (eVar 9)))
  (sRet (eCon (.bool false)))
  sNil)))
  (sSeq
  (sFor (iRng2 (aCons (eCon (.int 1)) (aCons (eCon (.int 6)) aNil))) (gNm 10)
  (sSeq
  (sSet 11 (eCall 3 F__law_after [] (aCons (eVarV 1) (aCons (eVarV 10) (aCons (eCon (.none)) aNil)))))
  (sSeq
  (sSet 12 (eCall 3 F__law_after [] (aCons (eVarV 1) (aCons (eVarV 10) (aCons (eTup (aCons (eCon (.int 0)) (aCons (eCon (.int 1)) aNil))) aNil)))))
  (sIf (bOr (bAnd (bB (eBin (cB gNotN) (eVar 11) (eCon (.none)))) (bB (eBin (cB gNe) (eCall 2 F_compare [] (aCons (eVarV 2) (aCons (eVarV 11) aNil))) (eUn gNeg (eCon (.int 1)))))) (bB (eBin (cB gNe) (eCall 2 F_compare [] (aCons (eVarV 2) (aCons (eVarV 12) aNil))) (eCon (.int 1)))))
  (sRet (eCon (.bool false)))
  sNil))))
  (sSeq
  (sIf (bOr (bB (eBin (cB gNe) (eCall 2 F_order [] (aCons (eCall 1 F_endless [] (aCons (eBin gAdd (eVar 1) (eVar 1)) aNil)) (aCons (eVarV 2) aNil))) (eCon (.int 0)))) (bB (eBin (cB gNe) (eCall 2 F_order [] (aCons (eCall 1 F_endless [] (aCons (eCall 1 F_turned [] (aCons (eVarV 1) aNil)) aNil)) (aCons (eTup (aCons (eCon (.str "root")) (aCons (eBin gSub (eCon (.int 0)) (eVar 6)) (aCons (eBin gSub (eCon (.int 0)) (eVar 5)) (aCons (eBin gSub (eCon (.int 0)) (eVar 4)) aNil))))) aNil))) (eCon (.int 0)))))
  (sRet (eCon (.bool false)))
  sNil)
  (sSeq
  (sSet 13 (eBin gAdd (eCon (.int 1)) (eCall 2 F__law_draw [] (aCons (eVarV 0) (aCons (eCon (.int 6)) aNil)))))
  (sSeq
  (sSet 9 (eCall 3 F__law_after [] (aCons (eVarV 1) (aCons (eVarV 13) (aCons (eCon (.none)) aNil)))))
  (sSeq
  (sIf (bB (eBin (cB gNotN) (eVar 9) (eCon (.none))))
  (sSeq
  (sSet 14 (eLc (iRng2 (aCons (eCon (.int 1)) (aCons (eBin gAdd (eVar 13) (eCon (.int 2))) aNil))) (gNm 17) (bAnd (bB (eBin (cB gNotN) (eCall 3 F__law_after [] (aCons (eVarV 1) (aCons (eVarV 17) (aCons (eCon (.none)) aNil)))) (eCon (.none)))) (bB (eBin (cB gLt) (eBin gIxB (eCall 2 F__law_sub [] (aCons (eCall 3 F__law_after [] (aCons (eVarV 1) (aCons (eVarV 17) (aCons (eCon (.none)) aNil)))) (aCons (eVarV 9) aNil))) (eCon (.int 0))) (eCon (.int 0))))) (eVarV 17) [17]))
  (sIf (bB (eBin (cB gNe) (eCall 2 F__law_told [] (aCons (eFn "parts_enough") (aCons (eTup (aCons (eVarV 1) (aCons (eVarV 9) aNil))) aNil))) (eBin gIxB (eVar 14) (eCon (.int 0)))))
  (sRet (eCon (.bool false)))
  sNil))
  sNil)
  (sSeq
  (sIf (bOr (bB (eBin (cB gNotN) (eCall 2 F__law_told [] (aCons (eFn "parts_enough") (aCons (eTup (aCons (eVarV 1) (aCons (eCall 3 F__law_after [] (aCons (eVarV 1) (aCons (eVarV 13) (aCons (eTup (aCons (eCon (.int 0)) (aCons (eCon (.int 1)) aNil))) aNil)))) aNil))) aNil))) (eCon (.none)))) (bB (eBin (cB gNotN) (eCall 2 F__law_told [] (aCons (eFn "parts_enough") (aCons (eTup (aCons (eVarV 1) (aCons (eTup (aCons (eCon (.int 0)) (aCons (eCon (.int 1)) aNil))) aNil))) aNil))) (eCon (.none)))))
  (sRet (eCon (.bool false)))
  sNil)
  (sSeq
  (sSet 15 (eCal gTuple (aCons (eLc (iSeq (eVar 1)) (gNm 18) (bB (eBin (cB gEq) (eBin gIxB (eVar 18) (eCon (.int 0))) (eCon (.str "row")))) (eVarV 18) [18]) aNil)))
  (sSeq
  (sSet 16 (eCal gTuple (aCons (eLc (iSeq (eVar 1)) (gNm 18) (bB (eBin (cB gEq) (eBin gIxB (eVar 18) (eCon (.int 0))) (eCon (.str "beside")))) (eVarV 18) [18]) aNil)))
  (sSeq
  (sIf (bOr (bB (eBin (cB gNe) (eLc (iSeq (eLst (aCons (eVarV 15) (aCons (eVarV 16) aNil)))) (gNm 19) bYes (eCall 2 F__law_told [] (aCons (eFn "endless") (aCons (eTup (aCons (eVarV 19) aNil)) aNil))) [19]) (eBin gMulA (eLst (aCons (eCon (.str "none")) aNil)) (eCon (.int 2))))) (bB (eBin (cB gNe) (eCall 2 F__law_told [] (aCons (eFn "parts_enough") (aCons (eTup (aCons (eVarV 15) (aCons (eTup (aCons (eCon (.int 1)) (aCons (eCon (.int 1)) aNil))) aNil))) aNil))) (eCon (.str "none")))))
  (sRet (eCon (.bool false)))
  sNil)
  (sRet (eAnd (eBin (cB gEq) (eLc (iSeq (eLst (aCons (eCon (.none)) (aCons (eTup aNil) (aCons (eTup (aCons (eTup (aCons (eCon (.str "row")) (aCons (eTup (aCons (eCon (.int 0)) (aCons (eCon (.int 1)) aNil))) aNil))) aNil)) aNil))))) (gNm 19) bYes (eCall 2 F__law_told [] (aCons (eFn "endless") (aCons (eTup (aCons (eVarV 19) aNil)) aNil))) [19]) (eBin gMulA (eLst (aCons (eCon (.str "value")) aNil)) (eCon (.int 3)))) (eBin (cB gEq) (eLc (iSeq (eLst (aCons (eCon (.none)) (aCons (eTup (aCons (eCon (.int 2)) (aCons (eCon (.int 4)) aNil))) aNil)))) (gNm 19) bYes (eCall 2 F__law_told [] (aCons (eFn "parts_enough") (aCons (eTup (aCons (eVarV 1) (aCons (eVarV 19) aNil))) aNil))) [19]) (eBin gMulA (eLst (aCons (eCon (.str "value")) aNil)) (eCon (.int 2))))))))))))))))))))))
noncomputable def F__law_case : List SV → Mo SV := runF 20 f__law_case
theorem sc__law_case : FnScope ["bag", "ladder", "root", "word", "a", "b", "c", "d", "whole", "x", "times_v", "high", "low", "many", "first", "rows", "besides", "k", "part", "odd"] ["bag"] (defScope (top 59)) := ⟨rfl, rfl, rfl, by decide +kernel, rfl, by decide +kernel, by decide +kernel⟩
theorem ok__law_case (F : VL.FnP K "_law_case" (top 59) f fd) (hm : mg "_law_case" = some (.ref f)) (fr : Fr mg) (d__law_draw : DefOk P w K mg base 1 "_law_draw" 2 F__law_draw) (d__law_fr : DefOk P w K mg base 1 "_law_fr" 2 F__law_fr) (d__law_whole : DefOk P w K mg base 1 "_law_whole" 1 F__law_whole) (d__law_sub : DefOk P w K mg base 2 "_law_sub" 2 F__law_sub) (d__law_ladder : DefOk P w K mg base 2 "_law_ladder" 1 F__law_ladder) (d__law_after : DefOk P w K mg base 3 "_law_after" 3 F__law_after) (d_compare : DefOk P w K mg base 4 "compare" 2 F_compare) (d_order : DefOk P w K mg base 4 "order" 2 F_order) (d__law_through : DefOk P w K mg base 4 "_law_through" 3 F__law_through) (d_endless : DefOk P w K mg base 6 "endless" 1 F_endless) (d_turned : DefOk P w K mg base 6 "turned" 1 F_turned) (d_parts_enough : DefOk P w K mg base 7 "parts_enough" 2 F_parts_enough) (d__law_told : DefOk P w K mg base 8 "_law_told" 2 F__law_told) : DefOk P w K mg base 9 "_law_case" 1 F__law_case :=
  mk_def (k := 8) (fb := f__law_case) F hm sc__law_case (by decide) (fun _ _ _ _ _ _ us hl => match us, hl with | [_], _ => rfl) fun cdv A outer s H E hr E0 A0 Pr =>
  (ss_cons (s_set (i := 1) sc__law_case.nd rfl (by first | exact Or.inl rfl | exact Or.inr rfl) (v_call (bs := []) (d__law_ladder.mono (k := 8) (by decide)) rfl rfl hr rfl (takes_of rfl rfl rfl rfl) (a_cons (v_varV (pv 0)) a_nil)))
  (ss_cons (s_set (i := 2) sc__law_case.nd rfl (by first | exact Or.inl rfl | exact Or.inr rfl) (v_call (bs := []) (d_endless.mono (k := 8) (by decide)) rfl rfl hr rfl (takes_of rfl rfl rfl rfl) (a_cons (v_varV (pv 1)) a_nil)))
  (ss_cons (s_asg (v_varV (pv 2)) (L2.pg_tup rfl (pgs_cons (pg_name sc__law_case.nd rfl (by first | exact Or.inl rfl | exact Or.inr rfl)) (pgs_cons (pg_name sc__law_case.nd rfl (by first | exact Or.inl rfl | exact Or.inr rfl)) (pgs_cons (pg_name sc__law_case.nd rfl (by first | exact Or.inl rfl | exact Or.inr rfl)) (pgs_cons (pg_name sc__law_case.nd rfl (by first | exact Or.inl rfl | exact Or.inr rfl)) pgs_nil))))) (g_tp (gs_cons g_nm (gs_cons g_nm (gs_cons g_nm (gs_cons g_nm gs_nil))))))
  (ss_cons (s_if (PW.pt (b_or (t_ne (ka := .be) (kb := .be) rfl hr.units (v_var (pv 3)) v_str) (b_or (t_lt (ka := .be) (kb := .be) rfl hr.units (v_var (pv 4)) v_int) (b_or1 (t_gt (ka := .be) (kb := .be) (v_var (pv 6)) (v_neg (ka := .be) v_int))))))
  (ss_one (s_ret v_bl))
  ss_nil)
  (ss_cons (s_set (i := 7) sc__law_case.nd rfl (by first | exact Or.inl rfl | exact Or.inr rfl) (v_sub (ka := .be) (kb := .be) (v_mulA (hk := rfl) (ka := .be) (kb := .be) (v_var (pv 5)) (v_var (pv 5))) (v_mulA (hk := rfl) (ka := .be) (kb := .be) (v_mulA (hk := rfl) (ka := .be) (kb := .be) v_int (v_var (pv 4))) (v_var (pv 6)))))
  (ss_cons (s_set (i := 8) sc__law_case.nd rfl (by first | exact Or.inl rfl | exact Or.inr rfl) (v_call (bs := []) (d__law_whole.mono (k := 8) (by decide)) rfl rfl hr rfl (takes_of rfl rfl rfl rfl) (a_cons (v_varV (pv 7)) a_nil)))
  (ss_cons (s_if (t_notN (ka := .be) (kb := .be) (v_var (pv 8)) v_non)
  (ss_cons (s_set (i := 9) sc__law_case.nd rfl (by first | exact Or.inl rfl | exact Or.inr rfl) (v_call (bs := []) (d__law_fr.mono (k := 8) (by decide)) rfl rfl hr rfl (takes_of rfl rfl rfl rfl) (a_cons (v_sub (ka := .be) (kb := .be) (v_var (pv 8)) (v_var (pv 5))) (a_cons (v_mulA (hk := rfl) (ka := .be) (kb := .be) v_int (v_var (pv 4))) a_nil))))
  (ss_one (s_if (t_ne (ka := .be) (kb := .be) rfl hr.units (v_call (bs := []) (d__law_after.mono (k := 8) (by decide)) rfl rfl hr rfl (takes_of rfl rfl rfl rfl) (a_cons (v_varV (pv 1)) (a_cons v_int (a_cons (v_varV (pv 9)) a_nil)))) (v_var (pv 9)))
  (ss_one (s_ret v_bl))
  ss_nil)))
  (ss_cons (s_set (i := 9) sc__law_case.nd rfl (by first | exact Or.inl rfl | exact Or.inr rfl) (v_tup (a_cons (v_call (bs := []) (d__law_fr.mono (k := 8) (by decide)) rfl rfl hr rfl (takes_of rfl rfl rfl rfl) (a_cons (v_sub (ka := .be) (kb := .be) v_int (v_var (pv 5))) (a_cons (v_mulA (hk := rfl) (ka := .be) (kb := .be) v_int (v_var (pv 4))) a_nil))) (a_cons (v_call (bs := []) (d__law_fr.mono (k := 8) (by decide)) rfl rfl hr rfl (takes_of rfl rfl rfl rfl) (a_cons v_int (a_cons (v_mulA (hk := rfl) (ka := .be) (kb := .be) v_int (v_var (pv 4))) a_nil))) a_nil))))
  (ss_one (s_if (t_ne (ka := .be) (kb := .be) rfl hr.units (v_call (bs := []) (d__law_through.mono (k := 8) (by decide)) rfl rfl hr rfl (takes_of rfl rfl rfl rfl) (a_cons (v_varV (pv 1)) (a_cons (v_varV (pv 9)) (a_cons (v_varV (pv 7)) a_nil)))) (v_var (pv 9)))
  (ss_one (s_ret v_bl))
  ss_nil))))
  (ss_cons (s_for (passes_of rfl) rfl (i_rng2 rfl fr.range (a_cons v_int (a_cons v_int a_nil))) (pg_name sc__law_case.nd rfl (by first | exact Or.inl rfl | exact Or.inr rfl)) g_nm
  (ss_cons (s_set (i := 11) sc__law_case.nd rfl (by first | exact Or.inl rfl | exact Or.inr rfl) (v_call (bs := []) (d__law_after.mono (k := 8) (by decide)) rfl rfl hr rfl (takes_of rfl rfl rfl rfl) (a_cons (v_varV (pv 1)) (a_cons (v_varV (pv 10)) (a_cons v_non a_nil)))))
  (ss_cons (s_set (i := 12) sc__law_case.nd rfl (by first | exact Or.inl rfl | exact Or.inr rfl) (v_call (bs := []) (d__law_after.mono (k := 8) (by decide)) rfl rfl hr rfl (takes_of rfl rfl rfl rfl) (a_cons (v_varV (pv 1)) (a_cons (v_varV (pv 10)) (a_cons (v_tup (a_cons v_int (a_cons v_int a_nil))) a_nil)))))
  (ss_one (s_if (PW.pt (b_or (PW.pt (b_and (t_notN (ka := .be) (kb := .be) (v_var (pv 11)) v_non) (b_and1 (t_ne (ka := .be) (kb := .be) rfl hr.units (v_call (bs := []) (d_compare.mono (k := 8) (by decide)) rfl rfl hr rfl (takes_of rfl rfl rfl rfl) (a_cons (v_varV (pv 2)) (a_cons (v_varV (pv 11)) a_nil))) (v_neg (ka := .be) v_int))))) (b_or1 (t_ne (ka := .be) (kb := .be) rfl hr.units (v_call (bs := []) (d_compare.mono (k := 8) (by decide)) rfl rfl hr rfl (takes_of rfl rfl rfl rfl) (a_cons (v_varV (pv 2)) (a_cons (v_varV (pv 12)) a_nil))) v_int))))
  (ss_one (s_ret v_bl))
  ss_nil)))))
  (ss_cons (s_if (PW.pt (b_or (t_ne (ka := .be) (kb := .be) rfl hr.units (v_call (bs := []) (d_order.mono (k := 8) (by decide)) rfl rfl hr rfl (takes_of rfl rfl rfl rfl) (a_cons (v_call (bs := []) (d_endless.mono (k := 8) (by decide)) rfl rfl hr rfl (takes_of rfl rfl rfl rfl) (a_cons (v_add (hk := rfl) (ka := .be) (kb := .be) (v_var (pv 1)) (v_var (pv 1))) a_nil)) (a_cons (v_varV (pv 2)) a_nil))) v_int) (b_or1 (t_ne (ka := .be) (kb := .be) rfl hr.units (v_call (bs := []) (d_order.mono (k := 8) (by decide)) rfl rfl hr rfl (takes_of rfl rfl rfl rfl) (a_cons (v_call (bs := []) (d_endless.mono (k := 8) (by decide)) rfl rfl hr rfl (takes_of rfl rfl rfl rfl) (a_cons (v_call (bs := []) (d_turned.mono (k := 8) (by decide)) rfl rfl hr rfl (takes_of rfl rfl rfl rfl) (a_cons (v_varV (pv 1)) a_nil)) a_nil)) (a_cons (v_tup (a_cons v_str (a_cons (v_sub (ka := .be) (kb := .be) v_int (v_var (pv 6))) (a_cons (v_sub (ka := .be) (kb := .be) v_int (v_var (pv 5))) (a_cons (v_sub (ka := .be) (kb := .be) v_int (v_var (pv 4))) a_nil))))) a_nil))) v_int))))
  (ss_one (s_ret v_bl))
  ss_nil)
  (ss_cons (s_set (i := 13) sc__law_case.nd rfl (by first | exact Or.inl rfl | exact Or.inr rfl) (v_add (hk := rfl) (ka := .be) (kb := .be) v_int (v_call (bs := []) (d__law_draw.mono (k := 8) (by decide)) rfl rfl hr rfl (takes_of rfl rfl rfl rfl) (a_cons (v_varV (pv 0)) (a_cons v_int a_nil)))))
  (ss_cons (s_set (i := 9) sc__law_case.nd rfl (by first | exact Or.inl rfl | exact Or.inr rfl) (v_call (bs := []) (d__law_after.mono (k := 8) (by decide)) rfl rfl hr rfl (takes_of rfl rfl rfl rfl) (a_cons (v_varV (pv 1)) (a_cons (v_varV (pv 13)) (a_cons v_non a_nil)))))
  (ss_cons (s_if (t_notN (ka := .be) (kb := .be) (v_var (pv 9)) v_non)
  (ss_cons (s_setLc (own := [("k", 17)]) (i := 14) rfl rfl rfl sc__law_case.nd (i_rng2 rfl fr.range (a_cons v_int (a_cons (v_add (hk := rfl) (ka := .be) (kb := .be) (v_var (pv 13)) v_int) a_nil))) (blk_of (by rfl)) (fun _ _ _ _ _ => (pg_name sc__law_case.nd rfl (by first | exact Or.inl rfl | exact Or.inr rfl))) g_nm (by decide) (fun _ _ _ _ _ => (ts_one (PW.pt (b_and (t_notN (ka := .be) (kb := .be) (v_call (bs := []) (d__law_after.mono (k := 8) (by decide)) rfl rfl hr rfl VL.takes0 (a_cons (v_varV (pv 1)) (a_cons (v_varV (pv 17)) (a_cons v_non a_nil)))) v_non) (b_and1 (t_lt (ka := .be) (kb := .be) rfl hr.units (v_ixB (ka := .be) (kb := .be) rfl (v_call (bs := []) (d__law_sub.mono (k := 8) (by decide)) rfl rfl hr rfl VL.takes0 (a_cons (v_call (bs := []) (d__law_after.mono (k := 8) (by decide)) rfl rfl hr rfl VL.takes0 (a_cons (v_varV (pv 1)) (a_cons (v_varV (pv 17)) (a_cons v_non a_nil)))) (a_cons (v_varV (pv 9)) a_nil))) v_int (fun _ _ => rfl)) v_int)))))) (fun _ _ _ _ _ => (v_varV (pv 17))))
  (ss_one (s_if (t_ne (ka := .be) (kb := .be) rfl hr.units (v_call (bs := []) (d__law_told.mono (k := 8) (by decide)) rfl rfl hr rfl (takes_of rfl rfl rfl rfl) (a_cons (v_fnD rfl d_parts_enough rfl) (a_cons (v_tup (a_cons (v_varV (pv 1)) (a_cons (v_varV (pv 9)) a_nil))) a_nil))) (v_ixB (ka := .be) (kb := .be) rfl (v_var (pv 14)) v_int (fun _ _ => rfl)))
  (ss_one (s_ret v_bl))
  ss_nil)))
  ss_nil)
  (ss_cons (s_if (PW.pt (b_or (t_notN (ka := .be) (kb := .be) (v_call (bs := []) (d__law_told.mono (k := 8) (by decide)) rfl rfl hr rfl (takes_of rfl rfl rfl rfl) (a_cons (v_fnD rfl d_parts_enough rfl) (a_cons (v_tup (a_cons (v_varV (pv 1)) (a_cons (v_call (bs := []) (d__law_after.mono (k := 8) (by decide)) rfl rfl hr rfl (takes_of rfl rfl rfl rfl) (a_cons (v_varV (pv 1)) (a_cons (v_varV (pv 13)) (a_cons (v_tup (a_cons v_int (a_cons v_int a_nil))) a_nil)))) a_nil))) a_nil))) v_non) (b_or1 (t_notN (ka := .be) (kb := .be) (v_call (bs := []) (d__law_told.mono (k := 8) (by decide)) rfl rfl hr rfl (takes_of rfl rfl rfl rfl) (a_cons (v_fnD rfl d_parts_enough rfl) (a_cons (v_tup (a_cons (v_varV (pv 1)) (a_cons (v_tup (a_cons v_int (a_cons v_int a_nil))) a_nil))) a_nil))) v_non))))
  (ss_one (s_ret v_bl))
  ss_nil)
  (ss_cons (s_set (i := 15) sc__law_case.nd rfl (by first | exact Or.inl rfl | exact Or.inr rfl) (v_calT (ka := .be) call_tuple_of ok_tuple rfl fr.tuple boot_tuple' (a_cons (v_lc (own := [("part", 18)]) rfl sc__law_case.nd (i_seq (ka := .be) rfl (v_var (pv 1))) (blk_of (by rfl)) (fun _ _ _ _ _ => (pg_name sc__law_case.nd rfl (by first | exact Or.inl rfl | exact Or.inr rfl))) g_nm (by decide) (fun _ _ _ _ _ => (ts_one (t_eq (ka := .be) (kb := .be) rfl hr.units (v_ixB (ka := .be) (kb := .be) rfl (v_var (pv 18)) v_int (fun _ _ => rfl)) v_str))) (fun _ _ _ _ _ => (v_varV (pv 18)))) a_nil)))
  (ss_cons (s_set (i := 16) sc__law_case.nd rfl (by first | exact Or.inl rfl | exact Or.inr rfl) (v_calT (ka := .be) call_tuple_of ok_tuple rfl fr.tuple boot_tuple' (a_cons (v_lc (own := [("part", 18)]) rfl sc__law_case.nd (i_seq (ka := .be) rfl (v_var (pv 1))) (blk_of (by rfl)) (fun _ _ _ _ _ => (pg_name sc__law_case.nd rfl (by first | exact Or.inl rfl | exact Or.inr rfl))) g_nm (by decide) (fun _ _ _ _ _ => (ts_one (t_eq (ka := .be) (kb := .be) rfl hr.units (v_ixB (ka := .be) (kb := .be) rfl (v_var (pv 18)) v_int (fun _ _ => rfl)) v_str))) (fun _ _ _ _ _ => (v_varV (pv 18)))) a_nil)))
  (ss_cons (s_if (PW.pt (b_or (t_ne (ka := .be) (kb := .be) rfl hr.units (v_lc (own := [("odd", 19)]) rfl sc__law_case.nd (i_seq (ka := .be) rfl (v_lst (a_cons (v_varV (pv 15)) (a_cons (v_varV (pv 16)) a_nil)))) (blk_of (by rfl)) (fun _ _ _ _ _ => (pg_name sc__law_case.nd rfl (by first | exact Or.inl rfl | exact Or.inr rfl))) g_nm (by decide) (fun _ _ _ _ _ => ts_nil) (fun _ _ _ _ _ => (v_call (bs := []) (d__law_told.mono (k := 8) (by decide)) rfl rfl hr rfl VL.takes0 (a_cons (v_fnD rfl d_endless rfl) (a_cons (v_tup (a_cons (v_varV (pv 19)) a_nil)) a_nil))))) (v_mulA (hk := rfl) (ka := .be) (kb := .be) (v_lst (a_cons v_str a_nil)) v_int)) (b_or1 (t_ne (ka := .be) (kb := .be) rfl hr.units (v_call (bs := []) (d__law_told.mono (k := 8) (by decide)) rfl rfl hr rfl (takes_of rfl rfl rfl rfl) (a_cons (v_fnD rfl d_parts_enough rfl) (a_cons (v_tup (a_cons (v_varV (pv 15)) (a_cons (v_tup (a_cons v_int (a_cons v_int a_nil))) a_nil))) a_nil))) v_str))))
  (ss_one (s_ret v_bl))
  ss_nil)
  (ss_one (s_ret (v_and (ka := .fe) (v_eq (ka := .be) (kb := .be) rfl hr.units (v_lc (own := [("odd", 19)]) rfl sc__law_case.nd (i_seq (ka := .be) rfl (v_lst (a_cons v_non (a_cons (v_tup a_nil) (a_cons (v_tup (a_cons (v_tup (a_cons v_str (a_cons (v_tup (a_cons v_int (a_cons v_int a_nil))) a_nil))) a_nil)) a_nil))))) (blk_of (by rfl)) (fun _ _ _ _ _ => (pg_name sc__law_case.nd rfl (by first | exact Or.inl rfl | exact Or.inr rfl))) g_nm (by decide) (fun _ _ _ _ _ => ts_nil) (fun _ _ _ _ _ => (v_call (bs := []) (d__law_told.mono (k := 8) (by decide)) rfl rfl hr rfl VL.takes0 (a_cons (v_fnD rfl d_endless rfl) (a_cons (v_tup (a_cons (v_varV (pv 19)) a_nil)) a_nil))))) (v_mulA (hk := rfl) (ka := .be) (kb := .be) (v_lst (a_cons v_str a_nil)) v_int)) (v_one (v_eq (ka := .be) (kb := .be) rfl hr.units (v_lc (own := [("odd", 19)]) rfl sc__law_case.nd (i_seq (ka := .be) rfl (v_lst (a_cons v_non (a_cons (v_tup (a_cons v_int (a_cons v_int a_nil))) a_nil)))) (blk_of (by rfl)) (fun _ _ _ _ _ => (pg_name sc__law_case.nd rfl (by first | exact Or.inl rfl | exact Or.inr rfl))) g_nm (by decide) (fun _ _ _ _ _ => ts_nil) (fun _ _ _ _ _ => (v_call (bs := []) (d__law_told.mono (k := 8) (by decide)) rfl rfl hr rfl VL.takes0 (a_cons (v_fnD rfl d_parts_enough rfl) (a_cons (v_tup (a_cons (v_varV (pv 1)) (a_cons (v_varV (pv 19)) a_nil))) a_nil))))) (v_mulA (hk := rfl) (ka := .be) (kb := .be) (v_lst (a_cons v_str a_nil)) v_int))))))))))))))))))))))
/-! ### law -/
noncomputable def f_law : Rho → Sto → Option Fl :=
  (sSeq
  (sIf (bOr (bB (eBin (cB gNe) (eCall 1 F_endless [] (aCons (eTup (aCons (eTup (aCons (eCon (.str "row")) (aCons (eTup (aCons (eCon (.int 1)) (aCons (eCon (.int 1)) aNil))) aNil))) (aCons (eTup (aCons (eCon (.str "beside")) (aCons (eTup (aCons (eCon (.int 1)) (aCons (eCon (.int 1)) aNil))) aNil))) aNil))) aNil)) (eTup (aCons (eCon (.str "root")) (aCons (eCon (.int 1)) (aCons (eUn gNeg (eCon (.int 1))) (aCons (eUn gNeg (eCon (.int 1))) aNil))))))) (bB (eBin (cB gNe) (eCall 1 F_endless [] (aCons (eTup (aCons (eTup (aCons (eCon (.str "row")) (aCons (eTup (aCons (eCon (.int 1)) (aCons (eCon (.int 1)) aNil))) aNil))) (aCons (eTup (aCons (eCon (.str "beside")) (aCons (eTup (aCons (eCon (.int 2)) (aCons (eCon (.int 1)) aNil))) aNil))) aNil))) aNil)) (eTup (aCons (eCon (.str "root")) (aCons (eCon (.int 1)) (aCons (eUn gNeg (eCon (.int 1))) (aCons (eUn gNeg (eCon (.int 2))) aNil))))))))
  (sRet (eCon (.bool false)))
  sNil)
  (sSeq
  (sFor (iRng1 (aCons (eCal gMin2 (aCons (eCal gMax2 (aCons (eCal gLen (aCons (eVar 0) aNil)) (aCons (eCon (.int 1)) aNil))) (aCons (eCon (.int 4)) aNil))) aNil)) (gNm 1)
  (sIf (bNot (bVal (eCall 1 F__law_case [true] (aCons (eCall 2 F__law_bag [] (aCons (eVarV 0) (aCons (eVarV 1) aNil))) aNil))))
  (sRet (eCon (.bool false)))
  sNil))
  (sRet (eCon (.bool true)))))
noncomputable def F_law : List SV → Mo SV := runF 2 f_law
theorem sc_law : FnScope ["script", "k"] ["script"] (defScope (top 60)) := ⟨rfl, rfl, rfl, by decide +kernel, rfl, by decide +kernel, by decide +kernel⟩
theorem ok_law0 (F : VL.FnP K "law" (top 60) f fd) (fr : Fr mg) (d__law_bag : DefOk P w K mg base 1 "_law_bag" 2 F__law_bag) (d_endless : DefOk P w K mg base 6 "endless" 1 F_endless) (d__law_case : DefOk P w K mg base 9 "_law_case" 1 F__law_case) : FnOk P w K mg base (L2.CX P w) 10 f fd ["script"] (spF K mg (List.length ["script"]) (runF (List.length ["script", "k"]) f_law)) :=
  fn_vl2 (k := 9) (fb := f_law) (N := ["script", "k"]) (ps := ["script"]) F sc_law (by decide) fun cdv A outer s H E hr E0 A0 Pr =>
  (ss_cons (s_if (PW.pt (b_or (t_ne (ka := .be) (kb := .be) rfl hr.units (v_call (bs := []) (d_endless.mono (k := 9) (by decide)) rfl rfl hr rfl (takes_of rfl rfl rfl rfl) (a_cons (v_tup (a_cons (v_tup (a_cons v_str (a_cons (v_tup (a_cons v_int (a_cons v_int a_nil))) a_nil))) (a_cons (v_tup (a_cons v_str (a_cons (v_tup (a_cons v_int (a_cons v_int a_nil))) a_nil))) a_nil))) a_nil)) (v_tup (a_cons v_str (a_cons v_int (a_cons (v_neg (ka := .be) v_int) (a_cons (v_neg (ka := .be) v_int) a_nil)))))) (b_or1 (t_ne (ka := .be) (kb := .be) rfl hr.units (v_call (bs := []) (d_endless.mono (k := 9) (by decide)) rfl rfl hr rfl (takes_of rfl rfl rfl rfl) (a_cons (v_tup (a_cons (v_tup (a_cons v_str (a_cons (v_tup (a_cons v_int (a_cons v_int a_nil))) a_nil))) (a_cons (v_tup (a_cons v_str (a_cons (v_tup (a_cons v_int (a_cons v_int a_nil))) a_nil))) a_nil))) a_nil)) (v_tup (a_cons v_str (a_cons v_int (a_cons (v_neg (ka := .be) v_int) (a_cons (v_neg (ka := .be) v_int) a_nil)))))))))
  (ss_one (s_ret v_bl))
  ss_nil)
  (ss_cons (s_for (passes_of rfl) rfl (i_rng1 rfl fr.range (a_cons (v_calB (ka := .be) (call_min2 rfl) ok_min2 rfl fr.min boot_min' (a_cons (v_calB (ka := .be) (call_max2 rfl) ok_max2 rfl fr.max boot_max' (a_cons (v_calB (ka := .be) call_len ok_len rfl fr.len boot_len' (a_cons (v_var (pv 0)) a_nil)) (a_cons v_int a_nil))) (a_cons v_int a_nil))) a_nil)) (pg_name sc_law.nd rfl (by first | exact Or.inl rfl | exact Or.inr rfl)) g_nm
  (ss_one (s_if (b_not (b_val (ka := .be) rfl (v_call (bs := [true]) (d__law_case.mono (k := 9) (by decide)) rfl rfl hr rfl (takes_of rfl rfl rfl rfl) (a_cons (v_call (bs := []) (d__law_bag.mono (k := 9) (by decide)) rfl rfl hr rfl (takes_of rfl rfl rfl rfl) (a_cons (v_varV (pv 0)) (a_cons (v_varV (pv 1)) a_nil))) a_nil))))
  (ss_one (s_ret v_bl))
  ss_nil)))
  (ss_one (s_ret v_bl))))
theorem len_ps : List.length ["script"] = 1 := by decide
theorem len_N : runF (List.length ["script", "k"]) f_law = F_law := congrArg (fun n => runF n f_law) (show List.length ["script", "k"] = 2 by decide)
theorem ok_law (F : VL.FnP K "law" (top 60) f fd) (fr : Fr mg) (d__law_bag : DefOk P w K mg base 1 "_law_bag" 2 F__law_bag) (d_endless : DefOk P w K mg base 6 "endless" 1 F_endless) (d__law_case : DefOk P w K mg base 9 "_law_case" 1 F__law_case) : FnOk P w K mg base (L2.CX P w) 10 f fd ["script"] (spF K mg 1 F_law) := by
  have h := ok_law0 (P := P) (w := w) (base := base) F fr d__law_bag d_endless d__law_case
  rw [len_ps, len_N] at h
  exact h
end
end G

end
section
set_option Elab.async false
set_option linter.all false
set_option maxRecDepth 100000
set_option maxHeartbeats 0
namespace G
open PySem PySem.Spec PyProof.Rows L2 VL
/-! ### the head -/
def dd_common : He.DefD := ⟨("common", none), "common", "common", defArgs (top 6), defBody (top 6), defScope (top 6), [], []⟩
def dd_sign : He.DefD := ⟨("sign", none), "sign", "sign", defArgs (top 12), defBody (top 12), defScope (top 12), [], []⟩
def dd_less : He.DefD := ⟨("less", none), "less", "less", defArgs (top 13), defBody (top 13), defScope (top 13), [], []⟩
def dd_is_number : He.DefD := ⟨("is_number", none), "is_number", "is_number", defArgs (top 21), defBody (top 21), defScope (top 21), [], []⟩
def dd_greatest_divisor : He.DefD := ⟨("greatest_divisor", none), "greatest_divisor", "greatest_divisor", defArgs (top 23), defBody (top 23), defScope (top 23), [], []⟩
def dd_compare_by : He.DefD := ⟨("compare_by", none), "compare_by", "compare_by", defArgs (top 26), defBody (top 26), defScope (top 26), [], []⟩
def dd_square_root : He.DefD := ⟨("square_root", none), "square_root", "square_root", defArgs (top 28), defBody (top 28), defScope (top 28), [], []⟩
def dd__law_bag : He.DefD := ⟨("_law_bag", none), "_law_bag", "_law_bag", defArgs (top 44), defBody (top 44), defScope (top 44), [], []⟩
def dd__law_draw : He.DefD := ⟨("_law_draw", none), "_law_draw", "_law_draw", defArgs (top 45), defBody (top 45), defScope (top 45), [], []⟩
def dd__law_fr : He.DefD := ⟨("_law_fr", none), "_law_fr", "_law_fr", defArgs (top 46), defBody (top 46), defScope (top 46), [], []⟩
def dd__law_whole : He.DefD := ⟨("_law_whole", none), "_law_whole", "_law_whole", defArgs (top 57), defBody (top 57), defScope (top 57), [], []⟩
def dd_fraction : He.DefD := ⟨("fraction", none), "fraction", "fraction", defArgs (top 7), defBody (top 7), defScope (top 7), [], []⟩
def dd_is_any_fraction : He.DefD := ⟨("is_any_fraction", none), "is_any_fraction", "is_any_fraction", defArgs (top 14), defBody (top 14), defScope (top 14), [], []⟩
def dd_is_root : He.DefD := ⟨("is_root", none), "is_root", "is_root", defArgs (top 24), defBody (top 24), defScope (top 24), [], []⟩
def dd__law_add : He.DefD := ⟨("_law_add", none), "_law_add", "_law_add", defArgs (top 47), defBody (top 47), defScope (top 47), [], []⟩
def dd__law_sub : He.DefD := ⟨("_law_sub", none), "_law_sub", "_law_sub", defArgs (top 48), defBody (top 48), defScope (top 48), [], []⟩
def dd__law_mul : He.DefD := ⟨("_law_mul", none), "_law_mul", "_law_mul", defArgs (top 49), defBody (top 49), defScope (top 49), [], []⟩
def dd__law_div : He.DefD := ⟨("_law_div", none), "_law_div", "_law_div", defArgs (top 50), defBody (top 50), defScope (top 50), [], []⟩
def dd__law_ladder : He.DefD := ⟨("_law_ladder", none), "_law_ladder", "_law_ladder", defArgs (top 53), defBody (top 53), defScope (top 53), [], []⟩
def dd_plus : He.DefD := ⟨("plus", none), "plus", "plus", defArgs (top 8), defBody (top 8), defScope (top 8), [], []⟩
def dd_minus : He.DefD := ⟨("minus", none), "minus", "minus", defArgs (top 9), defBody (top 9), defScope (top 9), [], []⟩
def dd_times : He.DefD := ⟨("times", none), "times", "times", defArgs (top 10), defBody (top 10), defScope (top 10), [], []⟩
def dd_over : He.DefD := ⟨("over", none), "over", "over", defArgs (top 11), defBody (top 11), defScope (top 11), [], []⟩
def dd_is_fraction : He.DefD := ⟨("is_fraction", none), "is_fraction", "is_fraction", defArgs (top 17), defBody (top 17), defScope (top 17), [], []⟩
def dd_look_at_root : He.DefD := ⟨("look_at_root", none), "look_at_root", "look_at_root", defArgs (top 25), defBody (top 25), defScope (top 25), [], []⟩
def dd_fraction_by : He.DefD := ⟨("fraction_by", none), "fraction_by", "fraction_by", defArgs (top 29), defBody (top 29), defScope (top 29), [], []⟩
def dd__law_after : He.DefD := ⟨("_law_after", none), "_law_after", "_law_after", defArgs (top 54), defBody (top 54), defScope (top 54), [], []⟩
def dd__law_over : He.DefD := ⟨("_law_over", none), "_law_over", "_law_over", defArgs (top 55), defBody (top 55), defScope (top 55), [], []⟩
def dd_compare : He.DefD := ⟨("compare", none), "compare", "compare", defArgs (top 27), defBody (top 27), defScope (top 27), [], []⟩
def dd_order : He.DefD := ⟨("order", none), "order", "order", defArgs (top 30), defBody (top 30), defScope (top 30), [], []⟩
def dd_is_part : He.DefD := ⟨("is_part", none), "is_part", "is_part", defArgs (top 34), defBody (top 34), defScope (top 34), [], []⟩
def dd_ahead : He.DefD := ⟨("ahead", none), "ahead", "ahead", defArgs (top 36), defBody (top 36), defScope (top 36), [], []⟩
def dd_product : He.DefD := ⟨("product", none), "product", "product", defArgs (top 38), defBody (top 38), defScope (top 38), [], []⟩
def dd__law_through : He.DefD := ⟨("_law_through", none), "_law_through", "_law_through", defArgs (top 56), defBody (top 56), defScope (top 56), [], []⟩
def dd_look_at_ladder : He.DefD := ⟨("look_at_ladder", none), "look_at_ladder", "look_at_ladder", defArgs (top 35), defBody (top 35), defScope (top 35), [], []⟩
def dd_ahead_of_all : He.DefD := ⟨("ahead_of_all", none), "ahead_of_all", "ahead_of_all", defArgs (top 37), defBody (top 37), defScope (top 37), [], []⟩
def dd_endless_by : He.DefD := ⟨("endless_by", none), "endless_by", "endless_by", defArgs (top 39), defBody (top 39), defScope (top 39), [], []⟩
def dd_endless : He.DefD := ⟨("endless", none), "endless", "endless", defArgs (top 40), defBody (top 40), defScope (top 40), [], []⟩
def dd_turned : He.DefD := ⟨("turned", none), "turned", "turned", defArgs (top 42), defBody (top 42), defScope (top 42), [], []⟩
def dd_parts_enough : He.DefD := ⟨("parts_enough", none), "parts_enough", "parts_enough", defArgs (top 41), defBody (top 41), defScope (top 41), [], []⟩
def dd__law_told : He.DefD := ⟨("_law_told", none), "_law_told", "_law_told", defArgs (top 58), defBody (top 58), defScope (top 58), [], []⟩
def dd__law_case : He.DefD := ⟨("_law_case", none), "_law_case", "_law_case", defArgs (top 59), defBody (top 59), defScope (top 59), [], []⟩
def dd_law : He.DefD := ⟨("law", none), "law", "law", defArgs (top 60), defBody (top 60), defScope (top 60), [], []⟩
def fns : List He.DefD := [dd_common, dd_sign, dd_less, dd_is_number, dd_greatest_divisor, dd_compare_by, dd_square_root, dd__law_bag, dd__law_draw, dd__law_fr, dd__law_whole, dd_fraction, dd_is_any_fraction, dd_is_root, dd__law_add, dd__law_sub, dd__law_mul, dd__law_div, dd__law_ladder, dd_plus, dd_minus, dd_times, dd_over, dd_is_fraction, dd_look_at_root, dd_fraction_by, dd__law_after, dd__law_over, dd_compare, dd_order, dd_is_part, dd_ahead, dd_product, dd__law_through, dd_look_at_ladder, dd_ahead_of_all, dd_endless_by, dd_endless, dd_turned, dd_parts_enough, dd__law_told, dd__law_case, dd_law]
def fas : List He.Fa := [.glo "common",
  .glo "sign",
  .glo "less",
  .glo "is_number",
  .glo "greatest_divisor",
  .glo "compare_by",
  .glo "square_root",
  .glo "_law_bag",
  .glo "_law_draw",
  .glo "_law_fr",
  .glo "_law_whole",
  .glo "fraction",
  .glo "is_any_fraction",
  .glo "is_root",
  .glo "_law_add",
  .glo "_law_sub",
  .glo "_law_mul",
  .glo "_law_div",
  .glo "_law_ladder",
  .glo "plus",
  .glo "minus",
  .glo "times",
  .glo "over",
  .glo "is_fraction",
  .glo "look_at_root",
  .glo "fraction_by",
  .glo "_law_after",
  .glo "_law_over",
  .glo "compare",
  .glo "order",
  .glo "is_part",
  .glo "ahead",
  .glo "product",
  .glo "_law_through",
  .glo "look_at_ladder",
  .glo "ahead_of_all",
  .glo "endless_by",
  .glo "endless",
  .glo "turned",
  .glo "parts_enough",
  .glo "_law_told",
  .glo "_law_case",
  .glo "law",
  .free "len",
  .free "range",
  .free "isinstance",
  .free "int",
  .free "bool",
  .free "str",
  .free "tuple",
  .free "list",
  .free "abs",
  .free "max",
  .free "min",
  .free "all",
  .free "any",
  .free "sum",
  .free "sorted",
  .free "enumerate",
  .free "zip",
  .free "set",
  .free "dict",
  .free "repr",
  .glo "BadValue",
  .exc "BadValue",
  .glo "NoSuch",
  .exc "NoSuch",
  .glo "TooFar",
  .exc "TooFar",
  .exm "BadValue" "BadValue" true,
  .exm "BadValue" "NoSuch" false,
  .exm "BadValue" "TooFar" false,
  .exm "NoSuch" "BadValue" false,
  .exm "NoSuch" "NoSuch" true,
  .exm "NoSuch" "TooFar" false,
  .exm "TooFar" "BadValue" false,
  .exm "TooFar" "NoSuch" false,
  .exm "TooFar" "TooFar" true]
def exs (K : PySem.W.Frag) : Bool := gcB K "BEYOND" (.int 100000000000000000000) && gcB K "MOST_PARTS" (.int 12) && gcB K "MOST_TIMES" (.int 40) && gcB K "ONE" (.tuple [.int 1, .int 1]) && gcB K "ZERO" (.tuple [.int 0, .int 1])
abbrev R : PySem.W.OpenRow := PySem.W.OpenLaw.row PySem.Challenge.rw_currentwebs_k71_whole_endless_rows
abbrev hk : PySem.W.Hook := He.hookX 4 fas fns [] [] exs
def ob (s : PySem.W.SharedT) : He.AlX := He.obsX 4 fas fns [] [] exs (HandSHeadRun.getT s)
theorem ob_eq (s : PySem.W.SharedT) : ob s = hk.obs s.abs := He.obsX_eq (HandSHeadRun.getT_eq s)
def loose0 : List PySem.Str := ["WebError", "BadValue", "TooFar", "NoSuch", "common", "fraction", "plus", "minus", "times", "over", "sign", "less", "is_any_fraction", "BEYOND", "is_fraction", "ZERO", "ONE", "is_number", "greatest_divisor", "is_root", "look_at_root", "compare_by", "compare", "square_root", "fraction_by", "order", "MOST_PARTS", "MOST_TIMES", "is_part", "look_at_ladder"]
def loose1 : List PySem.Str := ["ahead", "ahead_of_all", "product", "endless_by", "endless", "parts_enough", "turned", "_law_bag", "_law_draw", "_law_fr", "_law_add", "_law_sub", "_law_mul", "_law_div", "_law_sum", "_law_solve", "_law_ladder", "_law_after", "_law_over", "_law_through", "_law_whole", "_law_told", "_law_case"]
abbrev loose : List PySem.Str := loose0 ++ loose1
end G

end
section
set_option Elab.async false
set_option linter.all false
set_option maxRecDepth 100000
set_option maxHeartbeats 0
namespace G
open PySem PySem.Spec PyProof.Rows L2 VL
theorem run (w : World) : HandSHeadRun.RunEq R (PySem.W.view R.prog [60]) hk ob 2840 loose w := by
  intro os
  kernel_rfl
end G

end
section
set_option Elab.async false
set_option linter.all false
set_option maxRecDepth 100000
set_option maxHeartbeats 0
namespace G
open PySem PySem.Spec PyProof.Rows L2 VL
theorem facts {P : Program} {w : World} {K : PySem.W.Frag} {h : Heap} {mg : Str → Option Value} {fl : Addr} (X : K.In h) (G : h.Ns mainGlobals mg) (hfa : mg ("law" : Str) = some (.ref fl)) (c : He.SaysX fas fns [] [] exs w h K) :
    ∃ fd : FuncData, (∀ (s : Shared) (v : Value), BindsTo s fd ⟨[v], []⟩ [("script", v)]) ∧ ∀ base : Heap, K.In base → base.Ns mainGlobals mg → FnOk P w K mg base (L2.CX P w) 10 fl fd ["script"] (spF K mg 1 F_law) := by
  obtain ⟨fd_common, Fd_common⟩ := c.t.d.def_ 0 (d := dd_common) rfl
  obtain ⟨fd_sign, Fd_sign⟩ := c.t.d.def_ 1 (d := dd_sign) rfl
  obtain ⟨fd_less, Fd_less⟩ := c.t.d.def_ 2 (d := dd_less) rfl
  obtain ⟨fd_is_number, Fd_is_number⟩ := c.t.d.def_ 3 (d := dd_is_number) rfl
  obtain ⟨fd_greatest_divisor, Fd_greatest_divisor⟩ := c.t.d.def_ 4 (d := dd_greatest_divisor) rfl
  obtain ⟨fd_compare_by, Fd_compare_by⟩ := c.t.d.def_ 5 (d := dd_compare_by) rfl
  obtain ⟨fd_square_root, Fd_square_root⟩ := c.t.d.def_ 6 (d := dd_square_root) rfl
  obtain ⟨fd__law_bag, Fd__law_bag⟩ := c.t.d.def_ 7 (d := dd__law_bag) rfl
  obtain ⟨fd__law_draw, Fd__law_draw⟩ := c.t.d.def_ 8 (d := dd__law_draw) rfl
  obtain ⟨fd__law_fr, Fd__law_fr⟩ := c.t.d.def_ 9 (d := dd__law_fr) rfl
  obtain ⟨fd__law_whole, Fd__law_whole⟩ := c.t.d.def_ 10 (d := dd__law_whole) rfl
  obtain ⟨fd_fraction, Fd_fraction⟩ := c.t.d.def_ 11 (d := dd_fraction) rfl
  obtain ⟨fd_is_any_fraction, Fd_is_any_fraction⟩ := c.t.d.def_ 12 (d := dd_is_any_fraction) rfl
  obtain ⟨fd_is_root, Fd_is_root⟩ := c.t.d.def_ 13 (d := dd_is_root) rfl
  obtain ⟨fd__law_add, Fd__law_add⟩ := c.t.d.def_ 14 (d := dd__law_add) rfl
  obtain ⟨fd__law_sub, Fd__law_sub⟩ := c.t.d.def_ 15 (d := dd__law_sub) rfl
  obtain ⟨fd__law_mul, Fd__law_mul⟩ := c.t.d.def_ 16 (d := dd__law_mul) rfl
  obtain ⟨fd__law_div, Fd__law_div⟩ := c.t.d.def_ 17 (d := dd__law_div) rfl
  obtain ⟨fd__law_ladder, Fd__law_ladder⟩ := c.t.d.def_ 18 (d := dd__law_ladder) rfl
  obtain ⟨fd_plus, Fd_plus⟩ := c.t.d.def_ 19 (d := dd_plus) rfl
  obtain ⟨fd_minus, Fd_minus⟩ := c.t.d.def_ 20 (d := dd_minus) rfl
  obtain ⟨fd_times, Fd_times⟩ := c.t.d.def_ 21 (d := dd_times) rfl
  obtain ⟨fd_over, Fd_over⟩ := c.t.d.def_ 22 (d := dd_over) rfl
  obtain ⟨fd_is_fraction, Fd_is_fraction⟩ := c.t.d.def_ 23 (d := dd_is_fraction) rfl
  obtain ⟨fd_look_at_root, Fd_look_at_root⟩ := c.t.d.def_ 24 (d := dd_look_at_root) rfl
  obtain ⟨fd_fraction_by, Fd_fraction_by⟩ := c.t.d.def_ 25 (d := dd_fraction_by) rfl
  obtain ⟨fd__law_after, Fd__law_after⟩ := c.t.d.def_ 26 (d := dd__law_after) rfl
  obtain ⟨fd__law_over, Fd__law_over⟩ := c.t.d.def_ 27 (d := dd__law_over) rfl
  obtain ⟨fd_compare, Fd_compare⟩ := c.t.d.def_ 28 (d := dd_compare) rfl
  obtain ⟨fd_order, Fd_order⟩ := c.t.d.def_ 29 (d := dd_order) rfl
  obtain ⟨fd_is_part, Fd_is_part⟩ := c.t.d.def_ 30 (d := dd_is_part) rfl
  obtain ⟨fd_ahead, Fd_ahead⟩ := c.t.d.def_ 31 (d := dd_ahead) rfl
  obtain ⟨fd_product, Fd_product⟩ := c.t.d.def_ 32 (d := dd_product) rfl
  obtain ⟨fd__law_through, Fd__law_through⟩ := c.t.d.def_ 33 (d := dd__law_through) rfl
  obtain ⟨fd_look_at_ladder, Fd_look_at_ladder⟩ := c.t.d.def_ 34 (d := dd_look_at_ladder) rfl
  obtain ⟨fd_ahead_of_all, Fd_ahead_of_all⟩ := c.t.d.def_ 35 (d := dd_ahead_of_all) rfl
  obtain ⟨fd_endless_by, Fd_endless_by⟩ := c.t.d.def_ 36 (d := dd_endless_by) rfl
  obtain ⟨fd_endless, Fd_endless⟩ := c.t.d.def_ 37 (d := dd_endless) rfl
  obtain ⟨fd_turned, Fd_turned⟩ := c.t.d.def_ 38 (d := dd_turned) rfl
  obtain ⟨fd_parts_enough, Fd_parts_enough⟩ := c.t.d.def_ 39 (d := dd_parts_enough) rfl
  obtain ⟨fd__law_told, Fd__law_told⟩ := c.t.d.def_ 40 (d := dd__law_told) rfl
  obtain ⟨fd__law_case, Fd__law_case⟩ := c.t.d.def_ 41 (d := dd__law_case) rfl
  obtain ⟨fd_law, Fd_law⟩ := c.t.d.def_ 42 (d := dd_law) rfl
  have e := hfa.symm.trans (He.glo_ok X G (c.t.d.fact 42 (f := .glo "law") rfl))
  cases e
  have fr : Fr mg := fr_of X G fun x m => by
    simp only [VL.frs, List.mem_cons, List.not_mem_nil, or_false] at m
    rcases m with rfl | rfl | rfl | rfl | rfl | rfl | rfl | rfl | rfl | rfl | rfl | rfl | rfl | rfl | rfl | rfl | rfl | rfl | rfl | rfl
    · exact c.t.d.fact 43 rfl
    · exact c.t.d.fact 44 rfl
    · exact c.t.d.fact 45 rfl
    · exact c.t.d.fact 46 rfl
    · exact c.t.d.fact 47 rfl
    · exact c.t.d.fact 48 rfl
    · exact c.t.d.fact 49 rfl
    · exact c.t.d.fact 50 rfl
    · exact c.t.d.fact 51 rfl
    · exact c.t.d.fact 52 rfl
    · exact c.t.d.fact 53 rfl
    · exact c.t.d.fact 54 rfl
    · exact c.t.d.fact 55 rfl
    · exact c.t.d.fact 56 rfl
    · exact c.t.d.fact 57 rfl
    · exact c.t.d.fact 58 rfl
    · exact c.t.d.fact 59 rfl
    · exact c.t.d.fact 60 rfl
    · exact c.t.d.fact 61 rfl
    · exact c.t.d.fact 62 rfl
  have e_BadValue : ExcOk K mg "BadValue" := exc_of X G (c.t.d.fact 63 (f := .glo "BadValue") rfl) (c.t.d.fact 64 (f := .exc "BadValue") rfl)
  have e_NoSuch : ExcOk K mg "NoSuch" := exc_of X G (c.t.d.fact 65 (f := .glo "NoSuch") rfl) (c.t.d.fact 66 (f := .exc "NoSuch") rfl)
  have e_TooFar : ExcOk K mg "TooFar" := exc_of X G (c.t.d.fact 67 (f := .glo "TooFar") rfl) (c.t.d.fact 68 (f := .exc "TooFar") rfl)
  have cm := c.more
  simp only [exs, Bool.and_eq_true] at cm
  obtain ⟨⟨⟨⟨cm_BEYOND, cm_MOST_PARTS⟩, cm_MOST_TIMES⟩, cm_ONE⟩, cm_ZERO⟩ := cm
  have g_BEYOND : GlobC K mg "BEYOND" (.int 100000000000000000000) := gc_of X G cm_BEYOND
  have g_MOST_PARTS : GlobC K mg "MOST_PARTS" (.int 12) := gc_of X G cm_MOST_PARTS
  have g_MOST_TIMES : GlobC K mg "MOST_TIMES" (.int 40) := gc_of X G cm_MOST_TIMES
  have g_ONE : GlobC K mg "ONE" (.tuple [.int 1, .int 1]) := gc_of X G cm_ONE
  have g_ZERO : GlobC K mg "ZERO" (.tuple [.int 0, .int 1]) := gc_of X G cm_ZERO
  have hmt : MtOk K mg mt := mt_ok fun z m => by
    simp only [List.mem_cons, List.not_mem_nil, or_false] at m
    rcases m with rfl | rfl | rfl | rfl | rfl | rfl | rfl | rfl | rfl
    · exact em_of X G (c.t.d.fact 63 (f := .glo "BadValue") rfl) (c.t.d.fact 63 (f := .glo "BadValue") rfl) (c.t.d.fact 69 (f := .exm "BadValue" "BadValue" true) rfl)
    · exact em_of X G (c.t.d.fact 63 (f := .glo "BadValue") rfl) (c.t.d.fact 65 (f := .glo "NoSuch") rfl) (c.t.d.fact 70 (f := .exm "BadValue" "NoSuch" false) rfl)
    · exact em_of X G (c.t.d.fact 63 (f := .glo "BadValue") rfl) (c.t.d.fact 67 (f := .glo "TooFar") rfl) (c.t.d.fact 71 (f := .exm "BadValue" "TooFar" false) rfl)
    · exact em_of X G (c.t.d.fact 65 (f := .glo "NoSuch") rfl) (c.t.d.fact 63 (f := .glo "BadValue") rfl) (c.t.d.fact 72 (f := .exm "NoSuch" "BadValue" false) rfl)
    · exact em_of X G (c.t.d.fact 65 (f := .glo "NoSuch") rfl) (c.t.d.fact 65 (f := .glo "NoSuch") rfl) (c.t.d.fact 73 (f := .exm "NoSuch" "NoSuch" true) rfl)
    · exact em_of X G (c.t.d.fact 65 (f := .glo "NoSuch") rfl) (c.t.d.fact 67 (f := .glo "TooFar") rfl) (c.t.d.fact 74 (f := .exm "NoSuch" "TooFar" false) rfl)
    · exact em_of X G (c.t.d.fact 67 (f := .glo "TooFar") rfl) (c.t.d.fact 63 (f := .glo "BadValue") rfl) (c.t.d.fact 75 (f := .exm "TooFar" "BadValue" false) rfl)
    · exact em_of X G (c.t.d.fact 67 (f := .glo "TooFar") rfl) (c.t.d.fact 65 (f := .glo "NoSuch") rfl) (c.t.d.fact 76 (f := .exm "TooFar" "NoSuch" false) rfl)
    · exact em_of X G (c.t.d.fact 67 (f := .glo "TooFar") rfl) (c.t.d.fact 67 (f := .glo "TooFar") rfl) (c.t.d.fact 77 (f := .exm "TooFar" "TooFar" true) rfl)
  refine ⟨fd_law, fun s v => FunD.bindsA (ps := ["script"]) Fd_law (fun _ _ _ _ _ _ us hl => match us, hl with | [_], _ => rfl) s [v] rfl, fun base _ _ => ?_⟩
  have d_common : DefOk P w K mg base 1 "common" 2 F_common := ok_common Fd_common (He.glo_ok X G (c.t.d.fact 0 (f := .glo "common") rfl)) fr
  have d_sign : DefOk P w K mg base 1 "sign" 1 F_sign := ok_sign Fd_sign (He.glo_ok X G (c.t.d.fact 1 (f := .glo "sign") rfl)) fr
  have d_less : DefOk P w K mg base 1 "less" 2 F_less := ok_less Fd_less (He.glo_ok X G (c.t.d.fact 2 (f := .glo "less") rfl)) fr
  have d_is_number : DefOk P w K mg base 1 "is_number" 1 F_is_number := ok_is_number Fd_is_number (He.glo_ok X G (c.t.d.fact 3 (f := .glo "is_number") rfl)) fr
  have d_greatest_divisor : DefOk P w K mg base 1 "greatest_divisor" 1 F_greatest_divisor := ok_greatest_divisor Fd_greatest_divisor (He.glo_ok X G (c.t.d.fact 4 (f := .glo "greatest_divisor") rfl)) fr
  have d_compare_by : DefOk P w K mg base 1 "compare_by" 2 F_compare_by := ok_compare_by Fd_compare_by (He.glo_ok X G (c.t.d.fact 5 (f := .glo "compare_by") rfl)) fr
  have d_square_root : DefOk P w K mg base 1 "square_root" 1 F_square_root := ok_square_root Fd_square_root (He.glo_ok X G (c.t.d.fact 6 (f := .glo "square_root") rfl)) fr
  have d__law_bag : DefOk P w K mg base 1 "_law_bag" 2 F__law_bag := ok__law_bag Fd__law_bag (He.glo_ok X G (c.t.d.fact 7 (f := .glo "_law_bag") rfl)) fr
  have d__law_draw : DefOk P w K mg base 1 "_law_draw" 2 F__law_draw := ok__law_draw Fd__law_draw (He.glo_ok X G (c.t.d.fact 8 (f := .glo "_law_draw") rfl)) fr
  have d__law_fr : DefOk P w K mg base 1 "_law_fr" 2 F__law_fr := ok__law_fr Fd__law_fr (He.glo_ok X G (c.t.d.fact 9 (f := .glo "_law_fr") rfl)) fr
  have d__law_whole : DefOk P w K mg base 1 "_law_whole" 1 F__law_whole := ok__law_whole Fd__law_whole (He.glo_ok X G (c.t.d.fact 10 (f := .glo "_law_whole") rfl)) fr
  have d_fraction : DefOk P w K mg base 2 "fraction" 2 F_fraction := ok_fraction Fd_fraction (He.glo_ok X G (c.t.d.fact 11 (f := .glo "fraction") rfl)) fr d_common e_BadValue
  have d_is_any_fraction : DefOk P w K mg base 2 "is_any_fraction" 1 F_is_any_fraction := ok_is_any_fraction Fd_is_any_fraction (He.glo_ok X G (c.t.d.fact 12 (f := .glo "is_any_fraction") rfl)) fr d_common
  have d_is_root : DefOk P w K mg base 2 "is_root" 1 F_is_root := ok_is_root Fd_is_root (He.glo_ok X G (c.t.d.fact 13 (f := .glo "is_root") rfl)) fr d_greatest_divisor
  have d__law_add : DefOk P w K mg base 2 "_law_add" 2 F__law_add := ok__law_add Fd__law_add (He.glo_ok X G (c.t.d.fact 14 (f := .glo "_law_add") rfl)) fr d__law_fr
  have d__law_sub : DefOk P w K mg base 2 "_law_sub" 2 F__law_sub := ok__law_sub Fd__law_sub (He.glo_ok X G (c.t.d.fact 15 (f := .glo "_law_sub") rfl)) fr d__law_fr
  have d__law_mul : DefOk P w K mg base 2 "_law_mul" 2 F__law_mul := ok__law_mul Fd__law_mul (He.glo_ok X G (c.t.d.fact 16 (f := .glo "_law_mul") rfl)) fr d__law_fr
  have d__law_div : DefOk P w K mg base 2 "_law_div" 2 F__law_div := ok__law_div Fd__law_div (He.glo_ok X G (c.t.d.fact 17 (f := .glo "_law_div") rfl)) fr d__law_fr
  have d__law_ladder : DefOk P w K mg base 2 "_law_ladder" 1 F__law_ladder := ok__law_ladder Fd__law_ladder (He.glo_ok X G (c.t.d.fact 18 (f := .glo "_law_ladder") rfl)) fr d__law_draw
  have d_plus : DefOk P w K mg base 3 "plus" 2 F_plus := ok_plus Fd_plus (He.glo_ok X G (c.t.d.fact 19 (f := .glo "plus") rfl)) fr d_fraction
  have d_minus : DefOk P w K mg base 3 "minus" 2 F_minus := ok_minus Fd_minus (He.glo_ok X G (c.t.d.fact 20 (f := .glo "minus") rfl)) fr d_fraction
  have d_times : DefOk P w K mg base 3 "times" 2 F_times := ok_times Fd_times (He.glo_ok X G (c.t.d.fact 21 (f := .glo "times") rfl)) fr d_fraction
  have d_over : DefOk P w K mg base 3 "over" 2 F_over := ok_over Fd_over (He.glo_ok X G (c.t.d.fact 22 (f := .glo "over") rfl)) fr d_fraction
  have d_is_fraction : DefOk P w K mg base 3 "is_fraction" 1 F_is_fraction := ok_is_fraction Fd_is_fraction (He.glo_ok X G (c.t.d.fact 23 (f := .glo "is_fraction") rfl)) fr d_is_any_fraction g_BEYOND
  have d_look_at_root : DefOk P w K mg base 3 "look_at_root" 1 F_look_at_root := ok_look_at_root Fd_look_at_root (He.glo_ok X G (c.t.d.fact 24 (f := .glo "look_at_root") rfl)) fr d_is_root e_BadValue
  have d_fraction_by : DefOk P w K mg base 3 "fraction_by" 1 F_fraction_by := ok_fraction_by Fd_fraction_by (He.glo_ok X G (c.t.d.fact 25 (f := .glo "fraction_by") rfl)) fr d_square_root d_fraction
  have d__law_after : DefOk P w K mg base 3 "_law_after" 3 F__law_after := ok__law_after Fd__law_after (He.glo_ok X G (c.t.d.fact 26 (f := .glo "_law_after") rfl)) fr d__law_add d__law_mul d__law_div
  have d__law_over : DefOk P w K mg base 3 "_law_over" 3 F__law_over := ok__law_over Fd__law_over (He.glo_ok X G (c.t.d.fact 27 (f := .glo "_law_over") rfl)) fr d__law_sub d__law_mul d__law_div
  have d_compare : DefOk P w K mg base 4 "compare" 2 F_compare := ok_compare Fd_compare (He.glo_ok X G (c.t.d.fact 28 (f := .glo "compare") rfl)) fr d_is_number d_compare_by d_look_at_root e_BadValue
  have d_order : DefOk P w K mg base 4 "order" 2 F_order := ok_order Fd_order (He.glo_ok X G (c.t.d.fact 29 (f := .glo "order") rfl)) fr d_sign d_compare_by d_fraction d_look_at_root d_fraction_by
  have d_is_part : DefOk P w K mg base 4 "is_part" 1 F_is_part := ok_is_part Fd_is_part (He.glo_ok X G (c.t.d.fact 30 (f := .glo "is_part") rfl)) fr d_sign d_is_fraction
  have d_ahead : DefOk P w K mg base 4 "ahead" 2 F_ahead := ok_ahead Fd_ahead (He.glo_ok X G (c.t.d.fact 31 (f := .glo "ahead") rfl)) fr d_plus d_times d_over
  have d_product : DefOk P w K mg base 4 "product" 2 F_product := ok_product Fd_product (He.glo_ok X G (c.t.d.fact 32 (f := .glo "product") rfl)) fr d_plus d_times
  have d__law_through : DefOk P w K mg base 4 "_law_through" 3 F__law_through := ok__law_through Fd__law_through (He.glo_ok X G (c.t.d.fact 33 (f := .glo "_law_through") rfl)) fr d__law_add d__law_mul d__law_over
  have d_look_at_ladder : DefOk P w K mg base 5 "look_at_ladder" 1 F_look_at_ladder := ok_look_at_ladder Fd_look_at_ladder (He.glo_ok X G (c.t.d.fact 34 (f := .glo "look_at_ladder") rfl)) fr d_is_part g_MOST_PARTS e_BadValue
  have d_ahead_of_all : DefOk P w K mg base 5 "ahead_of_all" 2 F_ahead_of_all := ok_ahead_of_all Fd_ahead_of_all (He.glo_ok X G (c.t.d.fact 35 (f := .glo "ahead_of_all") rfl)) fr d_ahead
  have d_endless_by : DefOk P w K mg base 5 "endless_by" 1 F_endless_by := ok_endless_by Fd_endless_by (He.glo_ok X G (c.t.d.fact 36 (f := .glo "endless_by") rfl)) fr d_greatest_divisor d_minus d_product g_ONE g_ZERO
  have d_endless : DefOk P w K mg base 6 "endless" 1 F_endless := ok_endless Fd_endless (He.glo_ok X G (c.t.d.fact 37 (f := .glo "endless") rfl)) fr d_look_at_ladder d_endless_by e_NoSuch
  have d_turned : DefOk P w K mg base 6 "turned" 1 F_turned := ok_turned Fd_turned (He.glo_ok X G (c.t.d.fact 38 (f := .glo "turned") rfl)) fr d_over d_look_at_ladder g_ONE
  have d_parts_enough : DefOk P w K mg base 7 "parts_enough" 2 F_parts_enough := ok_parts_enough Fd_parts_enough (He.glo_ok X G (c.t.d.fact 39 (f := .glo "parts_enough") rfl)) fr d_less d_is_number d_compare_by d_ahead_of_all d_endless g_MOST_TIMES e_BadValue e_TooFar
  have d__law_told : DefOk P w K mg base 8 "_law_told" 2 F__law_told := ok__law_told Fd__law_told (He.glo_ok X G (c.t.d.fact 40 (f := .glo "_law_told") rfl)) fr d_endless d_parts_enough e_BadValue e_NoSuch e_TooFar hmt
  have d__law_case : DefOk P w K mg base 9 "_law_case" 1 F__law_case := ok__law_case Fd__law_case (He.glo_ok X G (c.t.d.fact 41 (f := .glo "_law_case") rfl)) fr d__law_draw d__law_fr d__law_whole d__law_sub d__law_ladder d__law_after d_compare d_order d__law_through d_endless d_turned d_parts_enough d__law_told
  exact ok_law Fd_law fr d__law_bag d_endless d__law_case
end G

end
section
set_option Elab.async false
set_option linter.all false
set_option maxRecDepth 100000
set_option maxHeartbeats 0
open PySem PySem.W PySem.Calls PyProof.Rows
theorem G.holds (hlaw : ∀ ns : List Int, ns.length ≤ 63 → (∀ z ∈ ns, Builtin.Int.intBits z ≤ 1048576) → ∃ S, G.F_law [.scr ns] [] = some (.ok (.d (.bool true)) S)) : PySem.Challenge.rw_currentwebs_k71_whole_endless_rows.Holds := by
  w_on; o_law
  refine HandSHeadRun.head_any (r := OpenLaw.row PySem.Challenge.rw_currentwebs_k71_whole_endless_rows) (q := view (OpenLaw.row PySem.Challenge.rw_currentwebs_k71_whole_endless_rows).prog [60]) (H := G.hk) (ob := G.ob) (M := 2840) (loose := G.loose) (d := HandSHeadRun.topDef (OpenLaw.row PySem.Challenge.rw_currentwebs_k71_whole_endless_rows).prog 60) (kwd := []) G.ob_eq
    (by kernel_rfl) (fun s => by kernel_rfl) G.run (by kernel_rfl) (by kernel_rfl) (by kernel_rfl) (by rfl) (by first | assumption | decide +kernel) (by decide +kernel) ⟨rfl, rfl, rfl, rfl, rfl, by decide +kernel⟩ ?hw ?hc
  case hw => w_witness2
  case hc =>
    refine VL.walk_vl (l := PySem.Challenge.rw_currentwebs_k71_whole_endless_rows) (n := 63) (k := 10) (x := "script") (Fn := G.F_law) rfl (by decide) (by kernel_rfl) ⟨rfl, by decide, by decide⟩ hlaw ?F
    intro w mg fa h Y GN hmg0
    obtain ⟨K, KX, c⟩ := Y
    have hmg : mg ("law" : PySem.Str) = some (.ref fa) := by
      have e : (HandSHeadRun.topDef (OpenLaw.row PySem.Challenge.rw_currentwebs_k71_whole_endless_rows).prog 60).name = ("law" : PySem.Str) := by kernel_rfl
      rw [← e]
      exact hmg0
    obtain ⟨fd, hb, hF⟩ := G.facts (P := (PySem.Challenge.rw_currentwebs_k71_whole_endless_rows).prog) (w := w) KX GN hmg c
    exact ⟨K, fd, KX, hb, hF⟩

end
section
set_option Elab.async false
set_option linter.all false
/-! PA: ladders by rationals: no program in sight. -/
namespace M
abbrev Pt := Bool × Rat
def stepR (p : Pt) : Option Rat → Option Rat
  | none => if p.1 then none else some p.2
  | some x => if p.1 then some (x + p.2) else some (x * p.2 / (x + p.2))
def runR (ps : List Pt) (x : Option Rat) : Option Rat := ps.foldr stepR x
def iterR (ps : List Pt) : Nat → Option Rat → Option Rat
  | 0, x => x
  | n + 1, x => runR ps (iterR ps n x)
def nnO : Option Rat → Prop
  | none => True
  | some x => 0 ≤ x
def ltO : Option Rat → Option Rat → Prop
  | some x, some y => x < y
  | some _, none => True
  | none, _ => False
def leO (x y : Option Rat) : Prop := x = y ∨ ltO x y
def PosL (ps : List Pt) : Prop := ∀ p ∈ ps, 0 < p.2
theorem PosL.tail {p : Pt} {ps : List Pt} (h : PosL (p :: ps)) : PosL ps := fun q m => h q (List.mem_cons_of_mem _ m)
theorem par_lt {x y r : Rat} (hx : 0 ≤ x) (h : x < y) (hr : 0 < r) : x * r / (x + r) < y * r / (y + r) := by
  have h3 : 0 < x + r := by grind
  have h4 : 0 < y + r := by grind
  rw [Rat.div_lt_iff h3]
  have e : y * r / (y + r) * (x + r) = y * r * (x + r) / (y + r) := by grind
  rw [e, Rat.lt_div_iff h4]
  have h5 : 0 < (y - x) * (r * r) := Rat.mul_pos (by grind) (Rat.mul_pos hr hr)
  grind
theorem par_top {x r : Rat} (hx : 0 ≤ x) (hr : 0 < r) : x * r / (x + r) < r := by
  have h3 : 0 < x + r := by grind
  rw [Rat.div_lt_iff h3]
  have := Rat.mul_pos hr hr
  grind
theorem par_nn {x r : Rat} (hx : 0 ≤ x) (hr : 0 < r) : 0 ≤ x * r / (x + r) := by
  have h3 : 0 < x + r := by grind
  have h4 : 0 < (x + r)⁻¹ := Rat.inv_pos.mpr h3
  rw [Rat.div_def]
  exact Rat.mul_nonneg (Rat.mul_nonneg hx (Rat.le_of_lt hr)) (Rat.le_of_lt h4)
theorem step_nn {p : Pt} (hp : 0 < p.2) {x : Option Rat} (hx : nnO x) : nnO (stepR p x) := by
  obtain ⟨b, r⟩ := p
  cases x <;> cases b <;> simp only [stepR, nnO, if_true, if_false, Bool.false_eq_true] at *
  · grind
  · exact par_nn hx hp
  · grind
theorem step_lt {p : Pt} (hp : 0 < p.2) {x y : Option Rat} (hx : nnO x) (h : ltO x y) : ltO (stepR p x) (stepR p y) := by
  obtain ⟨b, r⟩ := p
  cases x with
  | none => exact h.elim
  | some x =>
    cases y <;> cases b <;> simp only [stepR, nnO, ltO, if_true, if_false, Bool.false_eq_true] at *
    · exact par_top hx hp
    · exact par_lt hx h hp
    · grind
theorem run_nn : ∀ {ps : List Pt}, PosL ps → ∀ {x : Option Rat}, nnO x → nnO (runR ps x)
  | [], _, _, h => h
  | p :: ps, hp, x, h => step_nn (hp p List.mem_cons_self) (run_nn hp.tail h)
theorem run_lt : ∀ {ps : List Pt}, PosL ps → ∀ {x y : Option Rat}, nnO x → ltO x y → ltO (runR ps x) (runR ps y)
  | [], _, _, _, _, h => h
  | p :: ps, hp, x, y, hx, h => step_lt (hp p List.mem_cons_self) (run_nn hp.tail hx) (run_lt hp.tail hx h)
theorem iter_nn {ps : List Pt} (hp : PosL ps) {x : Option Rat} (h : nnO x) : ∀ n, nnO (iterR ps n x)
  | 0 => h
  | n + 1 => run_nn hp (iter_nn hp h n)
theorem iter_lt {ps : List Pt} (hp : PosL ps) {x y : Option Rat} (hx : nnO x) (h : ltO x y) : ∀ n, ltO (iterR ps n x) (iterR ps n y)
  | 0 => h
  | n + 1 => run_lt hp (iter_nn hp hx n) (iter_lt hp hx h n)
theorem run_fin : ∀ {ps : List Pt}, (∃ p ∈ ps, p.1 = false) → ltO (runR ps none) none
  | [], h => by obtain ⟨p, m, _⟩ := h; cases m
  | (b, r) :: ps, h => by
    show ltO (stepR (b, r) (runR ps none)) none
    cases b with
    | false =>
      cases runR ps none <;> simp [stepR, ltO]
    | true =>
      have : ∃ p ∈ ps, p.1 = false := by
        obtain ⟨p, m, e⟩ := h
        rcases List.mem_cons.mp m with rfl | m
        · cases e
        · exact ⟨p, m, e⟩
      have h := run_fin this
      cases hr : runR ps none with
      | none => rw [hr] at h; exact h.elim
      | some x => simp [stepR, ltO]
theorem iter_fall {ps : List Pt} (hp : PosL ps) (h : ∃ p ∈ ps, p.1 = false) : ∀ n, ltO (iterR ps (n + 1) none) (iterR ps n none)
  | 0 => run_fin h
  | n + 1 => run_lt hp (iter_nn hp (show nnO none from trivial) (n + 1)) (iter_fall hp h n)
theorem zero_le {x : Option Rat} (h : nnO x) : leO (some 0) x := by
  cases x with
  | none => exact .inr trivial
  | some x =>
    by_cases e : 0 = x
    · exact .inl (by rw [e])
    · exact .inr (show 0 < x by have : (0 : Rat) ≤ x := h; grind)
theorem nn0 : nnO (some 0) := show (0 : Rat) ≤ 0 from Rat.le_refl
theorem iter_rise {ps : List Pt} (hp : PosL ps) : ∀ n, leO (iterR ps n (some 0)) (iterR ps (n + 1) (some 0))
  | 0 => zero_le (run_nn hp nn0)
  | n + 1 => by
    rcases iter_rise hp n with e | h
    · exact .inl (congrArg (runR ps) e)
    · exact .inr (run_lt hp (iter_nn hp nn0 n) h)
theorem iter_apart {ps : List Pt} (hp : PosL ps) (n : Nat) : ltO (iterR ps n (some 0)) (iterR ps n none) := iter_lt hp nn0 (show ltO (some 0) none from trivial) n
/-! duals -/
def dualP (p : Pt) : Pt := (!p.1, p.2⁻¹)
def dualV : Option Rat → Option Rat
  | none => some 0
  | some x => if x = 0 then none else some x⁻¹
theorem step_dual {p : Pt} (hp : 0 < p.2) {x : Option Rat} (hx : nnO x) : stepR (dualP p) (dualV x) = dualV (stepR p x) := by
  obtain ⟨b, r⟩ := p
  have hp : 0 < r := hp
  have hr : r ≠ 0 := by grind
  cases x with
  | none => cases b <;> simp only [stepR, dualP, dualV, Bool.not_true, Bool.not_false, if_true, if_false, Bool.false_eq_true, hr] <;> grind
  | some x =>
    have hx : 0 ≤ x := hx
    by_cases e : x = 0
    · subst e
      cases b <;> simp only [stepR, dualP, dualV, Bool.not_true, Bool.not_false, if_true, if_false, Bool.false_eq_true]
      · rw [if_pos (by grind)]
      · rw [if_neg (by grind), Rat.zero_add]
    · have h0 : 0 < x := by grind
      have h1 : x + r ≠ 0 := by grind
      have h2 : x * r / (x + r) ≠ 0 := by grind
      cases b <;> simp only [stepR, dualP, dualV, Bool.not_true, Bool.not_false, if_true, if_false, Bool.false_eq_true, e, h1, h2]
      · congr 1
        grind
      · have h3 : x⁻¹ + r⁻¹ ≠ 0 := by
          have := Rat.inv_pos.mpr h0
          have := Rat.inv_pos.mpr hp
          grind
        congr 1
        grind
theorem dual_nn {x : Option Rat} (hx : nnO x) : nnO (dualV x) := by
  cases x with
  | none => exact Rat.le_refl
  | some x =>
    unfold dualV
    simp only
    split
    · trivial
    · rename_i e
      have hx : 0 ≤ x := hx
      exact Rat.le_of_lt (Rat.inv_pos.mpr (by grind))
theorem run_dual : ∀ {ps : List Pt}, PosL ps → ∀ {x : Option Rat}, nnO x → runR (ps.map dualP) (dualV x) = dualV (runR ps x)
  | [], _, _, _ => rfl
  | p :: ps, hp, x, h => by
    show stepR (dualP p) (runR (ps.map dualP) (dualV x)) = _
    rw [run_dual hp.tail h]
    exact step_dual (hp p List.mem_cons_self) (run_nn hp.tail h)
theorem iter_dual {ps : List Pt} (hp : PosL ps) {x : Option Rat} (h : nnO x) : ∀ n, iterR (ps.map dualP) n (dualV x) = dualV (iterR ps n x)
  | 0 => rfl
  | n + 1 => by
    show runR _ (iterR _ n _) = _
    rw [iter_dual hp h n]
    exact run_dual hp (iter_nn hp h n)
theorem dual_dual (p : Pt) : dualP (dualP p) = p := by
  obtain ⟨b, r⟩ := p
  unfold dualP
  simp only [Bool.not_not, Rat.inv_inv]
theorem PosL.dual {ps : List Pt} (h : PosL ps) : PosL (ps.map dualP) := fun q m => by
  obtain ⟨p, mp, rfl⟩ := List.mem_map.mp m
  exact Rat.inv_pos.mpr (h p mp)
/-- the law's own step -/
theorem law_par {x r : Rat} (hx : 0 < x) (hr : 0 < r) : 1 / (1 / x + 1 / r) = x * r / (x + r) := by
  have h1 : x ≠ 0 := by grind
  have h2 : r ≠ 0 := by grind
  have h3 : x + r ≠ 0 := by grind
  have h4 : 1 / x + 1 / r ≠ 0 := by
    intro h
    apply h3
    grind
  grind
/-! sizes -/
def Bd (m : Nat) (x : Rat) : Prop := x.num.natAbs ≤ m ∧ x.den ≤ m
def BdO (m : Nat) : Option Rat → Prop
  | none => True
  | some x => Bd m x
theorem Bd.mono {m k : Nat} {x : Rat} (h : Bd m x) (l : m ≤ k) : Bd k x := ⟨Nat.le_trans h.1 l, Nat.le_trans h.2 l⟩
theorem divInt_le {p q : Int} (hq : q ≠ 0) : (Rat.divInt p q).num.natAbs ≤ p.natAbs ∧ (Rat.divInt p q).den ≤ q.natAbs := by
  rw [Rat.num_divInt, Rat.den_divInt, if_neg hq]
  refine ⟨?_, Nat.div_le_self _ _⟩
  refine Nat.le_trans (Int.natAbs_ediv_le_natAbs _ _) ?_
  rw [Int.natAbs_mul, Int.natAbs_sign_of_ne_zero hq, Nat.one_mul]
  exact Nat.le_refl _
theorem nmul_le {a b : Int} {m n : Nat} (h1 : a.natAbs ≤ m) (h2 : b.natAbs ≤ n) : (a * b).natAbs ≤ m * n := by
  rw [Int.natAbs_mul]
  exact Nat.mul_le_mul h1 h2
theorem add_div (x y : Rat) : x + y = Rat.divInt (x.num * y.den + y.num * x.den) ((x.den : Int) * y.den) := by
  rw [Rat.add_def', ← Rat.divInt_ofNat]
  rfl
theorem sub_div (x y : Rat) : x - y = Rat.divInt (x.num * y.den - y.num * x.den) ((x.den : Int) * y.den) := by
  rw [Rat.sub_def', ← Rat.divInt_ofNat]
  rfl
theorem mul_div (x y : Rat) : x * y = Rat.divInt (x.num * y.num) ((x.den : Int) * y.den) := by
  rw [Rat.mul_def', ← Rat.divInt_ofNat]
  rfl
theorem div_div (x y : Rat) : x / y = Rat.divInt (x.num * y.den) ((x.den : Int) * y.num) := by
  rw [Rat.div_def, Rat.inv_def, ← Rat.divInt_mul_divInt, Rat.num_divInt_den]
theorem dpos (x : Rat) : (0 : Int) < x.den := by
  have := x.den_nz
  omega
theorem npos {x : Rat} (h : 0 < x) : 0 < x.num := by
  have := (Rat.lt_iff 0 x).mp h
  simpa using this
theorem bd_add {m k : Nat} {x y : Rat} (hx : Bd m x) (hy : Bd k y) : Bd (2 * (m * k)) (x + y) := by
  have h := divInt_le (p := x.num * y.den + y.num * x.den) (q := (x.den : Int) * y.den) (Int.ne_of_gt (Int.mul_pos (dpos x) (dpos y)))
  rw [← add_div] at h
  have h1 := nmul_le hx.1 (show ((y.den : Nat) : Int).natAbs ≤ k from hy.2)
  have h2 := nmul_le hy.1 (show ((x.den : Nat) : Int).natAbs ≤ m from hx.2)
  have h3 := nmul_le (show ((x.den : Nat) : Int).natAbs ≤ m from hx.2) (show ((y.den : Nat) : Int).natAbs ≤ k from hy.2)
  rw [Nat.mul_comm k m] at h2
  exact ⟨by omega, by omega⟩
theorem bd_mul {m k : Nat} {x y : Rat} (hx : Bd m x) (hy : Bd k y) : Bd (m * k) (x * y) := by
  have h := divInt_le (p := x.num * y.num) (q := (x.den : Int) * y.den) (Int.ne_of_gt (Int.mul_pos (dpos x) (dpos y)))
  rw [← mul_div] at h
  exact ⟨Nat.le_trans h.1 (nmul_le hx.1 hy.1), Nat.le_trans h.2 (nmul_le hx.2 hy.2)⟩
theorem bd_inv {m : Nat} {x : Rat} (hx : Bd m x) (h0 : 0 < x) : Bd m x⁻¹ := by
  have hn := npos h0
  refine ⟨?_, ?_⟩
  · rw [Rat.num_inv, Int.sign_eq_one_of_pos hn, Int.one_mul]
    exact hx.2
  · rw [Rat.den_inv, if_neg (by omega)]
    exact hx.1
theorem bd_par {m k : Nat} {x r : Rat} (hx : Bd m x) (hr : Bd k r) (h0 : 0 ≤ x) (h1 : 0 < r) : Bd (2 * (m * k)) (x * r / (x + r)) := by
  have e : x * r / (x + r) = Rat.divInt (x.num * r.num) (x.num * r.den + r.num * x.den) := by
    have hd : ((x.den : Int) * r.den) ≠ 0 := Int.ne_of_gt (Int.mul_pos (dpos x) (dpos r))
    rw [mul_div, add_div, Rat.div_def, Rat.inv_divInt, Rat.divInt_mul_divInt, Int.mul_comm ((x.den : Int) * r.den) (x.num * r.den + r.num * x.den), Rat.divInt_mul_right hd]
  have hq : 0 < x.num * r.den + r.num * x.den := by
    have a1 : 0 ≤ x.num := Rat.num_nonneg.mpr h0
    have a2 := Int.mul_nonneg a1 (Int.le_of_lt (dpos r))
    have a3 := Int.mul_pos (npos h1) (dpos x)
    omega
  have h := divInt_le (p := x.num * r.num) (q := x.num * r.den + r.num * x.den) (Int.ne_of_gt hq)
  rw [← e] at h
  have h1 := nmul_le hx.1 (show ((r.den : Nat) : Int).natAbs ≤ k from hr.2)
  have h2 := nmul_le hr.1 (show ((x.den : Nat) : Int).natAbs ≤ m from hx.2)
  have h3 := nmul_le hx.1 hr.1
  rw [Nat.mul_comm k m] at h2
  exact ⟨by omega, by omega⟩
def Good (ps : List Pt) : Prop := ∀ p ∈ ps, 0 < p.2 ∧ Bd 7 p.2
theorem Good.pos {ps : List Pt} (h : Good ps) : PosL ps := fun p m => (h p m).1
theorem Good.tail {p : Pt} {ps : List Pt} (h : Good (p :: ps)) : Good ps := fun q m => h q (List.mem_cons_of_mem _ m)
theorem Good.dual {ps : List Pt} (h : Good ps) : Good (ps.map dualP) := fun q m => by
  obtain ⟨p, mp, rfl⟩ := List.mem_map.mp m
  exact ⟨Rat.inv_pos.mpr (h p mp).1, bd_inv (h p mp).2 (h p mp).1⟩
theorem step_bd {p : Pt} (hp : 0 < p.2 ∧ Bd 7 p.2) {m : Nat} (hm : 1 ≤ m) {x : Option Rat} (h0 : nnO x) (hx : BdO m x) : BdO (14 * m) (stepR p x) := by
  obtain ⟨b, r⟩ := p
  cases x with
  | none =>
    cases b
    · exact hp.2.mono (by omega)
    · trivial
  | some x =>
    cases b
    · exact (bd_par (show Bd m x from hx) hp.2 h0 hp.1).mono (by omega)
    · exact (bd_add (show Bd m x from hx) hp.2).mono (by omega)
theorem run_bd : ∀ {ps : List Pt}, Good ps → ∀ {m : Nat} {x : Option Rat}, 1 ≤ m → nnO x → BdO m x → BdO (14 ^ ps.length * m) (runR ps x)
  | [], _, m, x, _, _, h => by simpa [runR] using h
  | p :: ps, hp, m, x, hm, h0, h => by
    have ih := run_bd hp.tail hm h0 h
    have := step_bd (hp p List.mem_cons_self) (Nat.mul_pos (Nat.pos_of_ne_zero (by simp)) hm) (run_nn hp.tail.pos h0) ih
    rw [List.length_cons, Nat.pow_succ, Nat.mul_comm (14 ^ ps.length) 14, Nat.mul_assoc]
    exact this
theorem iter_bd {ps : List Pt} (hp : Good ps) {x : Option Rat} (h0 : nnO x) (h : BdO 1 x) : ∀ n, BdO (14 ^ (ps.length * n)) (iterR ps n x)
  | 0 => by simpa [iterR] using h
  | n + 1 => by
    have ih := iter_bd hp h0 h n
    have := run_bd hp (Nat.pos_of_ne_zero (by simp)) (iter_nn hp.pos h0 n) ih
    rw [← Nat.pow_add] at this
    rw [Nat.mul_succ, Nat.add_comm]
    exact this
theorem BdO.mono {m k : Nat} {x : Option Rat} (h : BdO m x) (l : m ≤ k) : BdO k x := by
  cases x with
  | none => trivial
  | some x => exact Bd.mono (show Bd m x from h) l
end M
namespace M
/-! whole matrices of ladders -/
structure Mx where
  a : Int
  b : Int
  c : Int
  d : Int
def mul (m n : Mx) : Mx := ⟨m.a * n.a + m.b * n.c, m.a * n.b + m.b * n.d, m.c * n.a + m.d * n.c, m.c * n.b + m.d * n.d⟩
def oneM : Mx := ⟨1, 0, 0, 1⟩
def mp (p : Pt) : Mx := if p.1 then ⟨p.2.den, p.2.num, 0, p.2.den⟩ else ⟨p.2.num, 0, p.2.den, p.2.num⟩
def mm (ps : List Pt) : Mx := ps.foldr (fun p m => mul (mp p) m) oneM
theorem mul_assoc' (x y z : Mx) : mul (mul x y) z = mul x (mul y z) := by
  unfold mul
  simp only [Mx.mk.injEq]
  refine ⟨?_, ?_, ?_, ?_⟩ <;> grind
theorem one_mul' (x : Mx) : mul oneM x = x := by
  cases x
  simp [mul, oneM]
theorem mul_one' (x : Mx) : mul x oneM = x := by
  cases x
  simp [mul, oneM]
theorem mm_nil : mm [] = oneM := rfl
theorem mm_cons (p : Pt) (ps : List Pt) : mm (p :: ps) = mul (mp p) (mm ps) := rfl
theorem mm_append : ∀ (ps qs : List Pt), mm (ps ++ qs) = mul (mm ps) (mm qs)
  | [], qs => (one_mul' _).symm
  | p :: ps, qs => by
    rw [List.cons_append, mm_cons, mm_cons, mm_append ps qs, mul_assoc']
theorem mm_snoc (ps : List Pt) (p : Pt) : mm (ps ++ [p]) = mul (mm ps) (mp p) := by
  rw [mm_append, mm_cons, mm_nil, mul_one']
/-- parts of small numbers -/
def G7 (ps : List Pt) : Prop := ∀ p ∈ ps, 0 < p.2 ∧ p.2.num + p.2.den ≤ 7
theorem G7.tail {p : Pt} {ps : List Pt} (h : G7 (p :: ps)) : G7 ps := fun q m => h q (List.mem_cons_of_mem _ m)
theorem G7.pos {ps : List Pt} (h : G7 ps) : PosL ps := fun p m => (h p m).1
theorem G7.good {ps : List Pt} (h : G7 ps) : Good ps := fun p m => by
  obtain ⟨h1, h2⟩ := h p m
  have := npos h1
  have := dpos p.2
  exact ⟨h1, by omega, by omega⟩
theorem G7.app {ps qs : List Pt} (h : G7 ps) (g : G7 qs) : G7 (ps ++ qs) := fun p m => by
  rcases List.mem_append.mp m with m | m
  · exact h p m
  · exact g p m
theorem inv_nd {x : Rat} (h : 0 < x) : x⁻¹.num = x.den ∧ (x⁻¹.den : Int) = x.num := by
  have hn := npos h
  rw [Rat.num_inv, Rat.den_inv, if_neg (by omega), Int.sign_eq_one_of_pos hn, Int.one_mul]
  exact ⟨rfl, by omega⟩
theorem G7.dual {ps : List Pt} (h : G7 ps) : G7 (ps.map dualP) := fun q m => by
  obtain ⟨p, mp, rfl⟩ := List.mem_map.mp m
  obtain ⟨h1, h2⟩ := h p mp
  obtain ⟨e1, e2⟩ := inv_nd h1
  refine ⟨Rat.inv_pos.mpr h1, ?_⟩
  show (p.2⁻¹).num + ((p.2⁻¹).den : Int) ≤ 7
  rw [e1, e2]
  omega
structure Nn (m : Mx) : Prop where
  a : 0 < m.a
  b : 0 ≤ m.b
  c : 0 ≤ m.c
  d : 0 < m.d
theorem mm_nn : ∀ {ps : List Pt}, PosL ps → Nn (mm ps)
  | [], _ => ⟨by decide, by decide, by decide, by decide⟩
  | (w, r) :: ps, h => by
    obtain ⟨ha, hb, hc, hd⟩ := mm_nn h.tail
    have hr : 0 < r := h (w, r) List.mem_cons_self
    have p0 := npos hr
    have q0 := dpos r
    rw [mm_cons]
    cases w
    · refine ⟨?_, ?_, ?_, ?_⟩ <;> simp only [mul, mp, if_false, Bool.false_eq_true]
      · have := Int.mul_pos p0 ha
        omega
      · have := Int.mul_nonneg (Int.le_of_lt p0) hb
        omega
      · have := Int.mul_nonneg (Int.le_of_lt q0) (Int.le_of_lt ha)
        have := Int.mul_nonneg (Int.le_of_lt p0) hc
        omega
      · have := Int.mul_nonneg (Int.le_of_lt q0) hb
        have := Int.mul_pos p0 hd
        omega
    · refine ⟨?_, ?_, ?_, ?_⟩ <;> simp only [mul, mp, if_true]
      · have := Int.mul_pos q0 ha
        have := Int.mul_nonneg (Int.le_of_lt p0) hc
        omega
      · have := Int.mul_nonneg (Int.le_of_lt q0) hb
        have := Int.mul_nonneg (Int.le_of_lt p0) (Int.le_of_lt hd)
        omega
      · have := Int.mul_nonneg (Int.le_of_lt q0) hc
        omega
      · have := Int.mul_pos q0 hd
        omega
theorem mm_b : ∀ {ps : List Pt}, PosL ps → (∃ p ∈ ps, p.1 = true) → 0 < (mm ps).b
  | [], _, h => by obtain ⟨p, m, _⟩ := h; cases m
  | (w, r) :: ps, h, hx => by
    obtain ⟨ha, hb, hc, hd⟩ := mm_nn h.tail
    have hr : 0 < r := h (w, r) List.mem_cons_self
    have p0 := npos hr
    have q0 := dpos r
    rw [mm_cons]
    cases w
    · have : ∃ p ∈ ps, p.1 = true := by
        obtain ⟨p, m, e⟩ := hx
        rcases List.mem_cons.mp m with rfl | m
        · cases e
        · exact ⟨p, m, e⟩
      have ih := mm_b h.tail this
      simp only [mul, mp, if_false, Bool.false_eq_true]
      have := Int.mul_pos p0 ih
      omega
    · simp only [mul, mp, if_true]
      have := Int.mul_nonneg (Int.le_of_lt q0) hb
      have := Int.mul_pos p0 hd
      omega
theorem mm_c : ∀ {ps : List Pt}, PosL ps → (∃ p ∈ ps, p.1 = false) → 0 < (mm ps).c
  | [], _, h => by obtain ⟨p, m, _⟩ := h; cases m
  | (w, r) :: ps, h, hx => by
    obtain ⟨ha, hb, hc, hd⟩ := mm_nn h.tail
    have hr : 0 < r := h (w, r) List.mem_cons_self
    have p0 := npos hr
    have q0 := dpos r
    rw [mm_cons]
    cases w
    · simp only [mul, mp, if_false, Bool.false_eq_true]
      have := Int.mul_pos q0 ha
      have := Int.mul_nonneg (Int.le_of_lt p0) hc
      omega
    · have : ∃ p ∈ ps, p.1 = false := by
        obtain ⟨p, m, e⟩ := hx
        rcases List.mem_cons.mp m with rfl | m
        · cases e
        · exact ⟨p, m, e⟩
      have ih := mm_c h.tail this
      simp only [mul, mp, if_true]
      have := Int.mul_pos q0 ih
      omega
def sum4 (m : Mx) : Int := m.a + m.b + m.c + m.d
theorem mm_sum : ∀ {ps : List Pt}, G7 ps → sum4 (mm ps) ≤ 2 * 7 ^ ps.length
  | [], _ => by decide
  | (w, r) :: ps, h => by
    have ih := mm_sum h.tail
    obtain ⟨ha, hb, hc, hd⟩ := mm_nn h.tail.pos
    obtain ⟨hr, h7⟩ := h (w, r) List.mem_cons_self
    have hr : 0 < r := hr
    have h7 : r.num + r.den ≤ 7 := h7
    have p0 := npos hr
    have q0 := dpos r
    rw [mm_cons, List.length_cons, Int.pow_succ]
    have k : sum4 (mul (mp (w, r)) (mm ps)) ≤ (r.num + r.den) * sum4 (mm ps) := by
      have e1 := Int.mul_nonneg (Int.le_of_lt p0) (Int.le_of_lt ha)
      have e2 := Int.mul_nonneg (Int.le_of_lt p0) hb
      have e3 := Int.mul_nonneg (Int.le_of_lt p0) hc
      have e4 := Int.mul_nonneg (Int.le_of_lt p0) (Int.le_of_lt hd)
      have e5 := Int.mul_nonneg (Int.le_of_lt q0) (Int.le_of_lt ha)
      have e6 := Int.mul_nonneg (Int.le_of_lt q0) hb
      have e7 := Int.mul_nonneg (Int.le_of_lt q0) hc
      have e8 := Int.mul_nonneg (Int.le_of_lt q0) (Int.le_of_lt hd)
      cases w <;> simp only [sum4, mul, mp, if_true, if_false, Bool.false_eq_true] <;> grind
    have s0 : 0 ≤ sum4 (mm ps) := by unfold sum4; omega
    have := Int.mul_nonneg (show 0 ≤ 7 - (r.num + r.den) by omega) s0
    grind
theorem mm_det : ∀ {ps : List Pt}, PosL ps → 0 < (mm ps).a * (mm ps).d - (mm ps).b * (mm ps).c
  | [], _ => by decide
  | (w, r) :: ps, h => by
    have ih := mm_det h.tail
    have hr : 0 < r := h (w, r) List.mem_cons_self
    have p0 := npos hr
    have q0 := dpos r
    rw [mm_cons]
    cases w
    · have := Int.mul_pos (Int.mul_pos p0 p0) ih
      simp only [mul, mp, if_false, Bool.false_eq_true]
      grind
    · have := Int.mul_pos (Int.mul_pos q0 q0) ih
      simp only [mul, mp, if_true]
      grind
theorem mm_dual : ∀ {ps : List Pt}, PosL ps → mm (ps.map dualP) = ⟨(mm ps).d, (mm ps).c, (mm ps).b, (mm ps).a⟩
  | [], _ => rfl
  | (w, r) :: ps, h => by
    have hr : 0 < r := h (w, r) List.mem_cons_self
    obtain ⟨e1, e2⟩ := inv_nd hr
    rw [List.map_cons, mm_cons, mm_cons, mm_dual h.tail]
    cases w
    · have e : mp (dualP (false, r)) = ⟨r.num, r.den, 0, r.num⟩ := by
        simp only [mp, dualP, Bool.not_false, if_true, e1, e2]
      rw [e]
      simp only [mul, mp, if_false, Bool.false_eq_true, Mx.mk.injEq]
      refine ⟨?_, ?_, ?_, ?_⟩ <;> grind
    · have e : mp (dualP (true, r)) = ⟨r.den, 0, r.num, r.den⟩ := by
        simp only [mp, dualP, Bool.not_true, if_false, Bool.false_eq_true, e1, e2]
      rw [e]
      simp only [mul, mp, if_true, Mx.mk.injEq]
      refine ⟨?_, ?_, ?_, ?_⟩ <;> grind
/-! what a ladder does -/
theorem rat_nd (r : Rat) : r = (r.num : Rat) / (r.den : Rat) := by
  have := Rat.num_divInt_den r
  rw [Rat.divInt_eq_div] at this
  exact this.symm
def den_x (m : Mx) (x : Rat) : Rat := (m.c : Rat) * x + (m.d : Rat)
def num_x (m : Mx) (x : Rat) : Rat := (m.a : Rat) * x + (m.b : Rat)
theorem den_pos {m : Mx} (h : Nn m) {x : Rat} (hx : 0 ≤ x) : 0 < den_x m x := by
  unfold den_x
  have h1 : (0 : Rat) ≤ (m.c : Rat) := Rat.intCast_nonneg.mpr h.c
  have h2 : (0 : Rat) < (m.d : Rat) := Rat.intCast_pos.mpr h.d
  have := Rat.mul_nonneg h1 hx
  grind
theorem num_nn {m : Mx} (h : Nn m) {x : Rat} (hx : 0 ≤ x) : 0 ≤ num_x m x := by
  unfold num_x
  have h1 : (0 : Rat) ≤ (m.a : Rat) := Rat.intCast_nonneg.mpr (Int.le_of_lt h.a)
  have h2 : (0 : Rat) ≤ (m.b : Rat) := Rat.intCast_nonneg.mpr h.b
  have := Rat.mul_nonneg h1 hx
  grind
theorem run_mm : ∀ {ps : List Pt}, PosL ps → ∀ {x : Rat}, 0 ≤ x → runR ps (some x) = some (num_x (mm ps) x / den_x (mm ps) x)
  | [], _, x, _ => by
    show some x = _
    unfold num_x den_x
    simp only [mm_nil, oneM]
    congr 1
    grind
  | (w, r) :: ps, h, x, hx => by
    have ih := run_mm h.tail hx
    have nn := mm_nn h.tail
    have dp := den_pos nn hx
    have np := num_nn nn hx
    have hr : 0 < r := h (w, r) List.mem_cons_self
    have p0 : (0 : Rat) < (r.num : Rat) := Rat.intCast_pos.mpr (npos hr)
    have q0 : (0 : Rat) < (r.den : Rat) := Rat.natCast_pos.mpr (Nat.pos_of_ne_zero r.den_nz)
    show stepR (w, r) (runR ps (some x)) = _
    rw [ih, mm_cons]
    have e := rat_nd r
    have c1 : ((r.den : Int) : Rat) = (r.den : Rat) := rfl
    cases w
    · have en : num_x (mul (mp (false, r)) (mm ps)) x = (r.num : Rat) * num_x (mm ps) x := by
        unfold num_x
        simp only [mul, mp, if_false, Bool.false_eq_true, Rat.intCast_add, Rat.intCast_mul]
        grind
      have ed : den_x (mul (mp (false, r)) (mm ps)) x = (r.den : Rat) * num_x (mm ps) x + (r.num : Rat) * den_x (mm ps) x := by
        unfold num_x den_x
        simp only [mul, mp, if_false, Bool.false_eq_true, Rat.intCast_add, Rat.intCast_mul]
        grind
      rw [en, ed]
      simp only [stepR, if_false, Bool.false_eq_true]
      congr 1
      generalize num_x (mm ps) x = u at *
      generalize den_x (mm ps) x = v at *
      generalize (r.num : Rat) = p at *
      generalize (r.den : Rat) = q at *
      subst e
      have k1 : 0 < q * u + p * v := by
        have := Rat.mul_nonneg (Rat.le_of_lt q0) np
        have := Rat.mul_pos p0 dp
        grind
      have e3 : u / v + p / q = (q * u + p * v) / (v * q) := by
        have hv : v ≠ 0 := by grind
        have hq : q ≠ 0 := by grind
        clear ih h hr en ed c1
        grind
      rw [e3]
      have hv : v ≠ 0 := by grind
      have hq : q ≠ 0 := by grind
      have hw : q * u + p * v ≠ 0 := by grind
      clear ih h hr en ed c1 e3
      generalize q * u + p * v = w at *
      have : u / v * (p / q) = u * p / (v * q) := by grind
      rw [this]
      have hvq : v * q ≠ 0 := by grind
      generalize v * q = t at *
      grind
    · have en : num_x (mul (mp (true, r)) (mm ps)) x = (r.den : Rat) * num_x (mm ps) x + (r.num : Rat) * den_x (mm ps) x := by
        unfold num_x den_x
        simp only [mul, mp, if_true, Rat.intCast_add, Rat.intCast_mul]
        grind
      have ed : den_x (mul (mp (true, r)) (mm ps)) x = (r.den : Rat) * den_x (mm ps) x := by
        unfold den_x
        simp only [mul, mp, if_true, Rat.intCast_add, Rat.intCast_mul]
        grind
      rw [en, ed]
      simp only [stepR, if_true]
      congr 1
      generalize num_x (mm ps) x = u at *
      generalize den_x (mm ps) x = v at *
      generalize (r.num : Rat) = p at *
      generalize (r.den : Rat) = q at *
      subst e
      grind
end M

end
section
set_option Elab.async false
set_option linter.all false
set_option maxRecDepth 100000
namespace M
open PySem PySem.Spec PyProof.Rows L2 VL
theorem fmod_pos {p q : Int} (h : 0 < q) : p.fmod q = p % q := Int.fmod_eq_emod_of_nonneg p (by omega)
theorem gcd_mod (p q : Int) : Int.gcd q (p % q) = Int.gcd p q := by
  have e : p % q = p - q * (p / q) := Int.emod_def p q
  apply Nat.dvd_antisymm
  · have h1 : ((Int.gcd q (p % q) : Nat) : Int) ∣ q := Int.gcd_dvd_left ..
    have h2 : ((Int.gcd q (p % q) : Nat) : Int) ∣ p % q := Int.gcd_dvd_right ..
    have h3 : ((Int.gcd q (p % q) : Nat) : Int) ∣ p := by
      have h4 := Int.dvd_add h2 (Int.dvd_trans h1 (Int.dvd_mul_right q (p / q)))
      rw [Int.emod_add_mul_ediv] at h4
      exact h4
    exact Int.ofNat_dvd.mp (Int.dvd_coe_gcd h3 h1)
  · have h1 : ((Int.gcd p q : Nat) : Int) ∣ q := Int.gcd_dvd_right ..
    have h2 : ((Int.gcd p q : Nat) : Int) ∣ p := Int.gcd_dvd_left ..
    have h3 : ((Int.gcd p q : Nat) : Int) ∣ p % q := by
      rw [e]
      exact Int.dvd_sub h2 (Int.dvd_trans h1 (Int.dvd_mul_right q (p / q)))
    exact Int.ofNat_dvd.mp (Int.dvd_coe_gcd h1 h3)
theorem while_common (S : Sto) : ∀ (n : Nat) (p q : Int), 0 ≤ q → q.toNat ≤ n → ∃ g : Int, g.natAbs = Int.gcd p q ∧
    sWhile (bB (eBin (cB gNe) (eVar 1) (eCon (.int 0)))) (sPar 0 1 (aCons (eVarV 1) (aCons (eBin gMod (eVar 0) (eVar 1)) aNil))) [some (.d (.int p)), some (.d (.int q))] S = some (.nx [some (.d (.int g)), some (.d (.int 0))] S) := by
  intro n
  induction n with
  | zero =>
    intro p q h0 h
    have : q = 0 := by omega
    subst this
    exact ⟨p, by simp, while_stop (S1 := S) (by simp [cB])⟩
  | succ n ih =>
    intro p q h0 h
    by_cases hq : q = 0
    · subst hq
      exact ⟨p, by simp, while_stop (S1 := S) (by simp [cB])⟩
    · have h1 := Int.emod_nonneg p hq
      have h2 := Int.emod_lt_of_pos p (show 0 < q by omega)
      obtain ⟨g, hg, hw⟩ := ih q (p % q) h1 (by omega)
      exact ⟨g, hg.trans (gcd_mod p q), while_go (S1 := S) (by simp [cB, hq]) (by simp [hq, fmod_pos (show 0 < q by omega)]) hw⟩
theorem common_eq (p q : Int) (h : 0 ≤ q) (S : Sto) : G.F_common [.d (.int p), .d (.int q)] S = some (.ok (.d (.int (Int.gcd p q))) S) := by
  obtain ⟨g, hg, hw⟩ := while_common S q.toNat p q h (Nat.le_refl _)
  unfold G.F_common runF rho0 G.f_common
  simp [hw]
  omega
/-- in lowest terms, q > 0 -/
def lo (p q : Int) : PyData := .tuple [.int (p / (Int.gcd p q : Int)), .int (q / (Int.gcd p q : Int))]
theorem fdiv_pos {p q : Int} (h : 0 < q) : p.fdiv q = p / q := Int.fdiv_eq_ediv_of_nonneg p (by omega)
theorem gcd_pos {p q : Int} (h : 0 < q) : (0 : Int) < Int.gcd p q := by
  have := Int.gcd_pos_of_ne_zero_right p (show q ≠ 0 by omega)
  omega
theorem divOk_of {i j : Int} (h : 0 < j) (hj : j ≤ 10 ^ 240) : divOk i j = true := by
  unfold divOk
  have h1 : j ≠ 0 := by omega
  have h2 : j.natAbs.log2 < 9000 := by
    have h0 : j.natAbs ≠ 0 := by omega
    refine (Nat.log2_lt h0).mpr (Nat.lt_of_le_of_lt (show j.natAbs ≤ 10 ^ 240 by omega) ?_)
    decide +kernel
  simp [h1, PyProof.noPylong_of_log2 h2]
def Sm (x : Int) : Prop := x.natAbs ≤ 10 ^ 120
theorem log2_le {n k : Nat} (h : n < 2 ^ k) (hk : 0 < k) : n.log2 < k := by
  by_cases h0 : n = 0
  · subst h0; simpa using hk
  · exact (Nat.log2_lt h0).mpr h
theorem mulOk_of {i j : Int} (hi : Sm i) (hj : Sm j) : mulOk i j = true := by
  unfold mulOk
  have e : (10 : Nat) ^ 120 < 2 ^ 400 := by decide +kernel
  have h1 := log2_le (n := i.natAbs) (k := 400) (Nat.lt_of_le_of_lt hi e) (by omega)
  have h2 := log2_le (n := j.natAbs) (k := 400) (Nat.lt_of_le_of_lt hj e) (by omega)
  rw [decide_eq_true_eq]
  omega
theorem gcd_le {p q : Int} (h : 0 < q) : (Int.gcd p q : Int) ≤ q := by
  have h1 : ((Int.gcd p q : Nat) : Int) ∣ q := Int.gcd_dvd_right ..
  exact Int.le_of_dvd h h1
theorem fraction_eq (p q : Int) (h : 0 < q) (hq : q ≤ 10 ^ 240) (S : Sto) : G.F_fraction [.d (.int p), .d (.int q)] S = some (.ok (.d (lo p q)) S) := by
  have hg := gcd_pos (p := p) h
  have hl := gcd_le (p := p) h
  have d1 : divOk p (Int.gcd p q) = true := divOk_of hg (by omega)
  have d2 : divOk q (Int.gcd p q) = true := divOk_of hg (by omega)
  unfold G.F_fraction runF rho0 G.f_fraction
  have h1 : ¬ q = 0 := by omega
  have h2 : ¬ q < 0 := by omega
  simp [cB, h1, h2, common_eq p q (by omega), d1, d2, lo, fdiv_pos (gcd_pos h), sizeLine_eq]
/-- a fraction -/
abbrev fr (a b : Int) : SV := .d (.tuple [.int a, .int b])
@[simp] theorem at0 {α : Type} (x : α) (xs : List α) : atI (x :: xs) 0 = some x := by
  simp only [atI, ixN]
  rw [if_pos (by omega), if_pos (by simp only [List.length_cons]; omega)]
  rfl
@[simp] theorem at1 {α : Type} (x y : α) (xs : List α) : atI (x :: y :: xs) 1 = some y := by
  simp only [atI, ixN]
  rw [if_pos (by omega), if_pos (by simp only [List.length_cons]; omega)]
  rfl
@[simp] theorem at2 {α : Type} (x y z : α) (xs : List α) : atI (x :: y :: z :: xs) 2 = some z := by
  simp only [atI, ixN]
  rw [if_pos (by omega), if_pos (by simp only [List.length_cons]; omega)]
  rfl
theorem plus_eq (a b c d : Int) (ha : Sm a) (hb : Sm b) (hc : Sm c) (hd : Sm d) (b0 : 0 < b) (d0 : 0 < d) (S : Sto) : G.F_plus [fr a b, fr c d] S = some (.ok (.d (lo (a * d + c * b) (b * d))) S) := by
  have q0 : 0 < b * d := Int.mul_pos b0 d0
  have ql : b * d ≤ 10 ^ 240 := by
    have h1 : b ≤ 10 ^ 120 := by unfold Sm at hb; omega
    have h2 : d ≤ 10 ^ 120 := by unfold Sm at hd; omega
    calc b * d ≤ 10 ^ 120 * 10 ^ 120 := Int.mul_le_mul h1 h2 (by omega) (by omega)
      _ = 10 ^ 240 := by decide +kernel
  unfold G.F_plus runF rho0 G.f_plus
  simp [cB, mulOk_of ha hd, mulOk_of hc hb, mulOk_of hb hd, fraction_eq _ _ q0 ql]
theorem sign_eq (a b : Int) (S : Sto) : G.F_sign [fr a b] S = some (.ok (.d (.int ((if 0 < a then 1 else 0) - (if a < 0 then 1 else 0)))) S) := by
  unfold G.F_sign runF rho0 G.f_sign
  simp [cB]
/-- the law's own fractions -/
theorem while_fr (S : Sto) (p q : Int) : ∀ (n : Nat) (a b : Int), 0 ≤ a → 0 ≤ b → b.toNat ≤ n →
    sWhile (bB (eBin (cB gNe) (eVar 3) (eCon (.int 0)))) (sPar 2 3 (aCons (eVarV 3) (aCons (eBin gMod (eVar 2) (eVar 3)) aNil))) [some (.d (.int p)), some (.d (.int q)), some (.d (.int a)), some (.d (.int b))] S = some (.nx [some (.d (.int p)), some (.d (.int q)), some (.d (.int (Int.gcd a b))), some (.d (.int 0))] S) := by
  intro n
  induction n with
  | zero =>
    intro a b ha h0 h
    have : b = 0 := by omega
    subst this
    have : ((Int.gcd a 0 : Nat) : Int) = a := by simp; omega
    rw [this]
    exact while_stop (S1 := S) (by simp [cB])
  | succ n ih =>
    intro a b ha h0 h
    by_cases hq : b = 0
    · subst hq
      have : ((Int.gcd a 0 : Nat) : Int) = a := by simp; omega
      rw [this]
      exact while_stop (S1 := S) (by simp [cB])
    · have h1 := Int.emod_nonneg a hq
      have h2 := Int.emod_lt_of_pos a (show 0 < b by omega)
      have hw := ih b (a % b) h0 h1 (by omega)
      rw [gcd_mod] at hw
      exact while_go (S1 := S) (by simp [cB, hq]) (by simp [hq, fmod_pos (show 0 < b by omega)]) hw
theorem lfr_eq (p q : Int) (h : 0 < q) (hq : q ≤ 10 ^ 240) (S : Sto) : G.F__law_fr [.d (.int p), .d (.int q)] S = some (.ok (.d (lo p q)) S) := by
  have hg := gcd_pos (p := p) h
  have hl := gcd_le (p := p) h
  have d1 : divOk p (Int.gcd p q) = true := divOk_of hg (by omega)
  have d2 : divOk q (Int.gcd p q) = true := divOk_of hg (by omega)
  have e : Int.gcd (if p < 0 then -p else p) (if q < 0 then -q else q) = Int.gcd p q := by
    rw [if_neg (show ¬ q < 0 by omega)]
    split
    · rw [Int.neg_gcd]
    · rfl
  have hw := while_fr S p q q.toNat (if p < 0 then -p else p) (if q < 0 then -q else q) (by split <;> omega) (by split <;> omega) (by split <;> omega)
  rw [e] at hw
  unfold G.F__law_fr runF rho0 G.f__law_fr
  have h1 : ¬ q = 0 := by omega
  have h2 : ¬ q < 0 := by omega
  simp only [h2, if_false] at hw
  simp [cB, h1, h2, hw, d1, d2, lo, fdiv_pos (gcd_pos h), sizeLine_eq]

theorem prod_le {b d : Int} (hb : Sm b) (hd : Sm d) (b0 : 0 < b) (d0 : 0 < d) : b * d ≤ 10 ^ 240 := by
  have h1 : b ≤ 10 ^ 120 := by unfold Sm at hb; omega
  have h2 : d ≤ 10 ^ 120 := by unfold Sm at hd; omega
  calc b * d ≤ 10 ^ 120 * 10 ^ 120 := Int.mul_le_mul h1 h2 (by omega) (by omega)
    _ = 10 ^ 240 := by decide +kernel
theorem ladd_eq (a b c d : Int) (ha : Sm a) (hb : Sm b) (hc : Sm c) (hd : Sm d) (b0 : 0 < b) (d0 : 0 < d) (S : Sto) : G.F__law_add [fr a b, fr c d] S = some (.ok (.d (lo (a * d + c * b) (b * d))) S) := by
  unfold G.F__law_add runF rho0 G.f__law_add
  simp [cB, mulOk_of ha hd, mulOk_of hc hb, mulOk_of hb hd, lfr_eq _ _ (Int.mul_pos b0 d0) (prod_le hb hd b0 d0)]
theorem minus_eq (a b c d : Int) (ha : Sm a) (hb : Sm b) (hc : Sm c) (hd : Sm d) (b0 : 0 < b) (d0 : 0 < d) (S : Sto) : G.F_minus [fr a b, fr c d] S = some (.ok (.d (lo (a * d - c * b) (b * d))) S) := by
  unfold G.F_minus runF rho0 G.f_minus
  simp [cB, mulOk_of ha hd, mulOk_of hc hb, mulOk_of hb hd, fraction_eq _ _ (Int.mul_pos b0 d0) (prod_le hb hd b0 d0)]
theorem lmul_eq (a b c d : Int) (ha : Sm a) (hb : Sm b) (hc : Sm c) (hd : Sm d) (b0 : 0 < b) (d0 : 0 < d) (S : Sto) : G.F__law_mul [fr a b, fr c d] S = some (.ok (.d (lo (a * c) (b * d))) S) := by
  unfold G.F__law_mul runF rho0 G.f__law_mul
  simp [cB, mulOk_of ha hc, mulOk_of hb hd, lfr_eq _ _ (Int.mul_pos b0 d0) (prod_le hb hd b0 d0)]
theorem less_eq (a b c d : Int) (ha : Sm a) (hb : Sm b) (hc : Sm c) (hd : Sm d) (S : Sto) : G.F_less [fr a b, fr c d] S = some (.ok (.d (.bool (decide (a * d < c * b)))) S) := by
  unfold G.F_less runF rho0 G.f_less
  simp [cB, mulOk_of ha hd, mulOk_of hc hb]
/-- a negative denominator -/
theorem lfr_neg (p q : Int) (h : q < 0) (hq : -q ≤ 10 ^ 240) (S : Sto) : G.F__law_fr [.d (.int p), .d (.int q)] S = some (.ok (.d (lo (-p) (-q))) S) := by
  have h' : 0 < -q := by omega
  have hg := gcd_pos (p := -p) h'
  have hl := gcd_le (p := -p) h'
  have e : Int.gcd (if p < 0 then -p else p) (if q < 0 then -q else q) = Int.gcd (-p) (-q) := by
    rw [if_pos h, Int.neg_gcd, Int.gcd_neg]
    split
    · rw [Int.neg_gcd, Int.gcd_neg]
    · rw [Int.gcd_neg]
  have hw := while_fr S p q (-q).toNat (if p < 0 then -p else p) (if q < 0 then -q else q) (by split <;> omega) (by split <;> omega) (by split <;> omega)
  rw [e] at hw
  have d1 : ((Int.gcd (-p) (-q) : Nat) : Int) ∣ p := Int.dvd_neg.mp (Int.gcd_dvd_left ..)
  have d2 : ((Int.gcd (-p) (-q) : Nat) : Int) ∣ q := Int.dvd_neg.mp (Int.gcd_dvd_right ..)
  have f1 : p.fdiv (0 - (Int.gcd (-p) (-q) : Int)) = -p / (Int.gcd (-p) (-q) : Int) := by
    rw [Int.zero_sub, Int.fdiv_eq_ediv_of_dvd (Int.neg_dvd.mpr d1), Int.ediv_neg, Int.neg_ediv_of_dvd d1]
  have f2 : q.fdiv (0 - (Int.gcd (-p) (-q) : Int)) = -q / (Int.gcd (-p) (-q) : Int) := by
    rw [Int.zero_sub, Int.fdiv_eq_ediv_of_dvd (Int.neg_dvd.mpr d2), Int.ediv_neg, Int.neg_ediv_of_dvd d2]
  have dk : ∀ x : Int, divOk x (0 - (Int.gcd (-p) (-q) : Int)) = true := fun x => by
    unfold divOk
    have h1 : (0 - (Int.gcd (-p) (-q) : Int)) ≠ 0 := by omega
    have h2 : (0 - (Int.gcd (-p) (-q) : Int)).natAbs.log2 < 9000 := by
      have h0 : (0 - (Int.gcd (-p) (-q) : Int)).natAbs ≠ 0 := by omega
      refine (Nat.log2_lt h0).mpr (Nat.lt_of_le_of_lt (show (0 - (Int.gcd (-p) (-q) : Int)).natAbs ≤ 10 ^ 240 by omega) ?_)
      decide +kernel
    rw [decide_eq_true h1, PyProof.noPylong_of_log2 h2]
    rfl
  have d3 := dk p
  have d4 := dk q
  have h1 : ¬ q = 0 := by omega
  simp only [h, if_true] at hw
  unfold lo
  generalize (Int.gcd (-p) (-q) : Int) = g at *
  unfold G.F__law_fr runF rho0 G.f__law_fr
  simp only [Int.zero_sub] at d3 d4 f1 f2
  simp [cB, h1, h, hw, d3, d4, f1, f2, sizeLine_eq]
theorem lsub_eq (a b c d : Int) (ha : Sm a) (hb : Sm b) (hc : Sm c) (hd : Sm d) (b0 : 0 < b) (d0 : 0 < d) (S : Sto) : G.F__law_sub [fr a b, fr c d] S = some (.ok (.d (lo (a * d - c * b) (b * d))) S) := by
  unfold G.F__law_sub runF rho0 G.f__law_sub
  simp [cB, mulOk_of ha hd, mulOk_of hc hb, mulOk_of hb hd, lfr_eq _ _ (Int.mul_pos b0 d0) (prod_le hb hd b0 d0)]
theorem ldiv_eq (a b c d : Int) (ha : Sm a) (hb : Sm b) (hc : Sm c) (hd : Sm d) (b0 : 0 < b) (c0 : 0 < c) (S : Sto) : G.F__law_div [fr a b, fr c d] S = some (.ok (.d (lo (a * d) (b * c))) S) := by
  unfold G.F__law_div runF rho0 G.f__law_div
  simp [cB, mulOk_of ha hd, mulOk_of hb hc, lfr_eq _ _ (Int.mul_pos b0 c0) (prod_le hb hc b0 c0)]
theorem times_eq (a b c d : Int) (ha : Sm a) (hb : Sm b) (hc : Sm c) (hd : Sm d) (b0 : 0 < b) (d0 : 0 < d) (S : Sto) : G.F_times [fr a b, fr c d] S = some (.ok (.d (lo (a * c) (b * d))) S) := by
  unfold G.F_times runF rho0 G.f_times
  simp [cB, mulOk_of ha hc, mulOk_of hb hd, fraction_eq _ _ (Int.mul_pos b0 d0) (prod_le hb hd b0 d0)]
theorem over_eq (a b c d : Int) (ha : Sm a) (hb : Sm b) (hc : Sm c) (hd : Sm d) (b0 : 0 < b) (c0 : 0 < c) (S : Sto) : G.F_over [fr a b, fr c d] S = some (.ok (.d (lo (a * d) (b * c))) S) := by
  unfold G.F_over runF rho0 G.f_over
  simp [cB, mulOk_of ha hd, mulOk_of hb hc, fraction_eq _ _ (Int.mul_pos b0 c0) (prod_le hb hc b0 c0)]
/-! ### rationals -/
abbrev rD (x : Rat) : PyData := .tuple [.int x.num, .int x.den]
abbrev rv (x : Rat) : SV := .d (rD x)
theorem lo_rat {p q : Int} (h : 0 < q) : lo p q = rD (Rat.divInt p q) := by
  unfold lo rD
  rw [Rat.num_divInt, Rat.den_divInt, if_neg (by omega), Int.sign_eq_one_of_pos h, Int.one_mul, Int.gcd_comm q p]
  have e : ((q.natAbs / Int.gcd p q : Nat) : Int) = q / (Int.gcd p q : Int) := by
    rw [Int.natCast_ediv]
    congr 1
    omega
  rw [e]
abbrev Br (x : Rat) : Prop := Bd (10 ^ 120) x
theorem Br.n {x : Rat} (h : Br x) : Sm x.num := h.1
theorem Br.d {x : Rat} (h : Br x) : Sm (x.den : Int) := h.2
theorem plus_r {x y : Rat} (hx : Br x) (hy : Br y) (S : Sto) : G.F_plus [rv x, rv y] S = some (.ok (rv (x + y)) S) := by
  rw [plus_eq _ _ _ _ hx.n hx.d hy.n hy.d (dpos x) (dpos y), lo_rat (Int.mul_pos (dpos x) (dpos y)), ← add_div]
theorem ladd_r {x y : Rat} (hx : Br x) (hy : Br y) (S : Sto) : G.F__law_add [rv x, rv y] S = some (.ok (rv (x + y)) S) := by
  rw [ladd_eq _ _ _ _ hx.n hx.d hy.n hy.d (dpos x) (dpos y), lo_rat (Int.mul_pos (dpos x) (dpos y)), ← add_div]
theorem lsub_r {x y : Rat} (hx : Br x) (hy : Br y) (S : Sto) : G.F__law_sub [rv x, rv y] S = some (.ok (rv (x - y)) S) := by
  rw [lsub_eq _ _ _ _ hx.n hx.d hy.n hy.d (dpos x) (dpos y), lo_rat (Int.mul_pos (dpos x) (dpos y)), ← sub_div]
theorem times_r {x y : Rat} (hx : Br x) (hy : Br y) (S : Sto) : G.F_times [rv x, rv y] S = some (.ok (rv (x * y)) S) := by
  rw [times_eq _ _ _ _ hx.n hx.d hy.n hy.d (dpos x) (dpos y), lo_rat (Int.mul_pos (dpos x) (dpos y)), ← mul_div]
theorem over_r {x y : Rat} (hx : Br x) (hy : Br y) (y0 : 0 < y) (S : Sto) : G.F_over [rv x, rv y] S = some (.ok (rv (x / y)) S) := by
  rw [over_eq _ _ _ _ hx.n hx.d hy.n hy.d (dpos x) (npos y0), lo_rat (Int.mul_pos (dpos x) (npos y0)), ← div_div]
theorem minus_r {x y : Rat} (hx : Br x) (hy : Br y) (S : Sto) : G.F_minus [rv x, rv y] S = some (.ok (rv (x - y)) S) := by
  rw [minus_eq _ _ _ _ hx.n hx.d hy.n hy.d (dpos x) (dpos y), lo_rat (Int.mul_pos (dpos x) (dpos y)), ← sub_div]
theorem lmul_r {x y : Rat} (hx : Br x) (hy : Br y) (S : Sto) : G.F__law_mul [rv x, rv y] S = some (.ok (rv (x * y)) S) := by
  rw [lmul_eq _ _ _ _ hx.n hx.d hy.n hy.d (dpos x) (dpos y), lo_rat (Int.mul_pos (dpos x) (dpos y)), ← mul_div]
theorem less_r {x y : Rat} (hx : Br x) (hy : Br y) (S : Sto) : G.F_less [rv x, rv y] S = some (.ok (.d (.bool (decide (x < y)))) S) := by
  rw [less_eq _ _ _ _ hx.n hx.d hy.n hy.d]
  congr 4
  rw [decide_eq_decide]
  exact (Rat.lt_iff x y).symm
/-- .. also by what is below nothing -/
theorem ldiv_n {x y : Rat} (hx : Br x) (hy : Br y) (y0 : y ≠ 0) (S : Sto) : G.F__law_div [rv x, rv y] S = some (.ok (rv (x / y)) S) := by
  have hn : y.num ≠ 0 := fun z => y0 (Rat.num_eq_zero.mp z)
  rcases Int.lt_or_gt_of_ne hn with k | k
  · have q0 : (x.den : Int) * y.num < 0 := Int.mul_neg_of_pos_of_neg (dpos x) k
    have ql := prod_le hx.d (show Sm (-y.num) by have := hy.n; unfold Sm at *; omega) (dpos x) (show 0 < -y.num by omega)
    have f := lfr_neg (x.num * y.den) ((x.den : Int) * y.num) q0 (by rw [← Int.mul_neg]; exact ql) S
    rw [lo_rat (by omega), Rat.neg_divInt_neg, ← div_div] at f
    unfold G.F__law_div runF rho0 G.f__law_div
    simp [cB, mulOk_of hx.n hy.d, mulOk_of hx.d hy.n, f]
  · exact (fun S => by rw [ldiv_eq _ _ _ _ hx.n hx.d hy.n hy.d (dpos x) k, lo_rat (Int.mul_pos (dpos x) k), ← div_div]) S
theorem ldiv_r {x y : Rat} (hx : Br x) (hy : Br y) (y0 : 0 < y) (S : Sto) : G.F__law_div [rv x, rv y] S = some (.ok (rv (x / y)) S) := by
  rw [ldiv_eq _ _ _ _ hx.n hx.d hy.n hy.d (dpos x) (npos y0), lo_rat (Int.mul_pos (dpos x) (npos y0)), ← div_div]
end M

end
section
set_option Elab.async false
set_option linter.all false
set_option maxRecDepth 100000
namespace M
open PySem PySem.Spec PyProof.Rows L2 VL G
/-! texts -/
@[simp] theorem sh_str (s : Str) : SeqAt.shaped (.str s) = PyData.strOk s := by
  rw [shaped_def]; simp [PyData.canLay0, PyData.depth]
@[simp] theorem eqv_s (a b : Str) : PyData.eqv (.str a) (.str b) = (a == b) := by simp [PyData.eqv]
@[simp] theorem ok_row : PyData.strOk "row" = true := by decide +kernel
@[simp] theorem ok_beside : PyData.strOk "beside" = true := by decide +kernel
@[simp] theorem ok_open : PyData.strOk "open" = true := by decide +kernel
@[simp] theorem ok_short : PyData.strOk "short" = true := by decide +kernel
@[simp] theorem ok_value : PyData.strOk "value" = true := by decide +kernel
@[simp] theorem ok_ends : PyData.strOk "ends" = true := by decide +kernel
@[simp] theorem ok_far : PyData.strOk "far" = true := by decide +kernel
@[simp] theorem ok_shut : PyData.strOk "shut" = true := by decide +kernel
@[simp] theorem ok_rows : PyData.strOk "rows" = true := by decide +kernel
@[simp] theorem rb : (("beside" : Str) == "row") = false := by decide +kernel
@[simp] theorem rr : (("row" : Str) == "row") = true := by decide +kernel
@[simp] theorem br : (("row" : Str) == "beside") = false := by decide +kernel
@[simp] theorem bb : (("beside" : Str) == "beside") = true := by decide +kernel
@[simp] theorem oo : (("open" : Str) == "open") = true := by decide +kernel
@[simp] theorem so : (("short" : Str) == "open") = false := by decide +kernel
@[simp] theorem os : (("open" : Str) == "short") = false := by decide +kernel
@[simp] theorem ss : (("short" : Str) == "short") = true := by decide +kernel
theorem gEq_s {a b : Str} (S : Sto) (ha : PyData.strOk a = true) (hb : PyData.strOk b = true) : gEq S (.d (.str a)) (.d (.str b)) = some (a == b) := by simp [gEq, ha, hb]
theorem gNe_s {a b : Str} (S : Sto) (ha : PyData.strOk a = true) (hb : PyData.strOk b = true) : gNe S (.d (.str a)) (.d (.str b)) = some (!(a == b)) := by simp [gNe, ha, hb]
def wS (b : Bool) : Str := if b then "row" else "beside"
abbrev ptD (p : Pt) : PyData := .tuple [.str (wS p.1), rD p.2]
abbrev ladD (ps : List Pt) : PyData := .tuple (ps.map ptD)
abbrev oD : Option Rat → PyData
  | none => .none
  | some x => rD x
@[simp] theorem wS_ok (b : Bool) : PyData.strOk (wS b) = true := by cases b <;> decide +kernel
@[simp] theorem wS_row (b : Bool) : (wS b == "row") = b := by cases b <;> decide +kernel
@[simp] theorem a_gTp2 (n : Nat) (u : List SV → Rho → Option Rho) (ds : List PyData) (ρ : Rho) : gTp n u (.d (.tuple ds)) ρ = if ds.length = n then u (ds.map .d) ρ else none := rfl
@[simp] theorem a_gsNil (ρ : Rho) : gsNil [] ρ = some ρ := rfl
@[simp] theorem a_gsCons (t : TgF) (u : List SV → Rho → Option Rho) (x : SV) (xs : List SV) (ρ : Rho) : gsCons t u (x :: xs) ρ = (t x ρ).bind fun ρ' => u xs ρ' := rfl
abbrev Bo (x : Option Rat) : Prop := BdO (10 ^ 47) x
theorem e47 : (10 : Nat) ^ 47 = 100000000000000000000000000000000000000000000000 := by decide +kernel
theorem e50 : (10 : Nat) ^ 50 = 100000000000000000000000000000000000000000000000000 := by decide +kernel
theorem bd_ok {m : Nat} {x : Rat} (h : Bd m x) (l : m ≤ 100000000000000000000000000000000000000000000000000) : Br x := h.mono (Nat.le_trans l (by decide +kernel))
theorem ahead_eq {p : Pt} (hp : 0 < p.2 ∧ Bd 7 p.2) {x : Option Rat} (h0 : nnO x) (hx : Bo x) (S : Sto) : G.F_ahead [.d (ptD p), .d (oD x)] S = some (.ok (.d (oD (stepR p x))) S) := by
  obtain ⟨b, r⟩ := p
  obtain ⟨r0, hr⟩ := hp
  have r0 : 0 < r := r0
  have hr : Bd 7 r := hr
  have br : Br r := bd_ok hr (by omega)
  unfold G.F_ahead runF rho0 G.f_ahead
  cases x with
  | none => cases b <;> simp [cB, gEq, gIsN, stepR]
  | some x =>
    have hx : Bd (10 ^ 47) x := hx
    rw [e47] at hx
    have bx : Br x := bd_ok hx (by omega)
    have x0 : 0 ≤ x := h0
    have b1 : Br (x * r) := bd_ok (bd_mul hx hr) (by omega)
    have b2 : Br (x + r) := bd_ok (bd_add hx hr) (by omega)
    have p2 : 0 < x + r := by grind
    cases b
    · simp [cB, gEq, gIsN, stepR, times_r bx br, plus_r bx br, over_r b1 b2 p2]
    · simp [cB, gEq, gIsN, stepR, plus_r bx br]
def foldP (ps : List Pt) (x : Option Rat) : Option Rat := ps.foldl (fun x p => stepR p x) x
theorem fold_rev (ps : List Pt) (x : Option Rat) : foldP ps.reverse x = runR ps x := by
  unfold foldP runR
  rw [List.foldl_reverse]
theorem Good.rev {ps : List Pt} (h : Good ps) : Good ps.reverse := fun p m => h p (List.mem_reverse.mp m)
theorem step_fits {m n : Nat} (h : m * 14 ^ (n + 1) ≤ 10 ^ 47) : m ≤ 10 ^ 47 ∧ 14 * m * 14 ^ n ≤ 10 ^ 47 := by
  have h1 : 1 ≤ 14 ^ (n + 1) := Nat.pos_of_ne_zero (by simp)
  refine ⟨Nat.le_trans (by have := Nat.mul_le_mul_left m h1; omega) h, ?_⟩
  rw [Nat.pow_succ] at h
  calc 14 * m * 14 ^ n = m * (14 ^ n * 14) := by rw [Nat.mul_comm 14 m, Nat.mul_assoc, Nat.mul_comm 14]
    _ ≤ _ := h
noncomputable abbrev bodyA : Rho → Sto → Option Fl := sSet 1 (eCall 2 F_ahead [] (aCons (eVarV 2) (aCons (eVarV 1) aNil)))
theorem loopA (S : Sto) (l : Option SV) : ∀ (qs : List Pt), Good qs → ∀ {m : Nat} (x : Option Rat) (y : Option SV), 1 ≤ m → nnO x → BdO m x → m * 14 ^ qs.length ≤ 10 ^ 47 →
    ∃ y', forL (gNm 2) bodyA (qs.map fun p => SV.d (ptD p)) [l, some (.d (oD x)), y] S = some (.nx [l, some (.d (oD (foldP qs x))), y'] S)
  | [], _, m, x, y, _, _, _, _ => ⟨y, rfl⟩
  | p :: qs, g, m, x, y, hm, h0, hx, hl => by
    have hp := g p List.mem_cons_self
    obtain ⟨l1, l2⟩ := step_fits hl
    have e : bodyA [l, some (.d (oD x)), some (.d (ptD p))] S = some (.nx [l, some (.d (oD (stepR p x))), some (.d (ptD p))] S) := by
      unfold bodyA
      simp [ahead_eq hp h0 (hx.mono l1)]
    obtain ⟨y', h⟩ := loopA S l qs g.tail (stepR p x) (some (.d (ptD p))) (show 1 ≤ 14 * m by omega) (step_nn hp.1 h0) (step_bd hp hm h0 hx) l2
    refine ⟨y', ?_⟩
    have t : gNm 2 (SV.d (ptD p)) [l, some (.d (oD x)), y] = some [l, some (.d (oD x)), some (.d (ptD p))] := rfl
    rw [List.map_cons]
    unfold forL
    rw [t]
    simp only [e]
    exact h
theorem rev_lad (ps : List Pt) (ρ : Rho) (S : Sto) (h : ρ[0]? = some (some (.d (ladD ps)))) : VL.iSeq (eRev (eVar 0)) ρ S = some (.ok (ps.reverse.map fun p => SV.d (ptD p)) S) := by
  have e : eRev (eVar 0) ρ S = some (.ok (.d (ladD ps.reverse)) S) := by
    unfold eRev
    simp [h]
  have n : (ps.reverse.map fun p => SV.d (ptD p)).all noOwn = true := List.all_eq_true.mpr fun x m => by
    obtain ⟨p, _, rfl⟩ := List.mem_map.mp m
    rfl
  have e2 : (ps.reverse.map ptD).map SV.d = ps.reverse.map fun p => SV.d (ptD p) := by
    rw [List.map_map]
    rfl
  rw [a_iSeq, e]
  simp only [bindM_ok, isRef_d, seq_t, Option.bind_some, e2, n, if_true, if_false, Bool.false_eq_true]
theorem all_eq {ps : List Pt} (g : Good ps) {m : Nat} {x : Option Rat} (hm : 1 ≤ m) (h0 : nnO x) (hx : BdO m x) (hl : m * 14 ^ ps.length ≤ 10 ^ 47) (S : Sto) : G.F_ahead_of_all [.d (ladD ps), .d (oD x)] S = some (.ok (.d (oD (runR ps x))) S) := by
  obtain ⟨y', h⟩ := loopA S (some (.d (ladD ps))) ps.reverse g.rev x none hm h0 hx (by rw [List.length_reverse]; exact hl)
  rw [fold_rev] at h
  unfold G.F_ahead_of_all runF rho0 G.f_ahead_of_all
  rw [a_sSeq, a_sFor]
  rw [rev_lad ps _ S rfl, bindS_ok]
  show (match (match forL (gNm 2) bodyA _ [some (.d (ladD ps)), some (.d (oD x)), none] S with
    | some (.nx ρ' S') => _
    | r => r) with
    | some (.nx ρ S') => _
    | some (.rt x S') => _
    | some (.exc c fs ρ S') => _
    | _ => _) = _
  rw [h]
  simp
theorem one_le {m : Nat} {x : Rat} (h : Bd m x) : 1 ≤ m := Nat.le_trans (Nat.pos_of_ne_zero x.den_nz) h.2
theorem is_zero (x : Rat) : (x.num == 0 && (x.den : Int) == 1) = decide (x = 0) := by
  rw [Bool.eq_iff_iff]
  simp only [Bool.and_eq_true, beq_iff_eq, decide_eq_true_eq]
  constructor
  · intro h
    exact Rat.num_eq_zero.mp h.1
  · rintro rfl
    exact ⟨rfl, rfl⟩
theorem rat1 : rD 1 = .tuple [.int 1, .int 1] := rfl
theorem rat0 : rD 0 = .tuple [.int 0, .int 1] := rfl
theorem bd1 : Bd 1 1 := ⟨by decide, by decide⟩
theorem ldiv1 {y : Rat} (hy : Br y) (y0 : 0 < y) (S : Sto) : G.F__law_div [.d (.tuple [.int 1, .int 1]), rv y] S = some (.ok (rv (1 / y)) S) := ldiv_r (x := 1) (bd_ok bd1 (by omega)) hy y0 S
theorem over1 {y : Rat} (hy : Br y) (y0 : 0 < y) (S : Sto) : G.F_over [.d (.tuple [.int 1, .int 1]), rv y] S = some (.ok (rv (1 / y)) S) := over_r (x := 1) (bd_ok bd1 (by omega)) hy y0 S
theorem one_div (x : Rat) : 1 / x = x⁻¹ := by rw [Rat.div_def, Rat.one_mul]
/-! the law's own -/
noncomputable abbrev bodyL : Rho → Sto → Option Fl := (sIf (bB (eBin (cB gEq) (eVar 4) (eCon (.str "row"))))
  (sSet 2 (eIf (bB (eBin (cB gIsN) (eVar 2) (eCon (.none)))) (eCon (.none)) (eCall 2 F__law_add [] (aCons (eVarV 2) (aCons (eVarV 5) aNil)))))
  (sIf (bB (eBin (cB gIsN) (eVar 2) (eCon (.none))))
  (sSet 2 (eVarV 5))
  (sSet 2 (eCall 2 F__law_div [] (aCons (eCall 2 F__law_mul [] (aCons (eVarV 2) (aCons (eVarV 5) aNil))) (aCons (eCall 2 F__law_add [] (aCons (eVarV 2) (aCons (eVarV 5) aNil))) aNil))))))
theorem bodyL_eq {p : Pt} (hp : 0 < p.2 ∧ Bd 7 p.2) {x : Option Rat} (h0 : nnO x) (hx : Bo x) (a b y : Option SV) (S : Sto) :
    bodyL [a, b, some (.d (oD x)), y, some (.d (.str (wS p.1))), some (rv p.2)] S = some (.nx [a, b, some (.d (oD (stepR p x))), y, some (.d (.str (wS p.1))), some (rv p.2)] S) := by
  obtain ⟨w, r⟩ := p
  obtain ⟨r0, hr⟩ := hp
  have r0 : 0 < r := r0
  have hr : Bd 7 r := hr
  have br : Br r := bd_ok hr (by omega)
  unfold bodyL
  cases x with
  | none => cases w <;> simp [cB, gEq, gIsN, stepR, eIf]
  | some x =>
    have hx : Bd (10 ^ 47) x := hx
    rw [e47] at hx
    have bx : Br x := bd_ok hx (by omega)
    have x0 : 0 ≤ x := h0
    have b1 : Br (x * r) := bd_ok (bd_mul hx hr) (by omega)
    have b2 : Br (x + r) := bd_ok (bd_add hx hr) (by omega)
    have p2 : 0 < x + r := by grind
    cases w
    · simp [cB, gEq, gIsN, stepR, eIf, lmul_r bx br, ladd_r bx br, ldiv_r b1 b2 p2]
    · simp [cB, gEq, gIsN, stepR, eIf, ladd_r bx br]
theorem loopL (S : Sto) (a b t : Option SV) : ∀ (qs : List Pt), Good qs → ∀ {m : Nat} (x : Option Rat) (y z : Option SV), 1 ≤ m → nnO x → BdO m x → m * 14 ^ qs.length ≤ 10 ^ 47 →
    ∃ y' z', forL (gTp 2 (gsCons (gNm 4) (gsCons (gNm 5) gsNil))) bodyL (qs.map fun p => SV.d (ptD p)) [a, b, some (.d (oD x)), t, y, z] S = some (.nx [a, b, some (.d (oD (foldP qs x))), t, y', z'] S)
  | [], _, m, x, y, z, _, _, _, _ => ⟨y, z, rfl⟩
  | p :: qs, g, m, x, y, z, hm, h0, hx, hl => by
    have hp := g p List.mem_cons_self
    obtain ⟨l1, l2⟩ := step_fits hl
    have e := bodyL_eq hp h0 (hx.mono l1) a b t S
    obtain ⟨y', z', h⟩ := loopL S a b t qs g.tail (stepR p x) (some (.d (.str (wS p.1)))) (some (rv p.2)) (show 1 ≤ 14 * m by omega) (step_nn hp.1 h0) (step_bd hp hm h0 hx) l2
    refine ⟨y', z', ?_⟩
    have tg : gTp 2 (gsCons (gNm 4) (gsCons (gNm 5) gsNil)) (SV.d (ptD p)) [a, b, some (.d (oD x)), t, y, z] = some [a, b, some (.d (oD x)), t, some (.d (.str (wS p.1))), some (rv p.2)] := rfl
    rw [List.map_cons]
    unfold forL
    rw [tg]
    simp only [e]
    exact h
theorem iter_bd' {ps : List Pt} (hp : Good ps) {m : Nat} (hm : 1 ≤ m) {x : Option Rat} (h0 : nnO x) (h : BdO m x) : ∀ n, BdO (14 ^ (ps.length * n) * m) (iterR ps n x)
  | 0 => by simpa [iterR] using h
  | n + 1 => by
    have ih := iter_bd' hp hm h0 h n
    have := run_bd hp (Nat.mul_pos (Nat.pos_of_ne_zero (by simp)) hm) (iter_nn hp.pos h0 n) ih
    rw [← Nat.mul_assoc, ← Nat.pow_add] at this
    rw [Nat.mul_succ, Nat.add_comm]
    exact this
theorem rngV {n : Nat} (hn : n ≤ 1000) {ρ : Rho} {S : Sto} (h : ρ[1]? = some (some (.d (.int (n : Int))))) : VL.iRng1 (aCons (eVar 1) aNil) ρ S = some (.ok (rangeL 0 n) S) := by
  have e : (aCons (eVar 1) aNil) ρ S = some (.ok [.d (.int (n : Int))] S) := by simp [h]
  rw [a_iRng1, e]
  simp only [bindM_ok, Int.toNat_natCast]
  exact if_pos (inR_of ⟨by omega, by omega⟩)
theorem rangeL_at {lo : Int} {n i : Nat} {x : SV} (h : (rangeL lo n)[i]? = some x) : i < n ∧ x = .d (.int (lo + i)) := by
  have hi : i < (rangeL lo n).length := (List.getElem?_eq_some_iff.mp h).1
  rw [rangeL_length] at hi
  unfold rangeL at h
  rw [List.getElem?_map, List.getElem?_range hi] at h
  simp only [Option.map_some, Option.some.injEq] at h
  exact ⟨hi, h.symm⟩
theorem law_after_eq {ps : List Pt} (g : Good ps) {n m : Nat} (hm : 1 ≤ m) {x : Option Rat} (h0 : nnO x) (hx : BdO m x) (hn : 14 ^ (ps.length * n) * m ≤ 10 ^ 47) (h1 : n ≤ 40) (S : Sto) : G.F__law_after [.d (ladD ps), .d (.int (n : Int)), .d (oD x)] S = some (.ok (.d (oD (iterR ps n x))) S) := by
  obtain ⟨ρ2, S2, ⟨rfl, y1, y2, y3, rfl⟩, e⟩ := forL_step (t := gNm 3) (body := sFor (iSeq (eRev (eVar 0))) (gTp 2 (gsCons (gNm 4) (gsCons (gNm 5) gsNil))) bodyL)
    (fun k ρ S' => S' = S ∧ ∃ y1 y2 y3, ρ = [some (.d (ladD ps)), some (.d (.int (n : Int))), some (.d (oD (iterR ps k x))), y1, y2, y3]) (rangeL 0 n) (fun k v hv ρ S' hI => by
    obtain ⟨rfl, y1, y2, y3, rfl⟩ := hI
    obtain ⟨hk, rfl⟩ := rangeL_at hv
    have f : 14 ^ (ps.length * k) * m * 14 ^ ps.length ≤ 10 ^ 47 := by
      have e : 14 ^ (ps.length * k) * m * 14 ^ ps.length = 14 ^ (ps.length * (k + 1)) * m := by
        rw [Nat.mul_succ, Nat.pow_add]
        rw [Nat.mul_assoc, Nat.mul_assoc, Nat.mul_comm m]
      rw [e]
      exact Nat.le_trans (Nat.mul_le_mul_right _ (Nat.pow_le_pow_right (by omega) (Nat.mul_le_mul_left _ hk))) hn
    obtain ⟨y', z', h⟩ := loopL S' (some (.d (ladD ps))) (some (.d (.int (n : Int)))) (some (.d (.int (0 + (k : Int))))) ps.reverse g.rev (iterR ps k x) y2 y3 (Nat.mul_pos (Nat.pos_of_ne_zero (by simp)) hm) (iter_nn g.pos h0 k) (iter_bd' g hm h0 hx k) (by rw [List.length_reverse]; exact f)
    rw [fold_rev] at h
    refine ⟨_, rfl, _, S', ⟨rfl, some (.d (.int (0 + (k : Int)))), y', z', rfl⟩, .inl ?_⟩
    rw [a_sFor, rev_lad ps _ S' rfl, bindS_ok]
    exact h) [some (.d (ladD ps)), some (.d (.int (n : Int))), some (.d (oD x)), none, none, none] S ⟨rfl, _, _, _, rfl⟩
  rw [rangeL_length] at e
  unfold G.F__law_after runF rho0 G.f__law_after
  rw [a_sSeq, a_sFor]
  erw [rngV (n := n) (by omega) rfl]
  rw [bindS_ok]
  erw [e]
  rfl
end M

end
section
set_option Elab.async false
set_option linter.all false
set_option maxRecDepth 100000
namespace M
open PySem PySem.Spec PyProof.Rows L2 VL G
@[simp] theorem i_tt : isB "tuple" "tuple" = true := by decide
@[simp] theorem i_ii : isB "int" "int" = true := by decide
@[simp] theorem i_ss : isB "str" "str" = true := by decide
@[simp] theorem i_ib : isB "int" "bool" = false := by decide
@[simp] theorem i_bb : isB "bool" "bool" = true := by decide
@[simp] theorem i_bi : isB "bool" "int" = true := by decide
@[simp] theorem i_nt : isB "NoneType" "tuple" = false := by decide
@[simp] theorem i_ni : isB "NoneType" "int" = false := by decide
@[simp] theorem i_ns : isB "NoneType" "str" = false := by decide
@[simp] theorem i_lt : isB "list" "tuple" = false := by decide
@[simp] theorem i_st : isB "str" "tuple" = false := by decide
@[simp] theorem i_it : isB "int" "tuple" = false := by decide
@[simp] theorem i_is : isB "int" "str" = false := by decide
theorem any_frac {x : Rat} (S : Sto) : G.F_is_any_fraction [rv x] S = some (.ok (.d (.bool true)) S) := by
  have h1 : ¬ ((x.den : Int) < 1) := by have := dpos x; omega
  have h2 := common_eq x.num x.den (Int.le_of_lt (dpos x)) S
  have h3 : Int.gcd x.num x.den = 1 := x.reduced
  rw [h3] at h2
  unfold G.F_is_any_fraction runF rho0 G.f_is_any_fraction
  simp [cB, gNe, h1, h2]
theorem frac_ok {x : Rat} (h : Bd 7 x) (S : Sto) : G.F_is_fraction [rv x] S = some (.ok (.d (.bool true)) S) := by
  obtain ⟨h1, h2⟩ := h
  have e1 : (if x.num < 0 then -x.num else x.num) < 100000000000000000000 := by split <;> omega
  have e2 : (x.den : Int) < 100000000000000000000 := by omega
  unfold G.F_is_fraction runF rho0 G.f_is_fraction
  simp [cB, any_frac, eAnd, e1, e2]
theorem sign_ok {x : Rat} (h : 0 < x) (S : Sto) : G.F_sign [rv x] S = some (.ok (.d (.int 1)) S) := by
  have := npos h
  rw [sign_eq, if_pos this, if_neg (by omega)]
  rfl
theorem part_ok {p : Pt} (h : 0 < p.2 ∧ Bd 7 p.2) (S : Sto) : G.F_is_part [.d (ptD p)] S = some (.ok (.d (.bool true)) S) := by
  obtain ⟨w, r⟩ := p
  have h1 : 0 < r := h.1
  have h2 : Bd 7 r := h.2
  have hin : gInT S (.d (.str (wS w))) (.d (.tuple [.str "row", .str "beside"])) = some true := by
    cases w <;> simp [gInT, inT, flatD, flatDs, inV, eqV] <;> decide +kernel
  unfold G.F_is_part runF rho0 G.f_is_part
  simp [cB, gNe, eAnd, frac_ok h2, sign_ok h1, sizeLine_eq, hin, gIx]
theorem bools_rep (n : Nat) : bools (List.replicate n (SV.d (.bool true))) = some (List.replicate n true) := by
  induction n with
  | zero => rfl
  | succ n ih => rw [List.replicate_succ, List.replicate_succ]; simp [bools, ih]
theorem parts_all {ps : List Pt} (g : Good ps) (hl : ps.length ≤ 1000) (ρ : Rho) (S : Sto) (h : ρ[0]? = some (some (.d (ladD ps)))) (h2 : (wipeR ρ [1])[0]? = some (some (.d (ladD ps)))) (hlen : (wipeR ρ [1]).length = 2) :
    eLc (iSeq (eVar 0)) (gNm 1) bYes (eCall 1 F_is_part [] (aCons (eVarV 1) aNil)) [1] ρ S = some (.ok (.own (List.replicate ps.length (SV.d (.bool true)))) S) := by
  have e2 : (ps.map ptD).map SV.d = ps.map fun p => SV.d (ptD p) := by rw [List.map_map]; rfl
  have n : (ps.map fun p => SV.d (ptD p)).all noOwn = true := List.all_eq_true.mpr fun x m => by
    obtain ⟨p, _, rfl⟩ := List.mem_map.mp m
    rfl
  have hi : VL.iSeq (eVar 0) ρ S = some (.ok (ps.map fun p => SV.d (ptD p)) S) := by
    have e : eVar 0 ρ S = some (.ok (.d (ladD ps)) S) := by simp [h]
    rw [a_iSeq, e]
    simp only [bindM_ok, isRef_d, seq_t, Option.bind_some, e2, n, if_true, if_false, Bool.false_eq_true]
  rw [eLc_map (fun _ => SV.d (.bool true)) hi (fun x m => ?_) (by rw [List.length_map]; exact Nat.le_trans hl (by rw [sizeLine_eq]; omega))]
  · rw [List.map_map]
    congr 3
    exact List.map_const' ..
  · obtain ⟨p, mp, rfl⟩ := List.mem_map.mp m
    refine ⟨(wipeR ρ [1]).set 1 (some (.d (ptD p))), rfl, ?_⟩
    have a1 : ((wipeR ρ [1]).set 1 (some (SV.d (ptD p))))[1]? = some (some (.d (ptD p))) := by
      rw [List.getElem?_set_self (by omega)]
    simp [a1, part_ok (g p mp)]
theorem look_ok {ps : List Pt} (g : Good ps) (h1 : 1 ≤ ps.length) (h2 : ps.length ≤ 12) (S : Sto) : G.F_look_at_ladder [.d (ladD ps)] S = some (.ok (.d .none) S) := by
  have e := parts_all g (by omega) [some (.d (ladD ps)), none] S rfl rfl rfl
  have e3 : (1 : Int) ≤ (ps.length : Int) := by omega
  have e4 : (ps.length : Int) ≤ 12 := by omega
  unfold G.F_look_at_ladder runF rho0 G.f_look_at_ladder
  simp [eChain, e, e3, e4, gAll, lst?, bools_rep]
/-! turned -/
noncomputable abbrev bodyT : Rho → Sto → Option Fl := (sSeq
  (sSet 4 (eCon (.str "row")))
  (sSeq
  (sIf (bB (eBin (cB gEq) (eVar 2) (eCon (.str "row"))))
  (sSet 4 (eCon (.str "beside")))
  sNil)
  (sAppend (lVar 1) (aCons (eTup (aCons (eVarV 4) (aCons (eCall 2 F_over [] (aCons (eCon (.tuple [.int 1, .int 1])) (aCons (eVarV 3) aNil))) aNil))) aNil))))
abbrev dL (ps : List Pt) : List SV := ps.map fun p => SV.d (ptD (dualP p))
theorem bodyT_eq {p : Pt} (hp : 0 < p.2 ∧ Bd 7 p.2) (l y : Option SV) {acc : List SV} (ha : acc.length ≤ 100) (S : Sto) :
    bodyT [l, some (.own acc), some (.d (.str (wS p.1))), some (rv p.2), y] S = some (.nx [l, some (.own (acc ++ [.d (ptD (dualP p))])), some (.d (.str (wS p.1))), some (rv p.2), some (.d (.str (wS (!p.1))))] S) := by
  obtain ⟨w, r⟩ := p
  have h1 : 0 < r := hp.1
  have h2 : Bd 7 r := hp.2
  have h3 := over1 (bd_ok h2 (by omega)) h1 S
  rw [one_div] at h3
  have h4 : acc.length < 10000000 := by omega
  unfold bodyT sAppend lVar
  cases w <;> simp [cB, gEq, h3, sizeLine_eq, Lo.get, Lo.put, getP, putP, dualP] <;> first | omega | (refine ⟨by omega, ?_⟩; rfl) | rfl | skip

theorem loopT (S : Sto) (l : Option SV) : ∀ (qs : List Pt) (acc : List SV) (a b c : Option SV), Good qs → acc.length + qs.length ≤ 100 →
    ∃ a' b' c', forL (gTp 2 (gsCons (gNm 2) (gsCons (gNm 3) gsNil))) bodyT (qs.map fun p => SV.d (ptD p)) [l, some (.own acc), a, b, c] S = some (.nx [l, some (.own (acc ++ dL qs)), a', b', c'] S)
  | [], acc, a, b, c, _, _ => ⟨a, b, c, by rw [show acc ++ dL [] = acc from List.append_nil acc]; rfl⟩
  | p :: qs, acc, a, b, c, g, hl => by
    rw [List.length_cons] at hl
    have e := bodyT_eq (g p List.mem_cons_self) l c (acc := acc) (by omega) S
    obtain ⟨a', b', c', h⟩ := loopT S l qs (acc ++ [.d (ptD (dualP p))]) (some (.d (.str (wS p.1)))) (some (rv p.2)) (some (.d (.str (wS (!p.1))))) g.tail (by simp; omega)
    refine ⟨a', b', c', ?_⟩
    have tg : gTp 2 (gsCons (gNm 2) (gsCons (gNm 3) gsNil)) (SV.d (ptD p)) [l, some (.own acc), a, b, c] = some [l, some (.own acc), some (.d (.str (wS p.1))), some (rv p.2), c] := rfl
    rw [List.map_cons]
    unfold forL
    rw [tg]
    simp only [e]
    rw [h, List.append_assoc]
    rfl
theorem lad_seq (i : Nat) (f : Rho → Mo SV) (ps : List Pt) (ρ : Rho) (S : Sto) (h : f ρ S = some (.ok (.d (ladD ps)) S)) : VL.iSeq f ρ S = some (.ok (ps.map fun p => SV.d (ptD p)) S) := by
  have n : (ps.map fun p => SV.d (ptD p)).all noOwn = true := List.all_eq_true.mpr fun x m => by
    obtain ⟨p, _, rfl⟩ := List.mem_map.mp m
    rfl
  have e2 : (ps.map ptD).map SV.d = ps.map fun p => SV.d (ptD p) := by
    rw [List.map_map]
    rfl
  rw [a_iSeq, h]
  simp only [bindM_ok, isRef_d, seq_t, Option.bind_some, e2, n, if_true, if_false, Bool.false_eq_true]
theorem dL_tuple (ps : List Pt) (S : Sto) : gTuple S [.own (dL ps)] = some (.d (ladD (ps.map dualP))) := by
  have e : dL ps = (ps.map fun p => ptD (dualP p)).map SV.d := by
    rw [List.map_map]
    rfl
  unfold gTuple lst?
  simp only [Option.bind_some]
  rw [e, allD_map]
  simp only [Option.map_some, ladD, List.map_map]
  rfl
theorem turned_eq {ps : List Pt} (g : Good ps) (l1 : 1 ≤ ps.length) (l2 : ps.length ≤ 12) (S : Sto) : G.F_turned [.d (ladD ps)] S = some (.ok (.d (ladD (ps.map dualP))) S) := by
  obtain ⟨a', b', c', h⟩ := loopT S (some (.d (ladD ps))) ps [] none none none g (by simp; omega)
  have e2 : sDrop (eCall 1 F_look_at_ladder [] (aCons (eVarV 0) aNil)) [some (.d (ladD ps)), none, none, none, none] S = some (.nx [some (.d (ladD ps)), none, none, none, none] S) := by
    simp [look_ok g l1 l2]
  have e3 : sSet 1 (eLst aNil) [some (.d (ladD ps)), none, none, none, none] S = some (.nx [some (.d (ladD ps)), some (.own []), none, none, none] S) := by
    simp
  have e4 : sRet (eCal gTuple (aCons (eVar 1) aNil)) [some (.d (ladD ps)), some (.own (dL ps)), a', b', c'] S = some (.rt (.d (ladD (ps.map dualP))) S) := by
    simp [dL_tuple]
  unfold G.F_turned runF rho0 G.f_turned
  rw [a_sSeq]
  erw [e2]
  simp only
  rw [a_sSeq, e3]
  simp only
  rw [a_sSeq, a_sFor]
  rw [lad_seq 0 (eVarV 0) ps _ S (by simp), bindS_ok]
  erw [h]
  simp only [List.nil_append]
  erw [e4]
end M

end
section
set_option Elab.async false
set_option linter.all false
set_option maxRecDepth 100000
namespace M
open PySem PySem.Spec PyProof.Rows L2 VL G
/-! signs at p / q (as in k70) -/
def pv (a b c p q : Int) : Int := a * p * p + b * p * q + c * q * q
theorem pv_scale (a b c k p q : Int) : pv a b c (k * p) (k * q) = k * k * pv a b c p q := by
  unfold pv
  grind
def sgn (x : Int) : Int := (if 0 < x then 1 else 0) - (if x < 0 then 1 else 0)
def cmpI (a b c p q : Int) : Int := if p ≤ 0 then 1 else (if pv a b c p q < 0 then 1 else 0) - (if 0 < pv a b c p q then 1 else 0)
theorem sgn_pos {x : Int} (h : 0 < x) : sgn x = 1 := by
  unfold sgn
  rw [if_pos h, if_neg (by omega)]
  rfl
theorem sgn_neg {x : Int} (h : x < 0) : sgn x = -1 := by
  unfold sgn
  rw [if_neg (by omega), if_pos h]
  rfl
theorem sgn_zero : sgn 0 = 0 := rfl
theorem mul_bd {x y m n : Int} (hx : 0 ≤ x) (hxm : x ≤ m) (hy : 0 ≤ y) (hyn : y ≤ n) : x * y ≤ m * n := Int.mul_le_mul hxm hyn hy (by omega)
theorem abs_bd {x y m n : Int} (hx : -m ≤ x) (hxm : x ≤ m) (hy : 0 ≤ y) (hyn : y ≤ n) : -(m * n) ≤ x * y ∧ x * y ≤ m * n := by
  have hm : 0 ≤ m := by omega
  have h1 := Int.mul_nonneg (show 0 ≤ m - x by omega) hy
  have h2 := Int.mul_nonneg (show 0 ≤ m + x by omega) hy
  have h3 := Int.mul_nonneg hm (show 0 ≤ n - y by omega)
  exact ⟨by grind, by grind⟩
theorem cmp_cases (a b c p q : Int) : (cmpI a b c p q = 1 ∧ (p ≤ 0 ∨ pv a b c p q < 0)) ∨ (cmpI a b c p q = 0 ∧ 0 < p ∧ pv a b c p q = 0) ∨ (cmpI a b c p q = -1 ∧ 0 < p ∧ 0 < pv a b c p q) := by
  unfold cmpI
  by_cases h : p ≤ 0
  · rw [if_pos h]
    exact .inl ⟨rfl, .inl h⟩
  · rw [if_neg h]
    rcases Int.lt_trichotomy (pv a b c p q) 0 with y | y | y
    · rw [if_pos y, if_neg (by omega)]
      exact .inl ⟨rfl, .inr y⟩
    · rw [if_neg (by omega), if_neg (by omega)]
      exact .inr (.inl ⟨rfl, by omega, y⟩)
    · rw [if_neg (by omega), if_pos y]
      exact .inr (.inr ⟨rfl, by omega, y⟩)
/-! greater numbers -/
def Sq (x : Int) : Prop := x.natAbs ≤ 10 ^ 200
theorem mulOk_sq {i j : Int} (hi : Sq i) (hj : Sq j) : mulOk i j = true := by
  unfold mulOk
  have e : (10 : Nat) ^ 200 < 2 ^ 700 := by decide +kernel
  have h1 := log2_le (n := i.natAbs) (k := 700) (Nat.lt_of_le_of_lt hi e) (by omega)
  have h2 := log2_le (n := j.natAbs) (k := 700) (Nat.lt_of_le_of_lt hj e) (by omega)
  rw [decide_eq_true_eq]
  omega
@[simp] theorem at3 {α : Type} (x y z w : α) (xs : List α) : atI (x :: y :: z :: w :: xs) 3 = some w := by
  simp only [atI, ixN]
  rw [if_pos (by omega), if_pos (by simp only [List.length_cons]; omega)]
  rfl
abbrev rtD (a b c : Int) : PyData := .tuple [.str "root", .int a, .int b, .int c]
abbrev rtV (a b c : Int) : SV := .d (rtD a b c)
theorem sq_of {x : Int} (h : -10000000000000000000000000000000000000000000000000000000000000000000000000000000000000000000000000000 ≤ x ∧ x ≤ 10000000000000000000000000000000000000000000000000000000000000000000000000000000000000000000000000000) : Sq x := by
  unfold Sq
  have e : x.natAbs ≤ 10000000000000000000000000000000000000000000000000000000000000000000000000000000000000000000000000000 := by omega
  refine Nat.le_trans e ?_
  decide +kernel
theorem fmod_abs {p q : Int} (h : p ≠ 0) : q.fmod (if p < 0 then -p else p) = q % (if p < 0 then -p else p) := Int.fmod_eq_emod_of_nonneg q (by split <;> omega)
theorem gcd_abs (p q : Int) : Int.gcd (if p < 0 then -p else p) q = Int.gcd p q := by
  split
  · rw [Int.neg_gcd]
  · rfl
theorem while_num (S : Sto) (v : Option SV) : ∀ (n : Nat) (p q : Int), 0 < q → p.natAbs ≤ n →
    sWhile (bB (eBin (cB gNe) (eVar 1) (eCon (.int 0)))) (sPar 1 2 (aCons (eBin gMod (eVar 2) (eCal gAbs (aCons (eVar 1) aNil))) (aCons (eCal gAbs (aCons (eVar 1) aNil)) aNil))) [v, some (.d (.int p)), some (.d (.int q))] S = some (.nx [v, some (.d (.int 0)), some (.d (.int (Int.gcd p q)))] S) := by
  intro n
  induction n with
  | zero =>
    intro p q h0 h
    have : p = 0 := by omega
    subst this
    have : ((Int.gcd 0 q : Nat) : Int) = q := by simp; omega
    rw [this]
    exact while_stop (S1 := S) (by simp [cB])
  | succ n ih =>
    intro p q h0 h
    by_cases hp : p = 0
    · subst hp
      have : ((Int.gcd 0 q : Nat) : Int) = q := by simp; omega
      rw [this]
      exact while_stop (S1 := S) (by simp [cB])
    · have ha : 0 < (if p < 0 then -p else p) := by split <;> omega
      have h1 := Int.emod_nonneg q (show (if p < 0 then -p else p) ≠ 0 by omega)
      have h2 := Int.emod_lt_of_pos q ha
      have hb : (if p < 0 then -p else p) ≤ n + 1 := by split <;> omega
      have hw := ih (q % (if p < 0 then -p else p)) (if p < 0 then -p else p) ha (by omega)
      have e : Int.gcd (q % (if p < 0 then -p else p)) (if p < 0 then -p else p) = Int.gcd p q := by
        rw [Int.gcd_comm, gcd_mod, Int.gcd_comm, gcd_abs]
      rw [e] at hw
      have hne : ¬ (if p < 0 then -p else p) = 0 := by omega
      exact while_go (S1 := S) (by simp [cB, hp]) (by simp [hne, fmod_abs hp]) hw
theorem isB_tt : isB "tuple" "tuple" = true := by decide
theorem isB_ii : isB "int" "int" = true := by decide
theorem isB_ib : isB "int" "bool" = false := by decide
theorem isB_nt : isB "NoneType" "tuple" = false := by decide
theorem isB_lt : isB "list" "tuple" = false := by decide
theorem is_number_eq (a b : Int) (h : 0 < b) (S : Sto) : G.F_is_number [fr a b] S = some (.ok (.d (.bool (decide (Int.gcd a b = 1)))) S) := by
  unfold G.F_is_number runF rho0 G.f_is_number
  have h1 : ¬ b < 1 := by omega
  have hw := while_num S (some (fr a b)) a.natAbs a b h (Nat.le_refl _)
  simp [cB, isB_tt, isB_ii, isB_ib, h1, hw]
  rw [Bool.eq_iff_iff]
  simp
  omega

@[simp] theorem ok_root : PyData.strOk "root" = true := by decide +kernel
@[simp] theorem roro : (("root" : Str) == "root") = true := by decide +kernel
@[simp] theorem rsro : (("roots" : Str) == "root") = false := by decide +kernel
/-! sizes -/
def Bn (m : Nat) (x : Int) : Prop := x.natAbs ≤ m
theorem Bn.mul {m n : Nat} {x y : Int} (hx : Bn m x) (hy : Bn n y) : Bn (m * n) (x * y) := by
  unfold Bn at *
  rw [Int.natAbs_mul]
  exact Nat.mul_le_mul hx hy
theorem Bn.mono {m n : Nat} {x : Int} (hx : Bn m x) (h : m ≤ n) : Bn n x := Nat.le_trans hx h
theorem Bn.sq {m : Nat} {x : Int} (hx : Bn m x) (h : m ≤ 10 ^ 200) : Sq x := Nat.le_trans hx h
theorem Bn.ok {m n : Nat} {x y : Int} (hx : Bn m x) (hy : Bn n y) (h1 : m ≤ 10 ^ 200) (h2 : n ≤ 10 ^ 200) : mulOk x y = true := mulOk_sq (hx.sq h1) (hy.sq h2)
/-! the sign at p / q -/
theorem cmp_eq {a b c p q : Int} {m n : Nat} (ha : Bn m a) (hb : Bn m b) (hc : Bn m c) (hp : Bn n p) (hq : Bn n q) (h1 : m * n ≤ 10 ^ 200) (h2 : m ≤ 10 ^ 200) (h3 : n ≤ 10 ^ 200) (S : Sto) : G.F_compare_by [rtV a b c, fr p q] S = some (.ok (.d (.int (cmpI a b c p q))) S) := by
  have k1 := ha.ok hp h2 h3
  have k2 := (ha.mul hp).ok hp h1 h3
  have k3 := hb.ok hp h2 h3
  have k4 := (hb.mul hp).ok hq h1 h3
  have k5 := hc.ok hq h2 h3
  have k6 := (hc.mul hq).ok hq h1 h3
  unfold G.F_compare_by runF rho0 G.f_compare_by cmpI
  by_cases h : p ≤ 0
  · simp [cB, h]
  · simp [cB, h, k1, k2, k3, k4, k5, k6, pv]
    first
    | rfl
    | (congr 1 <;> (split <;> simp_all))
/-! the greatest divisor -/
noncomputable abbrev gdb : Rho → Sto → Option Fl := (sSeq
  (sPar 3 4 (aCons (eVarV 1) (aCons (eCal gAbs (aCons (eVar 2) aNil)) aNil)))
  (sSeq
  (sWhile (bB (eBin (cB gGt) (eVar 4) (eCon (.int 0))))
  (sPar 3 4 (aCons (eVarV 4) (aCons (eBin gMod (eVar 3) (eVar 4)) aNil))))
  (sSet 1 (eVarV 3))))
theorem while_gd (S : Sto) (x y z : Option SV) : ∀ (n : Nat) (a b : Int), 0 ≤ a → 0 ≤ b → b.toNat ≤ n →
    sWhile (bB (eBin (cB gGt) (eVar 4) (eCon (.int 0)))) (sPar 3 4 (aCons (eVarV 4) (aCons (eBin gMod (eVar 3) (eVar 4)) aNil))) [x, y, z, some (.d (.int a)), some (.d (.int b))] S = some (.nx [x, y, z, some (.d (.int (Int.gcd a b))), some (.d (.int 0))] S) := by
  intro n
  induction n with
  | zero =>
    intro a b ha h0 h
    have : b = 0 := by omega
    subst this
    have : ((Int.gcd a 0 : Nat) : Int) = a := by simp; omega
    rw [this]
    exact while_stop (S1 := S) (by simp [cB])
  | succ n ih =>
    intro a b ha h0 h
    by_cases hq : b = 0
    · subst hq
      have : ((Int.gcd a 0 : Nat) : Int) = a := by simp; omega
      rw [this]
      exact while_stop (S1 := S) (by simp [cB])
    · have h1 := Int.emod_nonneg a hq
      have h2 := Int.emod_lt_of_pos a (show 0 < b by omega)
      have hw := ih b (a % b) h0 h1 (by omega)
      rw [gcd_mod] at hw
      have hb : 0 < b := by omega
      exact while_go (S1 := S) (by simp [cB, hb]) (by simp [hq, fmod_pos (show 0 < b by omega)]) hw
theorem gdb_eq (f : Nat) (n : Int) (x u v : Option SV) (S : Sto) : gdb [x, some (.d (.int (f : Int))), some (.d (.int n)), u, v] S = some (.nx [x, some (.d (.int (Int.gcd (f : Int) n : Nat))), some (.d (.int n)), some (.d (.int (Int.gcd (f : Int) n : Nat))), some (.d (.int 0))] S) := by
  have h0 : 0 ≤ (if n < 0 then -n else n) := by split <;> omega
  have w := while_gd S x (some (.d (.int (f : Int)))) (some (.d (.int n))) (if n < 0 then -n else n).toNat (f : Int) (if n < 0 then -n else n) (by omega) h0 (Nat.le_refl _)
  have e : Int.gcd (f : Int) (if n < 0 then -n else n) = Int.gcd (f : Int) n := by
    rw [Int.gcd_comm, gcd_abs, Int.gcd_comm]
  rw [e] at w
  unfold gdb
  simp [w]
def g3 (a b c : Int) : Nat := Int.gcd (Int.gcd (Int.gcd 0 a : Nat) b : Nat) c
theorem gd_loop (x u v w : Option SV) (a b c : Int) (S : Sto) : ∃ y1 y2 y3, forL (gNm 2) gdb [.d (.int a), .d (.int b), .d (.int c)] [x, some (.d (.int 0)), u, v, w] S = some (.nx [x, some (.d (.int (g3 a b c : Nat))), y1, y2, y3] S) := by
  have e1 := gdb_eq 0 a x v w S
  have e2 := gdb_eq (Int.gcd 0 a) b x (some (.d (.int (Int.gcd 0 a : Nat)))) (some (.d (.int 0))) S
  have e3 := gdb_eq (Int.gcd (Int.gcd 0 a : Nat) b) c x (some (.d (.int (Int.gcd (Int.gcd 0 a : Nat) b : Nat)))) (some (.d (.int 0))) S
  refine ⟨some (.d (.int c)), some (.d (.int (g3 a b c : Nat))), some (.d (.int 0)), ?_⟩
  unfold g3
  unfold forL
  have t1 : gNm 2 (SV.d (.int a)) [x, some (.d (.int 0)), u, v, w] = some [x, some (.d (.int 0)), some (.d (.int a)), v, w] := rfl
  rw [t1]
  simp only
  erw [e1]
  simp only
  unfold forL
  have t2 : ∀ o : Option SV, ∀ y z, gNm 2 (SV.d (.int b)) [x, y, o, z, some (.d (.int 0))] = some [x, y, some (.d (.int b)), z, some (.d (.int 0))] := fun _ _ _ => rfl
  rw [t2]
  simp only
  erw [e2]
  simp only
  unfold forL
  have t3 : ∀ o : Option SV, ∀ y z, gNm 2 (SV.d (.int c)) [x, y, o, z, some (.d (.int 0))] = some [x, y, some (.d (.int c)), z, some (.d (.int 0))] := fun _ _ _ => rfl
  rw [t3]
  simp only
  erw [e3]
  rfl
theorem gd_eq (a b c : Int) (S : Sto) : G.F_greatest_divisor [.d (.tuple [.int a, .int b, .int c])] S = some (.ok (.d (.int (g3 a b c : Nat))) S) := by
  obtain ⟨y1, y2, y3, h⟩ := gd_loop (some (.d (.tuple [.int a, .int b, .int c]))) none none none a b c S
  have it : VL.iSeq (eVarV 0) [some (.d (.tuple [.int a, .int b, .int c])), some (.d (.int 0)), none, none, none] S = some (.ok [.d (.int a), .d (.int b), .d (.int c)] S) := by simp
  have e0 : sSet 1 (eCon (.int 0)) [some (.d (.tuple [.int a, .int b, .int c])), none, none, none, none] S = some (.nx [some (.d (.tuple [.int a, .int b, .int c])), some (.d (.int 0)), none, none, none] S) := by simp
  unfold G.F_greatest_divisor runF rho0 G.f_greatest_divisor
  rw [a_sSeq]
  erw [e0]
  simp only
  rw [a_sSeq, a_sFor, it, bindS_ok]
  erw [h]
  rfl
theorem lgd_eq (a b c : Int) (S : Sto) : G.F_greatest_divisor [.d (.list [.int a, .int b, .int c])] S = some (.ok (.d (.int (g3 a b c : Nat))) S) := by
  obtain ⟨y1, y2, y3, h⟩ := gd_loop (some (.d (.list [.int a, .int b, .int c]))) none none none a b c S
  have it : VL.iSeq (eVarV 0) [some (.d (.list [.int a, .int b, .int c])), some (.d (.int 0)), none, none, none] S = some (.ok [.d (.int a), .d (.int b), .d (.int c)] S) := by simp
  have e0 : sSet 1 (eCon (.int 0)) [some (.d (.list [.int a, .int b, .int c])), none, none, none, none] S = some (.nx [some (.d (.list [.int a, .int b, .int c])), some (.d (.int 0)), none, none, none] S) := by simp
  unfold G.F_greatest_divisor runF rho0 G.f_greatest_divisor
  rw [a_sSeq]
  erw [e0]
  simp only
  rw [a_sSeq, a_sFor, it, bindS_ok]
  erw [h]
  rfl
/-! roots -/
theorem cut_root (x a b c : PyData) : cutL [x, a, b, c] (some 1) none = [a, b, c] := rfl
theorem is_root_eq (a b c : Int) (S : Sto) : G.F_is_root [rtV a b c] S = some (.ok (.d (.bool (decide (0 < a) && (decide (c < 0) && decide (g3 a b c = 1))))) S) := by
  have sl : ∀ ρ : Rho, ρ[0]? = some (some (rtV a b c)) → eSl (eVar 0) (pSome (eCon (.int 1))) pNone ρ S = some (.ok (.d (.tuple [.int a, .int b, .int c])) S) := fun ρ h => by
    unfold eSl pSome pNone
    simp [h, gSl, cut_root]
  have sl1 := sl [some (rtV a b c), none] rfl
  have lc := eLc_map (S := S) (ρ := [some (rtV a b c), none]) (vs := [1]) (it := VL.iSeq (eSl (eVar 0) (pSome (eCon (.int 1))) pNone)) (tf := gNm 1) (elt := eAnd (eIsi1 (eVar 1) ["int"]) (eNot (eIsi1 (eVar 1) ["bool"]))) (xs := [.d (.int a), .d (.int b), .d (.int c)])
    (fun _ => SV.d (.bool true)) (by simp [sl1]) (fun y m => by
      refine ⟨[some (rtV a b c), some y], ?_, ?_⟩
      · simp only [List.mem_cons, List.not_mem_nil, or_false] at m
        rcases m with rfl | rfl | rfl <;> rfl
      · simp only [List.mem_cons, List.not_mem_nil, or_false] at m
        rcases m with rfl | rfl | rfl <;> simp [eAnd]) (by rw [sizeLine_eq]; simp)
  have gd := gd_eq a b c S
  unfold G.F_is_root runF rho0 G.f_is_root
  by_cases h1 : 0 < a
  · by_cases h2 : c < 0
    · simp [cB, gNe, lc, gAll, lst?, bools, eAnd, sl1, gd, h1, h2]
      rw [Bool.eq_iff_iff]
      simp
      omega
    · simp [cB, gNe, lc, gAll, lst?, bools, eAnd, h1, h2]
  · simp [cB, gNe, lc, gAll, lst?, bools, eAnd, h1]
theorem rlook_ok {a b c : Int} (h1 : 0 < a) (h2 : c < 0) (h3 : g3 a b c = 1) (S : Sto) : G.F_look_at_root [rtV a b c] S = some (.ok (.d .none) S) := by
  have e := is_root_eq a b c S
  rw [h3] at e
  simp only [h1, h2, decide_true, Bool.and_self] at e
  unfold G.F_look_at_root runF rho0 G.f_look_at_root
  simp [e]

/-! lowest terms of three -/
theorem g3_nat (a b c : Int) : g3 a b c = Nat.gcd (Nat.gcd a.natAbs b.natAbs) c.natAbs := by
  show Nat.gcd (Nat.gcd (Nat.gcd 0 a.natAbs) b.natAbs) c.natAbs = _
  rw [Nat.gcd_zero_left]
theorem g3_pos {a b c : Int} (h : 0 < a) : 0 < g3 a b c := by
  rw [g3_nat]
  exact Nat.gcd_pos_of_pos_left _ (Nat.gcd_pos_of_pos_left _ (by omega))
theorem g3_dvd (a b c : Int) : ((g3 a b c : Nat) : Int) ∣ a ∧ ((g3 a b c : Nat) : Int) ∣ b ∧ ((g3 a b c : Nat) : Int) ∣ c := by
  have d0 : g3 a b c ∣ Nat.gcd a.natAbs b.natAbs := by rw [g3_nat]; exact Nat.gcd_dvd_left ..
  refine ⟨Int.ofNat_dvd_left.mpr (Nat.dvd_trans d0 (Nat.gcd_dvd_left ..)), Int.ofNat_dvd_left.mpr (Nat.dvd_trans d0 (Nat.gcd_dvd_right ..)), Int.ofNat_dvd_left.mpr ?_⟩
  rw [g3_nat]
  exact Nat.gcd_dvd_right ..
theorem g3_div {a b c : Int} (h : 0 < a) : g3 (a / (g3 a b c : Nat)) (b / (g3 a b c : Nat)) (c / (g3 a b c : Nat)) = 1 := by
  rw [g3_nat (a / _)]
  have e := g3_nat a b c
  have g0 := g3_pos (b := b) (c := c) h
  have d0 : g3 a b c ∣ Nat.gcd a.natAbs b.natAbs := by rw [e]; exact Nat.gcd_dvd_left ..
  have d1 : g3 a b c ∣ a.natAbs := Nat.dvd_trans d0 (Nat.gcd_dvd_left ..)
  have d2 : g3 a b c ∣ b.natAbs := Nat.dvd_trans d0 (Nat.gcd_dvd_right ..)
  have d3 : g3 a b c ∣ c.natAbs := by rw [e]; exact Nat.gcd_dvd_right ..
  have n : ∀ x : Int, g3 a b c ∣ x.natAbs → (x / ((g3 a b c : Nat) : Int)).natAbs = x.natAbs / g3 a b c := fun x hx => by
    rw [Int.natAbs_ediv_of_dvd (Int.ofNat_dvd_left.mpr hx), Int.natAbs_natCast]
  rw [n a d1, n b d2, n c d3, Nat.gcd_div d1 d2, Nat.gcd_div d0 d3, ← e]
  exact Nat.div_self g0
theorem g3_scale {k : Int} (hk : 0 < k) (a b c : Int) : ((g3 (k * a) (k * b) (k * c) : Nat) : Int) = k * (g3 a b c : Nat) := by
  rw [g3_nat, g3_nat, Int.natAbs_mul, Int.natAbs_mul, Int.natAbs_mul, Nat.gcd_mul_left, Nat.gcd_mul_left, Int.natCast_mul]
  have : (k.natAbs : Int) = k := by omega
  rw [this]
/-- what stands in the same ratio has the same lowest terms -/
theorem prim_eq {a b c a' b' c' k k' : Int} (hk : 0 < k) (hk' : 0 < k') (h0 : 0 < a') (e1 : k * a = k' * a') (e2 : k * b = k' * b') (e3 : k * c = k' * c') :
    a / (g3 a b c : Nat) = a' / (g3 a' b' c' : Nat) ∧ b / (g3 a b c : Nat) = b' / (g3 a' b' c' : Nat) ∧ c / (g3 a b c : Nat) = c' / (g3 a' b' c' : Nat) := by
  have s1 := g3_scale hk a b c
  have s2 := g3_scale hk' a' b' c'
  rw [e1, e2, e3, s2] at s1
  have g0 : (0 : Int) < (g3 a' b' c' : Nat) := by have := g3_pos (b := b') (c := c') h0; omega
  have key : ∀ x x' : Int, k * x = k' * x' → x / (g3 a b c : Nat) = x' / (g3 a' b' c' : Nat) := fun x x' e => by
    have u1 := Int.mul_ediv_mul_of_pos x (g3 a b c : Nat) hk
    have u2 := Int.mul_ediv_mul_of_pos x' (g3 a' b' c' : Nat) hk'
    rw [← u1, ← u2, e, ← s1]
  exact ⟨key a a' e1, key b b' e2, key c c' e3⟩
end M

end
section
set_option Elab.async false
set_option linter.all false
set_option maxRecDepth 100000
namespace M
open PySem PySem.Spec PyProof.Rows L2 VL G
structure Isq (n r : Int) : Prop where
  r0 : 0 ≤ r
  lo : r * r ≤ n
  hi : n < (r + 1) * (r + 1)
theorem Isq.uniq {n r s : Int} (h : Isq n r) (g : Isq n s) : r = s := by
  have h0 := h.r0
  have g0 := g.r0
  have k1 := h.lo
  have k2 := h.hi
  have k3 := g.lo
  have k4 := g.hi
  rcases Int.lt_trichotomy r s with y | y | y
  · have := Int.mul_le_mul (show r + 1 ≤ s by omega) (show r + 1 ≤ s by omega) (by omega) (by omega)
    omega
  · exact y
  · have := Int.mul_le_mul (show s + 1 ≤ r by omega) (show s + 1 ≤ r by omega) (by omega) (by omega)
    omega
theorem fdiv2 (x : Int) : x.fdiv 2 = x / 2 := Int.fdiv_eq_ediv_of_nonneg x (by omega)
theorem div2 (x : Int) : divOk x 2 = true := divOk_of (by omega) (by decide +kernel)
theorem bits_lt {n : Int} (h : 0 ≤ n) : n < 2 ^ (Builtin.Int.intBits n) := by
  unfold Builtin.Int.intBits
  split
  · rename_i h0
    rw [beq_iff_eq.mp h0]
    decide
  · rename_i h0
    have k := Int.ofNat_lt.mpr (Nat.lt_log2_self (n := n.natAbs))
    rw [Int.natCast_pow, Int.natAbs_of_nonneg h] at k
    exact k
noncomputable abbrev sqC : Rho → Mo Bool := (bB (eBin (cB gGt) (eBin gSub (eVar 2) (eVar 1)) (eCon (.int 1))))
noncomputable abbrev sqB : Rho → Sto → Option Fl := (sSeq
  (sSet 3 (eBin gFdiv (eBin gAdd (eVar 1) (eVar 2)) (eCon (.int 2))))
  (sIf (bB (eBin (cB gLe) (eBin gMulA (eVar 3) (eVar 3)) (eVar 0)))
  (sSet 1 (eVarV 3))
  (sSet 2 (eVarV 3))))
theorem sq_loop {n : Int} (S : Sto) : ∀ (k : Nat) (l h : Int) (m : Option SV), 0 ≤ l → l < h → (h - l).toNat ≤ k → Bn (10 ^ 50) h → l * l ≤ n → n < h * h →
    ∃ r m', Isq n r ∧ sWhile sqC sqB [some (.d (.int n)), some (.d (.int l)), some (.d (.int h)), m] S = some (.nx [some (.d (.int n)), some (.d (.int r)), some (.d (.int (r + 1))), m'] S) := by
  intro k
  induction k with
  | zero => intro l h m h0 hlt hk; omega
  | succ k ih =>
    intro l h m h0 hlt hk hb p1 p2
    by_cases hs : 1 < h - l
    · have e2 := fdiv2 (l + h)
      have m0 : l < (l + h) / 2 := by omega
      have m1 : (l + h) / 2 < h := by omega
      have mo : Bn (10 ^ 50) ((l + h) / 2) := by unfold Bn at *; omega
      have mk := mo.ok mo (by decide +kernel) (by decide +kernel)
      generalize hm : (l + h) / 2 = x at *
      by_cases hx : x * x ≤ n
      · obtain ⟨r, m', i, q⟩ := ih x h (some (.d (.int x))) (by omega) m1 (by omega) hb hx p2
        refine ⟨r, m', i, while_go (S1 := S) ?_ ?_ q⟩
        · unfold sqC
          simp [cB, hs]
        · unfold sqB
          simp [cB, div2, e2, mk, hx]
      · obtain ⟨r, m', i, q⟩ := ih l x (some (.d (.int x))) h0 m0 (by omega) mo p1 (by omega)
        refine ⟨r, m', i, while_go (S1 := S) ?_ ?_ q⟩
        · unfold sqC
          simp [cB, hs]
        · unfold sqB
          simp [cB, div2, e2, mk, hx]
    · have e : h = l + 1 := by omega
      subst e
      refine ⟨l, m, ⟨h0, p1, p2⟩, while_stop (S1 := S) ?_⟩
      unfold sqC
      simp [cB]
      omega
theorem sqrt_eq {n : Int} (h0 : 0 ≤ n) (h1 : n ≤ 1000000000000) (S : Sto) : ∃ r, Isq n r ∧ G.F_square_root [.d (.int n)] S = some (.ok (.d (.int r)) S) := by
  by_cases hn : n < 2
  · have : n = 0 ∨ n = 1 := by omega
    refine ⟨n, ?_, ?_⟩
    · rcases this with rfl | rfl <;> exact ⟨by omega, by omega, by omega⟩
    · unfold G.F_square_root runF rho0 G.f_square_root
      simp [cB, hn]
  · have hb := bits_lt h0
    have bl : Builtin.Int.intBits n ≤ 50 := by
      unfold Builtin.Int.intBits
      split
      · exact Nat.zero_le _
      · have := log2_le (n := n.natAbs) (k := 40) (by omega) (by omega)
        omega
    have b1 : Builtin.Int.intBits 1 = 1 := by decide +kernel
    generalize hB : Builtin.Int.intBits n = B at *
    have ek : (((B : Int) + 1).fdiv 2 + 1) = ((((B + 1) / 2 + 1 : Nat)) : Int) := by
      rw [fdiv2]
      omega
    have sh : gShl S (.d (.int 1)) (.d (.int (((B : Int) + 1).fdiv 2 + 1))) = some (.d (.int (2 ^ ((B + 1) / 2 + 1)))) := by
      rw [ek]
      unfold gShl
      simp only
      have g : (decide (0 ≤ (((B + 1) / 2 + 1 : Nat) : Int)) && decide ((((B + 1) / 2 + 1 : Nat) : Int).natAbs + Builtin.Int.intBits 1 < 134217728)) = true := by
        rw [b1, Bool.and_eq_true, decide_eq_true_eq, decide_eq_true_eq]
        omega
      rw [if_pos g, Int.toNat_natCast, Int.one_mul]
    have hh : n < (2 : Int) ^ ((B + 1) / 2 + 1) * 2 ^ ((B + 1) / 2 + 1) := by
      rw [← Int.pow_add]
      refine Int.lt_of_lt_of_le hb ?_
      have : (2 : Nat) ^ B ≤ 2 ^ ((B + 1) / 2 + 1 + ((B + 1) / 2 + 1)) := Nat.pow_le_pow_right (by omega) (by omega)
      exact_mod_cast this
    have hB2 : Bn (10 ^ 50) ((2 : Int) ^ ((B + 1) / 2 + 1)) := by
      unfold Bn
      rw [Int.natAbs_pow]
      refine Nat.le_trans (Nat.pow_le_pow_right (by decide) (show (B + 1) / 2 + 1 ≤ 30 by omega)) ?_
      decide +kernel
    have h2 : (1 : Int) < 2 ^ ((B + 1) / 2 + 1) := by
      have : (2 : Nat) ^ 1 ≤ 2 ^ ((B + 1) / 2 + 1) := Nat.pow_le_pow_right (by omega) (by omega)
      have : (2 : Int) ^ 1 ≤ 2 ^ ((B + 1) / 2 + 1) := by exact_mod_cast this
      omega
    generalize (2 : Int) ^ ((B + 1) / 2 + 1) = H at *
    obtain ⟨r, m', i, q⟩ := sq_loop (n := n) S (H - 1).toNat 1 H none (by omega) h2 (Nat.le_refl _) hB2 (by omega) hh
    refine ⟨r, i, ?_⟩
    have e1 : (sPar 1 2 (aCons (eCon (.int 1)) (aCons (eBin gShl (eCon (.int 1)) (eBin gAdd (eBin gFdiv (eBin gAdd (eBits (eVar 0)) (eCon (.int 1))) (eCon (.int 2))) (eCon (.int 1)))) aNil))) [some (.d (.int n)), none, none, none] S = some (.nx [some (.d (.int n)), some (.d (.int 1)), some (.d (.int H)), none] S) := by
      have be : eBits (eVar 0) [some (.d (.int n)), none, none, none] S = some (.ok (.d (.int (B : Int))) S) := by
        unfold eBits
        simp [hB]
      simp [be, div2, sh]
    unfold G.F_square_root runF rho0 G.f_square_root
    rw [a_sSeq]
    have e0 : (sIf (bB (eBin (cB gLt) (eVar 0) (eCon (.int 2))))
  (sRetV 0)
  sNil) [some (.d (.int n)), none, none, none] S = some (.nx [some (.d (.int n)), none, none, none] S) := by
      simp [cB, hn]
    erw [e0]
    simp only
    rw [a_sSeq]
    erw [e1]
    simp only
    rw [a_sSeq]
    erw [q]
    rfl
theorem fby_eq {a b c : Int} (ha : 0 < a ∧ a ≤ 100000) (hb : -100000 ≤ b ∧ b ≤ 100000) (hc : -100000 ≤ c ∧ c < 0) (S : Sto) : ∃ r, Isq (b * b - 4 * a * c) r ∧
    G.F_fraction_by [rtV a b c] S = some (.ok (.d (if r * r = b * b - 4 * a * c then lo (r - b) (2 * a) else .none)) S) := by
  have k1 := abs_bd (x := b) (y := -b) (m := 100000) (n := 100000)
  have bb0 : 0 ≤ b * b := by
    rcases Int.le_total 0 b with y | y
    · exact Int.mul_nonneg y y
    · have := Int.mul_nonneg (show 0 ≤ -b by omega) (show 0 ≤ -b by omega)
      grind
  have bb1 : b * b ≤ 10000000000 := by
    rcases Int.le_total 0 b with y | y
    · have := mul_bd y hb.2 y hb.2
      omega
    · have := mul_bd (show 0 ≤ -b by omega) (show -b ≤ 100000 by omega) (show 0 ≤ -b by omega) (show -b ≤ 100000 by omega)
      grind
  have ac0 := Int.mul_pos ha.1 (show 0 < -c by omega)
  have ac1 := mul_bd (Int.le_of_lt ha.1) ha.2 (show 0 ≤ -c by omega) (show -c ≤ 100000 by omega)
  have u0 : 0 ≤ b * b - 4 * a * c := by grind
  have u1 : b * b - 4 * a * c ≤ 1000000000000 := by grind
  obtain ⟨r, i, q⟩ := sqrt_eq u0 u1 S
  refine ⟨r, i, ?_⟩
  have na : Bn 100000 a := by unfold Bn; omega
  have nb : Bn 100000 b := by unfold Bn; omega
  have nc : Bn 100000 c := by unfold Bn; omega
  have n4 : Bn 4 4 := by unfold Bn; decide
  have rr : Bn (10 ^ 50) r := by
    have := i.r0
    have := i.lo
    have : r ≤ 1000000000000 := by
      refine Int.not_lt.mp fun y => ?_
      have := Int.mul_le_mul (show 1 ≤ r by omega) (show 1000000000001 ≤ r by omega) (by omega) (by omega)
      omega
    unfold Bn
    have : (10 : Nat) ^ 50 ≥ 10 ^ 13 := by decide +kernel
    omega
  have m1 := nb.ok nb (by decide +kernel) (by decide +kernel)
  have m2 := n4.ok na (by decide +kernel) (by decide +kernel)
  have m3 := (n4.mul na).ok nc (by decide +kernel) (by decide +kernel)
  have m4 := rr.ok rr (by decide +kernel) (by decide +kernel)
  have m5 := (show Bn 2 2 by unfold Bn; decide).ok na (by decide +kernel) (by decide +kernel)
  have big : (200000 : Int) ≤ 10 ^ 240 := by decide +kernel
  have f := fraction_eq (r - b) (2 * a) (by omega) (Int.le_trans (by omega) big) S
  unfold G.F_fraction_by runF rho0 G.f_fraction_by
  by_cases h : r * r = b * b - 4 * a * c
  · rw [if_pos h]
    generalize hU : b * b - 4 * a * c = U at *
    have hU2 : b * b + -(4 * a * c) = U := by rw [← hU]; omega
    simp [cB, m1, m2, m3, m4, m5, hU, q, h, f]
  · rw [if_neg h]
    generalize hU : b * b - 4 * a * c = U at *
    simp [cB, m1, m2, m3, m4, m5, hU, q, h]
end M

end
section
set_option Elab.async false
set_option linter.all false
set_option maxRecDepth 100000
namespace M
open PySem PySem.Spec PyProof.Rows L2 VL G
theorem seq_nx {s t : Rho → Sto → Option VL.Fl} {ρ ρ' : Rho} {S S' : Sto} {r : Option VL.Fl} (h : s ρ S = some (.nx ρ' S')) (q : t ρ' S' = r) : sSeq s t ρ S = r := by
  rw [a_sSeq, h]
  exact q
/-- a wide number: 10 ^ 89 -/
def X89 : Int := 10 ^ 89
theorem x89 : Bn (10 ^ 89) X89 := by unfold Bn X89; decide +kernel
theorem x89_pos : 1000 ≤ X89 := by unfold X89; decide +kernel
theorem bn_x {x k : Int} {m : Nat} (h0 : 0 ≤ x) (h : x ≤ k * X89) (hk : Bn m k) : Bn (m * 10 ^ 89) x := by
  have := hk.mul x89
  unfold Bn at *
  omega
section
variable (D : Int)
abbrev iv (x : Int) : Option SV := some (.d (.int x))
abbrev fw (u v : Option SV) : Rho := [iv D, u, v]
noncomputable abbrev w1C : Rho → Mo Bool := (bB (eBin (cB gLe) (eBin gMulA (eVar 2) (eVar 2)) (eVar 0)))
noncomputable abbrev w1B : Rho → Sto → Option VL.Fl := (sSet 2 (eBin gMulA (eCon (.int 2)) (eVar 2)))
theorem sq_le {x y : Int} (hx : 0 ≤ x) (hy : 0 ≤ y) (h : x * x ≤ y * y) : x ≤ y := by
  refine Int.not_lt.mp fun z => ?_
  have h1 := Int.mul_le_mul (show y + 1 ≤ x by omega) (show y + 1 ≤ x by omega) (by omega) (by omega)
  grind
variable {D}
theorem w1_loop (hD : D ≤ X89 * X89) (u : Option SV) (σ : Sto) : ∀ (k j : Nat), (D + 1 - 2 ^ j).toNat ≤ k → (2 : Int) ^ j ≤ 2 * X89 → ∃ j' : Nat, D < 2 ^ j' * 2 ^ j' ∧ (2 : Int) ^ j' ≤ 2 * X89 ∧
    sWhile w1C w1B (fw D u (iv (2 ^ j))) σ = some (.nx (fw D u (iv (2 ^ j'))) σ) := by
  intro k
  induction k with
  | zero =>
    intro j hk hj
    have p : (0 : Int) < 2 ^ j := Int.pow_pos (by omega)
    have d0 : D < 2 ^ j := by omega
    have d1 : D < 2 ^ j * 2 ^ j := by
      have := Int.mul_le_mul (show (1 : Int) ≤ 2 ^ j by omega) (show (2 : Int) ^ j ≤ 2 ^ j by omega) (by omega) (by omega)
      omega
    have bj := bn_x (m := 2) (Int.le_of_lt p) hj (by unfold Bn; decide)
    have ok := bj.ok bj (by decide +kernel) (by decide +kernel)
    refine ⟨j, d1, hj, while_stop (S1 := σ) ?_⟩
    generalize (2 : Int) ^ j = x at *
    unfold w1C
    simp [cB, ok]
    omega
  | succ k ih =>
    intro j hk hj
    have p : (0 : Int) < 2 ^ j := Int.pow_pos (by omega)
    have bj := bn_x (m := 2) (Int.le_of_lt p) hj (by unfold Bn; decide)
    have ok := bj.ok bj (by decide +kernel) (by decide +kernel)
    have e2 : (2 : Int) * 2 ^ j = 2 ^ (j + 1) := by rw [Int.pow_succ]; omega
    have ok2 := (show Bn 2 2 by unfold Bn; decide).ok bj (by decide +kernel) (by decide +kernel)
    by_cases h : (2 : Int) ^ j * 2 ^ j ≤ D
    · have x0 := x89_pos
      have hx := sq_le (Int.le_of_lt p) (show 0 ≤ X89 by omega) (Int.le_trans h hD)
      obtain ⟨j', d1, d2, q⟩ := ih (j + 1) (by rw [← e2]; omega) (by rw [← e2]; omega)
      refine ⟨j', d1, d2, while_go (S1 := σ) (ρ2 := fw D u (iv (2 ^ (j + 1)))) (S2 := σ) ?_ ?_ q⟩
      · generalize (2 : Int) ^ j = x at *
        unfold w1C
        simp [cB, ok, h]
      · rw [← e2]
        generalize (2 : Int) ^ j = x at *
        unfold w1B
        simp [ok2]
    · refine ⟨j, by omega, hj, while_stop (S1 := σ) ?_⟩
      generalize (2 : Int) ^ j = x at *
      unfold w1C
      simp [cB, ok, h]
noncomputable abbrev w2C : Rho → Mo Bool := (bB (eBin (cB gGt) (eVar 2) (eCon (.int 0))))
noncomputable abbrev w2B : Rho → Sto → Option VL.Fl := (sSeq
  (sIf (bB (eBin (cB gLe) (eBin gMulA (eBin gAdd (eVar 1) (eVar 2)) (eBin gAdd (eVar 1) (eVar 2))) (eVar 0)))
  (sSet 1 (eBin gAdd (eVar 1) (eVar 2)))
  sNil)
  (sSet 2 (eBin gFdiv (eVar 2) (eCon (.int 2)))))
theorem w2_end (l : Int) (σ : Sto) : sWhile w2C w2B (fw D (iv l) (iv 0)) σ = some (.nx (fw D (iv l) (iv 0)) σ) := by
  refine while_stop (S1 := σ) ?_
  unfold w2C
  simp [cB]
theorem w2_loop (hD : D ≤ X89 * X89) (σ : Sto) : ∀ (j : Nat) (l : Int), (2 : Int) ^ j ≤ 2 * X89 → 0 ≤ l → l * l ≤ D → D < (l + 2 * 2 ^ j) * (l + 2 * 2 ^ j) → ∃ r, Isq D r ∧
    sWhile w2C w2B (fw D (iv l) (iv (2 ^ j))) σ = some (.nx (fw D (iv r) (iv 0)) σ) := by
  intro j
  have x0 := x89_pos
  have body : ∀ (j : Nat) (l : Int), (2 : Int) ^ j ≤ 2 * X89 → 0 ≤ l → l * l ≤ D → (w2C (fw D (iv l) (iv (2 ^ j))) σ = some (.ok true σ)) ∧ w2B (fw D (iv l) (iv (2 ^ j))) σ = some (.nx (fw D (iv (if (l + 2 ^ j) * (l + 2 ^ j) ≤ D then l + 2 ^ j else l)) (iv ((2 : Int) ^ j / 2))) σ) := by
    intro j l hj h0 hl
    have p : (0 : Int) < 2 ^ j := Int.pow_pos (by omega)
    have lx := sq_le h0 (show 0 ≤ X89 by omega) (Int.le_trans hl hD)
    have bs := bn_x (k := 3) (m := 3) (show 0 ≤ l + 2 ^ j by omega) (by omega) (by unfold Bn; decide)
    have ok := bs.ok bs (by decide +kernel) (by decide +kernel)
    have f2 := fdiv2 ((2 : Int) ^ j)
    generalize (2 : Int) ^ j = x at *
    constructor
    · unfold w2C
      simp [cB, p]
    · unfold w2B
      by_cases h : (l + x) * (l + x) ≤ D
      · simp [cB, ok, h, div2, f2]
      · simp [cB, ok, h, div2, f2]
  induction j with
  | zero =>
    intro l hj h0 hl hd
    obtain ⟨q1, q2⟩ := body 0 l hj h0 hl
    have e : (2 : Int) ^ 0 = 1 := rfl
    have e3 : (1 : Int) / 2 = 0 := rfl
    rw [e] at q1 q2 hd hj
    rw [e]
    rw [e3] at q2
    by_cases h : (l + 1) * (l + 1) ≤ D
    · rw [if_pos h] at q2
      refine ⟨l + 1, ⟨by omega, h, by grind⟩, while_go q1 q2 (w2_end (l + 1) σ)⟩
    · rw [if_neg h] at q2
      refine ⟨l, ⟨h0, hl, by omega⟩, while_go q1 q2 (w2_end l σ)⟩
  | succ j ih =>
    intro l hj h0 hl hd
    obtain ⟨q1, q2⟩ := body (j + 1) l hj h0 hl
    have e : (2 : Int) ^ (j + 1) = 2 * 2 ^ j := by rw [Int.pow_succ]; omega
    have e2 : (2 : Int) ^ (j + 1) / 2 = 2 ^ j := by rw [e]; omega
    have p : (0 : Int) < 2 ^ j := Int.pow_pos (by omega)
    rw [e2] at q2
    by_cases h : (l + 2 ^ (j + 1)) * (l + 2 ^ (j + 1)) ≤ D
    · rw [if_pos h] at q2
      obtain ⟨r, i, q⟩ := ih (l + 2 ^ (j + 1)) (by omega) (by omega) h (by rw [e] at *; grind)
      exact ⟨r, i, while_go q1 q2 q⟩
    · rw [if_neg h] at q2
      obtain ⟨r, i, q⟩ := ih l (by omega) h0 hl (by rw [e] at *; omega)
      exact ⟨r, i, while_go q1 q2 q⟩
theorem whole_eq (h0 : 0 ≤ D) (h1 : D ≤ 1000000000000) (σ : Sto) : ∃ r, Isq D r ∧ G.F__law_whole [.d (.int D)] σ = some (.ok (.d (if r * r = D then .int r else .none)) σ) := by
  have x0 := x89_pos
  have hD : D ≤ X89 * X89 := Int.le_trans h1 (by unfold X89; decide +kernel)
  obtain ⟨j, e1, e2, q1⟩ := w1_loop (D := D) hD (iv 0) σ (D + 1 - 2 ^ 0).toNat 0 (Nat.le_refl _) (show (1 : Int) ≤ 2 * X89 by omega)
  have p : (0 : Int) < 2 ^ j := Int.pow_pos (by omega)
  obtain ⟨l, i, q2⟩ := w2_loop (D := D) hD σ j 0 e2 (by omega) (by omega) (by
    have := Int.mul_nonneg (Int.le_of_lt p) (Int.le_of_lt p)
    grind)
  refine ⟨l, i, ?_⟩
  have bl : Bn (10 ^ 50) l := by
    have := i.r0
    have := i.lo
    have : l ≤ 1000000000000 := by
      refine Int.not_lt.mp fun y => ?_
      have := Int.mul_le_mul (show 1 ≤ l by omega) (show 1000000000001 ≤ l by omega) (by omega) (by omega)
      omega
    unfold Bn
    have : (10 : Nat) ^ 50 ≥ 10 ^ 13 := by decide +kernel
    omega
  have m1 := bl.ok bl (by decide +kernel) (by decide +kernel)
  have k0 : (sSet 1 (eCon (.int 0))) [iv D, none, none] σ = some (.nx (fw D (iv 0) none) σ) := by simp
  have k1 : (sSet 2 (eCon (.int 1))) (fw D (iv 0) none) σ = some (.nx (fw D (iv 0) (iv 1)) σ) := by simp
  have k4 : (sRet (eIf (bB (eBin (cB gEq) (eBin gMulA (eVar 1) (eVar 1)) (eVar 0))) (eVarV 1) (eCon (.none)))) (fw D (iv l) (iv 0)) σ = some (.rt (.d (if l * l = D then .int l else .none)) σ) := by
    by_cases z : l * l = D
    · simp [cB, eIf, m1, z]
    · simp [cB, eIf, m1, z]
  have e : G.f__law_whole [iv D, none, none] σ = some (.rt (.d (if l * l = D then .int l else .none)) σ) := seq_nx k0 (seq_nx k1 (seq_nx q1 (seq_nx q2 k4)))
  have e1 : G.F__law_whole [.d (.int D)] σ = (match G.f__law_whole [iv D, none, none] σ with
    | some (.nx _ S') => some (.ok (.d .none) S')
    | some (.rt x S') => some (.ok x S')
    | some (.exc c fs _ S') => some (.exc c fs S')
    | _ => none) := rfl
  rw [e1, e]
end
/-! a root beside itself -/
theorem lo_parts {p q : Int} (h : 0 < q) : ∃ g p' q' : Int, 0 < g ∧ g * p' = p ∧ g * q' = q ∧ 0 < q' ∧ lo p q = .tuple [.int p', .int q'] ∧ Int.gcd p' q' = 1 := by
  have g0 := gcd_pos (p := p) h
  have d1 : ((Int.gcd p q : Nat) : Int) ∣ p := Int.gcd_dvd_left ..
  have d2 : ((Int.gcd p q : Nat) : Int) ∣ q := Int.gcd_dvd_right ..
  have e1 := Int.mul_ediv_cancel' d1
  have e2 := Int.mul_ediv_cancel' d2
  refine ⟨(Int.gcd p q : Int), p / (Int.gcd p q : Int), q / (Int.gcd p q : Int), g0, e1, e2, ?_, rfl, Int.gcd_ediv_gcd_ediv_gcd (by omega)⟩
  refine Int.not_le.mp fun y => ?_
  have := Int.mul_nonneg (Int.le_of_lt g0) (show 0 ≤ -(q / (Int.gcd p q : Int)) by omega)
  grind
theorem pos_of_mul {g x : Int} (hg : 0 < g) (h : 0 < g * x) : 0 < x := by
  refine Int.not_le.mp fun y => ?_
  have := Int.mul_nonneg (Int.le_of_lt hg) (show 0 ≤ -x by omega)
  grind
theorem le_of_mul' {g x y : Int} (hg : 0 < g) (hx : 0 ≤ x) (h : g * x ≤ y) : x ≤ y := by
  have := Int.mul_nonneg (show 0 ≤ g - 1 by omega) hx
  grind
/-- a root -/
structure Ro (a b c : Int) : Prop where
  a0 : 0 < a
  a1 : a ≤ 100000
  b0 : -100000 ≤ b
  b1 : b ≤ 100000
  c0 : c < 0
  c1 : -100000 ≤ c
  g : g3 a b c = 1
section
variable {a b c : Int}
theorem Ro.n (h : Ro a b c) : Bn 100000 a ∧ Bn 100000 b ∧ Bn 100000 c := by
  have := h.a0
  have := h.a1
  have := h.b0
  have := h.b1
  have := h.c0
  have := h.c1
  unfold Bn
  omega
theorem Ro.look (h : Ro a b c) (S : Sto) : G.F_look_at_root [rtV a b c] S = some (.ok (.d .none) S) := rlook_ok h.a0 h.c0 h.g S
theorem sq_nn (b : Int) : 0 ≤ b * b := by
  rcases Int.le_total 0 b with y | y
  · exact Int.mul_nonneg y y
  · have := Int.mul_nonneg (show 0 ≤ -b by omega) (show 0 ≤ -b by omega)
    grind
theorem Ro.under (h : Ro a b c) : 0 < b * b - 4 * a * c ∧ b * b - 4 * a * c ≤ 1000000000000 := by
  have a0 := h.a0
  have c0 := h.c0
  have bb := sq_nn b
  have ac := Int.mul_pos a0 (show 0 < -c by omega)
  have e1 := mul_bd (Int.le_of_lt a0) h.a1 (show 0 ≤ -c by omega) (show -c ≤ 100000 by have := h.c1; omega)
  have e2 : b * b ≤ 100000 * 100000 := by
    rcases Int.le_total 0 b with y | y
    · exact mul_bd y h.b1 y h.b1
    · have := mul_bd (show 0 ≤ -b by omega) (show -b ≤ 100000 by have := h.b0; omega) (show 0 ≤ -b by omega) (show -b ≤ 100000 by have := h.b0; omega)
      grind
  exact ⟨by grind, by grind⟩
/-- the root itself, where it is a fraction -/
theorem known_parts (h : Ro a b c) {r : Int} (i : Isq (b * b - 4 * a * c) r) (e : r * r = b * b - 4 * a * c) : ∃ p q : Int, lo (r - b) (2 * a) = .tuple [.int p, .int q] ∧ 0 < p ∧ p ≤ 10000000 ∧ 0 < q ∧ q ≤ 10000000 ∧ pv a b c p q = 0 ∧ Int.gcd p q = 1 := by
  have a0 := h.a0
  have c0 := h.c0
  have r0 := i.r0
  obtain ⟨u0, u1⟩ := h.under
  have ac := Int.mul_pos a0 (show 0 < -c by omega)
  have rb : b < r := by
    refine Int.not_le.mp fun z => ?_
    have := Int.mul_le_mul z z r0 (show 0 ≤ b by omega)
    grind
  have rt : r ≤ 1000000 := by
    refine Int.not_lt.mp fun z => ?_
    have := Int.mul_le_mul (show 1000001 ≤ r by omega) (show 1000001 ≤ r by omega) (by omega) (by omega)
    omega
  have q0 : 0 < 2 * a := by omega
  obtain ⟨g, p', q', g0, e1, e2, q0', e3, gg⟩ := lo_parts (p := r - b) q0
  have p0 : 0 < p' := pos_of_mul g0 (by omega)
  refine ⟨p', q', e3, p0, ?_, q0', ?_, ?_, gg⟩
  · have := le_of_mul' g0 (Int.le_of_lt p0) (show g * p' ≤ 2000000 by have := h.b0; omega)
    omega
  · have := le_of_mul' g0 (Int.le_of_lt q0') (show g * q' ≤ 2000000 by have := h.a1; omega)
    omega
  · have z : pv a b c (r - b) (2 * a) = 0 := by
      have : pv a b c (r - b) (2 * a) = a * (r * r - (b * b - 4 * a * c)) := by
        unfold pv
        grind
      rw [this, e, Int.sub_self, Int.mul_zero]
    rw [← e1, ← e2, pv_scale] at z
    rcases Int.mul_eq_zero.mp z with z | z
    · have := Int.mul_pos g0 g0
      omega
    · exact z
theorem fby_r (h : Ro a b c) (σ : Sto) : ∃ r, Isq (b * b - 4 * a * c) r ∧ G.F_fraction_by [rtV a b c] σ = some (.ok (.d (if r * r = b * b - 4 * a * c then lo (r - b) (2 * a) else .none)) σ) :=
  fby_eq ⟨h.a0, h.a1⟩ ⟨h.b0, h.b1⟩ ⟨h.c1, h.c0⟩ σ
theorem cmp_s (h : Ro a b c) {p q : Int} (hp : Bn (10 ^ 60) p) (hq : Bn (10 ^ 60) q) (σ : Sto) : G.F_compare_by [rtV a b c, fr p q] σ = some (.ok (.d (.int (cmpI a b c p q))) σ) :=
  cmp_eq h.n.1 h.n.2.1 h.n.2.2 hp hq (by decide +kernel) (by decide +kernel) (by decide +kernel) σ
theorem isN_t (xs : List PyData) (S : Sto) : gNotN S (.d (.tuple xs)) (.d .none) = some true := rfl
theorem sign1 (x : Int) (S : Sto) : G.F_sign [.d (.tuple [.int x, .int 1])] S = some (.ok (.d (.int (sgn x))) S) := sign_eq x 1 S
abbrev oV (x : PyData) (k3 k4 k5 k6 k7 k8 k9 k10 k11 k12 : Option SV) (a b c d e f : Int) : Rho := [some (rtV a b c), some (rtV d e f), some (.d x), k3, k4, k5, k6, k7, k8, k9, k10, k11, k12]
theorem order_self (h : Ro a b c) (σ : Sto) : G.F_order [rtV a b c, rtV a b c] σ = some (.ok (.d (.int 0)) σ) := by
  have l1 := h.look σ
  obtain ⟨r, i, q⟩ := fby_r h σ
  have k0 : (sDrop (eCall 1 F_look_at_root [] (aCons (eVarV 0) aNil))) [some (rtV a b c), some (rtV a b c), none, none, none, none, none, none, none, none, none, none, none] σ = some (.nx [some (rtV a b c), some (rtV a b c), none, none, none, none, none, none, none, none, none, none, none] σ) := by
    simp [l1]
  have k1 : (sDrop (eCall 1 F_look_at_root [] (aCons (eVarV 1) aNil))) [some (rtV a b c), some (rtV a b c), none, none, none, none, none, none, none, none, none, none, none] σ = some (.nx [some (rtV a b c), some (rtV a b c), none, none, none, none, none, none, none, none, none, none, none] σ) := by
    simp [l1]
  have e1 : G.F_order [rtV a b c, rtV a b c] σ = (match G.f_order [some (rtV a b c), some (rtV a b c), none, none, none, none, none, none, none, none, none, none, none] σ with
      | some (.nx _ S') => some (.ok (.d .none) S')
      | some (.rt x S') => some (.ok x S')
      | some (.exc c fs _ S') => some (.exc c fs S')
      | _ => none) := rfl
  suffices e2 : G.f_order [some (rtV a b c), some (rtV a b c), none, none, none, none, none, none, none, none, none, none, none] σ = some (.rt (.d (.int 0)) σ) by rw [e1, e2]
  refine seq_nx k0 (seq_nx k1 ?_)
  by_cases z : r * r = b * b - 4 * a * c
  · rw [if_pos z] at q
    obtain ⟨p, w, e3, p0, p1, w0, w1, pz, _⟩ := known_parts h i z
    rw [e3] at q
    have bp : Bn (10 ^ 60) p := Bn.mono (m := 10000000) (by unfold Bn; omega) (by decide +kernel)
    have bw : Bn (10 ^ 60) w := Bn.mono (m := 10000000) (by unfold Bn; omega) (by decide +kernel)
    have c1 := cmp_s h bp bw σ
    have cz : cmpI a b c p w = 0 := by
      unfold cmpI
      rw [if_neg (by omega), pz]
      rfl
    rw [cz] at c1
    have k2 : (sSet 2 (eCall 1 F_fraction_by [] (aCons (eVarV 1) aNil))) [some (rtV a b c), some (rtV a b c), none, none, none, none, none, none, none, none, none, none, none] σ = some (.nx (oV (.tuple [.int p, .int w]) none none none none none none none none none none a b c a b c) σ) := by
      simp [q]
    refine seq_nx k2 ?_
    rw [a_sSeq, a_sIf]
    simp [cB, isN_t, c1]
  · rw [if_neg z] at q
    have k2 : (sSet 2 (eCall 1 F_fraction_by [] (aCons (eVarV 1) aNil))) [some (rtV a b c), some (rtV a b c), none, none, none, none, none, none, none, none, none, none, none] σ = some (.nx (oV .none none none none none none none none none none none a b c a b c) σ) := by
      simp [q]
    have k3 : (sIf (bB (eBin (cB gNotN) (eVar 2) (eCon (.none))))
  (sRet (eCall 2 F_compare_by [] (aCons (eVarV 0) (aCons (eVarV 2) aNil))))
  sNil) (oV .none none none none none none none none none none none a b c a b c) σ = some (.nx (oV .none none none none none none none none none none none a b c a b c) σ) := by
      simp [cB, gNotN]
    have k4 : (sSet 2 (eCall 1 F_fraction_by [] (aCons (eVarV 0) aNil))) (oV .none none none none none none none none none none none a b c a b c) σ = some (.nx (oV .none none none none none none none none none none none a b c a b c) σ) := by
      simp [q]
    have k5 : (sIf (bB (eBin (cB gNotN) (eVar 2) (eCon (.none))))
  (sRet (eUn gNeg (eCall 2 F_compare_by [] (aCons (eVarV 1) (aCons (eVarV 2) aNil)))))
  sNil) (oV .none none none none none none none none none none none a b c a b c) σ = some (.nx (oV .none none none none none none none none none none none a b c a b c) σ) := by
      simp [cB, gNotN]
    have k6 : (sAsg (gTp 4 (gsCons (gNm 3) (gsCons (gNm 4) (gsCons (gNm 5) (gsCons (gNm 6) gsNil))))) (eVarV 0)) (oV .none none none none none none none none none none none a b c a b c) σ = some (.nx (oV .none (some (.d (.str "root"))) (iv a) (iv b) (iv c) none none none none none none a b c a b c) σ) := by
      simp
    have k7 : (sAsg (gTp 4 (gsCons (gNm 3) (gsCons (gNm 7) (gsCons (gNm 8) (gsCons (gNm 9) gsNil))))) (eVarV 1)) (oV .none (some (.d (.str "root"))) (iv a) (iv b) (iv c) none none none none none none a b c a b c) σ = some (.nx (oV .none (some (.d (.str "root"))) (iv a) (iv b) (iv c) (iv a) (iv b) (iv c) none none none a b c a b c) σ) := by
      simp
    obtain ⟨na, nb, nc⟩ := h.n
    have m1 := nb.ok na (by decide +kernel) (by decide +kernel)
    have m2 := na.ok nb (by decide +kernel) (by decide +kernel)
    have m3 := nc.ok na (by decide +kernel) (by decide +kernel)
    have m4 := na.ok nc (by decide +kernel) (by decide +kernel)
    have z1 : b * a - a * b = 0 := by grind
    have z2 : c * a - a * c = 0 := by grind
    have k8 : (sSet 10 (eBin gSub (eBin gMulA (eVar 5) (eVar 7)) (eBin gMulA (eVar 4) (eVar 8)))) (oV .none (some (.d (.str "root"))) (iv a) (iv b) (iv c) (iv a) (iv b) (iv c) none none none a b c a b c) σ = some (.nx (oV .none (some (.d (.str "root"))) (iv a) (iv b) (iv c) (iv a) (iv b) (iv c) (iv 0) none none a b c a b c) σ) := by
      rw [← z1]
      simp [m1, m2]
    have k9 : (sSet 11 (eBin gSub (eBin gMulA (eVar 6) (eVar 7)) (eBin gMulA (eVar 4) (eVar 9)))) (oV .none (some (.d (.str "root"))) (iv a) (iv b) (iv c) (iv a) (iv b) (iv c) (iv 0) none none a b c a b c) σ = some (.nx (oV .none (some (.d (.str "root"))) (iv a) (iv b) (iv c) (iv a) (iv b) (iv c) (iv 0) (iv 0) none a b c a b c) σ) := by
      have : (sSet 11 (eBin gSub (eBin gMulA (eVar 6) (eVar 7)) (eBin gMulA (eVar 4) (eVar 9)))) (oV .none (some (.d (.str "root"))) (iv a) (iv b) (iv c) (iv a) (iv b) (iv c) (iv 0) none none a b c a b c) σ = some (.nx (oV .none (some (.d (.str "root"))) (iv a) (iv b) (iv c) (iv a) (iv b) (iv c) (iv 0) (iv (c * a - a * c)) none a b c a b c) σ) := by
        simp [m3, m4]
      rw [this, z2]
    have sg := sign1 0 σ
    refine seq_nx k2 (seq_nx k3 (seq_nx k4 (seq_nx k5 (seq_nx k6 (seq_nx k7 (seq_nx k8 (seq_nx k9 ?_)))))))
    have k10 : (sIf (bB (eBin (cB gEq) (eVar 10) (eCon (.int 0))))
  (sSet 12 (eCall 1 F_sign [] (aCons (eTup (aCons (eVarV 11) (aCons (eCon (.int 1)) aNil))) aNil)))
  (sSet 12 (eBin gMulA (eCall 1 F_sign [] (aCons (eTup (aCons (eVarV 10) (aCons (eCon (.int 1)) aNil))) aNil)) (eCall 2 F_compare_by [] (aCons (eVarV 1) (aCons (eCall 2 F_fraction [] (aCons (eUn gNeg (eVar 11)) (aCons (eVarV 10) aNil))) aNil)))))) (oV .none (some (.d (.str "root"))) (iv a) (iv b) (iv c) (iv a) (iv b) (iv c) (iv 0) (iv 0) none a b c a b c) σ = some (.nx (oV .none (some (.d (.str "root"))) (iv a) (iv b) (iv c) (iv a) (iv b) (iv c) (iv 0) (iv 0) (iv 0) a b c a b c) σ) := by
      have z0 : sgn 0 = 0 := rfl
      rw [z0] at sg
      simp [cB, sg, sizeLine_eq]
    refine seq_nx k10 ?_
    simp
theorem compare_eq (h : Ro a b c) {p q : Int} (hq : 0 < q) (hg : Int.gcd p q = 1) (hp1 : Bn (10 ^ 60) p) (hq1 : Bn (10 ^ 60) q) (σ : Sto) : G.F_compare [rtV a b c, fr p q] σ = some (.ok (.d (.int (cmpI a b c p q))) σ) := by
  have l := h.look σ
  have n := is_number_eq p q hq σ
  rw [hg] at n
  simp only [decide_true] at n
  have k := cmp_s h hp1 hq1 σ
  unfold G.F_compare runF rho0 G.f_compare
  simp [l, n, k]
end
end M

end
section
set_option Elab.async false
set_option linter.all false
set_option maxRecDepth 100000
namespace M
open PySem PySem.Spec PyProof.Rows L2 VL G
/-! a comprehension over mapped items -/
theorem compL_mapF {α : Type} {tf : TgF} {elt : Rho → Mo SV} {ρ : Rho} {S : Sto} (f g : α → SV) : ∀ (l : List α) (acc : List SV), (∀ a ∈ l, ∃ ρ', tf (f a) ρ = some ρ' ∧ elt ρ' S = some (.ok (g a) S)) → acc.length + l.length ≤ sizeLine →
    compL tf bYes elt ρ (l.map f) acc S = some (.ok (acc ++ l.map g) S)
  | [], acc, _, _ => by simp [compL]
  | a :: l, acc, h, hl => by
    obtain ⟨ρ', ht, h2⟩ := h a List.mem_cons_self
    rw [List.length_cons] at hl
    have ih := compL_mapF f g l (acc ++ [g a]) (fun z m => h z (List.mem_cons_of_mem _ m)) (by simp; omega)
    have h1 : bYes ρ' S = some (.ok true S) := rfl
    rw [List.map_cons]
    unfold compL
    simp only [ht, h1, h2]
    rw [if_pos (by omega), ih]
    simp
theorem eLc_mapF {α : Type} {it : Rho → Mo (List SV)} {tf : TgF} {elt : Rho → Mo SV} {vs : List Nat} {ρ : Rho} {S : Sto} {l : List α} (f g : α → SV) (hi : it ρ S = some (.ok (l.map f) S)) (h : ∀ a ∈ l, ∃ ρ', tf (f a) (wipeR ρ vs) = some ρ' ∧ elt ρ' S = some (.ok (g a) S)) (hl : l.length ≤ sizeLine) :
    eLc it tf bYes elt vs ρ S = some (.ok (.own (l.map g)) S) := by
  unfold eLc
  rw [hi]
  have := compL_mapF (tf := tf) (elt := elt) (ρ := wipeR ρ vs) (S := S) f g l [] h (by simpa using hl)
  simp only [bindM_ok, this]
  simp

abbrev qD (a b c d : Rat) : PyData := .tuple [rD a, rD b, rD c, rD d]
theorem br_of {m : Nat} {x : Rat} (h : Bd m x) (l : m ≤ 10 ^ 120) : Br x := h.mono l
theorem product_eq {a b c d e f g h : Rat} {n : Nat} (ha : Bd n a) (hb : Bd n b) (hc : Bd n c) (hd : Bd n d) (he : Bd 7 e) (hf : Bd 7 f) (hg : Bd 7 g) (hh : Bd 7 h) (hn : n ≤ 10 ^ 20) (S : Sto) :
    G.F_product [.d (qD a b c d), .d (qD e f g h)] S = some (.ok (.d (qD (a * e + b * g) (a * f + b * h) (c * e + d * g) (c * f + d * h))) S) := by
  have l1 : n ≤ 10 ^ 120 := Nat.le_trans hn (by decide +kernel)
  have l7 : 7 ≤ 10 ^ 120 := by decide +kernel
  have l2 : n * 7 ≤ 10 ^ 120 := Nat.le_trans (Nat.mul_le_mul_right 7 hn) (by decide +kernel)
  have t : ∀ {x y : Rat}, Bd n x → Bd 7 y → G.F_times [rv x, rv y] S = some (.ok (rv (x * y)) S) := fun hx hy => times_r (br_of hx l1) (br_of hy l7) S
  have p : ∀ {x y z w : Rat}, Bd n x → Bd 7 y → Bd n z → Bd 7 w → G.F_plus [rv (x * y), rv (z * w)] S = some (.ok (rv (x * y + z * w)) S) := fun hx hy hz hw => plus_r (br_of (bd_mul hx hy) l2) (br_of (bd_mul hz hw) l2) S
  have t1 := t ha he
  have t2 := t hb hg
  have t3 := t ha hf
  have t4 := t hb hh
  have t5 := t hc he
  have t6 := t hd hg
  have t7 := t hc hf
  have t8 := t hd hh
  have p1 := p ha he hb hg
  have p2 := p ha hf hb hh
  have p3 := p hc he hd hg
  have p4 := p hc hf hd hh
  clear t p
  unfold G.F_product runF rho0 G.f_product
  generalize a * e + b * g = s1 at *
  generalize a * f + b * h = s2 at *
  generalize c * e + d * g = s3 at *
  generalize c * f + d * h = s4 at *
  generalize a * e = x1 at *
  generalize b * g = x2 at *
  generalize a * f = x3 at *
  generalize b * h = x4 at *
  generalize c * e = x5 at *
  generalize d * g = x6 at *
  generalize c * f = x7 at *
  generalize d * h = x8 at *
  generalize rD a = da at *
  generalize rD b = db at *
  generalize rD c = dc at *
  generalize rD d = dd at *
  generalize rD e = de at *
  generalize rD f = df at *
  generalize rD g = dg at *
  generalize rD h = dh at *
  simp [t1, t2, t3, t4, t5, t6, t7, t8, p1, p2, p3, p4, sizeLine_eq, gAdd]
/-! the matrix of a ladder, as the program makes it -/
abbrev fq (x q : Int) : Rat := Rat.divInt x q
abbrev eD (m : Mx) (q : Int) : PyData := qD (fq m.a q) (fq m.b q) (fq m.c q) (fq m.d q)
theorem fq_bd {x q : Int} {n : Nat} (hq : q ≠ 0) (h1 : x.natAbs ≤ n) (h2 : q.natAbs ≤ n) : Bd n (fq x q) := by
  have := divInt_le (p := x) hq
  exact ⟨Nat.le_trans this.1 h1, Nat.le_trans this.2 h2⟩
structure OkM (m : Mx) (q : Int) (n : Nat) : Prop where
  a : 0 ≤ m.a
  b : 0 ≤ m.b
  c : 0 ≤ m.c
  d : 0 ≤ m.d
  q0 : 0 < q
  s : sum4 m * 7 ^ n ≤ 10000000000
  t : q * 7 ^ n ≤ 10000000000
theorem OkM.le {m : Mx} {q : Int} {n : Nat} (h : OkM m q n) : m.a ≤ 10000000000 ∧ m.b ≤ 10000000000 ∧ m.c ≤ 10000000000 ∧ m.d ≤ 10000000000 ∧ q ≤ 10000000000 := by
  have ha := h.a
  have hb := h.b
  have hc := h.c
  have hd := h.d
  have q0 := h.q0
  have hs := h.s
  have ht := h.t
  have p : (0 : Int) < 7 ^ n := Int.pow_pos (by omega)
  have s0 : 0 ≤ sum4 m := by unfold sum4; omega
  have k1 := Int.mul_nonneg s0 (show 0 ≤ (7 : Int) ^ n - 1 by omega)
  have k2 := Int.mul_nonneg (Int.le_of_lt q0) (show 0 ≤ (7 : Int) ^ n - 1 by omega)
  have k3 : sum4 m ≤ 10000000000 := by grind
  have k4 : q ≤ 10000000000 := by grind
  unfold sum4 at k3
  omega
theorem OkM.step {m : Mx} {q : Int} {n : Nat} (h : OkM m q (n + 1)) {p : Pt} (hr : 0 < p.2) (h7 : p.2.num + p.2.den ≤ 7) : OkM (mul m (mp p)) (q * p.2.den) n := by
  obtain ⟨w, r⟩ := p
  have hr : 0 < r := hr
  have h7 : r.num + r.den ≤ 7 := h7
  have p0 := npos hr
  have q0 := dpos r
  have ha := h.a
  have hb := h.b
  have hc := h.c
  have hd := h.d
  have hq := h.q0
  have hs := h.s
  have ht := h.t
  rw [Int.pow_succ] at hs ht
  have pp : (0 : Int) < 7 ^ n := Int.pow_pos (by omega)
  have e1 := Int.mul_nonneg (Int.le_of_lt p0) ha
  have e2 := Int.mul_nonneg (Int.le_of_lt p0) hb
  have e3 := Int.mul_nonneg (Int.le_of_lt p0) hc
  have e4 := Int.mul_nonneg (Int.le_of_lt p0) hd
  have e5 := Int.mul_nonneg (Int.le_of_lt q0) ha
  have e6 := Int.mul_nonneg (Int.le_of_lt q0) hb
  have e7 := Int.mul_nonneg (Int.le_of_lt q0) hc
  have e8 := Int.mul_nonneg (Int.le_of_lt q0) hd
  have s0 : 0 ≤ sum4 m := by unfold sum4; omega
  have k0 := Int.mul_nonneg (show 0 ≤ 7 - (r.num + r.den) by omega) s0
  have k : sum4 (mul m (mp (w, r))) ≤ 7 * sum4 m := by
    cases w <;> simp only [sum4, mul, mp, if_true, if_false, Bool.false_eq_true] at * <;> grind
  have k1 := Int.mul_nonneg (show 0 ≤ 7 * sum4 m - sum4 (mul m (mp (w, r))) by omega) (Int.le_of_lt pp)
  have k2 := Int.mul_nonneg (Int.mul_nonneg (Int.le_of_lt hq) (show 0 ≤ 7 - (r.den : Int) by omega)) (Int.le_of_lt pp)
  have hqr := Int.mul_pos hq q0
  cases w
  · refine ⟨?_, ?_, ?_, ?_, hqr, by grind, by grind⟩ <;> simp only [mul, mp, if_false, Bool.false_eq_true] <;> grind
  · refine ⟨?_, ?_, ?_, ?_, hqr, by grind, by grind⟩ <;> simp only [mul, mp, if_true] <;> grind
theorem fq_div (x q : Int) : fq x q = (x : Rat) / (q : Rat) := Rat.divInt_eq_div x q
theorem g7_bd {r : Rat} (hr : 0 < r) (h7 : r.num + r.den ≤ 7) : Bd 7 r := by
  have := npos hr
  have := dpos r
  exact ⟨by omega, by omega⟩
theorem bd70 : Bd 7 (0 : Rat) := ⟨by decide, by decide⟩
theorem bd71 : Bd 7 (1 : Rat) := ⟨by decide, by decide⟩
noncomputable abbrev ebB : Rho → Sto → Option VL.Fl := (sIf (bB (eBin (cB gEq) (eVar 2) (eCon (.str "row"))))
  (sSet 1 (eCall 2 F_product [] (aCons (eVarV 1) (aCons (eTup (aCons (eCon (.tuple [.int 1, .int 1])) (aCons (eVarV 3) (aCons (eCon (.tuple [.int 0, .int 1])) (aCons (eCon (.tuple [.int 1, .int 1])) aNil))))) aNil))))
  (sSet 1 (eCall 2 F_product [] (aCons (eVarV 1) (aCons (eTup (aCons (eVarV 3) (aCons (eCon (.tuple [.int 0, .int 1])) (aCons (eCon (.tuple [.int 1, .int 1])) (aCons (eVarV 3) aNil))))) aNil)))))
abbrev eR (l : Option SV) (f : PyData) (u v : Option SV) (t : List (Option SV)) : Rho := l :: some (.d f) :: u :: v :: t
theorem ebB_eq {m : Mx} {q : Int} {n : Nat} (h : OkM m q (n + 1)) {p : Pt} (hr : 0 < p.2) (h7 : p.2.num + p.2.den ≤ 7) (l : Option SV) (t : List (Option SV)) (S : Sto) :
    ebB (eR l (eD m q) (some (.d (.str (wS p.1)))) (some (rv p.2)) t) S = some (.nx (eR l (eD (mul m (mp p)) (q * p.2.den)) (some (.d (.str (wS p.1)))) (some (rv p.2)) t) S) := by
  obtain ⟨la, lb, lc', ld, lq⟩ := h.le
  have ha := h.a
  have hb := h.b
  have hc := h.c
  have hd := h.d
  have hq := h.q0
  have b1 : Bd 10000000000 (fq m.a q) := fq_bd (by omega) (by omega) (by omega)
  have b2 : Bd 10000000000 (fq m.b q) := fq_bd (by omega) (by omega) (by omega)
  have b3 : Bd 10000000000 (fq m.c q) := fq_bd (by omega) (by omega) (by omega)
  have b4 : Bd 10000000000 (fq m.d q) := fq_bd (by omega) (by omega) (by omega)
  obtain ⟨w, r⟩ := p
  have hr : 0 < r := hr
  have h7 : r.num + r.den ≤ 7 := h7
  have br := g7_bd hr h7
  have q1 : (q : Rat) ≠ 0 := by
    have : (0 : Rat) < (q : Rat) := Rat.intCast_pos.mpr hq
    grind
  have q2 : (r.den : Rat) ≠ 0 := by
    have : (0 : Rat) < (r.den : Rat) := Rat.natCast_pos.mpr (Nat.pos_of_ne_zero r.den_nz)
    grind
  have er := rat_nd r
  have c1 : ((r.den : Int) : Rat) = (r.den : Rat) := rfl
  have k : ∀ x y z : Int, ((x : Rat) / (q : Rat)) * r + ((y : Rat) / (q : Rat)) = ((x * r.num + y * r.den : Int) : Rat) / ((q * r.den : Int) : Rat) := by
    intro x y z
    rw [Rat.intCast_add, Rat.intCast_mul, Rat.intCast_mul, Rat.intCast_mul, c1]
    conv => lhs; rw [er]
    generalize (r.num : Rat) = p at *
    generalize (r.den : Rat) = d at *
    generalize (q : Rat) = q at *
    clear er
    grind
  have k1 : ∀ x : Int, (x : Rat) / (q : Rat) = ((x * r.den : Int) : Rat) / ((q * r.den : Int) : Rat) := by
    intro x
    rw [Rat.intCast_mul, Rat.intCast_mul, c1]
    generalize (r.den : Rat) = d at *
    generalize (q : Rat) = q at *
    grind
  have k2 : ∀ x : Int, ((x : Rat) / (q : Rat)) * r = ((x * r.num : Int) : Rat) / ((q * r.den : Int) : Rat) := by
    intro x
    rw [Rat.intCast_mul, Rat.intCast_mul, c1]
    conv => lhs; rw [er]
    generalize (r.num : Rat) = p at *
    generalize (r.den : Rat) = d at *
    generalize (q : Rat) = q at *
    clear er
    grind
  cases w
  · have pe := product_eq b1 b2 b3 b4 br bd70 bd71 br (by decide +kernel) S
    have e1 : fq m.a q * r + fq m.b q * 1 = fq (mul m (mp (false, r))).a (q * r.den) := by
      simp only [fq_div, mul, mp, if_false, Bool.false_eq_true]
      rw [Rat.mul_one]
      exact k _ _ 0
    have e2 : fq m.a q * 0 + fq m.b q * r = fq (mul m (mp (false, r))).b (q * r.den) := by
      simp only [fq_div, mul, mp, if_false, Bool.false_eq_true]
      rw [Rat.mul_zero, Rat.zero_add, k2, Int.mul_zero, Int.zero_add]
    have e3 : fq m.c q * r + fq m.d q * 1 = fq (mul m (mp (false, r))).c (q * r.den) := by
      simp only [fq_div, mul, mp, if_false, Bool.false_eq_true]
      rw [Rat.mul_one]
      exact k _ _ 0
    have e4 : fq m.c q * 0 + fq m.d q * r = fq (mul m (mp (false, r))).d (q * r.den) := by
      simp only [fq_div, mul, mp, if_false, Bool.false_eq_true]
      rw [Rat.mul_zero, Rat.zero_add, k2, Int.mul_zero, Int.zero_add]
    rw [e1, e2, e3, e4] at pe
    have pe : G.F_product [.d (eD m q), .d (.tuple [rD r, .tuple [.int 0, .int 1], .tuple [.int 1, .int 1], rD r])] S = some (.ok (.d (eD (mul m (mp (false, r))) (q * r.den))) S) := pe
    unfold ebB
    show _ = some (Fl.nx (eR l (eD (mul m (mp (false, r))) (q * r.den)) _ _ t) S)
    generalize eD (mul m (mp (false, r))) (q * r.den) = X at *
    generalize eD m q = Y at *
    simp [cB, gEq, pe, sizeLine_eq]
  · have pe := product_eq b1 b2 b3 b4 bd71 br bd70 bd71 (by decide +kernel) S
    have e1 : fq m.a q * 1 + fq m.b q * 0 = fq (mul m (mp (true, r))).a (q * r.den) := by
      simp only [fq_div, mul, mp, if_true]
      rw [Rat.mul_one, Rat.mul_zero, Rat.add_zero, Int.mul_zero, Int.add_zero]
      exact k1 _
    have e2 : fq m.a q * r + fq m.b q * 1 = fq (mul m (mp (true, r))).b (q * r.den) := by
      simp only [fq_div, mul, mp, if_true]
      rw [Rat.mul_one]
      exact k _ _ 0
    have e3 : fq m.c q * 1 + fq m.d q * 0 = fq (mul m (mp (true, r))).c (q * r.den) := by
      simp only [fq_div, mul, mp, if_true]
      rw [Rat.mul_one, Rat.mul_zero, Rat.add_zero, Int.mul_zero, Int.add_zero]
      exact k1 _
    have e4 : fq m.c q * r + fq m.d q * 1 = fq (mul m (mp (true, r))).d (q * r.den) := by
      simp only [fq_div, mul, mp, if_true]
      rw [Rat.mul_one]
      exact k _ _ 0
    rw [e1, e2, e3, e4] at pe
    have pe : G.F_product [.d (eD m q), .d (.tuple [.tuple [.int 1, .int 1], rD r, .tuple [.int 0, .int 1], .tuple [.int 1, .int 1]])] S = some (.ok (.d (eD (mul m (mp (true, r))) (q * r.den))) S) := pe
    unfold ebB
    show _ = some (Fl.nx (eR l (eD (mul m (mp (true, r))) (q * r.den)) _ _ t) S)
    generalize eD (mul m (mp (true, r))) (q * r.den) = X at *
    generalize eD m q = Y at *
    simp [cB, gEq, pe, sizeLine_eq]
def Qp : List Pt → Int
  | [] => 1
  | p :: ps => p.2.den * Qp ps
theorem Qp_pos : ∀ ps : List Pt, 0 < Qp ps
  | [] => by decide
  | p :: ps => Int.mul_pos (dpos p.2) (Qp_pos ps)
theorem eb_loop (l : Option SV) (t : List (Option SV)) (S : Sto) : ∀ (qs : List Pt) (m : Mx) (q : Int) (u v : Option SV), G7 qs → OkM m q qs.length → ∃ u' v',
    forL (gTp 2 (gsCons (gNm 2) (gsCons (gNm 3) gsNil))) ebB (qs.map fun p => SV.d (ptD p)) (eR l (eD m q) u v t) S = some (.nx (eR l (eD (mul m (mm qs)) (q * Qp qs)) u' v' t) S)
  | [], m, q, u, v, _, _ => ⟨u, v, by rw [mm_nil, mul_one', show q * Qp [] = q from Int.mul_one q]; rfl⟩
  | p :: qs, m, q, u, v, g, ok => by
    obtain ⟨hr, h7⟩ := g p List.mem_cons_self
    have e := ebB_eq ok hr h7 l t S
    obtain ⟨u', v', h⟩ := eb_loop l t S qs (mul m (mp p)) (q * p.2.den) (some (.d (.str (wS p.1)))) (some (rv p.2)) g.tail (ok.step hr h7)
    refine ⟨u', v', ?_⟩
    have tg : gTp 2 (gsCons (gNm 2) (gsCons (gNm 3) gsNil)) (SV.d (ptD p)) (eR l (eD m q) u v t) = some (eR l (eD m q) (some (.d (.str (wS p.1)))) (some (rv p.2)) t) := rfl
    rw [List.map_cons]
    unfold forL
    rw [tg]
    simp only [e]
    rw [h, mm_cons, mul_assoc', show q * Qp (p :: qs) = q * p.2.den * Qp qs from (Int.mul_assoc ..).symm]
end M

end
section
set_option Elab.async false
set_option linter.all false
set_option maxRecDepth 100000
namespace M
open PySem PySem.Spec PyProof.Rows L2 VL G

section
variable {R1 R2 R3 : Rat} {l s1 s2 s3 s4 s5 s6 s7 : Option SV} {σ : Sto}
abbrev scI (R1 R2 R3 : Rat) : Int := 1 * (R1.den : Int) * R2.den * R3.den
abbrev wI (R1 R2 R3 R : Rat) : Int := R.num * (scI R1 R2 R3 / R.den)
def Bq (x : Rat) : Prop := Bd (10 ^ 30) x
theorem Bq.n {x : Rat} (h : Bq x) : Bn (10 ^ 30) x.num := h.1
theorem Bq.d {x : Rat} (h : Bq x) : Bn (10 ^ 30) (x.den : Int) := h.2
theorem sc_bn (h1 : Bq R1) (h2 : Bq R2) (h3 : Bq R3) : Bn (1 * 10 ^ 30 * 10 ^ 30 * 10 ^ 30) (scI R1 R2 R3) := (((show Bn 1 1 by unfold Bn; decide).mul h1.d).mul h2.d).mul h3.d
theorem sc_pos : 0 < scI R1 R2 R3 := Int.mul_pos (Int.mul_pos (Int.mul_pos (by omega) (dpos R1)) (dpos R2)) (dpos R3)
noncomputable abbrev e5 : Rho → Sto → Option VL.Fl := (ghF [8] (sFor (iSeq (eVarV 8)) (gTp 2 (gsCons (gNm 10) (gsCons (gNm 11) gsNil)))
  (sSet 9 (eBin gMulA (eVar 9) (eVar 11)))))
theorem scale_eq (h1 : Bq R1) (h2 : Bq R2) (h3 : Bq R3) : ∃ z10 z11, e5 [l, s1, s2, s3, s4, s5, s6, s7, some (.own [rv R1, rv R2, rv R3]), iv 1, none, none, none, none, none, none] σ = some (.nx [l, s1, s2, s3, s4, s5, s6, s7, some (.d (.list [rD R1, rD R2, rD R3])), iv (scI R1 R2 R3), z10, z11, none, none, none, none] σ) := by
  have m1 := (show Bn 1 1 by unfold Bn; decide).ok h1.d (by decide +kernel) (by decide +kernel)
  have m2 := ((show Bn 1 1 by unfold Bn; decide).mul h1.d).ok h2.d (by decide +kernel) (by decide +kernel)
  have m3 := (((show Bn 1 1 by unfold Bn; decide).mul h1.d).mul h2.d).ok h3.d (by decide +kernel) (by decide +kernel)
  have fz : frz (.own [rv R1, rv R2, rv R3]) = some (.d (.list [rD R1, rD R2, rD R3])) := by
    simp [frz, datO]
  have bd : ∀ (R : Rat) (x : Int) (y z : Option SV), mulOk x R.den = true → (sSet 9 (eBin gMulA (eVar 9) (eVar 11))) [l, s1, s2, s3, s4, s5, s6, s7, some (.d (.list [rD R1, rD R2, rD R3])), iv x, iv R.num, iv R.den, none, none, none, none] σ = some (.nx [l, s1, s2, s3, s4, s5, s6, s7, some (.d (.list [rD R1, rD R2, rD R3])), iv (x * R.den), iv R.num, iv R.den, none, none, none, none] σ) := by
    intro R x y z hm
    simp [hm]
  have tg : ∀ (R : Rat) (x y z : Option SV), gTp 2 (gsCons (gNm 10) (gsCons (gNm 11) gsNil)) (rv R) [l, s1, s2, s3, s4, s5, s6, s7, some (.d (.list [rD R1, rD R2, rD R3])), x, y, z, none, none, none, none] = some [l, s1, s2, s3, s4, s5, s6, s7, some (.d (.list [rD R1, rD R2, rD R3])), x, iv R.num, iv R.den, none, none, none, none] := fun _ _ _ _ => rfl
  refine ⟨iv R3.num, iv R3.den, ?_⟩
  unfold e5
  unfold ghF
  simp only [List.getElem?_cons_succ, List.getElem?_cons_zero, fz, List.set_cons_succ, List.set_cons_zero]
  unfold ghF
  have it : VL.iSeq (eVarV 8) [l, s1, s2, s3, s4, s5, s6, s7, some (.d (.list [rD R1, rD R2, rD R3])), iv 1, none, none, none, none, none, none] σ = some (.ok [rv R1, rv R2, rv R3] σ) := by
    simp
  rw [a_sFor, it, bindS_ok]
  unfold forL
  rw [tg]
  simp only [bd R1 1 none none m1]
  unfold forL
  rw [tg]
  simp only [bd R2 _ none none m2]
  unfold forL
  rw [tg]
  simp only [bd R3 _ none none m3]
  rfl
noncomputable abbrev e6 : Rho → Sto → Option VL.Fl := (sSet 12 (eLc (iSeq (eVar 8)) (gTp 2 (gsCons (gNm 14) (gsCons (gNm 11) gsNil))) bYes (eBin gMulA (eVar 14) (eBin gFdiv (eVar 9) (eVar 11))) [14, 11]))
abbrev wL (R1 R2 R3 : Rat) : List SV := [.d (.int (wI R1 R2 R3 R1)), .d (.int (wI R1 R2 R3 R2)), .d (.int (wI R1 R2 R3 R3))]
theorem bn_div {x y : Int} {n : Nat} (h : Bn n x) : Bn n (x / y) := Nat.le_trans (Int.natAbs_ediv_le_natAbs x y) h
theorem whole_list (h1 : Bq R1) (h2 : Bq R2) (h3 : Bq R3) (z10 z11 : Option SV) : e6 [l, s1, s2, s3, s4, s5, s6, s7, some (.d (.list [rD R1, rD R2, rD R3])), iv (scI R1 R2 R3), z10, z11, none, none, none, none] σ = some (.nx [l, s1, s2, s3, s4, s5, s6, s7, some (.d (.list [rD R1, rD R2, rD R3])), iv (scI R1 R2 R3), z10, z11, some (.own (wL R1 R2 R3)), none, none, none] σ) := by
  have sb := sc_bn h1 h2 h3
  have el : ∀ R : Rat, Bq R → (eBin gMulA (eVar 14) (eBin gFdiv (eVar 9) (eVar 11))) [l, s1, s2, s3, s4, s5, s6, s7, some (.d (.list [rD R1, rD R2, rD R3])), iv (scI R1 R2 R3), z10, iv R.den, none, none, iv R.num, none] σ = some (.ok (.d (.int (wI R1 R2 R3 R))) σ) := by
    intro R hR
    have d0 := dpos R
    have dv : divOk (scI R1 R2 R3) R.den = true := divOk_of d0 (by
      have := hR.d
      unfold Bn at this
      have k : (10 : Int) ^ 30 ≤ 10 ^ 240 := by decide +kernel
      refine Int.le_trans ?_ k
      have e : (10 : Int) ^ 30 = 1000000000000000000000000000000 := by decide +kernel
      have e2 : (10 : Nat) ^ 30 = 1000000000000000000000000000000 := by decide +kernel
      rw [e2] at this
      rw [e]
      omega)
    have fd := fdiv_pos (p := scI R1 R2 R3) d0
    have mk := hR.n.ok (bn_div (y := (R.den : Int)) sb) (by decide +kernel) (by decide +kernel)
    show _ = some (Res.ok (SV.d (.int (R.num * (scI R1 R2 R3 / R.den)))) σ)
    generalize rD R1 = d1
    generalize rD R2 = d2
    generalize rD R3 = d3
    generalize scI R1 R2 R3 = s at *
    simp [dv, fd, mk]
  have lc := eLc_mapF (S := σ) (ρ := [l, s1, s2, s3, s4, s5, s6, s7, some (.d (.list [rD R1, rD R2, rD R3])), iv (scI R1 R2 R3), z10, z11, none, none, none, none]) (vs := [14, 11]) (it := (VL.iSeq (eVar 8))) (tf := (gTp 2 (gsCons (gNm 14) (gsCons (gNm 11) gsNil)))) (elt := (eBin gMulA (eVar 14) (eBin gFdiv (eVar 9) (eVar 11)))) (l := [R1, R2, R3])
    (fun R => rv R) (fun R => SV.d (.int (wI R1 R2 R3 R))) (by simp) (fun R mR => by
      refine ⟨[l, s1, s2, s3, s4, s5, s6, s7, some (.d (.list [rD R1, rD R2, rD R3])), iv (scI R1 R2 R3), z10, iv R.den, none, none, iv R.num, none], rfl, el R ?_⟩
      simp only [List.mem_cons, List.not_mem_nil, or_false] at mR
      rcases mR with rfl | rfl | rfl
      · exact h1
      · exact h2
      · exact h3) (by rw [sizeLine_eq]; simp)
  unfold e6
  rw [a_sSet]
  erw [lc]
  rfl
end
end M

end
section
set_option Elab.async false
set_option linter.all false
set_option maxRecDepth 100000
namespace M
open PySem PySem.Spec PyProof.Rows L2 VL G

section
variable {w1 w2 w3 : Int} {l s1 s2 s3 s4 s5 s6 s7 s8 s9 s10 s11 : Option SV} {σ : Sto}
noncomputable abbrev e7 : Rho → Sto → Option VL.Fl := (ghF [12] (sSet 13 (eCall 1 F_greatest_divisor [] (aCons (eVarV 12) aNil))))
noncomputable abbrev e8 : Rho → Sto → Option VL.Fl := (ghF [12] (sRet (eBin gAdd (eTup (aCons (eCon (.str "root")) aNil)) (eCal gTuple (aCons (eLc (iSeq (eVar 12)) (gNm 15) bYes (eBin gFdiv (eVar 15) (eVar 13)) [15]) aNil)))))
theorem e78_eq (h1 : 0 < w1) (hb : Bn (10 ^ 150) w1) : sSeq e7 e8 [l, s1, s2, s3, s4, s5, s6, s7, s8, s9, s10, s11, some (.own [.d (.int w1), .d (.int w2), .d (.int w3)]), none, none, none] σ = some (.rt (rtV (w1 / (g3 w1 w2 w3 : Nat)) (w2 / (g3 w1 w2 w3 : Nat)) (w3 / (g3 w1 w2 w3 : Nat))) σ) := by
  have fz : frz (.own [.d (.int w1), .d (.int w2), .d (.int w3)]) = some (.d (.list [.int w1, .int w2, .int w3])) := by
    simp [frz, datO]
  have gd := lgd_eq w1 w2 w3 σ
  have g0 : (0 : Int) < (g3 w1 w2 w3 : Nat) := by have := g3_pos (b := w2) (c := w3) h1; omega
  have gl : ((g3 w1 w2 w3 : Nat) : Int) ≤ w1 := Int.le_of_dvd h1 (g3_dvd w1 w2 w3).1
  have dk : ∀ v : Int, divOk v (g3 w1 w2 w3 : Nat) = true := fun v => divOk_of g0 (by
    have k : (10 : Nat) ^ 150 ≤ 10 ^ 240 := by decide +kernel
    have k2 := Nat.le_trans hb k
    have k3 := Int.ofNat_le.mpr k2
    rw [Int.natCast_pow] at k3
    have k3 : ((w1.natAbs : Nat) : Int) ≤ 10 ^ 240 := k3
    have k4 : ((w1.natAbs : Nat) : Int) = w1 := by omega
    rw [k4] at k3
    exact Int.le_trans gl k3)
  have fd : ∀ v : Int, v.fdiv (g3 w1 w2 w3 : Nat) = v / (g3 w1 w2 w3 : Nat) := fun v => fdiv_pos g0
  have k7 : e7 [l, s1, s2, s3, s4, s5, s6, s7, s8, s9, s10, s11, some (.own [.d (.int w1), .d (.int w2), .d (.int w3)]), none, none, none] σ = some (.nx [l, s1, s2, s3, s4, s5, s6, s7, s8, s9, s10, s11, some (.d (.list [.int w1, .int w2, .int w3])), some (.d (.int (g3 w1 w2 w3 : Nat))), none, none] σ) := by
    unfold e7
    unfold ghF
    simp only [List.getElem?_cons_succ, List.getElem?_cons_zero, fz, List.set_cons_succ, List.set_cons_zero]
    unfold ghF
    simp [gd]
  refine seq_nx k7 ?_
  generalize hg : (((g3 w1 w2 w3 : Nat)) : Int) = g at *
  have lc := eLc_mapF (S := σ) (ρ := [l, s1, s2, s3, s4, s5, s6, s7, s8, s9, s10, s11, some (.d (.list [.int w1, .int w2, .int w3])), some (.d (.int g)), none, none]) (vs := [15]) (it := (VL.iSeq (eVar 12))) (tf := (gNm 15)) (elt := (eBin gFdiv (eVar 15) (eVar 13))) (l := [w1, w2, w3])
    (fun v => SV.d (.int v)) (fun v => SV.d (.int (v / g))) (by simp) (fun v mv => by
      refine ⟨[l, s1, s2, s3, s4, s5, s6, s7, s8, s9, s10, s11, some (.d (.list [.int w1, .int w2, .int w3])), some (.d (.int g)), none, some (.d (.int v))], rfl, ?_⟩
      simp [dk, fd]) (by rw [sizeLine_eq]; simp)
  simp only [List.map_cons, List.map_nil] at lc
  have fz2 : frz (.d (.list [.int w1, .int w2, .int w3])) = some (.d (.list [.int w1, .int w2, .int w3])) := rfl
  unfold e8
  unfold ghF
  simp only [List.getElem?_cons_succ, List.getElem?_cons_zero, fz2, List.set_cons_succ, List.set_cons_zero]
  unfold ghF
  have et : (eTup (aCons (eCon (.str "root")) aNil)) [l, s1, s2, s3, s4, s5, s6, s7, s8, s9, s10, s11, some (.d (.list [.int w1, .int w2, .int w3])), some (.d (.int g)), none, none] σ = some (.ok (.d (.tuple [.str "root"])) σ) := by simp [sizeLine_eq]
  have ec : (eCal gTuple (aCons (eLc (iSeq (eVar 12)) (gNm 15) bYes (eBin gFdiv (eVar 15) (eVar 13)) [15]) aNil)) [l, s1, s2, s3, s4, s5, s6, s7, s8, s9, s10, s11, some (.d (.list [.int w1, .int w2, .int w3])), some (.d (.int g)), none, none] σ = some (.ok (.d (.tuple [.int (w1 / g), .int (w2 / g), .int (w3 / g)])) σ) := by
    rw [a_eCal, a_aCons, lc]
    simp [gTuple, lst?, allD]
  rw [a_sRet, a_eBin, et, bindM_ok]
  erw [ec]
  simp [sizeLine_eq, gAdd]
end
/-! the endless root of a ladder -/
abbrev rA (m : Mx) : Int := m.c / (g3 m.c (m.d - m.a) (-m.b) : Nat)
abbrev rB (m : Mx) : Int := (m.d - m.a) / (g3 m.c (m.d - m.a) (-m.b) : Nat)
abbrev rC (m : Mx) : Int := (-m.b) / (g3 m.c (m.d - m.a) (-m.b) : Nat)
abbrev RT (m : Mx) : SV := rtV (rA m) (rB m) (rC m)
theorem fq_cross {x q : Int} (hq : 0 < q) : q * (fq x q).num = x * (fq x q).den := by
  have h := Rat.num_divInt_den (fq x q)
  have := (Rat.divInt_eq_divInt_iff (Int.ne_of_gt (dpos (fq x q))) (Int.ne_of_gt hq)).mp h
  rw [Int.mul_comm]
  exact this
theorem fq_sub {x y q : Int} (hq : 0 < q) : fq x q - fq y q = fq (x - y) q := by
  have q1 : (q : Rat) ≠ 0 := by
    have : (0 : Rat) < (q : Rat) := Rat.intCast_pos.mpr hq
    grind
  simp only [fq_div, Rat.intCast_sub]
  grind
theorem fq_neg {x q : Int} : (0 : Rat) - fq x q = fq (-x) q := by
  simp only [fq_div, Rat.intCast_neg]
  grind
theorem fq_one (x : Int) : rD (fq x 1) = .tuple [.int x, .int 1] := by
  have : fq x 1 = (x : Rat) := by
    rw [fq_div]
    grind
  rw [this]
  rfl
theorem Qp_le : ∀ {ps : List Pt}, G7 ps → Qp ps ≤ 7 ^ ps.length
  | [], _ => by decide
  | p :: ps, h => by
    have ih := Qp_le h.tail
    obtain ⟨hr, h7⟩ := h p List.mem_cons_self
    have p0 := npos hr
    have q0 := dpos p.2
    rw [List.length_cons, Int.pow_succ]
    have := Int.mul_nonneg (show 0 ≤ 7 - (p.2.den : Int) by omega) (Int.le_of_lt (Qp_pos ps))
    show (p.2.den : Int) * Qp ps ≤ _
    grind
theorem pow7 {n : Nat} (h : n ≤ 10) : (7 : Int) ^ n ≤ 282475249 := by
  have h : (7 : Nat) ^ n ≤ 7 ^ 10 := Nat.pow_le_pow_right (by decide) h
  have e : (7 : Nat) ^ 10 = 282475249 := by decide +kernel
  rw [e] at h
  have k := Int.ofNat_le.mpr h
  rw [Int.natCast_pow] at k
  exact k
theorem by_eq {ps : List Pt} (g : G7 ps) (hl : ps.length ≤ 10) (hc : 0 < (mm ps).c) (σ : Sto) : G.F_endless_by [.d (ladD ps)] σ = some (.ok (RT (mm ps)) σ) := by
  have p7 := pow7 hl
  have p0 : (0 : Int) < 7 ^ ps.length := Int.pow_pos (by omega)
  have ok : OkM oneM 1 ps.length := ⟨by decide, by decide, by decide, by decide, by decide, by show 2 * 7 ^ ps.length ≤ _; omega, by omega⟩
  obtain ⟨u', v', lp⟩ := eb_loop (some (.d (ladD ps))) [none, none, none, none, none, none, none, none, none, none, none, none] σ ps oneM 1 none none g ok
  rw [one_mul', Int.one_mul] at lp
  have qp := Qp_pos ps
  have ql := Qp_le g
  have sm := mm_sum g
  have nn := mm_nn g.pos
  have na := nn.a
  have nb := nn.b
  have nd := nn.d
  unfold sum4 at sm
  generalize mm ps = m at *
  generalize hQ : Qp ps = Q at *
  have bq : ∀ x : Int, -1000000000 ≤ x → x ≤ 1000000000 → Bd 1000000000 (fq x Q) := fun x h1 h2 => fq_bd (by omega) (by omega) (by omega)
  have b1 : Bq (fq m.c Q) := (bq m.c (by omega) (by omega)).mono (by decide +kernel)
  have b2 : Bq (fq (m.d - m.a) Q) := (bq (m.d - m.a) (by omega) (by omega)).mono (by decide +kernel)
  have b3 : Bq (fq (-m.b) Q) := (bq (-m.b) (by omega) (by omega)).mono (by decide +kernel)
  have c1 : Br (fq m.a Q) := (bq m.a (by omega) (by omega)).mono (by decide +kernel)
  have c2 : Br (fq m.b Q) := (bq m.b (by omega) (by omega)).mono (by decide +kernel)
  have c4 : Br (fq m.d Q) := (bq m.d (by omega) (by omega)).mono (by decide +kernel)
  have m1 := minus_r c4 c1 σ
  have m2 := minus_r (x := 0) (bd70.mono (by decide +kernel)) c2 σ
  rw [fq_sub qp] at m1
  rw [fq_neg] at m2
  have m2 : G.F_minus [.d (.tuple [.int 0, .int 1]), rv (fq m.b Q)] σ = some (.ok (rv (fq (-m.b) Q)) σ) := m2
  have k0 : (sSet 1 (eTup (aCons (eCon (.tuple [.int 1, .int 1])) (aCons (eCon (.tuple [.int 0, .int 1])) (aCons (eCon (.tuple [.int 0, .int 1])) (aCons (eCon (.tuple [.int 1, .int 1])) aNil)))))) [some (.d (ladD ps)), none, none, none, none, none, none, none, none, none, none, none, none, none, none, none] σ = some (.nx (eR (some (.d (ladD ps))) (eD oneM 1) none none [none, none, none, none, none, none, none, none, none, none, none, none]) σ) := by
    have e : eD oneM 1 = .tuple [.tuple [.int 1, .int 1], .tuple [.int 0, .int 1], .tuple [.int 0, .int 1], .tuple [.int 1, .int 1]] := by
      show PyData.tuple [rD (fq 1 1), rD (fq 0 1), rD (fq 0 1), rD (fq 1 1)] = _
      rw [fq_one, fq_one]
    rw [e]
    simp [sizeLine_eq]
  have k1 : (sFor (iSeq (eVarV 0)) (gTp 2 (gsCons (gNm 2) (gsCons (gNm 3) gsNil)))
  (sIf (bB (eBin (cB gEq) (eVar 2) (eCon (.str "row"))))
  (sSet 1 (eCall 2 F_product [] (aCons (eVarV 1) (aCons (eTup (aCons (eCon (.tuple [.int 1, .int 1])) (aCons (eVarV 3) (aCons (eCon (.tuple [.int 0, .int 1])) (aCons (eCon (.tuple [.int 1, .int 1])) aNil))))) aNil))))
  (sSet 1 (eCall 2 F_product [] (aCons (eVarV 1) (aCons (eTup (aCons (eVarV 3) (aCons (eCon (.tuple [.int 0, .int 1])) (aCons (eCon (.tuple [.int 1, .int 1])) (aCons (eVarV 3) aNil))))) aNil)))))) (eR (some (.d (ladD ps))) (eD oneM 1) none none [none, none, none, none, none, none, none, none, none, none, none, none]) σ = some (.nx (eR (some (.d (ladD ps))) (eD m Q) u' v' [none, none, none, none, none, none, none, none, none, none, none, none]) σ) := by
    rw [a_sFor, lad_seq 0 (eVarV 0) ps _ σ (by simp), bindS_ok]
    exact lp
  have k2 : (sAsg (gTp 4 (gsCons (gNm 4) (gsCons (gNm 5) (gsCons (gNm 6) (gsCons (gNm 7) gsNil))))) (eVarV 1)) (eR (some (.d (ladD ps))) (eD m Q) u' v' [none, none, none, none, none, none, none, none, none, none, none, none]) σ = some (.nx [some (.d (ladD ps)), some (.d (eD m Q)), u', v', some (rv (fq m.a Q)), some (rv (fq m.b Q)), some (rv (fq m.c Q)), some (rv (fq m.d Q)), none, none, none, none, none, none, none, none] σ) := rfl
  have k3 : (sSet 8 (eLst (aCons (eVarV 6) (aCons (eCall 2 F_minus [] (aCons (eVarV 7) (aCons (eVarV 4) aNil))) (aCons (eCall 2 F_minus [] (aCons (eCon (.tuple [.int 0, .int 1])) (aCons (eVarV 5) aNil))) aNil))))) [some (.d (ladD ps)), some (.d (eD m Q)), u', v', some (rv (fq m.a Q)), some (rv (fq m.b Q)), some (rv (fq m.c Q)), some (rv (fq m.d Q)), none, none, none, none, none, none, none, none] σ = some (.nx [some (.d (ladD ps)), some (.d (eD m Q)), u', v', some (rv (fq m.a Q)), some (rv (fq m.b Q)), some (rv (fq m.c Q)), some (rv (fq m.d Q)), some (.own [rv (fq m.c Q), rv (fq (m.d - m.a) Q), rv (fq (-m.b) Q)]), none, none, none, none, none, none, none] σ) := by
    generalize ladD ps = L
    generalize eD m Q = Y
    generalize rD (fq (m.d - m.a) Q) = d1 at *
    generalize rD (fq (-m.b) Q) = d2 at *
    generalize rD (fq m.a Q) = d3 at *
    generalize rD (fq m.b Q) = d4 at *
    generalize rD (fq m.c Q) = d5 at *
    generalize rD (fq m.d Q) = d6 at *
    simp [m1, m2, sizeLine_eq]
  have k4 : (sSet 9 (eCon (.int 1))) [some (.d (ladD ps)), some (.d (eD m Q)), u', v', some (rv (fq m.a Q)), some (rv (fq m.b Q)), some (rv (fq m.c Q)), some (rv (fq m.d Q)), some (.own [rv (fq m.c Q), rv (fq (m.d - m.a) Q), rv (fq (-m.b) Q)]), none, none, none, none, none, none, none] σ = some (.nx [some (.d (ladD ps)), some (.d (eD m Q)), u', v', some (rv (fq m.a Q)), some (rv (fq m.b Q)), some (rv (fq m.c Q)), some (rv (fq m.d Q)), some (.own [rv (fq m.c Q), rv (fq (m.d - m.a) Q), rv (fq (-m.b) Q)]), iv 1, none, none, none, none, none, none] σ) := by
    rfl
  obtain ⟨z10, z11, k5⟩ := scale_eq (l := some (.d (ladD ps))) (s1 := some (.d (eD m Q))) (s2 := u') (s3 := v') (s4 := some (rv (fq m.a Q))) (s5 := some (rv (fq m.b Q))) (s6 := some (rv (fq m.c Q))) (s7 := some (rv (fq m.d Q))) (σ := σ) b1 b2 b3
  have k6 := whole_list (l := some (.d (ladD ps))) (s1 := some (.d (eD m Q))) (s2 := u') (s3 := v') (s4 := some (rv (fq m.a Q))) (s5 := some (rv (fq m.b Q))) (s6 := some (rv (fq m.c Q))) (s7 := some (rv (fq m.d Q))) (σ := σ) b1 b2 b3 z10 z11
  have sp := sc_pos (R1 := fq m.c Q) (R2 := fq (m.d - m.a) Q) (R3 := fq (-m.b) Q)
  have sb := sc_bn b1 b2 b3
  have wk : ∀ x : Int, ((fq x Q).den : Int) ∣ scI (fq m.c Q) (fq (m.d - m.a) Q) (fq (-m.b) Q) → Q * wI (fq m.c Q) (fq (m.d - m.a) Q) (fq (-m.b) Q) (fq x Q) = scI (fq m.c Q) (fq (m.d - m.a) Q) (fq (-m.b) Q) * x := by
    intro x hd
    have e1 := Int.mul_ediv_cancel' hd
    have e2 := fq_cross (x := x) qp
    show Q * ((fq x Q).num * (scI _ _ _ / ((fq x Q).den : Int))) = _
    rw [← Int.mul_assoc, e2, Int.mul_assoc, e1, Int.mul_comm]
  have w1 := wk m.c ⟨((fq (m.d - m.a) Q).den : Int) * (fq (-m.b) Q).den, by show 1 * _ * _ * _ = _; rw [Int.one_mul, Int.mul_assoc]⟩
  have w2 := wk (m.d - m.a) ⟨((fq m.c Q).den : Int) * (fq (-m.b) Q).den, by show 1 * _ * _ * _ = _; grind⟩
  have w3 := wk (-m.b) ⟨((fq m.c Q).den : Int) * (fq (m.d - m.a) Q).den, by show 1 * _ * _ * _ = _; grind⟩
  have wb : Bn (10 ^ 150) (wI (fq m.c Q) (fq (m.d - m.a) Q) (fq (-m.b) Q) (fq m.c Q)) := (b1.n.mul (bn_div sb)).mono (by decide +kernel)
  have wp : 0 < wI (fq m.c Q) (fq (m.d - m.a) Q) (fq (-m.b) Q) (fq m.c Q) := pos_of_mul qp (by rw [w1]; exact Int.mul_pos sp hc)
  obtain ⟨t1, t2, t3⟩ := prim_eq qp sp hc w1 w2 w3
  have k78 := e78_eq (l := some (.d (ladD ps))) (s1 := some (.d (eD m Q))) (s2 := u') (s3 := v') (s4 := some (rv (fq m.a Q))) (s5 := some (rv (fq m.b Q))) (s6 := some (rv (fq m.c Q))) (s7 := some (rv (fq m.d Q))) (s8 := some (.d (.list [rD (fq m.c Q), rD (fq (m.d - m.a) Q), rD (fq (-m.b) Q)]))) (s9 := iv (scI (fq m.c Q) (fq (m.d - m.a) Q) (fq (-m.b) Q))) (s10 := z10) (s11 := z11) (σ := σ) (w2 := wI (fq m.c Q) (fq (m.d - m.a) Q) (fq (-m.b) Q) (fq (m.d - m.a) Q)) (w3 := wI (fq m.c Q) (fq (m.d - m.a) Q) (fq (-m.b) Q) (fq (-m.b) Q)) wp wb
  rw [t1, t2, t3] at k78
  have e1 : G.F_endless_by [.d (ladD ps)] σ = (match G.f_endless_by [some (.d (ladD ps)), none, none, none, none, none, none, none, none, none, none, none, none, none, none, none] σ with
      | some (.nx _ S') => some (.ok (.d .none) S')
      | some (.rt x S') => some (.ok x S')
      | some (.exc c fs _ S') => some (.exc c fs S')
      | _ => none) := rfl
  have e2 : G.f_endless_by [some (.d (ladD ps)), none, none, none, none, none, none, none, none, none, none, none, none, none, none, none] σ = some (.rt (RT m) σ) :=
    seq_nx k0 (seq_nx k1 (seq_nx k2 (seq_nx k3 (seq_nx k4 (seq_nx k5 (seq_nx k6 k78))))))
  rw [e1, e2]
end M

end
section
set_option Elab.async false
set_option linter.all false
set_option maxRecDepth 100000
namespace M
open PySem PySem.Spec PyProof.Rows L2 VL G

abbrev wordL (ps : List Pt) : List SV := ps.map fun p => SV.d (.str (wS p.1))
theorem wordL_d (ps : List Pt) : wordL ps = (ps.map fun p => PyData.str (wS p.1)).map SV.d := by
  rw [List.map_map]
  rfl
theorem can_words : ∀ ps : List Pt, PyData.canLayAll0 (ps.map fun p => PyData.str (wS p.1)) = true
  | [] => by simp [PyData.canLayAll0]
  | p :: ps => by
    have ih := can_words ps
    simp only [List.map_cons, PyData.canLayAll0, PyData.canLay0, wS_ok, ih]
    rfl
theorem depth_words : ∀ ps : List Pt, PyData.depthAll (ps.map fun p => PyData.str (wS p.1)) = 0
  | [] => by simp [PyData.depthAll]
  | p :: ps => by
    have ih := depth_words ps
    simp only [List.map_cons, PyData.depthAll, PyData.depth, ih]
    rfl
theorem in_words (ps : List Pt) (s : Str) (hs : PyData.strOk s = true) (S : Sto) : gIn S (.d (.str s)) (.own (wordL ps)) = some (ps.any fun p => wS p.1 == s) := by
  have h1 : dat? S (.own (wordL ps)) = some (.list (ps.map fun p => PyData.str (wS p.1))) := by
    rw [wordL_d]
    show (allD _).map PyData.list = _
    rw [allD_map]
    rfl
  have h2 : SeqAt.shaped (.list (ps.map fun p => PyData.str (wS p.1))) = true := by
    have e1 : (PyData.list (ps.map fun p => PyData.str (wS p.1))).canLay0 = PyData.canLayAll0 (ps.map fun p => PyData.str (wS p.1)) := by simp [PyData.canLay0]
    have e2 : (PyData.list (ps.map fun p => PyData.str (wS p.1))).depth = PyData.depthAll (ps.map fun p => PyData.str (wS p.1)) + 1 := by simp [PyData.depth]
    rw [shaped_def, e1, e2, can_words, depth_words]
    rfl
  unfold gIn
  rw [h1]
  simp only [dat_d, Option.bind_some, sh_str, hs, h2, Bool.and_self, if_true, List.any_map]
  congr 2
theorem notin_words (ps : List Pt) (s : Str) (hs : PyData.strOk s = true) (S : Sto) : gNotIn S (.d (.str s)) (.own (wordL ps)) = some (!(ps.any fun p => wS p.1 == s)) := by
  have h1 : dat? S (.own (wordL ps)) = some (.list (ps.map fun p => PyData.str (wS p.1))) := by
    rw [wordL_d]
    show (allD _).map PyData.list = _
    rw [allD_map]
    rfl
  have h2 : SeqAt.shaped (.list (ps.map fun p => PyData.str (wS p.1))) = true := by
    have e1 : (PyData.list (ps.map fun p => PyData.str (wS p.1))).canLay0 = PyData.canLayAll0 (ps.map fun p => PyData.str (wS p.1)) := by simp [PyData.canLay0]
    have e2 : (PyData.list (ps.map fun p => PyData.str (wS p.1))).depth = PyData.depthAll (ps.map fun p => PyData.str (wS p.1)) + 1 := by simp [PyData.depth]
    rw [shaped_def, e1, e2, can_words, depth_words]
    rfl
  unfold gNotIn
  rw [h1]
  simp only [dat_d, Option.bind_some, sh_str, hs, h2, Bool.and_self, if_true, List.any_map]
  congr 2

/-- both kinds of parts -/
structure Two (ps : List Pt) : Prop where
  g : G7 ps
  l1 : 1 ≤ ps.length
  l5 : ps.length ≤ 5
  r : ∃ p ∈ ps, p.1 = true
  b : ∃ p ∈ ps, p.1 = false
theorem seq_exc {s t : Rho → Sto → Option VL.Fl} {ρ ρ' : Rho} {S S' : Sto} {c : Str} {fs : List (Str × SV)} (h : s ρ S = some (.exc c fs ρ' S')) : sSeq s t ρ S = some (.exc c fs ρ' S') := by
  rw [a_sSeq, h]
theorem any_row {ps : List Pt} (h : ∃ p ∈ ps, p.1 = true) : (ps.any fun p => wS p.1 == "row") = true := by
  obtain ⟨p, m, e⟩ := h
  exact List.any_eq_true.mpr ⟨p, m, by rw [e]; decide +kernel⟩
theorem any_beside {ps : List Pt} (h : ∃ p ∈ ps, p.1 = false) : (ps.any fun p => wS p.1 == "beside") = true := by
  obtain ⟨p, m, e⟩ := h
  exact List.any_eq_true.mpr ⟨p, m, by rw [e]; decide +kernel⟩
theorem no_row {ps : List Pt} (h : ∀ p ∈ ps, p.1 = false) : (ps.any fun p => wS p.1 == "row") = false := by
  rw [Bool.eq_false_iff]
  intro k
  obtain ⟨p, m, e⟩ := List.any_eq_true.mp k
  rw [h p m] at e
  exact absurd e (by decide +kernel)
theorem no_beside {ps : List Pt} (h : ∀ p ∈ ps, p.1 = true) : (ps.any fun p => wS p.1 == "beside") = false := by
  rw [Bool.eq_false_iff]
  intro k
  obtain ⟨p, m, e⟩ := List.any_eq_true.mp k
  rw [h p m] at e
  exact absurd e (by decide +kernel)
section
variable {ps : List Pt} {σ : Sto}
noncomputable abbrev n1 : Rho → Sto → Option VL.Fl := (sSet 1 (eLc (iSeq (eVar 0)) (gTp 2 (gsCons (gNm 2) (gsCons (gNm 3) gsNil))) bYes (eVarV 2) [2, 3]))
theorem n1_eq (hl : ps.length ≤ 1000) (w : Option SV) (σ : Sto) : n1 [some (.d (ladD ps)), w, none, none] σ = some (.nx [some (.d (ladD ps)), some (.own (wordL ps)), none, none] σ) := by
  have c := eLc_mapF (S := σ) (ρ := [some (.d (ladD ps)), w, none, none]) (vs := [2, 3]) (it := VL.iSeq (eVar 0)) (tf := gTp 2 (gsCons (gNm 2) (gsCons (gNm 3) gsNil))) (elt := eVarV 2) (l := ps)
    (fun p => SV.d (ptD p)) (fun p => SV.d (.str (wS p.1))) (lad_seq 0 (eVar 0) ps _ σ (by simp)) (fun p m => by
      refine ⟨[some (.d (ladD ps)), w, some (.d (.str (wS p.1))), some (rv p.2)], rfl, ?_⟩
      simp) (Nat.le_trans hl (by rw [sizeLine_eq]; omega))
  unfold n1
  rw [a_sSet, c]
  rfl
noncomputable abbrev n2 : Rho → Sto → Option VL.Fl := (sIf (bOr (bB (eBin (cB gNotIn) (eCon (.str "row")) (eVar 1))) (bB (eBin (cB gNotIn) (eCon (.str "beside")) (eVar 1))))
  (sRaise "NoSuch")
  sNil)
theorem n0_eq (g : G7 ps) (l1 : 1 ≤ ps.length) (l2 : ps.length ≤ 12) (σ : Sto) : (sDrop (eCall 1 F_look_at_ladder [] (aCons (eVarV 0) aNil))) [some (.d (ladD ps)), none, none, none] σ = some (.nx [some (.d (ladD ps)), none, none, none] σ) := by
  have l := look_ok g.good l1 l2 σ
  simp [l]
theorem endless_run (σ : Sto) (x : PyData) : G.F_endless [.d x] σ = (match G.f_endless [some (.d x), none, none, none] σ with
      | some (.nx _ S') => some (.ok (.d .none) S')
      | some (.rt x S') => some (.ok x S')
      | some (.exc c fs _ S') => some (.exc c fs S')
      | _ => none) := rfl
theorem endless_eq (g : G7 ps) (l1 : 1 ≤ ps.length) (l2 : ps.length ≤ 10) (r : ∃ p ∈ ps, p.1 = true) (b : ∃ p ∈ ps, p.1 = false) (σ : Sto) : G.F_endless [.d (ladD ps)] σ = some (.ok (RT (mm ps)) σ) := by
  have w1 := notin_words ps "row" ok_row σ
  have w2 := notin_words ps "beside" ok_beside σ
  rw [any_row r] at w1
  rw [any_beside b] at w2
  have e := by_eq g l2 (mm_c g.pos b) σ
  have k2 : n2 [some (.d (ladD ps)), some (.own (wordL ps)), none, none] σ = some (.nx [some (.d (ladD ps)), some (.own (wordL ps)), none, none] σ) := by
    generalize wordL ps = W at *
    unfold n2
    simp [cB, w1, w2]
  have k3 : (sRet (eCall 1 F_endless_by [] (aCons (eVarV 0) aNil))) [some (.d (ladD ps)), some (.own (wordL ps)), none, none] σ = some (.rt (RT (mm ps)) σ) := by
    generalize ladD ps = L at *
    simp [e]
  rw [endless_run]
  have : G.f_endless [some (.d (ladD ps)), none, none, none] σ = some (.rt (RT (mm ps)) σ) := seq_nx (n0_eq g l1 (by omega) σ) (seq_nx (n1_eq (by omega) none σ) (seq_nx k2 k3))
  rw [this]
theorem endless_none (g : G7 ps) (l1 : 1 ≤ ps.length) (l2 : ps.length ≤ 10) (h : (∀ p ∈ ps, p.1 = true) ∨ ∀ p ∈ ps, p.1 = false) (σ : Sto) : G.F_endless [.d (ladD ps)] σ = some (.exc "NoSuch" [] σ) := by
  have w1 := notin_words ps "row" ok_row σ
  have w2 := notin_words ps "beside" ok_beside σ
  have k2 : n2 [some (.d (ladD ps)), some (.own (wordL ps)), none, none] σ = some (.exc "NoSuch" [] [some (.d (ladD ps)), some (.own (wordL ps)), none, none] σ) := by
    rcases h with h | h
    · rw [no_beside h] at w2
      generalize (ps.any fun p => wS p.1 == "row") = t at *
      generalize wordL ps = W at *
      unfold n2
      cases t <;> simp [cB, w1, w2]
    · rw [no_row h] at w1
      generalize wordL ps = W at *
      unfold n2
      simp [cB, w1]
  rw [endless_run]
  have : G.f_endless [some (.d (ladD ps)), none, none, none] σ = some (.exc "NoSuch" [] [some (.d (ladD ps)), some (.own (wordL ps)), none, none] σ) := by
    refine seq_nx (n0_eq g l1 (by omega) σ) (seq_nx (n1_eq (by omega) none σ) ?_)
    exact seq_exc k2
  rw [this]
end
/-! the numbers of the root -/
theorem Two.c {ps : List Pt} (h : Two ps) : 0 < (mm ps).c := mm_c h.g.pos h.b
theorem Two.bb {ps : List Pt} (h : Two ps) : 0 < (mm ps).b := mm_b h.g.pos h.r
theorem root_parts {m : Mx} (hc : 0 < m.c) : ∃ g : Int, 0 < g ∧ g * rA m = m.c ∧ g * rB m = m.d - m.a ∧ g * rC m = -m.b := by
  obtain ⟨d1, d2, d3⟩ := g3_dvd m.c (m.d - m.a) (-m.b)
  have g0 := g3_pos (b := m.d - m.a) (c := -m.b) hc
  exact ⟨_, by omega, Int.mul_ediv_cancel' d1, Int.mul_ediv_cancel' d2, Int.mul_ediv_cancel' d3⟩
theorem abs_le_mul {g x y n : Int} (hg : 0 < g) (e : g * x = y) (h1 : -n ≤ y) (h2 : y ≤ n) : -n ≤ x ∧ x ≤ n := by
  constructor
  · refine Int.not_lt.mp fun z => ?_
    have := Int.mul_nonneg (show 0 ≤ g - 1 by omega) (show 0 ≤ -x by omega)
    grind
  · refine Int.not_lt.mp fun z => ?_
    have := Int.mul_nonneg (show 0 ≤ g - 1 by omega) (show 0 ≤ x by omega)
    grind
theorem Two.ro {ps : List Pt} (h : Two ps) : Ro (rA (mm ps)) (rB (mm ps)) (rC (mm ps)) := by
  have hc := h.c
  have hb := h.bb
  have nn := mm_nn h.g.pos
  have na := nn.a
  have nd := nn.d
  have sm := mm_sum h.g
  have p5 : (7 : Int) ^ ps.length ≤ 16807 := by
    have k : (7 : Nat) ^ ps.length ≤ 7 ^ 5 := Nat.pow_le_pow_right (by decide) h.l5
    have k := Int.ofNat_le.mpr k
    rw [Int.natCast_pow] at k
    exact k
  unfold sum4 at sm
  have g1 := g3_div (a := (mm ps).c) (b := (mm ps).d - (mm ps).a) (c := -(mm ps).b) hc
  obtain ⟨g, g0, e1, e2, e3⟩ := root_parts hc
  obtain ⟨u1, u2⟩ := abs_le_mul (n := 100000) g0 e1 (by omega) (by omega)
  obtain ⟨u3, u4⟩ := abs_le_mul (n := 100000) g0 e2 (by omega) (by omega)
  obtain ⟨u5, u6⟩ := abs_le_mul (n := 100000) g0 e3 (by omega) (by omega)
  have p1 : 0 < rA (mm ps) := pos_of_mul g0 (by omega)
  have p3 : 0 < -rC (mm ps) := pos_of_mul g0 (by rw [Int.mul_neg]; omega)
  exact { a0 := p1, a1 := u2, b0 := u3, b1 := u4, c0 := by omega, c1 := u5, g := g1 }
theorem RT_twice {m : Mx} (hc : 0 < m.c) (ha : 0 < m.a) (hd : 0 < m.d) : RT (mul m m) = RT m := by
  obtain ⟨t1, t2, t3⟩ := prim_eq (a := (mul m m).c) (b := (mul m m).d - (mul m m).a) (c := -(mul m m).b) (a' := m.c) (b' := m.d - m.a) (c' := -m.b) (k := 1) (k' := m.a + m.d) (by omega) (by omega) hc (by unfold mul; grind) (by unfold mul; grind) (by unfold mul; grind)
  unfold RT rA rB rC
  rw [t1, t2, t3]
theorem g3_flip (x y z : Int) : g3 (-z) (-y) (-x) = g3 x y z := by
  rw [g3_nat, g3_nat, Int.natAbs_neg, Int.natAbs_neg, Int.natAbs_neg]
  apply Nat.dvd_antisymm
  · refine Nat.dvd_gcd (Nat.dvd_gcd ?_ ?_) ?_
    · exact Nat.gcd_dvd_right ..
    · exact Nat.dvd_trans (Nat.gcd_dvd_left ..) (Nat.gcd_dvd_right ..)
    · exact Nat.dvd_trans (Nat.gcd_dvd_left ..) (Nat.gcd_dvd_left ..)
  · refine Nat.dvd_gcd (Nat.dvd_gcd ?_ ?_) ?_
    · exact Nat.gcd_dvd_right ..
    · exact Nat.dvd_trans (Nat.gcd_dvd_left ..) (Nat.gcd_dvd_right ..)
    · exact Nat.dvd_trans (Nat.gcd_dvd_left ..) (Nat.gcd_dvd_left ..)
theorem RT_dual (m : Mx) : RT ⟨m.d, m.c, m.b, m.a⟩ = rtV (-rC m) (-rB m) (-rA m) := by
  obtain ⟨d1, d2, d3⟩ := g3_dvd m.c (m.d - m.a) (-m.b)
  have e := g3_flip m.c (m.d - m.a) (-m.b)
  have x1 : - -m.b = m.b := by omega
  have x2 : -(m.d - m.a) = m.a - m.d := by omega
  rw [x1, x2] at e
  unfold RT rA rB rC
  simp only
  rw [e]
  generalize (((g3 m.c (m.d - m.a) (-m.b) : Nat)) : Int) = g at *
  have n : ∀ x : Int, g ∣ x → (-x) / g = -(x / g) := fun x hx => Int.neg_ediv_of_dvd hx
  have y1 := n _ d3
  have y2 := n _ d2
  have y3 := n _ d1
  rw [x1] at y1
  rw [x2] at y2
  rw [y1, y2, y3]
/-! on which side a number lies -/
theorem side {m : Mx} (hc : 0 < m.c) {x : Rat} : ∃ g : Int, 0 < g ∧ ((g * pv (rA m) (rB m) (rC m) x.num x.den : Int) : Rat) = ((x.den : Rat) * (x.den : Rat)) * (den_x m x * x - num_x m x) := by
  obtain ⟨g, g0, e1, e2, e3⟩ := root_parts hc
  refine ⟨g, g0, ?_⟩
  have e : g * pv (rA m) (rB m) (rC m) x.num x.den = pv m.c (m.d - m.a) (-m.b) x.num x.den := by
    rw [← e1, ← e2, ← e3]
    unfold pv
    grind
  rw [e]
  unfold pv den_x num_x
  have c1 : ((x.den : Int) : Rat) = (x.den : Rat) := rfl
  have d0 : (x.den : Rat) ≠ 0 := by
    have : (0 : Rat) < (x.den : Rat) := Rat.natCast_pos.mpr (Nat.pos_of_ne_zero x.den_nz)
    grind
  have xn : (x.num : Rat) = x * (x.den : Rat) := by
    have := rat_nd x
    generalize (x.num : Rat) = n at *
    generalize (x.den : Rat) = d at *
    grind
  simp only [Rat.intCast_add, Rat.intCast_mul, Rat.intCast_sub, Rat.intCast_neg, c1, xn]
  generalize (x.den : Rat) = d at *
  generalize (m.a : Rat) = ma at *
  generalize (m.b : Rat) = mb at *
  generalize (m.c : Rat) = mc at *
  generalize (m.d : Rat) = md at *
  clear xn
  grind
theorem sq_pos (x : Rat) : 0 < (x.den : Rat) * (x.den : Rat) := by
  have : (0 : Rat) < (x.den : Rat) := Rat.natCast_pos.mpr (Nat.pos_of_ne_zero x.den_nz)
  exact Rat.mul_pos this this
theorem cmp_above {m : Mx} (nn : Nn m) (hc : 0 < m.c) {x : Rat} (x0 : 0 < x) (h : num_x m x / den_x m x < x) : cmpI (rA m) (rB m) (rC m) x.num x.den = -1 := by
  obtain ⟨g, g0, e⟩ := side hc (x := x)
  have dp := den_pos nn (Rat.le_of_lt x0)
  rw [Rat.div_lt_iff dp] at h
  have k : (0 : Rat) < ((g * pv (rA m) (rB m) (rC m) x.num x.den : Int) : Rat) := by
    rw [e]
    exact Rat.mul_pos (sq_pos x) (by grind)
  have k := pos_of_mul g0 (Rat.intCast_pos.mp k)
  have := npos x0
  unfold cmpI
  rw [if_neg (by omega), if_neg (by omega), if_pos k]
  rfl
theorem cmp_below {m : Mx} (nn : Nn m) (hc : 0 < m.c) {x : Rat} (x0 : 0 ≤ x) (h : x < num_x m x / den_x m x) : cmpI (rA m) (rB m) (rC m) x.num x.den = 1 := by
  obtain ⟨g, g0, e⟩ := side hc (x := x)
  have dp := den_pos nn x0
  rw [Rat.lt_div_iff dp] at h
  have k : ((g * pv (rA m) (rB m) (rC m) x.num x.den : Int) : Rat) < 0 := by
    rw [e]
    have := Rat.mul_pos (sq_pos x) (show 0 < num_x m x - den_x m x * x by grind)
    grind
  have k1 : 0 < g * (-pv (rA m) (rB m) (rC m) x.num x.den) := by
    have := Rat.intCast_neg_iff.mp k
    rw [Int.mul_neg]
    omega
  have k2 := pos_of_mul g0 k1
  unfold cmpI
  by_cases hx : x.num ≤ 0
  · rw [if_pos hx]
  · rw [if_neg hx, if_pos (by omega), if_neg (by omega)]
    rfl
theorem fix_of {m : Mx} (nn : Nn m) (hc : 0 < m.c) {x : Rat} (x0 : 0 ≤ x) (h : pv (rA m) (rB m) (rC m) x.num x.den = 0) : num_x m x / den_x m x = x := by
  obtain ⟨g, g0, e⟩ := side hc (x := x)
  have dp := den_pos nn x0
  rw [h, Int.mul_zero] at e
  have sp := sq_pos x
  have z : den_x m x * x - num_x m x = 0 := by
    have e : (0 : Rat) = (x.den : Rat) * (x.den : Rat) * (den_x m x * x - num_x m x) := e
    rcases Rat.mul_eq_zero.mp e.symm with y | y
    · grind
    · exact y
  grind
end M

end
section
set_option Elab.async false
set_option linter.all false
set_option maxRecDepth 100000
namespace M
open PySem PySem.Spec PyProof.Rows L2 VL G
theorem ic0 {x : Int} (h : (x : Rat) = 0) : x = 0 := by
  have := congrArg Rat.num h
  exact this
/-! the root put through the ladder, in numbers u + v times a square root -/
section
variable (a b D : Int)
def eE (m : Mx) : Int := 2 * a * m.d - b * m.c
def eF (m : Mx) : Int := 2 * a * m.b - b * m.a
def eN (m : Mx) : Int := eE a b m * eE a b m - D * (m.c * m.c)
def e1N (m : Mx) : Int := eF a b m * eE a b m - D * (m.a * m.c)
def e2N (m : Mx) : Int := m.a * eE a b m - eF a b m * m.c
def eK (m : Mx) : Int := eF a b m * eF a b m - D * (m.a * m.a)
def uR (m : Mx) : Rat := fq (e1N a b D m) (eN a b D m)
def vR (m : Mx) : Rat := fq (e2N a b m) (eN a b D m)
variable {a b D}
theorem norm_id (m : Mx) : e1N a b D m * e1N a b D m - D * (e2N a b m * e2N a b m) = eN a b D m * eK a b D m := by
  unfold e1N e2N eN eK
  grind
theorem nonsq (hD : ∀ r : Int, r * r ≠ D) {x y : Int} (h : x * x = D * (y * y)) : y = 0 := by
  apply Classical.byContradiction
  intro hy
  have yr : (y : Rat) ≠ 0 := fun z => hy (by have := ic0 z; exact this)
  have e : ((x : Rat) / (y : Rat)) ^ 2 = (D : Rat) := by
    have h2 : (x : Rat) * (x : Rat) = (D : Rat) * ((y : Rat) * (y : Rat)) := by
      rw [← Rat.intCast_mul, ← Rat.intCast_mul, ← Rat.intCast_mul, h]
    generalize (x : Rat) = p at *
    generalize (y : Rat) = q at *
    grind
  generalize (x : Rat) / (y : Rat) = t at e
  have n := congrArg Rat.num e
  rw [Rat.num_pow] at n
  have n : t.num ^ 2 = D := n
  exact hD t.num (by rw [← n]; grind)
theorem eN_ne (hD : ∀ r : Int, r * r ≠ D) (ha : 0 < a) {m : Mx} (nn : Nn m) : eN a b D m ≠ 0 := by
  intro h
  unfold eN at h
  have z := nonsq hD (x := eE a b m) (y := m.c) (by omega)
  rw [z] at h
  unfold eE at h
  rw [z] at h
  have k : 0 < 2 * a * m.d := Int.mul_pos (by omega) nn.d
  have k2 := Int.mul_pos k k
  grind
theorem uR_one (ha : 0 < a) : uR a b D oneM = fq (-b) (2 * a) ∧ vR a b D oneM = fq 1 (2 * a) := by
  have a0 : (a : Rat) ≠ 0 := fun z => by have := ic0 z; omega
  unfold uR vR
  simp only [fq_div, e1N, e2N, eN, eE, eF, oneM, Rat.intCast_sub, Rat.intCast_mul, Rat.intCast_add, Rat.intCast_neg, Int.mul_zero, Int.mul_one, Int.sub_zero, Int.zero_sub]
  have c2 : ((2 : Int) : Rat) = 2 := rfl
  have c1 : ((1 : Int) : Rat) = 1 := rfl
  have c0 : ((0 : Int) : Rat) = 0 := rfl
  simp only [c2, c1, c0]
  generalize (a : Rat) = x at *
  generalize (b : Rat) = y at *
  constructor <;> grind
theorem uR_row {m : Mx} {r : Rat} (hn : eN a b D m ≠ 0) : uR a b D (mul (mp (true, r)) m) = uR a b D m + r ∧ vR a b D (mul (mp (true, r)) m) = vR a b D m := by
  have q0 : (r.den : Rat) ≠ 0 := by
    have : (0 : Rat) < (r.den : Rat) := Rat.natCast_pos.mpr (Nat.pos_of_ne_zero r.den_nz)
    grind
  have n0 : (eN a b D m : Rat) ≠ 0 := fun z => hn (ic0 z)
  have i0 : eN a b D (mul (mp (true, r)) m) = r.den * r.den * eN a b D m := by
    simp only [eN, eE, mul, mp, if_true]
    grind
  have i1 : e1N a b D (mul (mp (true, r)) m) = r.den * r.den * e1N a b D m + r.num * r.den * eN a b D m := by
    simp only [e1N, eN, eE, eF, mul, mp, if_true]
    grind
  have i2 : e2N a b (mul (mp (true, r)) m) = r.den * r.den * e2N a b m := by
    simp only [e2N, eE, eF, mul, mp, if_true]
    grind
  have er := rat_nd r
  have c1 : ((r.den : Int) : Rat) = (r.den : Rat) := rfl
  unfold uR vR
  simp only [fq_div, i0, i1, i2, Rat.intCast_add, Rat.intCast_mul, c1]
  conv => lhs; rhs; rhs; rw [er]
  generalize (eN a b D m : Rat) = n at *
  generalize (e1N a b D m : Rat) = n1 at *
  generalize (e2N a b m : Rat) = n2 at *
  generalize (r.num : Rat) = p at *
  generalize (r.den : Rat) = q at *
  clear er i0 i1 i2
  constructor <;> grind
theorem under_id {n n1 n2 k p q d : Rat} (hn : n ≠ 0) (hq : q ≠ 0) (h : n1 * n1 - d * (n2 * n2) = n * k) :
    (n1 / n + p / q) * (n1 / n + p / q) - d * ((n2 / n) * (n2 / n)) = (q * q * k + 2 * p * q * n1 + p * p * n) / (q * q * n) := by
  have e : (n1 / n + p / q) * (n1 / n + p / q) - d * ((n2 / n) * (n2 / n)) = ((q * n1 + p * n) * (q * n1 + p * n) - d * q * q * n2 * n2) / (q * q * n * n) := by grind
  have e2 : (q * n1 + p * n) * (q * n1 + p * n) - d * q * q * n2 * n2 = n * (q * q * k + 2 * p * q * n1 + p * p * n) := by grind
  rw [e, e2]
  grind
theorem top_id {n n1 n2 k p q d : Rat} (hn : n ≠ 0) (hq : q ≠ 0) (h : n1 * n1 - d * (n2 * n2) = n * k) :
    n1 / n * (p / q) * (n1 / n + p / q) - d * (n2 / n * (p / q) * (n2 / n)) = (p * (q * k + p * n1)) / (q * q * n) := by
  have e : n1 / n * (p / q) * (n1 / n + p / q) - d * (n2 / n * (p / q) * (n2 / n)) = (p * (n1 * (q * n1 + p * n) - d * q * n2 * n2)) / (q * q * n * n) := by grind
  have e2 : n1 * (q * n1 + p * n) - d * q * n2 * n2 = n * (q * k + p * n1) := by grind
  rw [e, e2]
  grind
theorem low_id {n n1 n2 p q : Rat} (hn : n ≠ 0) (hq : q ≠ 0) : n2 / n * (p / q) * (n1 / n + p / q) - n1 / n * (p / q) * (n2 / n) = (p * p * n2) / (q * q * n) := by grind
theorem uR_beside {m : Mx} {r : Rat} (hn : eN a b D m ≠ 0) (hn' : eN a b D (mul (mp (false, r)) m) ≠ 0) :
    (uR a b D m + r) * (uR a b D m + r) - (D : Rat) * (vR a b D m * vR a b D m) ≠ 0 ∧
    (uR a b D m * r * (uR a b D m + r) - (D : Rat) * (vR a b D m * r * vR a b D m)) / ((uR a b D m + r) * (uR a b D m + r) - (D : Rat) * (vR a b D m * vR a b D m)) = uR a b D (mul (mp (false, r)) m) ∧
    (vR a b D m * r * (uR a b D m + r) - uR a b D m * r * vR a b D m) / ((uR a b D m + r) * (uR a b D m + r) - (D : Rat) * (vR a b D m * vR a b D m)) = vR a b D (mul (mp (false, r)) m) := by
  have q0 : (r.den : Rat) ≠ 0 := by
    have : (0 : Rat) < (r.den : Rat) := Rat.natCast_pos.mpr (Nat.pos_of_ne_zero r.den_nz)
    grind
  have n0 : (eN a b D m : Rat) ≠ 0 := fun z => hn (ic0 z)
  have n0' : (eN a b D (mul (mp (false, r)) m) : Rat) ≠ 0 := fun z => hn' (ic0 z)
  have i0 : eN a b D (mul (mp (false, r)) m) = r.den * r.den * eK a b D m + 2 * r.num * r.den * e1N a b D m + r.num * r.num * eN a b D m := by
    simp only [eN, e1N, eK, eE, eF, mul, mp, if_false, Bool.false_eq_true]
    grind
  have i1 : e1N a b D (mul (mp (false, r)) m) = r.num * (r.den * eK a b D m + r.num * e1N a b D m) := by
    simp only [e1N, eK, eE, eF, mul, mp, if_false, Bool.false_eq_true]
    grind
  have i2 : e2N a b (mul (mp (false, r)) m) = r.num * r.num * e2N a b m := by
    simp only [e2N, eE, eF, mul, mp, if_false, Bool.false_eq_true]
    grind
  have id := congrArg (fun z : Int => (z : Rat)) (norm_id (a := a) (b := b) (D := D) m)
  simp only [Rat.intCast_sub, Rat.intCast_mul] at id
  have er := rat_nd r
  have c1 : ((r.den : Int) : Rat) = (r.den : Rat) := rfl
  have c2 : ((2 : Int) : Rat) = 2 := rfl
  have r0 : ((eN a b D (mul (mp (false, r)) m) : Int) : Rat) = r.den * r.den * (eK a b D m : Rat) + 2 * r.num * r.den * (e1N a b D m : Rat) + r.num * r.num * (eN a b D m : Rat) := by
    rw [i0]
    simp only [Rat.intCast_add, Rat.intCast_mul, c1, c2]
  have r1 : ((e1N a b D (mul (mp (false, r)) m) : Int) : Rat) = r.num * (r.den * (eK a b D m : Rat) + r.num * (e1N a b D m : Rat)) := by
    rw [i1]
    simp only [Rat.intCast_add, Rat.intCast_mul, c1]
  have r2 : ((e2N a b (mul (mp (false, r)) m) : Int) : Rat) = r.num * r.num * (e2N a b m : Rat) := by
    rw [i2]
    simp only [Rat.intCast_mul]
  unfold uR vR
  simp only [fq_div, r0, r1, r2]
  rw [r0] at n0'
  have u1 := under_id (p := (r.num : Rat)) n0 q0 id
  have t1 := top_id (p := (r.num : Rat)) n0 q0 id
  have l1 := low_id (n1 := (e1N a b D m : Rat)) (n2 := (e2N a b m : Rat)) (p := (r.num : Rat)) n0 q0
  rw [← er] at u1 t1 l1
  rw [u1, t1, l1]
  generalize (eN a b D m : Rat) = n at *
  generalize (e1N a b D m : Rat) = n1 at *
  generalize (e2N a b m : Rat) = n2 at *
  generalize (eK a b D m : Rat) = k at *
  generalize (r.num : Rat) = p at *
  generalize (r.den : Rat) = q at *
  clear er i0 i1 i2 r0 r1 r2 u1 t1 l1 id
  generalize q * q * k + 2 * p * q * n1 + p * p * n = w at *
  have hqn : q * q * n ≠ 0 := by grind
  generalize q * q * n = t at *
  refine ⟨by grind, by grind, by grind⟩
/-- the whole ladder: the root itself -/
theorem uR_full {c : Int} {m : Mx} {g : Int} (ha : 0 < a) (e1 : g * a = m.c) (e2 : g * b = m.d - m.a) (e3 : g * c = -m.b) (hD : D = b * b - 4 * a * c) (hn : eN a b D m ≠ 0) : uR a b D m = fq (-b) (2 * a) ∧ vR a b D m = fq 1 (2 * a) := by
  have a0 : (a : Rat) ≠ 0 := fun z => by have := ic0 z; omega
  have n0 : (eN a b D m : Rat) ≠ 0 := fun z => hn (ic0 z)
  have md : m.d = m.a + g * b := by omega
  have mb : m.b = -(g * c) := by omega
  have i1 : 2 * a * e1N a b D m = -b * eN a b D m := by
    unfold e1N eN eE eF
    rw [hD, md, mb, ← e1]
    grind
  have i2 : 2 * a * e2N a b m = eN a b D m := by
    unfold e2N eN eE eF
    rw [hD, md, mb, ← e1]
    grind
  have j1 := congrArg (fun z : Int => (z : Rat)) i1
  have j2 := congrArg (fun z : Int => (z : Rat)) i2
  have c2 : ((2 : Int) : Rat) = 2 := rfl
  have c1 : ((1 : Int) : Rat) = 1 := rfl
  simp only [Rat.intCast_mul, Rat.intCast_neg, c2] at j1 j2
  unfold uR vR
  simp only [fq_div, Rat.intCast_neg, Rat.intCast_mul, c2, c1]
  generalize (eN a b D m : Rat) = n at *
  generalize (e1N a b D m : Rat) = n1 at *
  generalize (e2N a b m : Rat) = n2 at *
  generalize (a : Rat) = x at *
  generalize (b : Rat) = y at *
  clear i1 i2
  constructor
  · have : n1 = -y * n / (2 * x) := by grind
    rw [this]
    grind
  · have : n2 = n / (2 * x) := by grind
    rw [this]
    grind
end

/-! the law's own numbers -/
abbrev pD (u v : Rat) : PyData := .tuple [rD u, rD v]
theorem int_rat (d : Int) : rD (d : Rat) = .tuple [.int d, .int 1] := rfl
theorem int_bd {d : Int} {n : Nat} (h : d.natAbs ≤ n) (h1 : 1 ≤ n) : Bd n (d : Rat) := ⟨h, h1⟩
theorem n25 : (10 : Nat) ^ 25 = 10000000000000000000000000 := by decide +kernel
theorem over_through {u v w z : Rat} {d : Int} (hu : Bd (10 ^ 25) u) (hv : Bd (10 ^ 25) v) (hw : Bd (10 ^ 25) w) (hz : Bd (10 ^ 25) z) (hd : d.natAbs ≤ 10 ^ 12) (h0 : w * w - (d : Rat) * (z * z) ≠ 0) (S : Sto) :
    G.F__law_over [.d (pD u v), .d (pD w z), .d (.int d)] S = some (.ok (.d (pD ((u * w - (d : Rat) * (v * z)) / (w * w - (d : Rat) * (z * z))) ((v * w - u * z) / (w * w - (d : Rat) * (z * z))))) S) := by
  have bd := int_bd hd (by decide +kernel)
  have l1 : (10 : Nat) ^ 25 ≤ 10 ^ 120 := by decide +kernel
  have l2 : (10 : Nat) ^ 25 * 10 ^ 25 ≤ 10 ^ 120 := by decide +kernel
  have l3 : (10 : Nat) ^ 12 * (10 ^ 25 * 10 ^ 25) ≤ 10 ^ 120 := by decide +kernel
  have l4 : 2 * ((10 : Nat) ^ 25 * 10 ^ 25 * (10 ^ 12 * (10 ^ 25 * 10 ^ 25))) ≤ 10 ^ 120 := by decide +kernel
  have l5 : 2 * ((10 : Nat) ^ 25 * 10 ^ 25 * (10 ^ 25 * 10 ^ 25)) ≤ 10 ^ 120 := by decide +kernel
  have ld : (10 : Nat) ^ 12 ≤ 10 ^ 120 := by decide +kernel
  have sub_bd : ∀ {x y : Rat} {m k : Nat}, Bd m x → Bd k y → Bd (2 * (m * k)) (x - y) := by
    intro x y m k hx hy
    have := bd_add hx (show Bd k (-y) from ⟨by show (-y.num).natAbs ≤ k; rw [Int.natAbs_neg]; exact hy.1, hy.2⟩)
    rw [← Rat.sub_eq_add_neg] at this
    exact this
  have mm1 : ∀ {x y : Rat}, Bd (10 ^ 25) x → Bd (10 ^ 25) y → G.F__law_mul [rv x, rv y] S = some (.ok (rv (x * y)) S) := fun hx hy => lmul_r (br_of hx l1) (br_of hy l1) S
  have md : ∀ {x : Rat}, Bd (10 ^ 25 * 10 ^ 25) x → G.F__law_mul [.d (.tuple [.int d, .int 1]), rv x] S = some (.ok (rv ((d : Rat) * x)) S) := fun hx => lmul_r (x := (d : Rat)) (br_of bd ld) (br_of hx l2) S
  have a1 := mm1 hw hw
  have a2 := mm1 hz hz
  have a3 := md (bd_mul hz hz)
  have a4 := lsub_r (br_of (bd_mul hw hw) l2) (br_of (bd_mul bd (bd_mul hz hz)) l3) S
  have b1 := mm1 hu hw
  have b2 := mm1 hv hz
  have b3 := md (bd_mul hv hz)
  have b4 := lsub_r (br_of (bd_mul hu hw) l2) (br_of (bd_mul bd (bd_mul hv hz)) l3) S
  have c1 := mm1 hv hw
  have c2 := mm1 hu hz
  have c4 := lsub_r (br_of (bd_mul hv hw) l2) (br_of (bd_mul hu hz) l2) S
  have hU := br_of (sub_bd (bd_mul hw hw) (bd_mul bd (bd_mul hz hz))) l4
  have hT := br_of (sub_bd (bd_mul hu hw) (bd_mul bd (bd_mul hv hz))) l4
  have hL := br_of (sub_bd (bd_mul hv hw) (bd_mul hu hz)) l5
  have d1 := ldiv_n hT hU h0 S
  have d2 := ldiv_n hL hU h0 S
  generalize w * w - (d : Rat) * (z * z) = U at *
  generalize u * w - (d : Rat) * (v * z) = T at *
  generalize v * w - u * z = L at *
  generalize (d : Rat) * (z * z) = x1 at *
  generalize (d : Rat) * (v * z) = x2 at *
  generalize w * w = x3 at *
  generalize z * z = x4 at *
  generalize u * w = x5 at *
  generalize v * z = x6 at *
  generalize v * w = x7 at *
  generalize u * z = x8 at *
  have k0 : (sAsg (gTp 2 (gsCons (gNm 3) (gsCons (gNm 4) gsNil))) (eVarV 0)) [some (.d (pD u v)), some (.d (pD w z)), some (.d (.int d)), none, none, none, none, none, none] S = some (.nx [some (.d (pD u v)), some (.d (pD w z)), some (.d (.int d)), some (rv u), some (rv v), none, none, none, none] S) := rfl
  have k1 : (sAsg (gTp 2 (gsCons (gNm 5) (gsCons (gNm 6) gsNil))) (eVarV 1)) [some (.d (pD u v)), some (.d (pD w z)), some (.d (.int d)), some (rv u), some (rv v), none, none, none, none] S = some (.nx [some (.d (pD u v)), some (.d (pD w z)), some (.d (.int d)), some (rv u), some (rv v), some (rv w), some (rv z), none, none] S) := rfl
  have k2 : (sSet 7 (eCall 2 F__law_sub [] (aCons (eCall 2 F__law_mul [] (aCons (eVarV 5) (aCons (eVarV 5) aNil))) (aCons (eCall 2 F__law_mul [] (aCons (eTup (aCons (eVarV 2) (aCons (eCon (.int 1)) aNil))) (aCons (eCall 2 F__law_mul [] (aCons (eVarV 6) (aCons (eVarV 6) aNil))) aNil))) aNil)))) [some (.d (pD u v)), some (.d (pD w z)), some (.d (.int d)), some (rv u), some (rv v), some (rv w), some (rv z), none, none] S = some (.nx [some (.d (pD u v)), some (.d (pD w z)), some (.d (.int d)), some (rv u), some (rv v), some (rv w), some (rv z), some (rv U), none] S) := by
    generalize pD u v = P
    generalize pD w z = P2
    simp [a1, a2, a3, a4, sizeLine_eq]
  have k3 : (sSet 8 (eCall 2 F__law_sub [] (aCons (eCall 2 F__law_mul [] (aCons (eVarV 3) (aCons (eVarV 5) aNil))) (aCons (eCall 2 F__law_mul [] (aCons (eTup (aCons (eVarV 2) (aCons (eCon (.int 1)) aNil))) (aCons (eCall 2 F__law_mul [] (aCons (eVarV 4) (aCons (eVarV 6) aNil))) aNil))) aNil)))) [some (.d (pD u v)), some (.d (pD w z)), some (.d (.int d)), some (rv u), some (rv v), some (rv w), some (rv z), some (rv U), none] S = some (.nx [some (.d (pD u v)), some (.d (pD w z)), some (.d (.int d)), some (rv u), some (rv v), some (rv w), some (rv z), some (rv U), some (rv T)] S) := by
    generalize pD u v = P
    generalize pD w z = P2
    simp [b1, b2, b3, b4, sizeLine_eq]
  have k4 : (sRet (eTup (aCons (eCall 2 F__law_div [] (aCons (eVarV 8) (aCons (eVarV 7) aNil))) (aCons (eCall 2 F__law_div [] (aCons (eCall 2 F__law_sub [] (aCons (eCall 2 F__law_mul [] (aCons (eVarV 4) (aCons (eVarV 5) aNil))) (aCons (eCall 2 F__law_mul [] (aCons (eVarV 3) (aCons (eVarV 6) aNil))) aNil))) (aCons (eVarV 7) aNil))) aNil)))) [some (.d (pD u v)), some (.d (pD w z)), some (.d (.int d)), some (rv u), some (rv v), some (rv w), some (rv z), some (rv U), some (rv T)] S = some (.rt (.d (pD (T / U) (L / U))) S) := by
    simp [c1, c2, c4, d1, d2, sizeLine_eq]
  have e1 : G.F__law_over [.d (pD u v), .d (pD w z), .d (.int d)] S = (match G.f__law_over [some (.d (pD u v)), some (.d (pD w z)), some (.d (.int d)), none, none, none, none, none, none] S with
      | some (.nx _ S') => some (.ok (.d .none) S')
      | some (.rt x S') => some (.ok x S')
      | some (.exc c fs _ S') => some (.exc c fs S')
      | _ => none) := rfl
  have e2 : G.f__law_over [some (.d (pD u v)), some (.d (pD w z)), some (.d (.int d)), none, none, none, none, none, none] S = some (.rt (.d (pD (T / U) (L / U))) S) :=
    seq_nx k0 (seq_nx k1 (seq_nx k2 (seq_nx k3 k4)))
  rw [e1, e2]
/-! through the ladder -/
structure Par (a b D : Int) : Prop where
  a0 : 0 < a
  a1 : a ≤ 100000
  b0 : -100000 ≤ b
  b1 : b ≤ 100000
  d0 : 0 ≤ D
  d1 : D ≤ 1000000000000
  ns : ∀ r : Int, r * r ≠ D
structure OkT (m : Mx) (n : Nat) : Prop extends Nn m where
  s : sum4 m * 7 ^ n ≤ 100000
theorem nn_mul {m : Mx} (h : Nn m) {p : Pt} (hr : 0 < p.2) : Nn (mul (mp p) m) := by
  obtain ⟨ha, hb, hc, hd⟩ := h
  obtain ⟨w, r⟩ := p
  have hr : 0 < r := hr
  have p0 := npos hr
  have q0 := dpos r
  have e1 := Int.mul_pos p0 ha
  have e2 := Int.mul_nonneg (Int.le_of_lt p0) hb
  have e3 := Int.mul_nonneg (Int.le_of_lt p0) hc
  have e4 := Int.mul_pos p0 hd
  have e5 := Int.mul_pos q0 ha
  have e6 := Int.mul_nonneg (Int.le_of_lt q0) hb
  have e7 := Int.mul_nonneg (Int.le_of_lt q0) hc
  have e8 := Int.mul_pos q0 hd
  cases w
  · refine ⟨?_, ?_, ?_, ?_⟩ <;> simp only [mul, mp, if_false, Bool.false_eq_true] <;> omega
  · refine ⟨?_, ?_, ?_, ?_⟩ <;> simp only [mul, mp, if_true] <;> omega
theorem OkT.step {m : Mx} {n : Nat} (h : OkT m (n + 1)) {p : Pt} (hr : 0 < p.2) (h7 : p.2.num + p.2.den ≤ 7) : OkT (mul (mp p) m) n := by
  refine { nn_mul h.toNn hr with s := ?_ }
  obtain ⟨ha, hb, hc, hd⟩ := h.toNn
  have hs := h.s
  obtain ⟨w, r⟩ := p
  have hr : 0 < r := hr
  have h7 : r.num + r.den ≤ 7 := h7
  have p0 := npos hr
  have q0 := dpos r
  have s0 : 0 ≤ sum4 m := by unfold sum4; omega
  have k : sum4 (mul (mp (w, r)) m) ≤ (r.num + r.den) * sum4 m := by
    have e1 := Int.mul_nonneg (Int.le_of_lt p0) (Int.le_of_lt ha)
    have e2 := Int.mul_nonneg (Int.le_of_lt p0) hb
    have e3 := Int.mul_nonneg (Int.le_of_lt p0) hc
    have e4 := Int.mul_nonneg (Int.le_of_lt p0) (Int.le_of_lt hd)
    have e5 := Int.mul_nonneg (Int.le_of_lt q0) (Int.le_of_lt ha)
    have e6 := Int.mul_nonneg (Int.le_of_lt q0) hb
    have e7 := Int.mul_nonneg (Int.le_of_lt q0) hc
    have e8 := Int.mul_nonneg (Int.le_of_lt q0) (Int.le_of_lt hd)
    cases w <;> simp only [sum4, mul, mp, if_true, if_false, Bool.false_eq_true] <;> grind
  have k2 := Int.mul_nonneg (show 0 ≤ 7 - (r.num + r.den) by omega) s0
  have pp : (0 : Int) < 7 ^ n := Int.pow_pos (by omega)
  have k3 := Int.mul_nonneg (show 0 ≤ 7 * sum4 m - sum4 (mul (mp (w, r)) m) by grind) (Int.le_of_lt pp)
  rw [Int.pow_succ] at hs
  grind
theorem OkT.le {m : Mx} {n : Nat} (h : OkT m n) : m.a ≤ 100000 ∧ m.b ≤ 100000 ∧ m.c ≤ 100000 ∧ m.d ≤ 100000 := by
  obtain ⟨ha, hb, hc, hd⟩ := h.toNn
  have hs := h.s
  have pp : (0 : Int) < 7 ^ n := Int.pow_pos (by omega)
  have s0 : 0 ≤ sum4 m := by unfold sum4; omega
  have k1 := Int.mul_nonneg s0 (show 0 ≤ (7 : Int) ^ n - 1 by omega)
  have k3 : sum4 m ≤ 100000 := by grind
  unfold sum4 at k3
  omega
section
variable {a b D : Int}
theorem uv_bd (P : Par a b D) {m : Mx} {n : Nat} (h : OkT m n) : Bd (10 ^ 23) (uR a b D m) ∧ Bd (10 ^ 23) (vR a b D m) := by
  obtain ⟨la, lb, lc', ld⟩ := h.le
  obtain ⟨ha, hb, hc, hd⟩ := h.toNn
  have a0 := P.a0
  have a1 := P.a1
  have b0 := P.b0
  have b1 := P.b1
  have d0 := P.d0
  have d1 := P.d1
  have na : Bn 100000 a := by unfold Bn; omega
  have nb : Bn 100000 b := by unfold Bn; omega
  have nD : Bn 1000000000000 D := by unfold Bn; omega
  have ma : Bn 100000 m.a := by unfold Bn; omega
  have mb : Bn 100000 m.b := by unfold Bn; omega
  have mc : Bn 100000 m.c := by unfold Bn; omega
  have md : Bn 100000 m.d := by unfold Bn; omega
  have n2 : Bn 2 2 := by unfold Bn; decide
  have sb : ∀ {x y : Int} {k l : Nat}, Bn k x → Bn l y → Bn (k + l) (x - y) := by
    intro x y k l hx hy
    unfold Bn at *
    omega
  have hE : Bn 30000000000 (eE a b m) := (sb ((n2.mul na).mul md) (nb.mul mc)).mono (by decide)
  have hF : Bn 30000000000 (eF a b m) := (sb ((n2.mul na).mul mb) (nb.mul ma)).mono (by decide)
  have hN : Bn (10 ^ 23) (eN a b D m) := (sb (hE.mul hE) (nD.mul (mc.mul mc))).mono (by decide +kernel)
  have h1 : Bn (10 ^ 23) (e1N a b D m) := (sb (hF.mul hE) (nD.mul (ma.mul mc))).mono (by decide +kernel)
  have h2 : Bn (10 ^ 23) (e2N a b m) := (sb (ma.mul hE) (hF.mul mc)).mono (by decide +kernel)
  have n0 := eN_ne (b := b) P.ns P.a0 h.toNn
  exact ⟨fq_bd n0 h1 hN, fq_bd n0 h2 hN⟩
noncomputable abbrev thB : Rho → Sto → Option VL.Fl := (sSeq
  (sSet 5 (eTup (aCons (eCall 2 F__law_add [] (aCons (eBin gIx (eVar 1) (eCon (.int 0))) (aCons (eVarV 4) aNil))) (aCons (eBin gIx (eVar 1) (eCon (.int 1))) aNil))))
  (sIf (bB (eBin (cB gEq) (eVar 3) (eCon (.str "row"))))
  (sSet 1 (eVarV 5))
  (sSet 1 (eCall 3 F__law_over [] (aCons (eTup (aCons (eCall 2 F__law_mul [] (aCons (eBin gIx (eVar 1) (eCon (.int 0))) (aCons (eVarV 4) aNil))) (aCons (eCall 2 F__law_mul [] (aCons (eBin gIx (eVar 1) (eCon (.int 1))) (aCons (eVarV 4) aNil))) aNil))) (aCons (eVarV 5) (aCons (eVarV 2) aNil)))))))
abbrev tR (l : Option SV) (u v : Rat) (d : Int) (s3 s4 s5 : Option SV) : Rho := [l, some (.d (pD u v)), some (.d (.int d)), s3, s4, s5]
theorem thB_eq (P : Par a b D) {m : Mx} {n : Nat} (h : OkT m (n + 1)) {p : Pt} (hr : 0 < p.2) (h7 : p.2.num + p.2.den ≤ 7) (l s5 : Option SV) (S : Sto) :
    ∃ z5, thB (tR l (uR a b D m) (vR a b D m) D (some (.d (.str (wS p.1)))) (some (rv p.2)) s5) S = some (.nx (tR l (uR a b D (mul (mp p) m)) (vR a b D (mul (mp p) m)) D (some (.d (.str (wS p.1)))) (some (rv p.2)) z5) S) := by
  obtain ⟨bu, bv⟩ := uv_bd P h
  have n0 := eN_ne (b := b) P.ns P.a0 h.toNn
  have n0' := eN_ne (b := b) P.ns P.a0 (h.step hr h7).toNn
  obtain ⟨w, r⟩ := p
  have hr : 0 < r := hr
  have h7 : r.num + r.den ≤ 7 := h7
  have br := g7_bd hr h7
  have bur : Bd (10 ^ 25) (uR a b D m + r) := (bd_add bu br).mono (by decide +kernel)
  have b1 : Bd (10 ^ 25) (uR a b D m * r) := (bd_mul bu br).mono (by decide +kernel)
  have b2 : Bd (10 ^ 25) (vR a b D m * r) := (bd_mul bv br).mono (by decide +kernel)
  have b3 : Bd (10 ^ 25) (vR a b D m) := bv.mono (by decide +kernel)
  have ad := ladd_r (br_of bu (by decide +kernel)) (br_of br (by decide +kernel)) S
  have m1 := lmul_r (br_of bu (by decide +kernel)) (br_of br (by decide +kernel)) S
  have m2 := lmul_r (br_of bv (by decide +kernel)) (br_of br (by decide +kernel)) S
  refine ⟨some (.d (pD (uR a b D m + r) (vR a b D m))), ?_⟩
  cases w
  · obtain ⟨nz, t1, t2⟩ := uR_beside (a := a) (b := b) (D := D) (r := r) n0 n0'
    have ov := over_through b1 b2 bur b3 (show D.natAbs ≤ 10 ^ 12 by have := P.d0; have := P.d1; omega) nz S
    rw [t1, t2] at ov
    generalize uR a b D (mul (mp (false, r)) m) = u' at *
    generalize vR a b D (mul (mp (false, r)) m) = v' at *
    generalize uR a b D m + r = x1 at *
    generalize uR a b D m * r = x2 at *
    generalize vR a b D m * r = x3 at *
    generalize uR a b D m = u at *
    generalize vR a b D m = v at *
    unfold thB
    simp [cB, gEq, gIx, ad, m1, m2, ov, sizeLine_eq]
  · obtain ⟨t1, t2⟩ := uR_row (a := a) (b := b) (D := D) (r := r) n0
    rw [t1, t2]
    generalize uR a b D m + r = x1 at *
    generalize uR a b D m = u at *
    generalize vR a b D m = v at *
    unfold thB
    simp [cB, gEq, gIx, ad, sizeLine_eq]
theorem th_loop (P : Par a b D) (l : Option SV) (S : Sto) : ∀ (qs : List Pt) (m : Mx) (s3 s4 s5 : Option SV), G7 qs → OkT m qs.length → ∃ z3 z4 z5,
    forL (gTp 2 (gsCons (gNm 3) (gsCons (gNm 4) gsNil))) thB (qs.map fun p => SV.d (ptD p)) (tR l (uR a b D m) (vR a b D m) D s3 s4 s5) S = some (.nx (tR l (uR a b D (qs.foldl (fun m p => mul (mp p) m) m)) (vR a b D (qs.foldl (fun m p => mul (mp p) m) m)) D z3 z4 z5) S)
  | [], m, s3, s4, s5, _, _ => ⟨s3, s4, s5, rfl⟩
  | p :: qs, m, s3, s4, s5, g, ok => by
    obtain ⟨hr, h7⟩ := g p List.mem_cons_self
    obtain ⟨z5, e⟩ := thB_eq P ok hr h7 l s5 S
    obtain ⟨y3, y4, y5, h⟩ := th_loop P l S qs (mul (mp p) m) (some (.d (.str (wS p.1)))) (some (rv p.2)) z5 g.tail (ok.step hr h7)
    refine ⟨y3, y4, y5, ?_⟩
    have tg : gTp 2 (gsCons (gNm 3) (gsCons (gNm 4) gsNil)) (SV.d (ptD p)) (tR l (uR a b D m) (vR a b D m) D s3 s4 s5) = some (tR l (uR a b D m) (vR a b D m) D (some (.d (.str (wS p.1)))) (some (rv p.2)) s5) := rfl
    rw [List.map_cons]
    unfold forL
    rw [tg]
    simp only [e]
    exact h
theorem G7.rev {ps : List Pt} (h : G7 ps) : G7 ps.reverse := fun p m => h p (List.mem_reverse.mp m)
theorem through_eq {ps : List Pt} {c : Int} (h : Two ps) (P : Par a b D) {g : Int} (e1 : g * a = (mm ps).c) (e2 : g * b = (mm ps).d - (mm ps).a) (e3 : g * c = -(mm ps).b) (hD : D = b * b - 4 * a * c) (S : Sto) :
    G.F__law_through [.d (ladD ps), .d (pD (fq (-b) (2 * a)) (fq 1 (2 * a))), .d (.int D)] S = some (.ok (.d (pD (fq (-b) (2 * a)) (fq 1 (2 * a)))) S) := by
  obtain ⟨o1, o2⟩ := uR_one (b := b) (D := D) P.a0
  have n0 := eN_ne (b := b) P.ns P.a0 (mm_nn h.g.pos)
  obtain ⟨f1, f2⟩ := uR_full (c := c) P.a0 e1 e2 e3 hD n0
  have p5 : (7 : Int) ^ ps.reverse.length ≤ 16807 := by
    rw [List.length_reverse]
    have k : (7 : Nat) ^ ps.length ≤ 7 ^ 5 := Nat.pow_le_pow_right (by decide) h.l5
    have k := Int.ofNat_le.mpr k
    rw [Int.natCast_pow] at k
    exact k
  have ok : OkT oneM ps.reverse.length := ⟨⟨by decide, by decide, by decide, by decide⟩, by show 2 * 7 ^ ps.reverse.length ≤ _; omega⟩
  obtain ⟨z3, z4, z5, lp⟩ := th_loop P (some (.d (ladD ps))) S ps.reverse oneM none none none h.g.rev ok
  rw [List.foldl_reverse] at lp
  have e : List.foldr (fun p m => mul (mp p) m) oneM ps = mm ps := rfl
  rw [e, f1, f2, o1, o2] at lp
  unfold G.F__law_through runF rho0 G.f__law_through
  rw [a_sSeq, a_sFor]
  rw [rev_lad ps _ S rfl, bindS_ok]
  erw [lp]
  rfl
end
end M

end
section
set_option Elab.async false
set_option linter.all false
set_option maxRecDepth 100000
namespace M
open PySem PySem.Spec PyProof.Rows L2 VL G
abbrev bagL (a b c : Int) : List SV := [.d (.int a), .d (.int b), .d (.int c)]
structure Bg (a b c : Int) : Prop where
  a0 : 0 ≤ a
  b : b.natAbs.log2 ≤ 2000000
  c : 0 ≤ c ∧ c ≤ 100
theorem mulOk_w {i j : Int} (hi : i.natAbs.log2 ≤ 2000000) (hj : Sm j) : mulOk i j = true := by
  unfold mulOk
  have e : (10 : Nat) ^ 120 < 2 ^ 400 := by decide +kernel
  have h2 := log2_le (n := j.natAbs) (k := 400) (Nat.lt_of_le_of_lt hj e) (by omega)
  rw [decide_eq_true_eq]
  omega
theorem sm_of {x : Int} (h : -10000000000000000000000 ≤ x ∧ x ≤ 10000000000000000000000) : Sm x := by
  unfold Sm
  have e : x.natAbs ≤ 10000000000000000000000 := by omega
  exact Nat.le_trans e (by decide +kernel)
theorem fmod_nn {p q : Int} (h : 0 < q) : 0 ≤ p.fmod q ∧ p.fmod q < q := by
  rw [fmod_pos h]
  exact ⟨Int.emod_nonneg p (by omega), Int.emod_lt_of_pos p h⟩
@[simp] theorem ixB_r (S : Sto) (m : Nat) (i : Int) : gIxB S (.ref m) (.d (.int i)) = (S[m]?).bind fun xs => atI xs i := rfl
theorem ix_r (S : Sto) (m : Nat) (i : Int) : gIx S (.ref m) (.d (.int i)) = (S[m]?).bind fun xs => (atI xs i).bind fun z => if noOwn z then some z else none := rfl
/-- what is drawn from -/
def bagA (a b c : Int) : Int := if a = 0 then (b * 48271 + c * 69621 + 11).fmod 2147483647 * 2147483629 + ((b * 48271 + c * 69621 + 11).fmod 2147483647 * (b * 48271 + c * 69621 + 11).fmod 2147483647 + c * 16807).fmod 2147483629 else a
def bagB (a b c : Int) : Int := if a = 0 then (b * 48271 + c * 69621 + 11).fmod 2147483647 else b
theorem ix30 : ixN 3 0 = some 0 := by decide
theorem ix31 : ixN 3 1 = some 1 := by decide
theorem draw_run {a b c many : Int} (g : Bg a b c) (h1 : 0 < many) (h2 : many ≤ 1000) {S : Sto} {m : Nat} (hS : S[m]? = some (bagL a b c)) :
    G.F__law_draw [.ref m, .d (.int many)] S = some (.ok (.d (.int ((bagA a b c).fmod many))) (S.set m (bagL ((bagA a b c).fdiv many) (bagB a b c) c))) := by
  have hm : m < S.length := (List.getElem?_eq_some_iff.mp hS).1
  have hS2 : S[m]'hm = bagL a b c := (List.getElem?_eq_some_iff.mp hS).2
  have m0 : ¬ many = 0 := by omega
  have dv : ∀ x, divOk x many = true := fun x => divOk_of h1 (by omega)
  obtain ⟨c0, c1⟩ := g.c
  unfold G.F__law_draw runF rho0 G.f__law_draw bagA bagB
  by_cases ha : a = 0
  · subst ha
    obtain ⟨s0, s1⟩ := fmod_nn (p := b * 48271 + c * 69621 + 11) (q := 2147483647) (by omega)
    have k1 : mulOk b 48271 = true := mulOk_w g.b (sm_of (by omega))
    have k2 : mulOk c 69621 = true := mulOk_of (sm_of (by omega)) (sm_of (by omega))
    have k3 : mulOk c 16807 = true := mulOk_of (sm_of (by omega)) (sm_of (by omega))
    generalize hs : (b * 48271 + c * 69621 + 11).fmod 2147483647 = s at *
    have k4 : mulOk s 2147483629 = true := mulOk_of (sm_of (by omega)) (sm_of (by omega))
    have k5 : mulOk s s = true := mulOk_of (sm_of (by omega)) (sm_of (by omega))
    simp [cB, hS2, hm, ix_r, k1, k2, k3, k4, k5, hs, sStore, lVar, Lo.get, Lo.put, ix30, ix31, m0, dv]
  · simp [cB, hS2, hm, ix_r, ha, sStore, lVar, Lo.get, Lo.put, ix30, ix31, m0, dv]
theorem bagA_nn {a b c : Int} (g : Bg a b c) : 0 ≤ bagA a b c := by
  unfold bagA
  split
  · obtain ⟨s0, s1⟩ := fmod_nn (p := b * 48271 + c * 69621 + 11) (q := 2147483647) (by omega)
    generalize (b * 48271 + c * 69621 + 11).fmod 2147483647 = s at *
    obtain ⟨u0, u1⟩ := fmod_nn (p := s * s + c * 16807) (q := 2147483629) (by omega)
    omega
  · exact g.a0
theorem bagB_sm {a b c : Int} (g : Bg a b c) : (bagB a b c).natAbs.log2 ≤ 2000000 := by
  unfold bagB
  split
  · obtain ⟨s0, s1⟩ := fmod_nn (p := b * 48271 + c * 69621 + 11) (q := 2147483647) (by omega)
    generalize (b * 48271 + c * 69621 + 11).fmod 2147483647 = s at *
    have h : s.natAbs < 2 ^ 31 := by omega
    have := log2_le h (by omega)
    omega
  · exact g.b
/-- a draw: the number, the bag behind it -/
theorem draw_eq {a b c many : Int} (g : Bg a b c) (h1 : 0 < many) (h2 : many ≤ 1000) {S : Sto} {m : Nat} (hS : S[m]? = some (bagL a b c)) :
    ∃ r a' b', 0 ≤ r ∧ r < many ∧ Bg a' b' c ∧ G.F__law_draw [.ref m, .d (.int many)] S = some (.ok (.d (.int r)) (S.set m (bagL a' b' c))) := by
  have hn := bagA_nn g
  obtain ⟨r0, r1⟩ := fmod_nn (p := bagA a b c) h1
  refine ⟨_, _, _, r0, r1, ⟨?_, bagB_sm g, g.c⟩, draw_run g h1 h2 hS⟩
  rw [fdiv_pos h1]
  exact Int.ediv_nonneg hn (by omega)
/-- the bag of the k-th number -/
theorem bag_eq (ns : List Int) (k : Nat) (hk : k ≤ 100) (hb : ∀ z ∈ ns, z.natAbs.log2 ≤ 2000000) (S : Sto) (hl : ns.length ≤ 1000) : ∃ a b, Bg a b (k : Int) ∧ G.F__law_bag [.scr ns, .d (.int (k : Int))] S = some (.ok (.own (bagL a b (k : Int))) S) := by
  have main : ∀ cell : Int, cell.natAbs.log2 ≤ 2000000 → ∃ a b, Bg a b (k : Int) ∧ (if 10 ^ 18 ≤ cell then (cell, cell) else (0, cell)) = (a, b) := by
    intro cell hc
    split
    · exact ⟨cell, cell, ⟨by have : (10 : Int) ^ 18 = 1000000000000000000 := by decide
                             omega, hc, by omega⟩, rfl⟩
    · exact ⟨0, cell, ⟨by omega, hc, by omega⟩, rfl⟩
  have e18 : (10 : Int) ^ 18 = 1000000000000000000 := by decide
  by_cases hlt : k < ns.length
  · have hat : atI (ns.map fun n => SV.d (.int n)) (k : Int) = some (.d (.int ns[k])) := by
      have e : ixN (ns.map fun n => SV.d (.int n)).length (k : Int) = some k := by
        unfold ixN
        rw [if_pos (by omega), if_pos (by simp; omega)]
        simp
      unfold atI
      rw [e]
      simp [hlt]
    obtain ⟨a, b, g, e⟩ := main ns[k] (hb _ (List.getElem_mem hlt))
    refine ⟨a, b, g, ?_⟩
    unfold G.F__law_bag runF rho0 G.f__law_bag
    by_cases hc : (10 : Int) ^ 18 ≤ ns[k]
    · rw [if_pos hc] at e
      cases e
      rw [e18] at hc
      simp [cB, hlt, hat, gPow, hc, sizeLine_eq]
    · rw [if_neg hc] at e
      cases e
      rw [e18] at hc
      simp [cB, hlt, hat, gPow, hc, sizeLine_eq]
  · refine ⟨0, 0, ⟨by omega, by decide +kernel, by omega⟩, ?_⟩
    unfold G.F__law_bag runF rho0 G.f__law_bag
    simp [cB, hlt, gPow, sizeLine_eq]
def Bs (S : Sto) (m : Nat) (c : Int) : Prop := ∃ a b, Bg a b c ∧ S[m]? = some (bagL a b c)
theorem draw_bs {S : Sto} {m : Nat} {c many : Int} (h : Bs S m c) (h1 : 0 < many) (h2 : many ≤ 1000) : ∃ (r : Nat) (S' : Sto), (r : Int) < many ∧ Bs S' m c ∧ G.F__law_draw [.ref m, .d (.int many)] S = some (.ok (.d (.int (r : Int))) S') := by
  obtain ⟨a, b, g, hS⟩ := h
  obtain ⟨r, a', b', r0, r1, g', e⟩ := draw_eq g h1 h2 hS
  refine ⟨r.toNat, S.set m (bagL a' b' c), by omega, ⟨a', b', g', ?_⟩, ?_⟩
  · exact List.getElem?_set_self (List.getElem?_eq_some_iff.mp hS).1
  · rw [show ((r.toNat : Nat) : Int) = r by omega]
    exact e

/-! the drawn ladder -/
def fr5 : List Rat := [⟨1, 1, by decide, by decide⟩, ⟨2, 1, by decide, by decide⟩, ⟨1, 2, by decide, by decide⟩, ⟨3, 4, by decide, by decide⟩, ⟨5, 1, by decide, by decide⟩]
theorem fr5_ok : ∀ x ∈ fr5, 0 < x ∧ x.num + x.den ≤ 7 := by
  intro x m
  simp only [fr5, List.mem_cons, List.not_mem_nil, or_false] at m
  rcases m with rfl | rfl | rfl | rfl | rfl <;> exact ⟨by decide, by decide⟩
noncomputable abbrev l2E : Rho → Mo SV := (eLst (aCons (eCon (.str "row")) (aCons (eCon (.str "beside")) aNil)))
noncomputable abbrev l5E : Rho → Mo SV := (eLst (aCons (eTup (aCons (eCon (.int 1)) (aCons (eCon (.int 1)) aNil))) (aCons (eTup (aCons (eCon (.int 2)) (aCons (eCon (.int 1)) aNil))) (aCons (eTup (aCons (eCon (.int 1)) (aCons (eCon (.int 2)) aNil))) (aCons (eTup (aCons (eCon (.int 3)) (aCons (eCon (.int 4)) aNil))) (aCons (eTup (aCons (eCon (.int 5)) (aCons (eCon (.int 1)) aNil))) aNil))))))
theorem l2_eq (ρ : Rho) (S : Sto) : l2E ρ S = some (.ok (.own [.d (.str (wS true)), .d (.str (wS false))]) S) := by
  unfold l2E
  simp [sizeLine_eq]
  exact ⟨rfl, rfl⟩
theorem l5_eq (ρ : Rho) (S : Sto) : l5E ρ S = some (.ok (.own (fr5.map rv)) S) := by
  unfold l5E
  simp [sizeLine_eq, fr5]
theorem pick2 (S : Sto) {r : Nat} (h : (r : Int) < 2) : ∃ w : Bool, gIx S (.own [.d (.str (wS true)), .d (.str (wS false))]) (.d (.int (r : Int))) = some (.d (.str (wS w))) := by
  have : r = 0 ∨ r = 1 := by omega
  rcases this with rfl | rfl
  · exact ⟨true, by simp [gIx]⟩
  · exact ⟨false, by simp [gIx]⟩
theorem pick5 (S : Sto) {r : Nat} (h : (r : Int) < 5) : ∃ x : Rat, (0 < x ∧ x.num + x.den ≤ 7) ∧ gIx S (.own (fr5.map rv)) (.d (.int (r : Int))) = some (rv x) := by
  have hl : r < fr5.length := by
    show r < 5
    omega
  refine ⟨fr5[r], fr5_ok _ (List.getElem_mem hl), ?_⟩
  have e : ixN (fr5.map rv).length (r : Int) = some r := by
    unfold ixN
    rw [if_pos (by omega), if_pos (by rw [List.length_map]; omega)]
    simp
  unfold gIx seq? lst?
  simp only [Option.bind_some, atI]
  rw [e]
  simp [hl]
noncomputable abbrev ldB : Rho → Sto → Option VL.Fl := (sAppend (lVar 1) (aCons (eTup (aCons (eBin gIx (eLst (aCons (eCon (.str "row")) (aCons (eCon (.str "beside")) aNil))) (eCall 2 F__law_draw [] (aCons (eVarV 0) (aCons (eCon (.int 2)) aNil)))) (aCons (eBin gIx (eLst (aCons (eTup (aCons (eCon (.int 1)) (aCons (eCon (.int 1)) aNil))) (aCons (eTup (aCons (eCon (.int 2)) (aCons (eCon (.int 1)) aNil))) (aCons (eTup (aCons (eCon (.int 1)) (aCons (eCon (.int 2)) aNil))) (aCons (eTup (aCons (eCon (.int 3)) (aCons (eCon (.int 4)) aNil))) (aCons (eTup (aCons (eCon (.int 5)) (aCons (eCon (.int 1)) aNil))) aNil)))))) (eCall 2 F__law_draw [] (aCons (eVarV 0) (aCons (eCon (.int 5)) aNil)))) aNil))) aNil))
theorem ldB_eq {S : Sto} {m : Nat} {c : Int} (h : Bs S m c) {acc : List SV} (ha : acc.length ≤ 100) (y3 y4 y5 y : Option SV) : ∃ (p : Pt) (S' : Sto), (0 < p.2 ∧ p.2.num + (p.2.den : Int) ≤ 7) ∧ Bs S' m c ∧
    ldB [some (.ref m), some (.own acc), y, y3, y4, y5] S = some (.nx [some (.ref m), some (.own (acc ++ [.d (ptD p)])), y, y3, y4, y5] S') := by
  obtain ⟨r1, S1, k1, B1, e1⟩ := draw_bs h (show (0 : Int) < 2 by omega) (by omega)
  obtain ⟨r2, S2, k2, B2, e2⟩ := draw_bs B1 (show (0 : Int) < 5 by omega) (by omega)
  obtain ⟨w, p1⟩ := pick2 S1 k1
  obtain ⟨x, gx, p2⟩ := pick5 S2 k2
  refine ⟨(w, x), S2, gx, B2, ?_⟩
  have h4 : acc.length < 10000000 := by omega
  have q : (aCons (eTup (aCons (eBin gIx l2E (eCall 2 F__law_draw [] (aCons (eVarV 0) (aCons (eCon (.int 2)) aNil)))) (aCons (eBin gIx l5E (eCall 2 F__law_draw [] (aCons (eVarV 0) (aCons (eCon (.int 5)) aNil)))) aNil))) aNil) [some (.ref m), some (.own acc), y, y3, y4, y5] S = some (.ok [.d (ptD (w, x))] S2) := by
    rw [a_aCons, a_eTup, a_aCons, a_eBin, l2_eq]
    simp only [bindM_ok]
    have d1 : eCall 2 F__law_draw [] (aCons (eVarV 0) (aCons (eCon (.int 2)) aNil)) [some (.ref m), some (.own acc), y, y3, y4, y5] S = some (.ok (.d (.int (r1 : Int))) S1) := by simp [e1]
    have d2 : eCall 2 F__law_draw [] (aCons (eVarV 0) (aCons (eCon (.int 5)) aNil)) [some (.ref m), some (.own acc), y, y3, y4, y5] S1 = some (.ok (.d (.int (r2 : Int))) S2) := by simp [e2]
    rw [d1]
    simp only [bindM_ok, p1, Option.map_some]
    rw [a_aCons, a_eBin, l5_eq]
    simp only [bindM_ok]
    rw [d2]
    simp only [bindM_ok, p2, Option.map_some]
    simp [sizeLine_eq]
  show sAppend (lVar 1) (aCons (eTup (aCons (eBin gIx l2E _) (aCons (eBin gIx l5E _) aNil))) aNil) _ S = _
  unfold sAppend
  have lv : lVar 1 [some (.ref m), some (.own acc), y, y3, y4, y5] S = some (.ok (.sl 1 []) S) := rfl
  rw [lv, bindS_ok, q, bindS_ok]
  simp [Lo.get, Lo.put, getP, putP, sizeLine_eq]
  omega
abbrev ptL (ps : List Pt) : List SV := ps.map fun p => SV.d (ptD p)
theorem ptL_snoc (ps : List Pt) (p : Pt) : ptL ps ++ [SV.d (ptD p)] = ptL (ps ++ [p]) := by
  show ps.map _ ++ _ = (ps ++ [p]).map _
  rw [List.map_append]
  rfl
theorem own_seq (ps : List Pt) (f : Rho → Mo SV) (ρ : Rho) (S : Sto) (h : f ρ S = some (.ok (.own (ptL ps)) S)) : VL.iSeq f ρ S = some (.ok (ps.map fun p => SV.d (ptD p)) S) := by
  have n : (ptL ps).all noOwn = true := List.all_eq_true.mpr fun x m => by
    obtain ⟨p, _, rfl⟩ := List.mem_map.mp m
    rfl
  rw [a_iSeq, h]
  simp only [bindM_ok, isRef_o, seq_o, Option.bind_some, n, if_true, if_false, Bool.false_eq_true]
theorem tup_own (ps : List Pt) (S : Sto) : gTuple S [.own (ptL ps)] = some (.d (ladD ps)) := by
  have e : ptL ps = (ps.map ptD).map SV.d := by
    rw [List.map_map]
    rfl
  unfold gTuple lst?
  simp only [Option.bind_some]
  rw [e, allD_map]
  rfl
theorem app_eq (ps : List Pt) (p : Pt) (hl : ps.length ≤ 100) (f : Rho → Mo SV) (a b c d e : Option SV) (S : Sto) (hf : f (a :: some (.own (ptL ps)) :: b :: c :: d :: e :: []) S = some (.ok (.d (ptD p)) S)) :
    sAppend (lVar 1) (aCons f aNil) [a, some (.own (ptL ps)), b, c, d, e] S = some (.nx [a, some (.own (ptL (ps ++ [p]))), b, c, d, e] S) := by
  have lv : lVar 1 [a, some (.own (ptL ps)), b, c, d, e] S = some (.ok (.sl 1 []) S) := rfl
  have n : (ptL ps).length ≤ 100 := by rw [List.length_map]; exact hl
  rw [← ptL_snoc]
  generalize ptL ps = acc at *
  unfold sAppend
  rw [lv, bindS_ok, a_aCons, hf]
  simp [Lo.get, Lo.put, getP, putP, sizeLine_eq]
  omega
theorem all_or {ps : List Pt} {b : Bool} : (∃ p ∈ ps, p.1 = b) ∨ ∀ p ∈ ps, p.1 = !b := by
  by_cases h : ∃ p ∈ ps, p.1 = b
  · exact .inl h
  · refine .inr fun p m => ?_
    have : p.1 ≠ b := fun e => h ⟨p, m, e⟩
    revert this
    cases p.1 <;> cases b <;> simp
theorem row23 : (0 : Rat) < (⟨2, 3, by decide, by decide⟩ : Rat) ∧ (⟨2, 3, by decide, by decide⟩ : Rat).num + (⟨2, 3, by decide, by decide⟩ : Rat).den ≤ 7 := ⟨by decide, by decide⟩
theorem row32 : (0 : Rat) < (⟨3, 2, by decide, by decide⟩ : Rat) ∧ (⟨3, 2, by decide, by decide⟩ : Rat).num + (⟨3, 2, by decide, by decide⟩ : Rat).den ≤ 7 := ⟨by decide, by decide⟩
theorem G7.snoc {ps : List Pt} (g : G7 ps) {p : Pt} (h : 0 < p.2 ∧ p.2.num + p.2.den ≤ 7) : G7 (ps ++ [p]) := g.app fun q m => by
  cases List.mem_singleton.mp m
  exact h
theorem ladder_eq {S : Sto} {m : Nat} {c : Int} (h : Bs S m c) : ∃ ps S', Two ps ∧ Bs S' m c ∧ G.F__law_ladder [.ref m] S = some (.ok (.d (ladD ps)) S') := by
  obtain ⟨r1, S1, k1, B1, e1⟩ := draw_bs h (show (0 : Int) < 4 by omega) (by omega)
  obtain ⟨ρ2, S2, ⟨ps, y, hp, g, B2, rfl⟩, e⟩ := forL_step (t := gNm 2) (body := ldB) (fun k ρ S' => ∃ (ps : List Pt) (y : Option SV), ps.length = k ∧ G7 ps ∧ Bs S' m c ∧ ρ = [some (.ref m), some (.own (ptL ps)), y, none, none, none]) (rangeL 0 (1 + r1)) (fun k x hx ρ S' hI => by
    obtain ⟨ps, y, hp, g, B, rfl⟩ := hI
    obtain ⟨hk, rfl⟩ := rangeL_at hx
    obtain ⟨p, S'', gp, B', e⟩ := ldB_eq B (acc := ptL ps) (by rw [List.length_map]; omega) none none none (some (.d (.int (0 + (k : Int)))))
    rw [ptL_snoc] at e
    exact ⟨_, rfl, _, S'', ⟨ps ++ [p], some (.d (.int (0 + (k : Int)))), by simp [hp], g.snoc gp, B', rfl⟩, .inl e⟩) [some (.ref m), some (.own []), none, none, none, none] S1 ⟨[], none, rfl, fun q m => by (cases m), B1, rfl⟩
  rw [rangeL_length] at hp
  have it : VL.iRng1 (aCons (eBin gAdd (eCon (.int 1)) (eCall 2 F__law_draw [] (aCons (eVarV 0) (aCons (eCon (.int 4)) aNil)))) aNil) [some (.ref m), some (.own []), none, none, none, none] S = some (.ok (rangeL 0 (1 + r1)) S1) := by
    have e2 : (1 : Int) + (r1 : Int) = ((1 + r1 : Nat) : Int) := by omega
    have : (aCons (eBin gAdd (eCon (.int 1)) (eCall 2 F__law_draw [] (aCons (eVarV 0) (aCons (eCon (.int 4)) aNil)))) aNil) [some (.ref m), some (.own []), none, none, none, none] S = some (.ok [.d (.int ((1 + r1 : Nat) : Int))] S1) := by
      rw [← e2]
      simp [e1]
    rw [a_iRng1, this]
    simp only [bindM_ok, Int.toNat_natCast]
    exact if_pos (inR_of ⟨by omega, by omega⟩)
  have k0 : (sSet 1 (eLst aNil)) [some (.ref m), none, none, none, none, none] S = some (.nx [some (.ref m), some (.own []), none, none, none, none] S) := by simp
  have k1' : (sFor (iRng1 (aCons (eBin gAdd (eCon (.int 1)) (eCall 2 F__law_draw [] (aCons (eVarV 0) (aCons (eCon (.int 4)) aNil)))) aNil)) (gNm 2)
  (sAppend (lVar 1) (aCons (eTup (aCons (eBin gIx (eLst (aCons (eCon (.str "row")) (aCons (eCon (.str "beside")) aNil))) (eCall 2 F__law_draw [] (aCons (eVarV 0) (aCons (eCon (.int 2)) aNil)))) (aCons (eBin gIx (eLst (aCons (eTup (aCons (eCon (.int 1)) (aCons (eCon (.int 1)) aNil))) (aCons (eTup (aCons (eCon (.int 2)) (aCons (eCon (.int 1)) aNil))) (aCons (eTup (aCons (eCon (.int 1)) (aCons (eCon (.int 2)) aNil))) (aCons (eTup (aCons (eCon (.int 3)) (aCons (eCon (.int 4)) aNil))) (aCons (eTup (aCons (eCon (.int 5)) (aCons (eCon (.int 1)) aNil))) aNil)))))) (eCall 2 F__law_draw [] (aCons (eVarV 0) (aCons (eCon (.int 5)) aNil)))) aNil))) aNil))) [some (.ref m), some (.own []), none, none, none, none] S = some (.nx [some (.ref m), some (.own (ptL ps)), y, none, none, none] S2) := by
    rw [a_sFor]
    erw [it]
    rw [bindS_ok]
    exact e
  have c1 := eLc_mapF (S := S2) (ρ := [some (.ref m), some (.own (ptL ps)), y, none, none, none]) (vs := [4, 5]) (it := VL.iSeq (eVar 1)) (tf := gTp 2 (gsCons (gNm 4) (gsCons (gNm 5) gsNil))) (elt := eVarV 4) (l := ps)
    (fun p => SV.d (ptD p)) (fun p => SV.d (.str (wS p.1))) (own_seq ps (eVar 1) _ S2 (by simp)) (fun p mp => by
      refine ⟨[some (.ref m), some (.own (ptL ps)), y, none, some (.d (.str (wS p.1))), some (rv p.2)], rfl, ?_⟩
      simp) (by rw [sizeLine_eq]; omega)
  have k2 : (sSet 3 (eLc (iSeq (eVar 1)) (gTp 2 (gsCons (gNm 4) (gsCons (gNm 5) gsNil))) bYes (eVarV 4) [4, 5])) [some (.ref m), some (.own (ptL ps)), y, none, none, none] S2 = some (.nx [some (.ref m), some (.own (ptL ps)), y, some (.own (wordL ps)), none, none] S2) := by
    rw [a_sSet, c1]
    rfl
  have fin : ∀ qs : List Pt, G.F__law_ladder [.ref m] S = (match sSeq (sIf (bB (eBin (cB gNotIn) (eCon (.str "row")) (eVar 3)))
  (sAppend (lVar 1) (aCons (eTup (aCons (eCon (.str "row")) (aCons (eTup (aCons (eCon (.int 2)) (aCons (eCon (.int 3)) aNil))) aNil))) aNil))
  sNil) (sSeq (sIf (bB (eBin (cB gNotIn) (eCon (.str "beside")) (eVar 3)))
  (sAppend (lVar 1) (aCons (eTup (aCons (eCon (.str "beside")) (aCons (eTup (aCons (eCon (.int 3)) (aCons (eCon (.int 2)) aNil))) aNil))) aNil))
  sNil) (sRet (eCal gTuple (aCons (eVar 1) aNil)))) [some (.ref m), some (.own (ptL ps)), y, some (.own (wordL ps)), none, none] S2 with
      | some (.nx _ S') => some (.ok (.d .none) S')
      | some (.rt x S') => some (.ok x S')
      | some (.exc c fs _ S') => some (.exc c fs S')
      | _ => none) := by
    intro qs
    have e1 : G.F__law_ladder [.ref m] S = (match G.f__law_ladder [some (.ref m), none, none, none, none, none] S with
      | some (.nx _ S') => some (.ok (.d .none) S')
      | some (.rt x S') => some (.ok x S')
      | some (.exc c fs _ S') => some (.exc c fs S')
      | _ => none) := rfl
    rw [e1]
    have : G.f__law_ladder [some (.ref m), none, none, none, none, none] S = sSeq (sIf (bB (eBin (cB gNotIn) (eCon (.str "row")) (eVar 3)))
  (sAppend (lVar 1) (aCons (eTup (aCons (eCon (.str "row")) (aCons (eTup (aCons (eCon (.int 2)) (aCons (eCon (.int 3)) aNil))) aNil))) aNil))
  sNil) (sSeq (sIf (bB (eBin (cB gNotIn) (eCon (.str "beside")) (eVar 3)))
  (sAppend (lVar 1) (aCons (eTup (aCons (eCon (.str "beside")) (aCons (eTup (aCons (eCon (.int 3)) (aCons (eCon (.int 2)) aNil))) aNil))) aNil))
  sNil) (sRet (eCal gTuple (aCons (eVar 1) aNil)))) [some (.ref m), some (.own (ptL ps)), y, some (.own (wordL ps)), none, none] S2 := seq_nx k0 (seq_nx k1' (seq_nx k2 rfl))
    rw [this]
  have last : ∀ qs : List Pt, (sRet (eCal gTuple (aCons (eVar 1) aNil))) [some (.ref m), some (.own (ptL qs)), y, some (.own (wordL ps)), none, none] S2 = some (.rt (.d (ladD qs)) S2) := by
    intro qs
    have := tup_own qs S2
    generalize ptL qs = acc at *
    generalize ladD qs = L at *
    simp [this]
  have w1 := notin_words ps "row" ok_row S2
  have w2 := notin_words ps "beside" ok_beside S2
  have t1 : ∀ qs : List Pt, (bB (eBin (cB gNotIn) (eCon (.str "row")) (eVar 3))) [some (.ref m), some (.own (ptL qs)), y, some (.own (wordL ps)), none, none] S2 = some (.ok (!(ps.any fun p => wS p.1 == "row")) S2) := by
    intro qs
    generalize wordL ps = W at *
    simp [cB, w1]
  have t2 : ∀ qs : List Pt, (bB (eBin (cB gNotIn) (eCon (.str "beside")) (eVar 3))) [some (.ref m), some (.own (ptL qs)), y, some (.own (wordL ps)), none, none] S2 = some (.ok (!(ps.any fun p => wS p.1 == "beside")) S2) := by
    intro qs
    generalize wordL ps = W at *
    simp [cB, w2]
  have a1 := app_eq ps (true, ⟨2, 3, by decide, by decide⟩) (by omega) (eTup (aCons (eCon (.str "row")) (aCons (eTup (aCons (eCon (.int 2)) (aCons (eCon (.int 3)) aNil))) aNil))) (some (.ref m)) y (some (.own (wordL ps))) none none S2 (by simp [sizeLine_eq]; rfl)
  have a2 := app_eq ps (false, ⟨3, 2, by decide, by decide⟩) (by omega) (eTup (aCons (eCon (.str "beside")) (aCons (eTup (aCons (eCon (.int 3)) (aCons (eCon (.int 2)) aNil))) aNil))) (some (.ref m)) y (some (.own (wordL ps))) none none S2 (by simp [sizeLine_eq]; rfl)
  have ex : ∃ q, q ∈ ps := by
    cases ps with
    | nil => simp at hp; omega
    | cons q t => exact ⟨q, List.mem_cons_self⟩
  have go : ∀ qs : List Pt, sSeq (sIf (bB (eBin (cB gNotIn) (eCon (.str "row")) (eVar 3)))
  (sAppend (lVar 1) (aCons (eTup (aCons (eCon (.str "row")) (aCons (eTup (aCons (eCon (.int 2)) (aCons (eCon (.int 3)) aNil))) aNil))) aNil))
  sNil) (sSeq (sIf (bB (eBin (cB gNotIn) (eCon (.str "beside")) (eVar 3)))
  (sAppend (lVar 1) (aCons (eTup (aCons (eCon (.str "beside")) (aCons (eTup (aCons (eCon (.int 3)) (aCons (eCon (.int 2)) aNil))) aNil))) aNil))
  sNil) (sRet (eCal gTuple (aCons (eVar 1) aNil)))) [some (.ref m), some (.own (ptL ps)), y, some (.own (wordL ps)), none, none] S2 = some (.rt (.d (ladD qs)) S2) → Two qs → ∃ ps S', Two ps ∧ Bs S' m c ∧ G.F__law_ladder [.ref m] S = some (.ok (.d (ladD ps)) S') := by
    intro qs hq t
    refine ⟨qs, S2, t, B2, ?_⟩
    rw [fin qs, hq]
  rcases all_or (ps := ps) (b := true) with hr | hr
  · rw [any_row hr] at t1
    have s1 : (sIf (bB (eBin (cB gNotIn) (eCon (.str "row")) (eVar 3)))
  (sAppend (lVar 1) (aCons (eTup (aCons (eCon (.str "row")) (aCons (eTup (aCons (eCon (.int 2)) (aCons (eCon (.int 3)) aNil))) aNil))) aNil))
  sNil) [some (.ref m), some (.own (ptL ps)), y, some (.own (wordL ps)), none, none] S2 = some (.nx [some (.ref m), some (.own (ptL ps)), y, some (.own (wordL ps)), none, none] S2) := by
      rw [a_sIf, t1, bindS_ok]
      simp
    rcases all_or (ps := ps) (b := false) with hb | hb
    · rw [any_beside hb] at t2
      have s2 : (sIf (bB (eBin (cB gNotIn) (eCon (.str "beside")) (eVar 3)))
  (sAppend (lVar 1) (aCons (eTup (aCons (eCon (.str "beside")) (aCons (eTup (aCons (eCon (.int 3)) (aCons (eCon (.int 2)) aNil))) aNil))) aNil))
  sNil) [some (.ref m), some (.own (ptL ps)), y, some (.own (wordL ps)), none, none] S2 = some (.nx [some (.ref m), some (.own (ptL ps)), y, some (.own (wordL ps)), none, none] S2) := by
        rw [a_sIf, t2, bindS_ok]
        simp
      exact go ps (seq_nx s1 (seq_nx s2 (last ps))) ⟨g, by omega, by omega, hr, hb⟩
    · rw [no_beside (fun p mp => hb p mp)] at t2
      have s2 : (sIf (bB (eBin (cB gNotIn) (eCon (.str "beside")) (eVar 3)))
  (sAppend (lVar 1) (aCons (eTup (aCons (eCon (.str "beside")) (aCons (eTup (aCons (eCon (.int 3)) (aCons (eCon (.int 2)) aNil))) aNil))) aNil))
  sNil) [some (.ref m), some (.own (ptL ps)), y, some (.own (wordL ps)), none, none] S2 = some (.nx [some (.ref m), some (.own (ptL (ps ++ [(false, ⟨3, 2, by decide, by decide⟩)]))), y, some (.own (wordL ps)), none, none] S2) := by
        rw [a_sIf, t2, bindS_ok, if_pos (by decide)]
        exact a2
      obtain ⟨q, mq, eq⟩ := hr
      exact go _ (seq_nx s1 (seq_nx s2 (last _))) ⟨g.snoc row32, by simp, by simp; omega, ⟨q, List.mem_append_left _ mq, eq⟩, ⟨(false, ⟨3, 2, by decide, by decide⟩), List.mem_append_right _ List.mem_cons_self, rfl⟩⟩
  · rw [no_row (fun p mp => hr p mp)] at t1
    have s1 : (sIf (bB (eBin (cB gNotIn) (eCon (.str "row")) (eVar 3)))
  (sAppend (lVar 1) (aCons (eTup (aCons (eCon (.str "row")) (aCons (eTup (aCons (eCon (.int 2)) (aCons (eCon (.int 3)) aNil))) aNil))) aNil))
  sNil) [some (.ref m), some (.own (ptL ps)), y, some (.own (wordL ps)), none, none] S2 = some (.nx [some (.ref m), some (.own (ptL (ps ++ [(true, ⟨2, 3, by decide, by decide⟩)]))), y, some (.own (wordL ps)), none, none] S2) := by
      rw [a_sIf, t1, bindS_ok, if_pos (by decide)]
      exact a1
    obtain ⟨q, mq⟩ := ex
    have hb : ∃ p ∈ ps, p.1 = false := ⟨q, mq, hr q mq⟩
    rw [any_beside hb] at t2
    have s2 : (sIf (bB (eBin (cB gNotIn) (eCon (.str "beside")) (eVar 3)))
  (sAppend (lVar 1) (aCons (eTup (aCons (eCon (.str "beside")) (aCons (eTup (aCons (eCon (.int 3)) (aCons (eCon (.int 2)) aNil))) aNil))) aNil))
  sNil) [some (.ref m), some (.own (ptL (ps ++ [(true, ⟨2, 3, by decide, by decide⟩)]))), y, some (.own (wordL ps)), none, none] S2 = some (.nx [some (.ref m), some (.own (ptL (ps ++ [(true, ⟨2, 3, by decide, by decide⟩)]))), y, some (.own (wordL ps)), none, none] S2) := by
      rw [a_sIf, t2, bindS_ok]
      simp
    exact go _ (seq_nx s1 (seq_nx s2 (last _))) ⟨g.snoc row23, by simp, by simp; omega, ⟨(true, ⟨2, 3, by decide, by decide⟩), List.mem_append_right _ List.mem_cons_self, rfl⟩, ⟨q, List.mem_append_left _ mq, hr q mq⟩⟩
end M

end
section
set_option Elab.async false
set_option linter.all false
set_option maxRecDepth 100000
namespace M
open PySem PySem.Spec PyProof.Rows L2 VL G

theorem mt_vv : G.mt "BadValue" "BadValue" = some true := by decide +kernel
theorem mt_nv : G.mt "NoSuch" "BadValue" = some false := by decide +kernel
theorem mt_nn : G.mt "NoSuch" "NoSuch" = some true := by decide +kernel
@[simp] theorem ok_none : PyData.strOk "none" = true := by decide +kernel
abbrev BadL (x : PyData) : Prop := ∀ S : Sto, G.F_look_at_ladder [.d x] S = some (.exc "BadValue" [] S)
/-! what is no ladder -/
theorem bad_none : BadL .none := fun S => by
  unfold G.F_look_at_ladder runF rho0 G.f_look_at_ladder
  simp
theorem bad_list (ds : List PyData) : BadL (.list ds) := fun S => by
  unfold G.F_look_at_ladder runF rho0 G.f_look_at_ladder
  simp
theorem bad_nil : BadL (.tuple []) := fun S => by
  unfold G.F_look_at_ladder runF rho0 G.f_look_at_ladder
  simp [eChain]
abbrev BadP (x : PyData) : Prop := ∀ S : Sto, G.F_is_part [.d x] S = some (.ok (.d (.bool false)) S)
theorem bad_one {x : PyData} (h : BadP x) : BadL (.tuple [x]) := fun S => by
  have c := eLc_mapF (S := S) (ρ := [some (.d (.tuple [x])), none]) (vs := [1]) (it := VL.iSeq (eVar 0)) (tf := gNm 1) (elt := eCall 1 F_is_part [] (aCons (eVarV 1) aNil)) (l := [x])
    (fun y => SV.d y) (fun _ => SV.d (.bool false)) (by simp) (fun y m => by
      cases List.mem_singleton.mp m
      refine ⟨[some (.d (.tuple [x])), some (.d x)], rfl, ?_⟩
      simp [h S]) (by rw [sizeLine_eq]; simp)
  unfold G.F_look_at_ladder runF rho0 G.f_look_at_ladder
  simp [eChain, c, gAll, lst?, bools]
theorem in_row (S : Sto) : gInT S (.d (.str "row")) (.d (.tuple [.str "row", .str "beside"])) = some true := by
  simp [gInT, inT, flatD, flatDs, inV, eqV]
theorem part_low {x : Rat} (h : Bd 7 x) (h0 : ¬ 0 < x.num) : BadP (.tuple [.str "row", rD x]) := fun S => by
  have s := sign_eq x.num x.den S
  rw [if_neg h0] at s
  have k : ¬ (0 < (0 : Int) - (if x.num < 0 then 1 else 0)) := by split <;> omega
  generalize (0 : Int) - (if x.num < 0 then 1 else 0) = z at *
  unfold G.F_is_part runF rho0 G.f_is_part
  simp [cB, in_row, eAnd, sizeLine_eq, gIx, frac_ok h, s]
  omega
/-! lists of texts -/
theorem eqv_texts (s : Str) : ∀ n : Nat, PyData.eqvAll (List.replicate n (.str s)) (List.replicate n (.str s)) = true
  | 0 => by simp [PyData.eqvAll]
  | n + 1 => by
    have ih := eqv_texts s n
    rw [List.replicate_succ]
    simp [PyData.eqvAll, ih]
theorem can_texts {s : Str} (h : PyData.strOk s = true) : ∀ n : Nat, PyData.canLayAll0 (List.replicate n (.str s)) = true
  | 0 => by simp [PyData.canLayAll0]
  | n + 1 => by
    have ih := can_texts h n
    rw [List.replicate_succ]
    simp [PyData.canLayAll0, PyData.canLay0, h, ih]
theorem depth_texts (s : Str) : ∀ n : Nat, PyData.depthAll (List.replicate n (.str s)) = 0
  | 0 => by simp [PyData.depthAll]
  | n + 1 => by
    have ih := depth_texts s n
    rw [List.replicate_succ]
    simp [PyData.depthAll, PyData.depth, ih]
theorem dat_texts (s : Str) (n : Nat) (S : Sto) : dat? S (.own (List.replicate n (.d (.str s)))) = some (.list (List.replicate n (.str s))) := by
  have e : List.replicate n (SV.d (.str s)) = (List.replicate n (PyData.str s)).map SV.d := by rw [List.map_replicate]
  rw [e]
  show (allD _).map PyData.list = _
  rw [allD_map]
  rfl
theorem sh_texts {s : Str} (h : PyData.strOk s = true) (n : Nat) : SeqAt.shaped (.list (List.replicate n (.str s))) = true := by
  have e1 : (PyData.list (List.replicate n (.str s))).canLay0 = PyData.canLayAll0 (List.replicate n (.str s)) := by simp [PyData.canLay0]
  have e2 : (PyData.list (List.replicate n (.str s))).depth = PyData.depthAll (List.replicate n (.str s)) + 1 := by simp [PyData.depth]
  rw [shaped_def, e1, e2, can_texts h, depth_texts]
  rfl
theorem ne_texts {s : Str} (h : PyData.strOk s = true) (n : Nat) (S : Sto) : gNe S (.own (List.replicate n (.d (.str s)))) (.own (List.replicate n (.d (.str s)))) = some false := by
  unfold gNe
  rw [dat_texts]
  simp only [Option.bind_some, sh_texts h, Bool.and_self, if_true, PyData.eqv, eqv_texts, Bool.not_true]
theorem eq_texts {s : Str} (h : PyData.strOk s = true) (n : Nat) (S : Sto) : gEq S (.own (List.replicate n (.d (.str s)))) (.own (List.replicate n (.d (.str s)))) = some true := by
  unfold gEq
  rw [dat_texts]
  simp only [Option.bind_some, sh_texts h, Bool.and_self, if_true, PyData.eqv, eqv_texts]

section
variable {ps : List Pt} {x y : PyData} {S σ : Sto}
/-! told -/
theorem ex_value (ρ : Rho) (S : Sto) : exM G.mt [("BadValue", (sRet (eCon (.str "value")))), ("NoSuch", (sRet (eCon (.str "none")))), ("TooFar", (sRet (eCon (.str "far"))))] "BadValue" [] ρ S = some (.rt (.d (.str "value")) S) := by
  simp [exM, mt_vv, noX]
theorem ex_none (ρ : Rho) (S : Sto) : exM G.mt [("BadValue", (sRet (eCon (.str "value")))), ("NoSuch", (sRet (eCon (.str "none")))), ("TooFar", (sRet (eCon (.str "far"))))] "NoSuch" [] ρ S = some (.rt (.d (.str "none")) S) := by
  simp [exM, mt_nv, mt_nn, noX]
theorem l_parts : List.lookup (α := Str) "parts_enough" [("parts_enough", F_parts_enough)] = some F_parts_enough := rfl
theorem l_endless : List.lookup (α := Str) "endless" [("endless", F_endless)] = some F_endless := rfl
theorem told2 {k : Str} {r : PyData} (h : G.F_parts_enough [.d x, .d y] S = some (.exc k [] S)) (hx : ∀ ρ, exM G.mt [("BadValue", (sRet (eCon (.str "value")))), ("NoSuch", (sRet (eCon (.str "none")))), ("TooFar", (sRet (eCon (.str "far"))))] k [] ρ S = some (.rt (.d r) S)) :
    G.F__law_told [.fn "parts_enough", .d (.tuple [x, y])] S = some (.ok (.d r) S) := by
  have e : eCallL 0 2 [("parts_enough", F_parts_enough)] [] (aCons (eBin gIx (eVar 1) (eCon (.int 0))) (aCons (eBin gIx (eVar 1) (eCon (.int 1))) aNil)) [some (.fn "parts_enough"), some (.d (.tuple [x, y]))] S = some (.exc k [] S) := by
    unfold eCallL
    simp only [List.getElem?_cons_zero, l_parts, Option.bind_some]
    simp [gIx, h]
  unfold G.F__law_told runF rho0 G.f__law_told sTryM
  simp [cB, e]
  erw [hx]
theorem told2_ok {r : PyData} (h : G.F_parts_enough [.d x, .d y] S = some (.ok (.d r) S)) :
    G.F__law_told [.fn "parts_enough", .d (.tuple [x, y])] S = some (.ok (.d r) S) := by
  have e : eCallL 0 2 [("parts_enough", F_parts_enough)] [] (aCons (eBin gIx (eVar 1) (eCon (.int 0))) (aCons (eBin gIx (eVar 1) (eCon (.int 1))) aNil)) [some (.fn "parts_enough"), some (.d (.tuple [x, y]))] S = some (.ok (.d r) S) := by
    unfold eCallL
    simp only [List.getElem?_cons_zero, l_parts, Option.bind_some]
    simp [gIx, h]
  unfold G.F__law_told runF rho0 G.f__law_told sTryM
  simp [cB, e]
theorem told1 {k : Str} {r : PyData} (h : G.F_endless [.d x] S = some (.exc k [] S)) (hx : ∀ ρ, exM G.mt [("BadValue", (sRet (eCon (.str "value")))), ("NoSuch", (sRet (eCon (.str "none")))), ("TooFar", (sRet (eCon (.str "far"))))] k [] ρ S = some (.rt (.d r) S)) :
    G.F__law_told [.fn "endless", .d (.tuple [x])] S = some (.ok (.d r) S) := by
  have e : eCallL 0 1 [("endless", F_endless)] [] (aCons (eBin gIx (eVar 1) (eCon (.int 0))) aNil) [some (.fn "endless"), some (.d (.tuple [x]))] S = some (.exc k [] S) := by
    unfold eCallL
    simp only [List.getElem?_cons_zero, l_endless, Option.bind_some]
    simp [gIx, h]
  unfold G.F__law_told runF rho0 G.f__law_told sTryM
  simp [cB, e]
  erw [hx]
theorem endless_bad (h : BadL x) (S : Sto) : G.F_endless [.d x] S = some (.exc "BadValue" [] S) := by
  have e : sDrop (eCall 1 F_look_at_ladder [] (aCons (eVarV 0) aNil)) [some (.d x), none, none, none] S = some (.exc "BadValue" [] [some (.d x), none, none, none] S) := by
    simp [h S]
  rw [endless_run]
  have : G.f_endless [some (.d x), none, none, none] S = some (.exc "BadValue" [] [some (.d x), none, none, none] S) := seq_exc e
  rw [this]
/-! parts_enough -/
theorem pe_run (x y : PyData) (σ : Sto) : G.F_parts_enough [.d x, .d y] σ = (match G.f_parts_enough [some (.d x), some (.d y), none, none, none] σ with
      | some (.nx _ S') => some (.ok (.d .none) S')
      | some (.rt x S') => some (.ok x S')
      | some (.exc c fs _ S') => some (.exc c fs S')
      | _ => none) := rfl
theorem pe_exc {k : Str} (h : G.F_endless [.d x] σ = some (.exc k [] σ)) (y : PyData) : G.F_parts_enough [.d x, .d y] σ = some (.exc k [] σ) := by
  have e : (sSet 2 (eCall 1 F_endless [] (aCons (eVarV 0) aNil))) [some (.d x), some (.d y), none, none, none] σ = some (.exc k [] [some (.d x), some (.d y), none, none, none] σ) := by
    simp [h]
  rw [pe_run]
  have : G.f_parts_enough [some (.d x), some (.d y), none, none, none] σ = some (.exc k [] [some (.d x), some (.d y), none, none, none] σ) := seq_exc e
  rw [this]
theorem pe0 (t : Two ps) (y : PyData) (σ : Sto) : (sSet 2 (eCall 1 F_endless [] (aCons (eVarV 0) aNil))) [some (.d (ladD ps)), some (.d y), none, none, none] σ = some (.nx [some (.d (ladD ps)), some (.d y), some (RT (mm ps)), none, none] σ) := by
  have e := endless_eq t.g t.l1 (by have := t.l5; omega) t.r t.b σ
  generalize ladD ps = L at *
  simp [e]
theorem pe_num (t : Two ps) (h : G.F_is_number [.d y] σ = some (.ok (.d (.bool false)) σ)) : G.F_parts_enough [.d (ladD ps), .d y] σ = some (.exc "BadValue" [] σ) := by
  have k0 := pe0 t y σ
  have k1 : (sIf (bNot (bVal (eCall 1 F_is_number [] (aCons (eVarV 1) aNil))))
  (sRaise "BadValue")
  sNil) [some (.d (ladD ps)), some (.d y), some (RT (mm ps)), none, none] σ = some (.exc "BadValue" [] [some (.d (ladD ps)), some (.d y), some (RT (mm ps)), none, none] σ) := by
    simp [h]
  rw [pe_run]
  have : G.f_parts_enough [some (.d (ladD ps)), some (.d y), none, none, none] σ = some (.exc "BadValue" [] [some (.d (ladD ps)), some (.d y), some (RT (mm ps)), none, none] σ) := seq_nx k0 (seq_exc k1)
  rw [this]
theorem num_ok (x : Rat) (σ : Sto) : G.F_is_number [rv x] σ = some (.ok (.d (.bool true)) σ) := by
  have n := is_number_eq x.num x.den (dpos x) σ
  have h3 : Int.gcd x.num x.den = 1 := x.reduced
  rw [h3] at n
  simpa using n
theorem pe1 (t : Two ps) (x : Rat) (σ : Sto) : (sIf (bNot (bVal (eCall 1 F_is_number [] (aCons (eVarV 1) aNil))))
  (sRaise "BadValue")
  sNil) [some (.d (ladD ps)), some (rv x), some (RT (mm ps)), none, none] σ = some (.nx [some (.d (ladD ps)), some (rv x), some (RT (mm ps)), none, none] σ) := by
  have n := num_ok x σ
  generalize ladD ps = L at *
  generalize rD x = X at *
  simp [n]
theorem cmp_r (t : Two ps) {x : Rat} (hx : Bd (10 ^ 60) x) (σ : Sto) : G.F_compare_by [RT (mm ps), rv x] σ = some (.ok (.d (.int (cmpI (rA (mm ps)) (rB (mm ps)) (rC (mm ps)) x.num x.den))) σ) :=
  cmp_s t.ro hx.1 (show Bn (10 ^ 60) (x.den : Int) from hx.2) σ
theorem pe_below (t : Two ps) {x : Rat} (hx : Bd (10 ^ 60) x) (hc : cmpI (rA (mm ps)) (rB (mm ps)) (rC (mm ps)) x.num x.den = 1) (σ : Sto) : G.F_parts_enough [.d (ladD ps), rv x] σ = some (.ok (.d .none) σ) := by
  have k := cmp_r t hx σ
  rw [hc] at k
  have k0 := pe0 t (rD x) σ
  have k1 := pe1 t x σ
  have e : G.f_parts_enough [some (.d (ladD ps)), some (rv x), none, none, none] σ = some (.rt (.d .none) σ) := by
    refine seq_nx k0 (seq_nx k1 ?_)
    rw [a_sSeq]
    generalize ladD ps = L at *
    generalize rD x = X at *
    simp [cB, k]
  rw [pe_run, e]
/-- a loop that goes on for a while -/
theorem forL_on {t : TgF} {body : Rho → Sto → Option VL.Fl} {σ : Sto} {ys : List SV} {r : Option VL.Fl} : ∀ (xs : List SV) (I : Nat → Rho → Prop), (∀ (i : Nat) x, xs[i]? = some x → ∀ ρ, I i ρ → ∃ ρ', t x ρ = some ρ' ∧ ∃ ρ2, I (i + 1) ρ2 ∧ body ρ' σ = some (.nx ρ2 σ)) →
    (∀ ρ, I xs.length ρ → forL t body ys ρ σ = r) → ∀ ρ, I 0 ρ → forL t body (xs ++ ys) ρ σ = r
  | [], I, _, hr, ρ, h => hr ρ h
  | x :: xs, I, hx, hr, ρ, h => by
    obtain ⟨ρ', ht, ρ2, h2, hb⟩ := hx 0 x rfl ρ h
    have ih := forL_on (ys := ys) (r := r) xs (fun i => I (i + 1)) (fun i y hy => hx (i + 1) y (by simpa using hy)) (fun ρ hρ => hr ρ (by simpa using hρ)) ρ2 h2
    show forL t body (x :: (xs ++ ys)) ρ σ = r
    unfold forL
    rw [ht]
    simp only [hb]
    exact ih
theorem iter_down {ps : List Pt} (hp : PosL ps) (h : ∃ p ∈ ps, p.1 = false) : ∀ (k n : Nat), leO (iterR ps (n + k) none) (iterR ps n none)
  | 0, n => .inl rfl
  | k + 1, n => by
    have f := iter_fall hp h (n + k)
    rcases iter_down hp h k n with e | e
    · rw [← e]
      exact .inr f
    · refine .inr ?_
      have f : ltO (iterR ps (n + (k + 1)) none) (iterR ps (n + k) none) := f
      revert f e
      generalize iterR ps (n + (k + 1)) none = u
      generalize iterR ps (n + k) none = v
      generalize iterR ps n none = w
      cases u <;> cases v <;> cases w <;> simp only [ltO] <;> first | (intro a b; grind) | (intros; trivial) | (intros; contradiction) | (intros; grind)
theorem iter_some {ps : List Pt} (hp : PosL ps) (h : ∃ p ∈ ps, p.1 = false) (n : Nat) : ∃ q, iterR ps (n + 1) none = some q := by
  have := iter_fall hp h n
  cases e : iterR ps (n + 1) none with
  | none => rw [e] at this; exact this.elim
  | some q => exact ⟨q, rfl⟩
noncomputable abbrev peB : Rho → Sto → Option VL.Fl := (sSeq
  (sIf (bAnd (bB (eBin (cB gNotN) (eVar 3) (eCon (.none)))) (bVal (eCall 2 F_less [] (aCons (eVarV 3) (aCons (eVarV 1) aNil)))))
  (sRetV 4)
  sNil)
  (sSet 3 (eCall 2 F_ahead_of_all [] (aCons (eVarV 0) (aCons (eVarV 3) aNil)))))
abbrev pR (ps : List Pt) (x : Rat) (f : Option Rat) (s4 : Option SV) : Rho := [some (.d (ladD ps)), some (rv x), some (RT (mm ps)), some (.d (oD f)), s4]
theorem Two.size (t : Two ps) {n : Nat} (hn : n ≤ 8) : BdO (10 ^ 47) (iterR ps n none) := by
  refine (iter_bd t.g.good (x := none) trivial trivial n).mono (Nat.le_trans (Nat.pow_le_pow_right (by omega) (show ps.length * n ≤ 40 from ?_)) (by decide +kernel))
  have := Nat.mul_le_mul t.l5 hn
  omega
theorem Two.size0 (t : Two ps) {n : Nat} (hn : n ≤ 8) : BdO (10 ^ 47) (iterR ps n (some 0)) := by
  refine (iter_bd t.g.good (x := some 0) nn0 ⟨by decide, by decide⟩ n).mono (Nat.le_trans (Nat.pow_le_pow_right (by omega) (show ps.length * n ≤ 40 from ?_)) (by decide +kernel))
  have := Nat.mul_le_mul t.l5 hn
  omega
def lessO (x : Rat) : Option Rat → Bool
  | none => false
  | some y => decide (y < x)
theorem pe_if (t : Two ps) {x : Rat} (hx : Bd (10 ^ 47) x) {f : Option Rat} (hf : BdO (10 ^ 47) f) (i : Int) (σ : Sto) :
    (bAnd (bB (eBin (cB gNotN) (eVar 3) (eCon (.none)))) (bVal (eCall 2 F_less [] (aCons (eVarV 3) (aCons (eVarV 1) aNil))))) (pR ps x f (some (.d (.int i)))) σ = some (.ok (lessO x f) σ) := by
  cases f with
  | none =>
    generalize ladD ps = L at *
    simp [cB, gNotN, lessO]
  | some y =>
    have l := less_r (x := y) (y := x) (Bd.mono (show Bd (10 ^ 47) y from hf) (by decide +kernel)) (hx.mono (by decide +kernel)) σ
    generalize ladD ps = L at *
    simp [cB, gNotN, l, lessO]
theorem pe_step (t : Two ps) {x : Rat} (hx : Bd (10 ^ 47) x) {n : Nat} (hn : n ≤ 7) (h : match iterR ps n none with | none => True | some y => ¬ y < x) (i : Int) (σ : Sto) :
    peB (pR ps x (iterR ps n none) (some (.d (.int i)))) σ = some (.nx (pR ps x (iterR ps (n + 1) none) (some (.d (.int i)))) σ) := by
  have c := pe_if t hx (t.size (n := n) (by omega)) i σ
  have fits : 14 ^ (ps.length * n) * 14 ^ ps.length ≤ 10 ^ 47 := by
    rw [← Nat.pow_add, ← Nat.mul_succ]
    refine Nat.le_trans (Nat.pow_le_pow_right (by omega) (show ps.length * (n + 1) ≤ 40 from ?_)) (by decide +kernel)
    have := Nat.mul_le_mul t.l5 (show n + 1 ≤ 8 by omega)
    omega
  have a := all_eq t.g.good (Nat.pos_of_ne_zero (by simp)) (iter_nn t.g.pos (x := none) trivial n) (iter_bd t.g.good (x := none) trivial trivial n) fits σ
  have cf : lessO x (iterR ps n none) = false := by
    revert h
    cases iterR ps n none with
    | none => intro _; rfl
    | some y => intro h; exact decide_eq_false h
  rw [cf] at c
  have s1 : (sIf (bAnd (bB (eBin (cB gNotN) (eVar 3) (eCon (.none)))) (bVal (eCall 2 F_less [] (aCons (eVarV 3) (aCons (eVarV 1) aNil)))))
  (sRetV 4)
  sNil) (pR ps x (iterR ps n none) (some (.d (.int i)))) σ = some (.nx (pR ps x (iterR ps n none) (some (.d (.int i)))) σ) := by
    rw [a_sIf, c, bindS_ok]
    simp
  refine seq_nx s1 ?_
  show _ = some (Fl.nx (pR ps x (runR ps (iterR ps n none)) (some (.d (.int i)))) σ)
  generalize runR ps (iterR ps n none) = R at *
  generalize iterR ps n none = R0 at *
  simp [a]
theorem pe_last (t : Two ps) {x y : Rat} (hx : Bd (10 ^ 47) x) (hy : Bd (10 ^ 47) y) (h : y < x) (i : Int) (σ : Sto) : peB (pR ps x (some y) (some (.d (.int i)))) σ = some (.rt (.d (.int i)) σ) := by
  have c := pe_if t hx (f := some y) hy i σ
  rw [show lessO x (some y) = true from decide_eq_true h] at c
  unfold peB
  rw [a_sSeq, a_sIf, c, bindS_ok]
  simp
theorem rangeL_split (a n k : Nat) (h : a + 1 + k = n) : rangeL 0 n = rangeL 0 a ++ (.d (.int (a : Int)) :: (List.range k).map fun j => SV.d (.int ((0 : Int) + ((a + 1 + j : Nat) : Int)))) := by
  unfold rangeL
  have e : List.range n = List.range a ++ (a :: (List.range k).map fun j => a + 1 + j) := by
    rw [← h, List.range_add, List.range_succ, List.append_assoc]
    rfl
  rw [e, List.map_append, List.map_cons, List.map_map]
  simp
theorem pe_above (t : Two ps) {many : Nat} (hm : many ≤ 5) {x : Rat} (hx : iterR ps (many + 1) none = some x) (σ : Sto) : G.F_parts_enough [.d (ladD ps), rv x] σ = some (.ok (.d (.int ((many + 2 : Nat) : Int))) σ) := by
  have bx : Bd (10 ^ 47) x := by
    have := t.size (n := many + 1) (by omega)
    rw [hx] at this
    exact this
  obtain ⟨y, hy⟩ := iter_some t.g.pos t.b (many + 1)
  have by' : Bd (10 ^ 47) y := by
    have := t.size (n := many + 2) (by omega)
    rw [hy] at this
    exact this
  have yx : y < x := by
    have := iter_fall t.g.pos t.b (many + 1)
    rw [hy, hx] at this
    exact this
  have x0 : 0 < x := by
    have := iter_apart t.g.pos (many + 1)
    rw [hx] at this
    have n0 := iter_nn t.g.pos nn0 (many + 1)
    revert this n0
    cases iterR ps (many + 1) (some 0) with
    | none => intro a; exact a.elim
    | some z =>
      intro a b
      have a : z < x := a
      have b : 0 ≤ z := b
      grind
  have rm := run_mm t.g.pos (Rat.le_of_lt x0)
  have ry : runR ps (some x) = some y := by
    rw [← hx]
    exact hy
  rw [ry] at rm
  have ye : y = num_x (mm ps) x / den_x (mm ps) x := by
    injection rm
  have hc := cmp_above (mm_nn t.g.pos) t.c x0 (by rw [← ye]; exact yx)
  have k := cmp_r t (bx.mono (by decide +kernel)) σ
  rw [hc] at k
  have k0 := pe0 t (rD x) σ
  have k1 := pe1 t x σ
  have k2 : (sIf (bB (eBin (cB gGe) (eCall 2 F_compare_by [] (aCons (eVarV 2) (aCons (eVarV 1) aNil))) (eCon (.int 0))))
  (sRet (eCon (.none)))
  sNil) [some (.d (ladD ps)), some (rv x), some (RT (mm ps)), none, none] σ = some (.nx [some (.d (ladD ps)), some (rv x), some (RT (mm ps)), none, none] σ) := by
    generalize ladD ps = L at *
    generalize rD x = X at *
    simp [cB, k]
  have k3 : (sSet 3 (eCon (.none))) [some (.d (ladD ps)), some (rv x), some (RT (mm ps)), none, none] σ = some (.nx (pR ps x (iterR ps 0 none) none) σ) := rfl
  have it : VL.iRng1 (aCons (eBin gAdd (eCon (.int 40)) (eCon (.int 1))) aNil) (pR ps x (iterR ps 0 none) none) σ = some (.ok (rangeL 0 41) σ) := by
    rw [a_iRng1]
    have : (aCons (eBin gAdd (eCon (.int 40)) (eCon (.int 1))) aNil) (pR ps x (iterR ps 0 none) none) σ = some (.ok [.d (.int 41)] σ) := by simp
    rw [this]
    simp only [bindM_ok]
    exact if_pos (inR_of ⟨by omega, by omega⟩)
  have lp := forL_on (t := gNm 4) (body := peB) (σ := σ) (ys := .d (.int ((many + 2 : Nat) : Int)) :: (List.range (38 - many)).map fun j => SV.d (.int ((0 : Int) + ((many + 2 + 1 + j : Nat) : Int)))) (r := some (.rt (.d (.int ((many + 2 : Nat) : Int))) σ)) (rangeL 0 (many + 2))
    (fun i ρ => ∃ s4, ρ = pR ps x (iterR ps i none) s4) (fun i v hv ρ hI => by
      obtain ⟨s4, rfl⟩ := hI
      obtain ⟨hi, rfl⟩ := rangeL_at hv
      refine ⟨pR ps x (iterR ps i none) (some (.d (.int (0 + (i : Int))))), rfl, _, ⟨some (.d (.int (0 + (i : Int)))), rfl⟩, pe_step t bx (by omega) ?_ _ σ⟩
      have dn := iter_down t.g.pos t.b (many + 1 - i) i
      rw [show i + (many + 1 - i) = many + 1 by omega, hx] at dn
      revert dn
      cases iterR ps i none with
      | none => intro _; trivial
      | some w =>
        intro dn
        show ¬ w < x
        rcases dn with e | e
        · injection e with e
          rw [e]
          exact Rat.lt_irrefl
        · have e : x < w := e
          intro z
          grind) (fun ρ hI => by
      obtain ⟨s4, rfl⟩ := hI
      rw [rangeL_length, hy]
      have tg : gNm 4 (.d (.int ((many + 2 : Nat) : Int))) (pR ps x (some y) s4) = some (pR ps x (some y) (some (.d (.int ((many + 2 : Nat) : Int))))) := rfl
      unfold forL
      rw [tg]
      simp only [pe_last t bx by' yx _ σ]) (pR ps x (iterR ps 0 none) none) ⟨none, rfl⟩
  rw [← rangeL_split (many + 2) 41 (38 - many) (by omega)] at lp
  have e : G.f_parts_enough [some (.d (ladD ps)), some (rv x), none, none, none] σ = some (.rt (.d (.int ((many + 2 : Nat) : Int))) σ) := by
    refine seq_nx k0 (seq_nx k1 (seq_nx k2 (seq_nx k3 ?_)))
    rw [a_sSeq, a_sFor, it, bindS_ok]
    erw [lp]
  rw [pe_run, e]
end
end M

end
section
set_option Elab.async false
set_option linter.all false
set_option maxRecDepth 100000
namespace M
open PySem PySem.Spec PyProof.Rows L2 VL G

abbrev rho (m : Nat) (ps : List Pt) (s7 s8 s9 s10 s11 s12 s13 s14 s15 s16 s17 s18 s19 : Option SV) : Rho := [some (.ref m), some (.d (ladD ps)), some (RT (mm ps)), some (.d (.str "root")), iv (rA (mm ps)), iv (rB (mm ps)), iv (rC (mm ps)), s7, s8, s9, s10, s11, s12, s13, s14, s15, s16, s17, s18, s19]
section
variable {m : Nat} {ps : List Pt} {s7 s8 s9 s10 s11 s12 s13 s14 s15 s16 s17 s18 s19 : Option SV} {σ : Sto}
abbrev dsc (ps : List Pt) : Int := rB (mm ps) * rB (mm ps) - 4 * rA (mm ps) * rC (mm ps)
noncomputable abbrev K3 : Rho → Sto → Option VL.Fl := (sIf (bOr (bB (eBin (cB gNe) (eVar 3) (eCon (.str "root")))) (bOr (bB (eBin (cB gLt) (eVar 4) (eCon (.int 1)))) (bB (eBin (cB gGt) (eVar 6) (eUn gNeg (eCon (.int 1)))))))
  (sRet (eCon (.bool false)))
  sNil)
noncomputable abbrev K4 : Rho → Sto → Option VL.Fl := (sSet 7 (eBin gSub (eBin gMulA (eVar 5) (eVar 5)) (eBin gMulA (eBin gMulA (eCon (.int 4)) (eVar 4)) (eVar 6))))
noncomputable abbrev K5 : Rho → Sto → Option VL.Fl := (sSet 8 (eCall 1 F__law_whole [] (aCons (eVarV 7) aNil)))
noncomputable abbrev K6 : Rho → Sto → Option VL.Fl := (sIf (bB (eBin (cB gNotN) (eVar 8) (eCon (.none))))
  (sSeq
  (sSet 9 (eCall 2 F__law_fr [] (aCons (eBin gSub (eVar 8) (eVar 5)) (aCons (eBin gMulA (eCon (.int 2)) (eVar 4)) aNil))))
  (sIf (bB (eBin (cB gNe) (eCall 3 F__law_after [] (aCons (eVarV 1) (aCons (eCon (.int 1)) (aCons (eVarV 9) aNil)))) (eVar 9)))
  (sRet (eCon (.bool false)))
  sNil))
  (sSeq
  (sSet 9 (eTup (aCons (eCall 2 F__law_fr [] (aCons (eBin gSub (eCon (.int 0)) (eVar 5)) (aCons (eBin gMulA (eCon (.int 2)) (eVar 4)) aNil))) (aCons (eCall 2 F__law_fr [] (aCons (eCon (.int 1)) (aCons (eBin gMulA (eCon (.int 2)) (eVar 4)) aNil))) aNil))))
  (sIf (bB (eBin (cB gNe) (eCall 3 F__law_through [] (aCons (eVarV 1) (aCons (eVarV 9) (aCons (eVarV 7) aNil)))) (eVar 9)))
  (sRet (eCon (.bool false)))
  sNil)))
theorem K3_eq (t : Two ps) : K3 (rho m ps s7 s8 s9 s10 s11 s12 s13 s14 s15 s16 s17 s18 s19) σ = some (.nx (rho m ps s7 s8 s9 s10 s11 s12 s13 s14 s15 s16 s17 s18 s19) σ) := by
  have a0 := t.ro.a0
  have c0 := t.ro.c0
  have h1 : ¬ rA (mm ps) < 1 := by omega
  have h2 : ¬ rC (mm ps) > -1 := by omega
  unfold K3
  have h3 : ¬ -1 < rC (mm ps) := h2
  simp [cB, gNe, h1, h3]
theorem K4_eq (t : Two ps) : K4 (rho m ps s7 s8 s9 s10 s11 s12 s13 s14 s15 s16 s17 s18 s19) σ = some (.nx (rho m ps (iv (dsc ps)) s8 s9 s10 s11 s12 s13 s14 s15 s16 s17 s18 s19) σ) := by
  obtain ⟨na, nb, nc⟩ := t.ro.n
  have n4 : Bn 4 4 := by unfold Bn; decide
  have m1 := nb.ok nb (by decide +kernel) (by decide +kernel)
  have m2 := n4.ok na (by decide +kernel) (by decide +kernel)
  have m3 := (n4.mul na).ok nc (by decide +kernel) (by decide +kernel)
  unfold K4 dsc
  simp [m1, m2, m3]
theorem K5_eq (t : Two ps) : ∃ r, Isq (dsc ps) r ∧ K5 (rho m ps (iv (dsc ps)) s8 s9 s10 s11 s12 s13 s14 s15 s16 s17 s18 s19) σ = some (.nx (rho m ps (iv (dsc ps)) (some (.d (if r * r = dsc ps then .int r else .none))) s9 s10 s11 s12 s13 s14 s15 s16 s17 s18 s19) σ) := by
  obtain ⟨u0, u1⟩ := t.ro.under
  obtain ⟨r, i, q⟩ := whole_eq (D := dsc ps) (Int.le_of_lt u0) u1 σ
  refine ⟨r, i, ?_⟩
  unfold K5
  generalize dsc ps = D at *
  generalize (if r * r = D then PyData.int r else PyData.none) = X at *
  simp [q]
theorem rD_inj {x : Rat} {p q : Int} (h : rD x = .tuple [.int p, .int q]) : x.num = p ∧ (x.den : Int) = q := by
  injection h with h
  injection h with h1 h2
  injection h2 with h2 _
  injection h1 with h1
  injection h2 with h2
  exact ⟨h1, h2⟩
theorem sh_rD (x : Rat) : SeqAt.shaped (rD x) = true := sh_p _ _
theorem ne_rD (x : Rat) (S : Sto) : gNe S (rv x) (rv x) = some false := by simp [gNe]
theorem K6_eq (t : Two ps) {r : Int} (i : Isq (dsc ps) r) : ∃ z9, K6 (rho m ps (iv (dsc ps)) (some (.d (if r * r = dsc ps then .int r else .none))) s9 s10 s11 s12 s13 s14 s15 s16 s17 s18 s19) σ = some (.nx (rho m ps (iv (dsc ps)) (some (.d (if r * r = dsc ps then .int r else .none))) z9 s10 s11 s12 s13 s14 s15 s16 s17 s18 s19) σ) := by
  have ro := t.ro
  have a0 := ro.a0
  have a1 := ro.a1
  obtain ⟨na, nb, nc⟩ := ro.n
  have m1 := (show Bn 2 2 by unfold Bn; decide).ok na (by decide +kernel) (by decide +kernel)
  have q0 : 0 < 2 * rA (mm ps) := by omega
  have ql : 2 * rA (mm ps) ≤ 10 ^ 240 := Int.le_trans (show 2 * rA (mm ps) ≤ 200000 by omega) (by decide +kernel)
  by_cases z : r * r = dsc ps
  · rw [if_pos z]
    obtain ⟨p, q, e3, p0, p1, w0, w1, pz, _⟩ := known_parts ro i z
    have lr := lo_rat (p := r - rB (mm ps)) q0
    rw [e3] at lr
    obtain ⟨x1, x2⟩ := rD_inj lr.symm
    have f := lfr_eq (r - rB (mm ps)) (2 * rA (mm ps)) q0 ql σ
    rw [e3, lr] at f
    generalize Rat.divInt (r - rB (mm ps)) (2 * rA (mm ps)) = x at *
    have x0 : 0 < x := by
      have : 0 < x.num := by omega
      exact Rat.not_le.mp fun y => by
        have := (Rat.le_iff x 0).mp y
        simp at this
        omega
    rw [← x1, ← x2] at pz
    have fx := fix_of (mm_nn t.g.pos) t.c (Rat.le_of_lt x0) pz
    have rn := run_mm t.g.pos (Rat.le_of_lt x0)
    rw [fx] at rn
    have bx : Bd 10000000 x := ⟨by omega, by omega⟩
    have la := law_after_eq t.g.good (n := 1) (m := 10000000) (x := some x) (by omega) (Rat.le_of_lt x0) bx (by
      have : 14 ^ (ps.length * 1) * 10000000 ≤ 14 ^ 5 * 10000000 := Nat.mul_le_mul_right _ (Nat.pow_le_pow_right (by omega) (by have := t.l5; omega))
      exact Nat.le_trans this (by decide +kernel)) (by omega) σ
    have e1 : iterR ps 1 (some x) = some x := rn
    rw [e1] at la
    have la : G.F__law_after [.d (ladD ps), .d (.int 1), rv x] σ = some (.ok (rv x) σ) := la
    have ne := ne_rD x σ
    refine ⟨some (rv x), ?_⟩
    have t0 : (bB (eBin (cB gNotN) (eVar 8) (eCon (.none)))) (rho m ps (iv (dsc ps)) (some (.d (.int r))) s9 s10 s11 s12 s13 s14 s15 s16 s17 s18 s19) σ = some (.ok true σ) := by
      simp [cB, gNotN]
    have s1 : (sSet 9 (eCall 2 F__law_fr [] (aCons (eBin gSub (eVar 8) (eVar 5)) (aCons (eBin gMulA (eCon (.int 2)) (eVar 4)) aNil)))) (rho m ps (iv (dsc ps)) (some (.d (.int r))) s9 s10 s11 s12 s13 s14 s15 s16 s17 s18 s19) σ = some (.nx (rho m ps (iv (dsc ps)) (some (.d (.int r))) (some (rv x)) s10 s11 s12 s13 s14 s15 s16 s17 s18 s19) σ) := by
      simp [m1, f]
    have s2 : (sIf (bB (eBin (cB gNe) (eCall 3 F__law_after [] (aCons (eVarV 1) (aCons (eCon (.int 1)) (aCons (eVarV 9) aNil)))) (eVar 9)))
  (sRet (eCon (.bool false)))
  sNil) (rho m ps (iv (dsc ps)) (some (.d (.int r))) (some (rv x)) s10 s11 s12 s13 s14 s15 s16 s17 s18 s19) σ = some (.nx (rho m ps (iv (dsc ps)) (some (.d (.int r))) (some (rv x)) s10 s11 s12 s13 s14 s15 s16 s17 s18 s19) σ) := by
      generalize rD x = X at *
      simp [cB, la, ne]
    unfold K6
    rw [a_sIf, t0, bindS_ok, if_pos rfl]
    exact seq_nx s1 s2
  · rw [if_neg z]
    have ns : ∀ k : Int, k * k ≠ dsc ps := by
      intro k hk
      have j : Isq (dsc ps) (if k < 0 then -k else k) := by
        have kk : (if k < 0 then -k else k) * (if k < 0 then -k else k) = k * k := by
          split
          · grind
          · rfl
        refine ⟨by split <;> omega, by rw [kk]; omega, ?_⟩
        rw [← hk, ← kk]
        have y0 : 0 ≤ (if k < 0 then -k else k) := by split <;> omega
        generalize (if k < 0 then -k else k) = y at *
        grind
      have := i.uniq j
      apply z
      rw [this, ← hk]
      split
      · grind
      · rfl
    have y0 : ∀ k : Int, (if k < 0 then -k else k) ≥ 0 := fun k => by split <;> omega
    obtain ⟨u0, u1⟩ := ro.under
    have P : Par (rA (mm ps)) (rB (mm ps)) (dsc ps) := ⟨a0, a1, ro.b0, ro.b1, Int.le_of_lt u0, u1, ns⟩
    obtain ⟨g, g0, e1, e2, e3⟩ := root_parts t.c
    have th := through_eq t P e1 e2 e3 rfl σ
    have f1 := lfr_eq (-rB (mm ps)) (2 * rA (mm ps)) q0 ql σ
    have f2 := lfr_eq 1 (2 * rA (mm ps)) q0 ql σ
    rw [lo_rat q0] at f1 f2
    refine ⟨some (.d (pD (fq (-rB (mm ps)) (2 * rA (mm ps))) (fq 1 (2 * rA (mm ps))))), ?_⟩
    have t0 : (bB (eBin (cB gNotN) (eVar 8) (eCon (.none)))) (rho m ps (iv (dsc ps)) (some (.d .none)) s9 s10 s11 s12 s13 s14 s15 s16 s17 s18 s19) σ = some (.ok false σ) := by
      simp [cB, gNotN]
    have z1 : (0 : Int) - rB (mm ps) = -rB (mm ps) := Int.zero_sub _
    have s1 : (sSet 9 (eTup (aCons (eCall 2 F__law_fr [] (aCons (eBin gSub (eCon (.int 0)) (eVar 5)) (aCons (eBin gMulA (eCon (.int 2)) (eVar 4)) aNil))) (aCons (eCall 2 F__law_fr [] (aCons (eCon (.int 1)) (aCons (eBin gMulA (eCon (.int 2)) (eVar 4)) aNil))) aNil)))) (rho m ps (iv (dsc ps)) (some (.d .none)) s9 s10 s11 s12 s13 s14 s15 s16 s17 s18 s19) σ = some (.nx (rho m ps (iv (dsc ps)) (some (.d .none)) (some (.d (pD (fq (-rB (mm ps)) (2 * rA (mm ps))) (fq 1 (2 * rA (mm ps)))))) s10 s11 s12 s13 s14 s15 s16 s17 s18 s19) σ) := by
      simp [m1, f1, f2, sizeLine_eq]
    have ne : gNe σ (.d (pD (fq (-rB (mm ps)) (2 * rA (mm ps))) (fq 1 (2 * rA (mm ps))))) (.d (pD (fq (-rB (mm ps)) (2 * rA (mm ps))) (fq 1 (2 * rA (mm ps))))) = some false := by
      generalize fq (-rB (mm ps)) (2 * rA (mm ps)) = y1
      generalize fq 1 (2 * rA (mm ps)) = y2
      have sh : SeqAt.shaped (pD y1 y2) = true := by
        rw [shaped_def]
        simp [PyData.canLay0, PyData.canLayAll0, PyData.depth, PyData.depthAll]
      simp only [gNe, dat_d, Option.bind_some, sh, Bool.and_self, if_true]
      simp [PyData.eqv, PyData.eqvAll]
    have s2 : (sIf (bB (eBin (cB gNe) (eCall 3 F__law_through [] (aCons (eVarV 1) (aCons (eVarV 9) (aCons (eVarV 7) aNil)))) (eVar 9)))
  (sRet (eCon (.bool false)))
  sNil) (rho m ps (iv (dsc ps)) (some (.d .none)) (some (.d (pD (fq (-rB (mm ps)) (2 * rA (mm ps))) (fq 1 (2 * rA (mm ps)))))) s10 s11 s12 s13 s14 s15 s16 s17 s18 s19) σ = some (.nx (rho m ps (iv (dsc ps)) (some (.d .none)) (some (.d (pD (fq (-rB (mm ps)) (2 * rA (mm ps))) (fq 1 (2 * rA (mm ps)))))) s10 s11 s12 s13 s14 s15 s16 s17 s18 s19) σ) := by
      generalize pD (fq (-rB (mm ps)) (2 * rA (mm ps))) (fq 1 (2 * rA (mm ps))) = X at *
      simp [cB, th, ne]
    unfold K6
    rw [a_sIf, t0, bindS_ok, if_neg (by decide)]
    exact seq_nx s1 s2
/-! between the ends -/
theorem iter_up (t : Two ps) : ∀ n, ltO (iterR ps n (some 0)) (iterR ps (n + 1) (some 0))
  | 0 => by
    show ltO (some 0) (runR ps (some 0))
    rw [run_mm t.g.pos Rat.le_refl]
    show (0 : Rat) < num_x (mm ps) 0 / den_x (mm ps) 0
    have dp := den_pos (mm_nn t.g.pos) (x := 0) Rat.le_refl
    rw [Rat.lt_div_iff dp, Rat.zero_mul]
    unfold num_x
    rw [Rat.mul_zero, Rat.zero_add]
    exact Rat.intCast_pos.mpr t.bb
  | n + 1 => run_lt t.g.pos (iter_nn t.g.pos nn0 n) (iter_up t n)
theorem low_ok (t : Two ps) (n : Nat) : ∃ l, iterR ps n (some 0) = some l ∧ 0 ≤ l ∧ cmpI (rA (mm ps)) (rB (mm ps)) (rC (mm ps)) l.num l.den = 1 := by
  have up := iter_up t n
  have n0 := iter_nn t.g.pos nn0 n
  cases e : iterR ps n (some 0) with
  | none => rw [e] at up; exact up.elim
  | some l =>
    rw [e] at up n0
    have l0 : 0 ≤ l := n0
    have rn := run_mm t.g.pos l0
    have e2 : iterR ps (n + 1) (some 0) = runR ps (some l) := by
      show runR ps (iterR ps n (some 0)) = _
      rw [e]
    rw [e2, rn] at up
    exact ⟨l, rfl, l0, cmp_below (mm_nn t.g.pos) t.c l0 up⟩
theorem high_ok (t : Two ps) (n : Nat) : ∃ h, iterR ps (n + 1) none = some h ∧ 0 < h ∧ cmpI (rA (mm ps)) (rB (mm ps)) (rC (mm ps)) h.num h.den = -1 := by
  obtain ⟨h, e⟩ := iter_some t.g.pos t.b n
  obtain ⟨l, e0, l0, _⟩ := low_ok t (n + 1)
  have ap := iter_apart t.g.pos (n + 1)
  rw [e, e0] at ap
  have ap : l < h := ap
  have h0 : 0 < h := by grind
  have f := iter_fall t.g.pos t.b (n + 1)
  have e2 : iterR ps (n + 2) none = runR ps (some h) := by
    show runR ps (iterR ps (n + 1) none) = _
    rw [e]
  rw [e, e2, run_mm t.g.pos (Rat.le_of_lt h0)] at f
  exact ⟨h, e, h0, cmp_above (mm_nn t.g.pos) t.c h0 f⟩
theorem Two.fit (t : Two ps) {n : Nat} (hn : n ≤ 8) : 14 ^ (ps.length * n) * 1 ≤ 10 ^ 47 := by
  rw [Nat.mul_one]
  refine Nat.le_trans (Nat.pow_le_pow_right (by omega) (show ps.length * n ≤ 40 from ?_)) (by decide +kernel)
  have := Nat.mul_le_mul t.l5 hn
  omega
theorem after_n (t : Two ps) {n : Nat} (hn : n ≤ 8) (σ : Sto) : G.F__law_after [.d (ladD ps), .d (.int (n : Int)), .d .none] σ = some (.ok (.d (oD (iterR ps n none))) σ) :=
  law_after_eq t.g.good (m := 1) (x := none) (by omega) trivial trivial (t.fit hn) (by omega) σ
theorem after_0 (t : Two ps) {n : Nat} (hn : n ≤ 8) (σ : Sto) : G.F__law_after [.d (ladD ps), .d (.int (n : Int)), .d (.tuple [.int 0, .int 1])] σ = some (.ok (.d (oD (iterR ps n (some 0)))) σ) :=
  law_after_eq t.g.good (m := 1) (x := some 0) (by omega) nn0 ⟨by decide, by decide⟩ (t.fit hn) (by omega) σ
theorem compare_r (t : Two ps) {x : Rat} (hx : Bd (10 ^ 60) x) (σ : Sto) : G.F_compare [RT (mm ps), rv x] σ = some (.ok (.d (.int (cmpI (rA (mm ps)) (rB (mm ps)) (rC (mm ps)) x.num x.den))) σ) :=
  compare_eq t.ro (dpos x) x.reduced hx.1 (show Bn (10 ^ 60) (x.den : Int) from hx.2) σ
noncomputable abbrev K7b : Rho → Sto → Option VL.Fl := (sSeq
  (sSet 11 (eCall 3 F__law_after [] (aCons (eVarV 1) (aCons (eVarV 10) (aCons (eCon (.none)) aNil)))))
  (sSeq
  (sSet 12 (eCall 3 F__law_after [] (aCons (eVarV 1) (aCons (eVarV 10) (aCons (eTup (aCons (eCon (.int 0)) (aCons (eCon (.int 1)) aNil))) aNil)))))
  (sIf (bOr (bAnd (bB (eBin (cB gNotN) (eVar 11) (eCon (.none)))) (bB (eBin (cB gNe) (eCall 2 F_compare [] (aCons (eVarV 2) (aCons (eVarV 11) aNil))) (eUn gNeg (eCon (.int 1)))))) (bB (eBin (cB gNe) (eCall 2 F_compare [] (aCons (eVarV 2) (aCons (eVarV 12) aNil))) (eCon (.int 1)))))
  (sRet (eCon (.bool false)))
  sNil)))
theorem K7b_eq (t : Two ps) {n : Nat} (hn : n ≤ 6) {N : Int} (hN : ((n + 1 : Nat) : Int) = N) : ∃ z11 z12, K7b (rho m ps s7 s8 s9 (iv N) s11 s12 s13 s14 s15 s16 s17 s18 s19) σ = some (.nx (rho m ps s7 s8 s9 (iv N) z11 z12 s13 s14 s15 s16 s17 s18 s19) σ) := by
  obtain ⟨h, eh, h0, ch⟩ := high_ok t n
  obtain ⟨l, el, l0, cl⟩ := low_ok t (n + 1)
  have a1 := after_n t (n := n + 1) (by omega) σ
  have a2 := after_0 t (n := n + 1) (by omega) σ
  rw [hN] at a1 a2
  rw [eh] at a1
  rw [el] at a2
  have bh : Bd (10 ^ 47) h := by
    have := t.size (n := n + 1) (by omega)
    rw [eh] at this
    exact this
  have bl : Bd (10 ^ 47) l := by
    have := t.size0 (n := n + 1) (by omega)
    rw [el] at this
    exact this
  have c1 := compare_r t (bh.mono (by decide +kernel)) σ
  have c2 := compare_r t (bl.mono (by decide +kernel)) σ
  rw [ch] at c1
  rw [cl] at c2
  refine ⟨some (rv h), some (rv l), ?_⟩
  unfold K7b
  simp [a1, a2, sizeLine_eq, c1, c2, cB, gNotN, gNe]
end
end M

end
section
set_option Elab.async false
set_option linter.all false
set_option maxRecDepth 100000
namespace M
open PySem PySem.Spec PyProof.Rows L2 VL G

section
variable {m : Nat} {ps : List Pt} {s7 s8 s9 s10 s11 s12 s13 s14 s15 s16 s17 s18 s19 : Option SV} {σ S : Sto}
/-! loops over a list that is written out: the state goes on -/
theorem forL_keep {t : TgF} {body : Rho → Sto → Option VL.Fl} {σ : Sto} (I : Rho → Prop) : ∀ (xs : List SV), (∀ x ∈ xs, ∀ ρ, I ρ → ∃ ρ', t x ρ = some ρ' ∧ ∃ ρ2, I ρ2 ∧ body ρ' σ = some (.nx ρ2 σ)) → ∀ ρ, I ρ → ∃ ρ2, I ρ2 ∧ forL t body xs ρ σ = some (.nx ρ2 σ)
  | [], _, ρ, h => ⟨ρ, h, rfl⟩
  | x :: xs, hx, ρ, h => by
    obtain ⟨ρ', ht, ρ2, h2, hb⟩ := hx x List.mem_cons_self ρ h
    obtain ⟨ρ3, h3, q⟩ := forL_keep I xs (fun y m => hx y (List.mem_cons_of_mem _ m)) ρ2 h2
    refine ⟨ρ3, h3, ?_⟩
    unfold forL
    rw [ht]
    simp only [hb]
    exact q
noncomputable abbrev K7 : Rho → Sto → Option VL.Fl := (sFor (iRng2 (aCons (eCon (.int 1)) (aCons (eCon (.int 6)) aNil))) (gNm 10)
  (sSeq
  (sSet 11 (eCall 3 F__law_after [] (aCons (eVarV 1) (aCons (eVarV 10) (aCons (eCon (.none)) aNil)))))
  (sSeq
  (sSet 12 (eCall 3 F__law_after [] (aCons (eVarV 1) (aCons (eVarV 10) (aCons (eTup (aCons (eCon (.int 0)) (aCons (eCon (.int 1)) aNil))) aNil)))))
  (sIf (bOr (bAnd (bB (eBin (cB gNotN) (eVar 11) (eCon (.none)))) (bB (eBin (cB gNe) (eCall 2 F_compare [] (aCons (eVarV 2) (aCons (eVarV 11) aNil))) (eUn gNeg (eCon (.int 1)))))) (bB (eBin (cB gNe) (eCall 2 F_compare [] (aCons (eVarV 2) (aCons (eVarV 12) aNil))) (eCon (.int 1)))))
  (sRet (eCon (.bool false)))
  sNil))))
theorem K7_eq (t : Two ps) : ∃ z10 z11 z12, K7 (rho m ps s7 s8 s9 s10 s11 s12 s13 s14 s15 s16 s17 s18 s19) σ = some (.nx (rho m ps s7 s8 s9 z10 z11 z12 s13 s14 s15 s16 s17 s18 s19) σ) := by
  obtain ⟨ρ2, ⟨z10, z11, z12, rfl⟩, e⟩ := forL_keep (t := gNm 10) (body := K7b) (σ := σ) (fun ρ => ∃ z10 z11 z12, ρ = (rho m ps s7 s8 s9 z10 z11 z12 s13 s14 s15 s16 s17 s18 s19)) (rangeL 1 5) (fun v hv ρ hI => by
    obtain ⟨z10, z11, z12, rfl⟩ := hI
    obtain ⟨i, hi⟩ := List.getElem?_of_mem hv
    obtain ⟨i5, rfl⟩ := rangeL_at hi
    obtain ⟨w11, w12, q⟩ := K7b_eq (m := m) (s7 := s7) (s8 := s8) (s9 := s9) (s11 := z11) (s12 := z12) (s13 := s13) (s14 := s14) (s15 := s15) (s16 := s16) (s17 := s17) (s18 := s18) (s19 := s19) (σ := σ) t (n := i) (by omega) (N := 1 + (i : Int)) (by omega)
    exact ⟨_, rfl, _, ⟨_, _, _, rfl⟩, q⟩) (rho m ps s7 s8 s9 s10 s11 s12 s13 s14 s15 s16 s17 s18 s19) ⟨_, _, _, rfl⟩
  have it : VL.iRng2 (aCons (eCon (.int 1)) (aCons (eCon (.int 6)) aNil)) (rho m ps s7 s8 s9 s10 s11 s12 s13 s14 s15 s16 s17 s18 s19) σ = some (.ok (rangeL 1 5) σ) := by
    rw [a_iRng2]
    have : (aCons (eCon (.int 1)) (aCons (eCon (.int 6)) aNil)) (rho m ps s7 s8 s9 s10 s11 s12 s13 s14 s15 s16 s17 s18 s19) σ = some (.ok [.d (.int 1), .d (.int 6)] σ) := by simp
    rw [this]
    simp only [bindM_ok]
    exact if_pos rfl
  refine ⟨z10, z11, z12, ?_⟩
  unfold K7
  rw [a_sFor]
  erw [it]
  rw [bindS_ok]
  exact e
noncomputable abbrev K8 : Rho → Sto → Option VL.Fl := (sIf (bOr (bB (eBin (cB gNe) (eCall 2 F_order [] (aCons (eCall 1 F_endless [] (aCons (eBin gAdd (eVar 1) (eVar 1)) aNil)) (aCons (eVarV 2) aNil))) (eCon (.int 0)))) (bB (eBin (cB gNe) (eCall 2 F_order [] (aCons (eCall 1 F_endless [] (aCons (eCall 1 F_turned [] (aCons (eVarV 1) aNil)) aNil)) (aCons (eTup (aCons (eCon (.str "root")) (aCons (eBin gSub (eCon (.int 0)) (eVar 6)) (aCons (eBin gSub (eCon (.int 0)) (eVar 5)) (aCons (eBin gSub (eCon (.int 0)) (eVar 4)) aNil))))) aNil))) (eCon (.int 0)))))
  (sRet (eCon (.bool false)))
  sNil)
theorem Ro.flip {a b c : Int} (h : Ro a b c) : Ro (-c) (-b) (-a) := by
  have := h.a0
  have := h.a1
  have := h.b0
  have := h.b1
  have := h.c0
  have := h.c1
  exact { a0 := by omega, a1 := by omega, b0 := by omega, b1 := by omega, c0 := by omega, c1 := by omega, g := by rw [g3_flip]; exact h.g }
theorem Two.dualr (t : Two ps) : ∃ p ∈ ps.map dualP, p.1 = true := by
  obtain ⟨p, mp, e⟩ := t.b
  exact ⟨dualP p, List.mem_map.mpr ⟨p, mp, rfl⟩, by unfold dualP; rw [e]; rfl⟩
theorem Two.dualb (t : Two ps) : ∃ p ∈ ps.map dualP, p.1 = false := by
  obtain ⟨p, mp, e⟩ := t.r
  exact ⟨dualP p, List.mem_map.mpr ⟨p, mp, rfl⟩, by unfold dualP; rw [e]; rfl⟩
theorem K8_eq (t : Two ps) : K8 (rho m ps s7 s8 s9 s10 s11 s12 s13 s14 s15 s16 s17 s18 s19) σ = some (.nx (rho m ps s7 s8 s9 s10 s11 s12 s13 s14 s15 s16 s17 s18 s19) σ) := by
  have l1 := t.l1
  have l5 := t.l5
  have nn := mm_nn t.g.pos
  have e1 := endless_eq (t.g.app t.g) (ps := ps ++ ps) (by rw [List.length_append]; omega) (by rw [List.length_append]; omega) (by obtain ⟨p, mp, e⟩ := t.r; exact ⟨p, List.mem_append_left _ mp, e⟩) (by obtain ⟨p, mp, e⟩ := t.b; exact ⟨p, List.mem_append_left _ mp, e⟩) σ
  rw [mm_append, RT_twice t.c nn.a nn.d] at e1
  have ga : gAdd σ (.d (ladD ps)) (.d (ladD ps)) = some (.d (ladD (ps ++ ps))) := by
    rw [ladD, ladD, List.map_append]
    exact if_pos (by rw [sizeLine_eq, List.length_map]; omega)
  have e2 := turned_eq t.g.good l1 (by omega) σ
  have e3 := endless_eq t.g.dual (ps := ps.map dualP) (by rw [List.length_map]; omega) (by rw [List.length_map]; omega) t.dualr t.dualb σ
  rw [mm_dual t.g.pos, RT_dual] at e3
  have o1 := order_self t.ro σ
  have o2 := order_self t.ro.flip σ
  have h1 : (bB (eBin (cB gNe) (eCall 2 F_order [] (aCons (eCall 1 F_endless [] (aCons (eBin gAdd (eVar 1) (eVar 1)) aNil)) (aCons (eVarV 2) aNil))) (eCon (.int 0)))) (rho m ps s7 s8 s9 s10 s11 s12 s13 s14 s15 s16 s17 s18 s19) σ = some (.ok false σ) := by
    simp [ga, e1, o1, cB, gNe]
  have h2 : (bB (eBin (cB gNe) (eCall 2 F_order [] (aCons (eCall 1 F_endless [] (aCons (eCall 1 F_turned [] (aCons (eVarV 1) aNil)) aNil)) (aCons (eTup (aCons (eCon (.str "root")) (aCons (eBin gSub (eCon (.int 0)) (eVar 6)) (aCons (eBin gSub (eCon (.int 0)) (eVar 5)) (aCons (eBin gSub (eCon (.int 0)) (eVar 4)) aNil))))) aNil))) (eCon (.int 0)))) (rho m ps s7 s8 s9 s10 s11 s12 s13 s14 s15 s16 s17 s18 s19) σ = some (.ok false σ) := by
    simp [e2, e3, o2, cB, gNe, sizeLine_eq]
  unfold K8
  rw [a_sIf, a_bOr, h1, bindM_ok]
  simp only [Bool.false_eq_true, if_false]
  rw [h2, bindS_ok]
  simp
noncomputable abbrev K9 : Rho → Sto → Option VL.Fl := (sSet 13 (eBin gAdd (eCon (.int 1)) (eCall 2 F__law_draw [] (aCons (eVarV 0) (aCons (eCon (.int 6)) aNil)))))
theorem K9_eq {c : Int} (h : Bs σ m c) : ∃ (r : Nat) (S' : Sto), r ≤ 5 ∧ Bs S' m c ∧ K9 (rho m ps s7 s8 s9 s10 s11 s12 s13 s14 s15 s16 s17 s18 s19) σ = some (.nx (rho m ps s7 s8 s9 s10 s11 s12 (some (.d (.int (1 + (r : Int))))) s14 s15 s16 s17 s18 s19) S') := by
  obtain ⟨r, S', r1, B, e⟩ := draw_bs h (show (0 : Int) < 6 by omega) (by omega)
  refine ⟨r, S', by omega, B, ?_⟩
  unfold K9
  simp [e]
noncomputable abbrev K10 : Rho → Sto → Option VL.Fl := (sSet 9 (eCall 3 F__law_after [] (aCons (eVarV 1) (aCons (eVarV 13) (aCons (eCon (.none)) aNil)))))
theorem K10_eq (t : Two ps) {r : Nat} (hr : r ≤ 5) {x : Rat} (hx : iterR ps (r + 1) none = some x) : K10 (rho m ps s7 s8 s9 s10 s11 s12 (some (.d (.int (1 + (r : Int))))) s14 s15 s16 s17 s18 s19) σ = some (.nx (rho m ps s7 s8 (some (rv x)) s10 s11 s12 (some (.d (.int (1 + (r : Int))))) s14 s15 s16 s17 s18 s19) σ) := by
  have a := after_n t (n := r + 1) (by omega) σ
  rw [hx, show ((r + 1 : Nat) : Int) = 1 + (r : Int) by omega] at a
  unfold K10
  simp [a]
noncomputable abbrev K11 : Rho → Sto → Option VL.Fl := (sIf (bB (eBin (cB gNotN) (eVar 9) (eCon (.none))))
  (sSeq
  (sSet 14 (eLc (iRng2 (aCons (eCon (.int 1)) (aCons (eBin gAdd (eVar 13) (eCon (.int 2))) aNil))) (gNm 17) (bAnd (bB (eBin (cB gNotN) (eCall 3 F__law_after [] (aCons (eVarV 1) (aCons (eVarV 17) (aCons (eCon (.none)) aNil)))) (eCon (.none)))) (bB (eBin (cB gLt) (eBin gIxB (eCall 2 F__law_sub [] (aCons (eCall 3 F__law_after [] (aCons (eVarV 1) (aCons (eVarV 17) (aCons (eCon (.none)) aNil)))) (aCons (eVarV 9) aNil))) (eCon (.int 0))) (eCon (.int 0))))) (eVarV 17) [17]))
  (sIf (bB (eBin (cB gNe) (eCall 2 F__law_told [] (aCons (eFn "parts_enough") (aCons (eTup (aCons (eVarV 1) (aCons (eVarV 9) aNil))) aNil))) (eBin gIxB (eVar 14) (eCon (.int 0)))))
  (sRet (eCon (.bool false)))
  sNil))
  sNil)
theorem sub_neg {x y : Rat} : (y - x).num < 0 ↔ y < x := by
  constructor
  · intro h
    have : y - x < 0 := by
      apply Rat.not_le.mp
      intro z
      have := Rat.num_nonneg.mpr z
      omega
    grind
  · intro h
    have : y - x < 0 := by grind
    have : ¬ 0 ≤ (y - x).num := fun z => by
      have := Rat.num_nonneg.mp z
      grind
    omega
noncomputable abbrev T11 : Rho → Mo Bool := (bAnd (bB (eBin (cB gNotN) (eCall 3 F__law_after [] (aCons (eVarV 1) (aCons (eVarV 17) (aCons (eCon (.none)) aNil)))) (eCon (.none)))) (bB (eBin (cB gLt) (eBin gIxB (eCall 2 F__law_sub [] (aCons (eCall 3 F__law_after [] (aCons (eVarV 1) (aCons (eVarV 17) (aCons (eCon (.none)) aNil)))) (aCons (eVarV 9) aNil))) (eCon (.int 0))) (eCon (.int 0)))))
theorem T11_eq (t : Two ps) {i : Nat} (hi : i ≤ 6) {x y : Rat} (bx : Bd (10 ^ 47) x) (hy : iterR ps (i + 1) none = some y) : T11 (rho m ps s7 s8 (some (rv x)) s10 s11 s12 s13 s14 s15 s16 (some (.d (.int (1 + (i : Int))))) s18 s19) σ = some (.ok (decide (y < x)) σ) := by
  have a := after_n t (n := i + 1) (by omega) σ
  rw [hy, show ((i + 1 : Nat) : Int) = 1 + (i : Int) by omega] at a
  have by' : Bd (10 ^ 47) y := by
    have := t.size (n := i + 1) (by omega)
    rw [hy] at this
    exact this
  have l := lsub_r (x := y) (y := x) (by'.mono (by decide +kernel)) (bx.mono (by decide +kernel)) σ
  have d := @sub_neg x y
  unfold T11
  simp [a, l, cB, gNotN, atI, ixN, d]
theorem range_one (n : Nat) (k : SV → Option SV) (h : ∀ i, i < n → k (.d (.int (1 + (i : Int)))) = none) (h1 : k (.d (.int (1 + (n : Int)))) = some (.d (.int (1 + (n : Int))))) : (rangeL 1 (n + 1)).filterMap k = [.d (.int (1 + (n : Int)))] := by
  unfold rangeL
  rw [List.range_succ, List.map_append, List.filterMap_append]
  have e : ((List.range n).map fun (i : Nat) => SV.d (.int ((1 : Int) + (i : Int)))).filterMap k = [] := by
    rw [List.filterMap_eq_nil_iff]
    intro v mv
    obtain ⟨i, mi, rfl⟩ := List.mem_map.mp mv
    exact h i (List.mem_range.mp mi)
  rw [e]
  simp [h1]
theorem K11_eq (t : Two ps) {r : Nat} (hr : r ≤ 5) {x : Rat} (hx : iterR ps (r + 1) none = some x) : ∃ z14, K11 (rho m ps s7 s8 (some (rv x)) s10 s11 s12 (some (.d (.int (1 + (r : Int))))) s14 s15 s16 s17 s18 s19) σ = some (.nx (rho m ps s7 s8 (some (rv x)) s10 s11 s12 (some (.d (.int (1 + (r : Int))))) z14 s15 s16 s17 s18 s19) σ) := by
  have bx : Bd (10 ^ 47) x := by
    have := t.size (n := r + 1) (by omega)
    rw [hx] at this
    exact this
  obtain ⟨y, hy⟩ := iter_some t.g.pos t.b (r + 1)
  have yx : y < x := by
    have := iter_fall t.g.pos t.b (r + 1)
    rw [hy, hx] at this
    exact this
  have it : VL.iRng2 (aCons (eCon (.int 1)) (aCons (eBin gAdd (eVar 13) (eCon (.int 2))) aNil)) (rho m ps s7 s8 (some (rv x)) s10 s11 s12 (some (.d (.int (1 + (r : Int))))) s14 s15 s16 s17 s18 s19) σ = some (.ok (rangeL 1 (r + 1 + 1)) σ) := by
    rw [a_iRng2]
    have : (aCons (eCon (.int 1)) (aCons (eBin gAdd (eVar 13) (eCon (.int 2))) aNil)) (rho m ps s7 s8 (some (rv x)) s10 s11 s12 (some (.d (.int (1 + (r : Int))))) s14 s15 s16 s17 s18 s19) σ = some (.ok [.d (.int 1), .d (.int (1 + (r : Int) + 2))] σ) := by simp
    rw [this]
    simp only [bindM_ok]
    rw [show (1 + (r : Int) + 2 - 1).toNat = r + 1 + 1 by omega]
    exact if_pos (by rw [inR_of ⟨by omega, by omega⟩, inR_of ⟨by omega, by omega⟩]; rfl)
  have c := compL_ok (tf := gNm 17) (tst := T11) (elt := eVarV 17) (ρ := wipeR (rho m ps s7 s8 (some (rv x)) s10 s11 s12 (some (.d (.int (1 + (r : Int))))) s14 s15 s16 s17 s18 s19) [17]) (S := σ) (fun v => match v with | .d (.int z) => if z = 1 + ((r + 1 : Nat) : Int) then some (.d (.int z)) else none | _ => none) (rangeL 1 (r + 1 + 1)) [] (fun v hv => by
    obtain ⟨i, hi⟩ := List.getElem?_of_mem hv
    obtain ⟨i5, rfl⟩ := rangeL_at hi
    refine ⟨(rho m ps s7 s8 (some (rv x)) s10 s11 s12 (some (.d (.int (1 + (r : Int))))) s14 s15 s16 (some (.d (.int (1 + (i : Int))))) s18 s19), rfl, ?_⟩
    obtain ⟨w, hw⟩ := iter_some t.g.pos t.b i
    have q := T11_eq (m := m) (s7 := s7) (s8 := s8) (s10 := s10) (s11 := s11) (s12 := s12) (s13 := (some (.d (.int (1 + (r : Int)))))) (s14 := s14) (s15 := s15) (s16 := s16) (s18 := s18) (s19 := s19) (σ := σ) t (i := i) (by omega) bx hw
    by_cases e : i = r + 1
    · subst e
      rw [hy] at hw
      cases hw
      rw [decide_eq_true yx] at q
      exact .inl ⟨.d (.int (1 + ((r + 1 : Nat) : Int))), if_pos rfl, q, by simp⟩
    · have nw : ¬ w < x := by
        have dn := iter_down t.g.pos t.b (r + 1 - (i + 1)) (i + 1)
        rw [show i + 1 + (r + 1 - (i + 1)) = r + 1 by omega, hx, hw] at dn
        rcases dn with e | e
        · cases e
          exact Rat.lt_irrefl
        · have e : x < w := e
          intro z
          grind
      rw [decide_eq_false nw] at q
      exact .inr ⟨if_neg (by omega), q⟩) (by rw [rangeL_length, sizeLine_eq]; simp; omega)
  rw [range_one (r + 1) _ (fun i hi => if_neg (by omega)) (if_pos rfl), List.nil_append] at c
  have s1 : (sSet 14 (eLc (iRng2 (aCons (eCon (.int 1)) (aCons (eBin gAdd (eVar 13) (eCon (.int 2))) aNil))) (gNm 17) (bAnd (bB (eBin (cB gNotN) (eCall 3 F__law_after [] (aCons (eVarV 1) (aCons (eVarV 17) (aCons (eCon (.none)) aNil)))) (eCon (.none)))) (bB (eBin (cB gLt) (eBin gIxB (eCall 2 F__law_sub [] (aCons (eCall 3 F__law_after [] (aCons (eVarV 1) (aCons (eVarV 17) (aCons (eCon (.none)) aNil)))) (aCons (eVarV 9) aNil))) (eCon (.int 0))) (eCon (.int 0))))) (eVarV 17) [17])) (rho m ps s7 s8 (some (rv x)) s10 s11 s12 (some (.d (.int (1 + (r : Int))))) s14 s15 s16 s17 s18 s19) σ = some (.nx (rho m ps s7 s8 (some (rv x)) s10 s11 s12 (some (.d (.int (1 + (r : Int))))) (some (.own [.d (.int (1 + ((r + 1 : Nat) : Int)))])) s15 s16 s17 s18 s19) σ) := by
    rw [a_sSet]
    unfold eLc
    rw [it, bindM_ok]
    erw [c]
    rfl
  have tt := told2_ok (pe_above t hr hx σ)
  refine ⟨(some (.own [.d (.int (1 + ((r + 1 : Nat) : Int)))])), ?_⟩
  have t0 : (bB (eBin (cB gNotN) (eVar 9) (eCon (.none)))) (rho m ps s7 s8 (some (rv x)) s10 s11 s12 (some (.d (.int (1 + (r : Int))))) s14 s15 s16 s17 s18 s19) σ = some (.ok true σ) := by
    simp [cB, gNotN]
  unfold K11
  rw [a_sIf, t0, bindS_ok, if_pos rfl]
  refine seq_nx s1 ?_
  rw [show ((r + 2 : Nat) : Int) = 1 + ((r + 1 : Nat) : Int) by omega] at tt
  generalize ((r + 1 : Nat) : Int) = N at *
  simp [tt, cB, gNe, atI, ixN, sizeLine_eq]
noncomputable abbrev K12 : Rho → Sto → Option VL.Fl := (sIf (bOr (bB (eBin (cB gNotN) (eCall 2 F__law_told [] (aCons (eFn "parts_enough") (aCons (eTup (aCons (eVarV 1) (aCons (eCall 3 F__law_after [] (aCons (eVarV 1) (aCons (eVarV 13) (aCons (eTup (aCons (eCon (.int 0)) (aCons (eCon (.int 1)) aNil))) aNil)))) aNil))) aNil))) (eCon (.none)))) (bB (eBin (cB gNotN) (eCall 2 F__law_told [] (aCons (eFn "parts_enough") (aCons (eTup (aCons (eVarV 1) (aCons (eTup (aCons (eCon (.int 0)) (aCons (eCon (.int 1)) aNil))) aNil))) aNil))) (eCon (.none)))))
  (sRet (eCon (.bool false)))
  sNil)
theorem K12_eq (t : Two ps) {r : Nat} (hr : r ≤ 5) : K12 (rho m ps s7 s8 s9 s10 s11 s12 (some (.d (.int (1 + (r : Int))))) s14 s15 s16 s17 s18 s19) σ = some (.nx (rho m ps s7 s8 s9 s10 s11 s12 (some (.d (.int (1 + (r : Int))))) s14 s15 s16 s17 s18 s19) σ) := by
  obtain ⟨l, el, l0, cl⟩ := low_ok t (r + 1)
  obtain ⟨l', el', _, cl'⟩ := low_ok t 0
  have el' : some (0 : Rat) = some l' := el'
  cases el'
  have a2 := after_0 t (n := r + 1) (by omega) σ
  rw [el, show ((r + 1 : Nat) : Int) = 1 + (r : Int) by omega] at a2
  have bl : Bd (10 ^ 47) l := by
    have := t.size0 (n := r + 1) (by omega)
    rw [el] at this
    exact this
  have p1 := told2_ok (pe_below t (bl.mono (by decide +kernel)) cl σ)
  have p2 : G.F__law_told [.fn "parts_enough", .d (.tuple [ladD ps, .tuple [.int 0, .int 1]])] σ = some (.ok (.d .none) σ) := told2_ok (pe_below t (x := 0) ⟨by decide +kernel, by decide +kernel⟩ cl' σ)
  unfold K12
  simp [a2, p1, p2, cB, gNotN, sizeLine_eq]
end
end M

end
section
set_option Elab.async false
set_option linter.all false
set_option maxRecDepth 100000
namespace M
open PySem PySem.Spec PyProof.Rows L2 VL G

section
variable {m : Nat} {ps : List Pt} {s7 s8 s9 s10 s11 s12 s13 s14 s15 s16 s17 s18 s19 : Option SV} {σ S : Sto}
theorem compL_filt {α : Type} {tf : TgF} {tst : Rho → Mo Bool} {elt : Rho → Mo SV} {ρ : Rho} {S : Sto} (f g : α → SV) (p : α → Bool) : ∀ (l : List α) (acc : List SV), (∀ a ∈ l, ∃ ρ', tf (f a) ρ = some ρ' ∧ tst ρ' S = some (.ok (p a) S) ∧ (p a = true → elt ρ' S = some (.ok (g a) S))) → acc.length + l.length ≤ sizeLine →
    compL tf tst elt ρ (l.map f) acc S = some (.ok (acc ++ (l.filter p).map g) S)
  | [], acc, _, _ => by simp [compL]
  | a :: l, acc, h, hl => by
    obtain ⟨ρ', ht, h1, h2⟩ := h a List.mem_cons_self
    rw [List.length_cons] at hl
    unfold compL
    cases e : p a with
    | true =>
      have ih := compL_filt f g p l (acc ++ [g a]) (fun z m => h z (List.mem_cons_of_mem _ m)) (by simp; omega)
      rw [e] at h1
      simp only [List.map_cons, ht, h1, h2 e]
      rw [if_pos (by omega), ih]
      simp [e]
    | false =>
      have ih := compL_filt f g p l acc (fun z m => h z (List.mem_cons_of_mem _ m)) (by omega)
      rw [e] at h1
      simp only [List.map_cons, ht, h1]
      rw [ih]
      simp [e]
theorem lad_its (ps : List Pt) (f : Rho → Mo SV) (ρ : Rho) (S : Sto) (h : f ρ S = some (.ok (.d (ladD ps)) S)) : VL.iSeq f ρ S = some (.ok (ps.map fun p => SV.d (ptD p)) S) := by
  rw [a_iSeq, h, bindM_ok]
  simp [seq?]
  rintro x (⟨b, _, rfl⟩ | ⟨b, _, rfl⟩) <;> rfl
abbrev rwP (ps : List Pt) : List Pt := ps.filter fun p => p.1
abbrev bsP (ps : List Pt) : List Pt := ps.filter fun p => !p.1
noncomputable abbrev K13 : Rho → Sto → Option VL.Fl := (sSet 15 (eCal gTuple (aCons (eLc (iSeq (eVar 1)) (gNm 18) (bB (eBin (cB gEq) (eBin gIxB (eVar 18) (eCon (.int 0))) (eCon (.str "row")))) (eVarV 18) [18]) aNil)))
noncomputable abbrev K14 : Rho → Sto → Option VL.Fl := (sSet 16 (eCal gTuple (aCons (eLc (iSeq (eVar 1)) (gNm 18) (bB (eBin (cB gEq) (eBin gIxB (eVar 18) (eCon (.int 0))) (eCon (.str "beside")))) (eVarV 18) [18]) aNil)))
theorem K13_eq (t : Two ps) : K13 (rho m ps s7 s8 s9 s10 s11 s12 s13 s14 s15 s16 s17 s18 s19) σ = some (.nx (rho m ps s7 s8 s9 s10 s11 s12 s13 s14 (some (.d (ladD (rwP ps)))) s16 s17 s18 s19) σ) := by
  have l5 := t.l5
  have c := compL_filt (tf := gNm 18) (tst := (bB (eBin (cB gEq) (eBin gIxB (eVar 18) (eCon (.int 0))) (eCon (.str "row"))))) (elt := eVarV 18) (ρ := wipeR (rho m ps s7 s8 s9 s10 s11 s12 s13 s14 s15 s16 s17 s18 s19) [18]) (S := σ) (fun p : Pt => SV.d (ptD p)) (fun p => SV.d (ptD p)) (fun p => p.1) ps [] (fun p mp => by
    refine ⟨(rho m ps s7 s8 s9 s10 s11 s12 s13 s14 s15 s16 s17 (some (.d (ptD p))) s19), rfl, ?_, fun _ => by simp⟩
    obtain ⟨b, r⟩ := p
    cases b <;> simp [cB, atI, ixN, wS, gEq]) (by rw [sizeLine_eq]; simp; omega)
  have c2 : (eLc (iSeq (eVar 1)) (gNm 18) (bB (eBin (cB gEq) (eBin gIxB (eVar 18) (eCon (.int 0))) (eCon (.str "row")))) (eVarV 18) [18]) (rho m ps s7 s8 s9 s10 s11 s12 s13 s14 s15 s16 s17 s18 s19) σ = some (.ok (.own (ptL (rwP ps))) σ) := by
    unfold eLc
    rw [lad_its ps (eVar 1) (rho m ps s7 s8 s9 s10 s11 s12 s13 s14 s15 s16 s17 s18 s19) σ (by simp), bindM_ok]
    erw [c]
    rfl
  have tp := tup_own (rwP ps) σ
  unfold K13
  rw [a_sSet]
  simp only [a_eCal, a_aCons, a_aNil]
  rw [c2]
  simp [tp]
theorem K14_eq (t : Two ps) : K14 (rho m ps s7 s8 s9 s10 s11 s12 s13 s14 s15 s16 s17 s18 s19) σ = some (.nx (rho m ps s7 s8 s9 s10 s11 s12 s13 s14 s15 (some (.d (ladD (bsP ps)))) s17 s18 s19) σ) := by
  have l5 := t.l5
  have c := compL_filt (tf := gNm 18) (tst := (bB (eBin (cB gEq) (eBin gIxB (eVar 18) (eCon (.int 0))) (eCon (.str "beside"))))) (elt := eVarV 18) (ρ := wipeR (rho m ps s7 s8 s9 s10 s11 s12 s13 s14 s15 s16 s17 s18 s19) [18]) (S := σ) (fun p : Pt => SV.d (ptD p)) (fun p => SV.d (ptD p)) (fun p => !p.1) ps [] (fun p mp => by
    refine ⟨(rho m ps s7 s8 s9 s10 s11 s12 s13 s14 s15 s16 s17 (some (.d (ptD p))) s19), rfl, ?_, fun _ => by simp⟩
    obtain ⟨b, r⟩ := p
    cases b <;> simp [cB, atI, ixN, wS, gEq]) (by rw [sizeLine_eq]; simp; omega)
  have c2 : (eLc (iSeq (eVar 1)) (gNm 18) (bB (eBin (cB gEq) (eBin gIxB (eVar 18) (eCon (.int 0))) (eCon (.str "beside")))) (eVarV 18) [18]) (rho m ps s7 s8 s9 s10 s11 s12 s13 s14 s15 s16 s17 s18 s19) σ = some (.ok (.own (ptL (bsP ps))) σ) := by
    unfold eLc
    rw [lad_its ps (eVar 1) (rho m ps s7 s8 s9 s10 s11 s12 s13 s14 s15 s16 s17 s18 s19) σ (by simp), bindM_ok]
    erw [c]
    rfl
  have tp := tup_own (bsP ps) σ
  unfold K14
  rw [a_sSet]
  simp only [a_eCal, a_aCons, a_aNil]
  rw [c2]
  simp [tp]

theorem Two.nrow (t : Two ps) (σ : Sto) : G.F_endless [.d (ladD (rwP ps))] σ = some (.exc "NoSuch" [] σ) := by
  have l5 := t.l5
  have le : (rwP ps).length ≤ ps.length := List.length_filter_le _ ps
  obtain ⟨p, mp, e⟩ := t.r
  refine endless_none (ps := rwP ps) (fun q mq => t.g q (List.mem_filter.mp mq).1) ?_ (by omega) (.inl fun q mq => (List.mem_filter.mp mq).2) σ
  have : p ∈ rwP ps := List.mem_filter.mpr ⟨mp, e⟩
  exact List.length_pos_of_mem this
theorem Two.nbs (t : Two ps) (σ : Sto) : G.F_endless [.d (ladD (bsP ps))] σ = some (.exc "NoSuch" [] σ) := by
  have l5 := t.l5
  have le : (bsP ps).length ≤ ps.length := List.length_filter_le _ ps
  obtain ⟨p, mp, e⟩ := t.b
  refine endless_none (ps := bsP ps) (fun q mq => t.g q (List.mem_filter.mp mq).1) ?_ (by omega) (.inr fun q mq => by simpa using (List.mem_filter.mp mq).2) σ
  have : p ∈ bsP ps := List.mem_filter.mpr ⟨mp, by simp [e]⟩
  exact List.length_pos_of_mem this
noncomputable abbrev K15 : Rho → Sto → Option VL.Fl := (sIf (bOr (bB (eBin (cB gNe) (eLc (iSeq (eLst (aCons (eVarV 15) (aCons (eVarV 16) aNil)))) (gNm 19) bYes (eCall 2 F__law_told [] (aCons (eFn "endless") (aCons (eTup (aCons (eVarV 19) aNil)) aNil))) [19]) (eBin gMulA (eLst (aCons (eCon (.str "none")) aNil)) (eCon (.int 2))))) (bB (eBin (cB gNe) (eCall 2 F__law_told [] (aCons (eFn "parts_enough") (aCons (eTup (aCons (eVarV 15) (aCons (eTup (aCons (eCon (.int 1)) (aCons (eCon (.int 1)) aNil))) aNil))) aNil))) (eCon (.str "none")))))
  (sRet (eCon (.bool false)))
  sNil)
theorem K15_eq (t : Two ps) : K15 (rho m ps s7 s8 s9 s10 s11 s12 s13 s14 (some (.d (ladD (rwP ps)))) (some (.d (ladD (bsP ps)))) s17 s18 s19) σ = some (.nx (rho m ps s7 s8 s9 s10 s11 s12 s13 s14 (some (.d (ladD (rwP ps)))) (some (.d (ladD (bsP ps)))) s17 s18 s19) σ) := by
  have c1 := eLc_mapF (S := σ) (ρ := (rho m ps s7 s8 s9 s10 s11 s12 s13 s14 (some (.d (ladD (rwP ps)))) (some (.d (ladD (bsP ps)))) s17 s18 s19)) (vs := [19]) (it := (VL.iSeq (eLst (aCons (eVarV 15) (aCons (eVarV 16) aNil))))) (tf := gNm 19) (elt := (eCall 2 F__law_told [] (aCons (eFn "endless") (aCons (eTup (aCons (eVarV 19) aNil)) aNil)))) (l := [ladD (rwP ps), ladD (bsP ps)])
    (fun y => SV.d y) (fun _ => SV.d (.str "none")) (by simp [sizeLine_eq]) (fun y my => by
      refine ⟨(rho m ps s7 s8 s9 s10 s11 s12 s13 s14 (some (.d (ladD (rwP ps)))) (some (.d (ladD (bsP ps)))) s17 s18 (some (.d y))), rfl, ?_⟩
      have hy : y = ladD (rwP ps) ∨ y = ladD (bsP ps) := by
        simpa only [List.mem_cons, List.not_mem_nil, or_false] using my
      have h : G.F_endless [.d y] σ = some (.exc "NoSuch" [] σ) := by
        rcases hy with e | e
        · rw [e]; exact t.nrow σ
        · rw [e]; exact t.nbs σ
      have tt := told1 h (fun ρ => ex_none ρ σ)
      simp [tt, sizeLine_eq]) (by rw [sizeLine_eq]; simp)
  have m1 : gMulA σ (.own [.d (.str "none")]) (.d (.int 2)) = some (.own (List.replicate 2 (.d (.str "none")))) := by
    simp [gMulA, gMul, lst?, smI, sizeLine_eq, List.replicate]
  have n1 := ne_texts ok_none 2 σ
  have r5 : List.replicate 2 (SV.d (.str "none")) = [.d (.str "none"), .d (.str "none")] := rfl
  rw [r5] at m1 n1
  simp only [List.map_cons, List.map_nil] at c1
  have p2 : G.F__law_told [.fn "parts_enough", .d (.tuple [ladD (rwP ps), .tuple [.int 1, .int 1]])] σ = some (.ok (.d (.str "none")) σ) := told2 (pe_exc (t.nrow σ) _) (fun ρ => ex_none ρ σ)
  have h1 : (bB (eBin (cB gNe) (eLc (iSeq (eLst (aCons (eVarV 15) (aCons (eVarV 16) aNil)))) (gNm 19) bYes (eCall 2 F__law_told [] (aCons (eFn "endless") (aCons (eTup (aCons (eVarV 19) aNil)) aNil))) [19]) (eBin gMulA (eLst (aCons (eCon (.str "none")) aNil)) (eCon (.int 2))))) (rho m ps s7 s8 s9 s10 s11 s12 s13 s14 (some (.d (ladD (rwP ps)))) (some (.d (ladD (bsP ps)))) s17 s18 s19) σ = some (.ok false σ) := by
    rw [a_bB, a_eBin]
    erw [c1]
    simp [cB, m1, n1, sizeLine_eq]
  have h2 : (bB (eBin (cB gNe) (eCall 2 F__law_told [] (aCons (eFn "parts_enough") (aCons (eTup (aCons (eVarV 15) (aCons (eTup (aCons (eCon (.int 1)) (aCons (eCon (.int 1)) aNil))) aNil))) aNil))) (eCon (.str "none")))) (rho m ps s7 s8 s9 s10 s11 s12 s13 s14 (some (.d (ladD (rwP ps)))) (some (.d (ladD (bsP ps)))) s17 s18 s19) σ = some (.ok false σ) := by
    simp [cB, p2, gNe, sizeLine_eq]
  unfold K15
  rw [a_sIf, a_bOr, h1, bindM_ok]
  simp only [Bool.false_eq_true, if_false]
  rw [h2, bindS_ok]
  simp
theorem no_num {y : PyData} (hy : y = .none ∨ y = .tuple [.int 2, .int 4]) : G.F_is_number [.d y] σ = some (.ok (.d (.bool false)) σ) := by
  rcases hy with rfl | rfl
  · unfold G.F_is_number runF rho0 G.f_is_number
    simp
  · have := is_number_eq 2 4 (by omega) σ
    rw [decide_eq_false (by decide)] at this
    exact this
theorem bad_any {y : PyData} (hy : y = .none ∨ y = .tuple [] ∨ y = .tuple [.tuple [.str "row", .tuple [.int 0, .int 1]]]) : BadL y := by
  rcases hy with rfl | rfl | rfl
  · exact bad_none
  · exact bad_nil
  · exact bad_one (part_low (x := 0) ⟨by decide, by decide⟩ (by decide))
noncomputable abbrev K16 : Rho → Sto → Option VL.Fl := (sRet (eAnd (eBin (cB gEq) (eLc (iSeq (eLst (aCons (eCon (.none)) (aCons (eTup aNil) (aCons (eTup (aCons (eTup (aCons (eCon (.str "row")) (aCons (eTup (aCons (eCon (.int 0)) (aCons (eCon (.int 1)) aNil))) aNil))) aNil)) aNil))))) (gNm 19) bYes (eCall 2 F__law_told [] (aCons (eFn "endless") (aCons (eTup (aCons (eVarV 19) aNil)) aNil))) [19]) (eBin gMulA (eLst (aCons (eCon (.str "value")) aNil)) (eCon (.int 3)))) (eBin (cB gEq) (eLc (iSeq (eLst (aCons (eCon (.none)) (aCons (eTup (aCons (eCon (.int 2)) (aCons (eCon (.int 4)) aNil))) aNil)))) (gNm 19) bYes (eCall 2 F__law_told [] (aCons (eFn "parts_enough") (aCons (eTup (aCons (eVarV 1) (aCons (eVarV 19) aNil))) aNil))) [19]) (eBin gMulA (eLst (aCons (eCon (.str "value")) aNil)) (eCon (.int 2))))))
theorem K16_eq (t : Two ps) : K16 (rho m ps s7 s8 s9 s10 s11 s12 s13 s14 s15 s16 s17 s18 s19) σ = some (.rt (.d (.bool true)) σ) := by
  have c1 := eLc_mapF (S := σ) (ρ := (rho m ps s7 s8 s9 s10 s11 s12 s13 s14 s15 s16 s17 s18 s19)) (vs := [19]) (it := (VL.iSeq (eLst (aCons (eCon (.none)) (aCons (eTup aNil) (aCons (eTup (aCons (eTup (aCons (eCon (.str "row")) (aCons (eTup (aCons (eCon (.int 0)) (aCons (eCon (.int 1)) aNil))) aNil))) aNil)) aNil)))))) (tf := gNm 19) (elt := (eCall 2 F__law_told [] (aCons (eFn "endless") (aCons (eTup (aCons (eVarV 19) aNil)) aNil)))) (l := [.none, .tuple [], .tuple [.tuple [.str "row", .tuple [.int 0, .int 1]]]])
    (fun y => SV.d y) (fun _ => SV.d (.str "value")) (by simp [sizeLine_eq]) (fun y my => by
      refine ⟨(rho m ps s7 s8 s9 s10 s11 s12 s13 s14 s15 s16 s17 s18 (some (.d y))), rfl, ?_⟩
      have hy : y = .none ∨ y = .tuple [] ∨ y = .tuple [.tuple [.str "row", .tuple [.int 0, .int 1]]] := by
        simpa only [List.mem_cons, List.not_mem_nil, or_false] using my
      have tt := told1 (endless_bad (bad_any hy) σ) (fun ρ => ex_value ρ σ)
      simp [tt, sizeLine_eq]) (by rw [sizeLine_eq]; simp)
  have c2 := eLc_mapF (S := σ) (ρ := (rho m ps s7 s8 s9 s10 s11 s12 s13 s14 s15 s16 s17 s18 s19)) (vs := [19]) (it := (VL.iSeq (eLst (aCons (eCon (.none)) (aCons (eTup (aCons (eCon (.int 2)) (aCons (eCon (.int 4)) aNil))) aNil))))) (tf := gNm 19) (elt := (eCall 2 F__law_told [] (aCons (eFn "parts_enough") (aCons (eTup (aCons (eVarV 1) (aCons (eVarV 19) aNil))) aNil)))) (l := [.none, .tuple [.int 2, .int 4]])
    (fun y => SV.d y) (fun _ => SV.d (.str "value")) (by simp [sizeLine_eq]) (fun y my => by
      refine ⟨(rho m ps s7 s8 s9 s10 s11 s12 s13 s14 s15 s16 s17 s18 (some (.d y))), rfl, ?_⟩
      have hy : y = .none ∨ y = .tuple [.int 2, .int 4] := by
        simpa only [List.mem_cons, List.not_mem_nil, or_false] using my
      have tt := told2 (pe_num t (no_num hy)) (fun ρ => ex_value ρ σ)
      simp [tt, sizeLine_eq]) (by rw [sizeLine_eq]; simp)
  have m1 : gMulA σ (.own [.d (.str "value")]) (.d (.int 3)) = some (.own (List.replicate 3 (.d (.str "value")))) := by
    simp [gMulA, gMul, lst?, smI, sizeLine_eq, List.replicate]
  have m2 : gMulA σ (.own [.d (.str "value")]) (.d (.int 2)) = some (.own (List.replicate 2 (.d (.str "value")))) := by
    simp [gMulA, gMul, lst?, smI, sizeLine_eq, List.replicate]
  have n1 := eq_texts ok_value 3 σ
  have n2 := eq_texts ok_value 2 σ
  have r5 : List.replicate 3 (SV.d (.str "value")) = [.d (.str "value"), .d (.str "value"), .d (.str "value")] := rfl
  have r6 : List.replicate 2 (SV.d (.str "value")) = [.d (.str "value"), .d (.str "value")] := rfl
  rw [r5] at m1 n1
  rw [r6] at m2 n2
  simp only [List.map_cons, List.map_nil] at c1 c2
  have h1 : (eBin (cB gEq) (eLc (iSeq (eLst (aCons (eCon (.none)) (aCons (eTup aNil) (aCons (eTup (aCons (eTup (aCons (eCon (.str "row")) (aCons (eTup (aCons (eCon (.int 0)) (aCons (eCon (.int 1)) aNil))) aNil))) aNil)) aNil))))) (gNm 19) bYes (eCall 2 F__law_told [] (aCons (eFn "endless") (aCons (eTup (aCons (eVarV 19) aNil)) aNil))) [19]) (eBin gMulA (eLst (aCons (eCon (.str "value")) aNil)) (eCon (.int 3)))) (rho m ps s7 s8 s9 s10 s11 s12 s13 s14 s15 s16 s17 s18 s19) σ = some (.ok (.d (.bool true)) σ) := by
    rw [a_eBin]
    erw [c1]
    simp [cB, m1, n1, sizeLine_eq]
  have h2 : (eBin (cB gEq) (eLc (iSeq (eLst (aCons (eCon (.none)) (aCons (eTup (aCons (eCon (.int 2)) (aCons (eCon (.int 4)) aNil))) aNil)))) (gNm 19) bYes (eCall 2 F__law_told [] (aCons (eFn "parts_enough") (aCons (eTup (aCons (eVarV 1) (aCons (eVarV 19) aNil))) aNil))) [19]) (eBin gMulA (eLst (aCons (eCon (.str "value")) aNil)) (eCon (.int 2)))) (rho m ps s7 s8 s9 s10 s11 s12 s13 s14 s15 s16 s17 s18 s19) σ = some (.ok (.d (.bool true)) σ) := by
    rw [a_eBin]
    erw [c2]
    simp [cB, m2, n2, sizeLine_eq]
  unfold K16
  rw [a_sRet]
  unfold eAnd
  rw [h1, bindM_ok]
  simp only [h2]
  rfl
end
end M

end
section
set_option Elab.async false
set_option linter.all false
set_option maxRecDepth 100000
namespace M
open PySem PySem.Spec PyProof.Rows L2 VL G
noncomputable abbrev K0 : Rho → Sto → Option VL.Fl := (sSet 1 (eCall 1 F__law_ladder [] (aCons (eVarV 0) aNil)))
noncomputable abbrev K1 : Rho → Sto → Option VL.Fl := (sSet 2 (eCall 1 F_endless [] (aCons (eVarV 1) aNil)))
noncomputable abbrev K2 : Rho → Sto → Option VL.Fl := (sAsg (gTp 4 (gsCons (gNm 3) (gsCons (gNm 4) (gsCons (gNm 5) (gsCons (gNm 6) gsNil))))) (eVarV 2))
theorem case_chain : G.f__law_case = sSeq K0 (sSeq K1 (sSeq K2 (sSeq K3 (sSeq K4 (sSeq K5 (sSeq K6 (sSeq K7 (sSeq K8 (sSeq K9 (sSeq K10 (sSeq K11 (sSeq K12 (sSeq K13 (sSeq K14 (sSeq K15 K16))))))))))))))) := rfl
theorem case_eq {S : Sto} {m : Nat} {c0 : Int} (h : Bs S m c0) : ∃ S', G.F__law_case [.ref m] S = some (.ok (.d (.bool true)) S') := by
  obtain ⟨ps, S1, t, B1, e1⟩ := ladder_eq h
  have l5 := t.l5
  have en := endless_eq t.g t.l1 (by omega) t.r t.b S1
  have k0 : K0 [some (.ref m), none, none, none, none, none, none, none, none, none, none, none, none, none, none, none, none, none, none, none] S = some (.nx [some (.ref m), some (.d (ladD ps)), none, none, none, none, none, none, none, none, none, none, none, none, none, none, none, none, none, none] S1) := by
    unfold K0
    simp [e1]
  have k1 : K1 [some (.ref m), some (.d (ladD ps)), none, none, none, none, none, none, none, none, none, none, none, none, none, none, none, none, none, none] S1 = some (.nx [some (.ref m), some (.d (ladD ps)), some (RT (mm ps)), none, none, none, none, none, none, none, none, none, none, none, none, none, none, none, none, none] S1) := by
    unfold K1
    simp [en]
  have k2 : K2 [some (.ref m), some (.d (ladD ps)), some (RT (mm ps)), none, none, none, none, none, none, none, none, none, none, none, none, none, none, none, none, none] S1 = some (.nx (rho m ps none none none none none none none none none none none none none) S1) := by
    unfold K2
    simp
  have k3 := K3_eq (m := m) (s7 := none) (s8 := none) (s9 := none) (s10 := none) (s11 := none) (s12 := none) (s13 := none) (s14 := none) (s15 := none) (s16 := none) (s17 := none) (s18 := none) (s19 := none) (σ := S1) t
  have k4 := K4_eq (m := m) (s7 := none) (s8 := none) (s9 := none) (s10 := none) (s11 := none) (s12 := none) (s13 := none) (s14 := none) (s15 := none) (s16 := none) (s17 := none) (s18 := none) (s19 := none) (σ := S1) t
  obtain ⟨r, i, k5⟩ := K5_eq (m := m) (s8 := none) (s9 := none) (s10 := none) (s11 := none) (s12 := none) (s13 := none) (s14 := none) (s15 := none) (s16 := none) (s17 := none) (s18 := none) (s19 := none) (σ := S1) t
  obtain ⟨z9, k6⟩ := K6_eq (m := m) (s9 := none) (s10 := none) (s11 := none) (s12 := none) (s13 := none) (s14 := none) (s15 := none) (s16 := none) (s17 := none) (s18 := none) (s19 := none) (σ := S1) t i
  obtain ⟨z10, z11, z12, k7⟩ := K7_eq (m := m) (s7 := (iv (dsc ps))) (s8 := (some (.d (if r * r = dsc ps then .int r else .none)))) (s9 := z9) (s10 := none) (s11 := none) (s12 := none) (s13 := none) (s14 := none) (s15 := none) (s16 := none) (s17 := none) (s18 := none) (s19 := none) (σ := S1) t
  have k8 := K8_eq (m := m) (s7 := (iv (dsc ps))) (s8 := (some (.d (if r * r = dsc ps then .int r else .none)))) (s9 := z9) (s10 := z10) (s11 := z11) (s12 := z12) (s13 := none) (s14 := none) (s15 := none) (s16 := none) (s17 := none) (s18 := none) (s19 := none) (σ := S1) t
  obtain ⟨q, S2, q5, B2, k9⟩ := K9_eq (m := m) (ps := ps) (s7 := (iv (dsc ps))) (s8 := (some (.d (if r * r = dsc ps then .int r else .none)))) (s9 := z9) (s10 := z10) (s11 := z11) (s12 := z12) (s13 := none) (s14 := none) (s15 := none) (s16 := none) (s17 := none) (s18 := none) (s19 := none) (σ := S1) B1
  obtain ⟨x, hx, _, _⟩ := high_ok t q
  have k10 := K10_eq (m := m) (s7 := (iv (dsc ps))) (s8 := (some (.d (if r * r = dsc ps then .int r else .none)))) (s9 := z9) (s10 := z10) (s11 := z11) (s12 := z12) (s14 := none) (s15 := none) (s16 := none) (s17 := none) (s18 := none) (s19 := none) (σ := S2) t q5 hx
  obtain ⟨z14, k11⟩ := K11_eq (m := m) (s7 := (iv (dsc ps))) (s8 := (some (.d (if r * r = dsc ps then .int r else .none)))) (s10 := z10) (s11 := z11) (s12 := z12) (s14 := none) (s15 := none) (s16 := none) (s17 := none) (s18 := none) (s19 := none) (σ := S2) t q5 hx
  have k12 := K12_eq (m := m) (s7 := (iv (dsc ps))) (s8 := (some (.d (if r * r = dsc ps then .int r else .none)))) (s9 := (some (rv x))) (s10 := z10) (s11 := z11) (s12 := z12) (s14 := z14) (s15 := none) (s16 := none) (s17 := none) (s18 := none) (s19 := none) (σ := S2) t q5
  have k13 := K13_eq (m := m) (s7 := (iv (dsc ps))) (s8 := (some (.d (if r * r = dsc ps then .int r else .none)))) (s9 := (some (rv x))) (s10 := z10) (s11 := z11) (s12 := z12) (s13 := (some (.d (.int (1 + (q : Int)))))) (s14 := z14) (s15 := none) (s16 := none) (s17 := none) (s18 := none) (s19 := none) (σ := S2) t
  have k14 := K14_eq (m := m) (s7 := (iv (dsc ps))) (s8 := (some (.d (if r * r = dsc ps then .int r else .none)))) (s9 := (some (rv x))) (s10 := z10) (s11 := z11) (s12 := z12) (s13 := (some (.d (.int (1 + (q : Int)))))) (s14 := z14) (s15 := (some (.d (ladD (rwP ps))))) (s16 := none) (s17 := none) (s18 := none) (s19 := none) (σ := S2) t
  have k15 := K15_eq (m := m) (s7 := (iv (dsc ps))) (s8 := (some (.d (if r * r = dsc ps then .int r else .none)))) (s9 := (some (rv x))) (s10 := z10) (s11 := z11) (s12 := z12) (s13 := (some (.d (.int (1 + (q : Int)))))) (s14 := z14) (s17 := none) (s18 := none) (s19 := none) (σ := S2) t
  have k16 := K16_eq (m := m) (s7 := (iv (dsc ps))) (s8 := (some (.d (if r * r = dsc ps then .int r else .none)))) (s9 := (some (rv x))) (s10 := z10) (s11 := z11) (s12 := z12) (s13 := (some (.d (.int (1 + (q : Int)))))) (s14 := z14) (s15 := (some (.d (ladD (rwP ps))))) (s16 := (some (.d (ladD (bsP ps))))) (s17 := none) (s18 := none) (s19 := none) (σ := S2) t
  have e : G.f__law_case [some (.ref m), none, none, none, none, none, none, none, none, none, none, none, none, none, none, none, none, none, none, none] S = some (.rt (.d (.bool true)) S2) := by
    rw [case_chain]
    exact seq_nx k0 (seq_nx k1 (seq_nx k2 (seq_nx k3 (seq_nx k4 (seq_nx k5 (seq_nx k6 (seq_nx k7 (seq_nx k8 (seq_nx k9 (seq_nx k10 (seq_nx k11 (seq_nx k12 (seq_nx k13 (seq_nx k14 (seq_nx k15 k16)))))))))))))))
  refine ⟨S2, ?_⟩
  have e1 : G.F__law_case [.ref m] S = (match G.f__law_case [some (.ref m), none, none, none, none, none, none, none, none, none, none, none, none, none, none, none, none, none, none, none] S with
    | some (.nx _ S') => some (.ok (.d .none) S')
    | some (.rt x S') => some (.ok x S')
    | some (.exc c fs _ S') => some (.exc c fs S')
    | _ => none) := rfl
  rw [e1, e]
/-! the law -/
noncomputable abbrev lawb : Rho → Sto → Option VL.Fl := (sIf (bNot (bVal (eCall 1 F__law_case [true] (aCons (eCall 2 F__law_bag [] (aCons (eVarV 0) (aCons (eVarV 1) aNil))) aNil))))
  (sRet (eCon (.bool false)))
  sNil)
theorem lawb_eq {ns : List Int} {k : Nat} (hl : ns.length ≤ 1000) (hb : ∀ z ∈ ns, z.natAbs.log2 ≤ 2000000) (hk : k ≤ 100) (S : Sto) :
    ∃ S', lawb [some (.scr ns), some (.d (.int (k : Int)))] S = some (.nx [some (.scr ns), some (.d (.int (k : Int)))] S') := by
  obtain ⟨a, b, g, e⟩ := bag_eq ns k hk hb S hl
  have B : Bs (S ++ [bagL a b (k : Int)]) S.length (k : Int) := ⟨a, b, g, by simp⟩
  obtain ⟨S', c⟩ := case_eq B
  refine ⟨S', ?_⟩
  unfold lawb
  simp [e, c]
noncomputable abbrev lawa : Rho → Sto → Option VL.Fl := (sIf (bOr (bB (eBin (cB gNe) (eCall 1 F_endless [] (aCons (eTup (aCons (eTup (aCons (eCon (.str "row")) (aCons (eTup (aCons (eCon (.int 1)) (aCons (eCon (.int 1)) aNil))) aNil))) (aCons (eTup (aCons (eCon (.str "beside")) (aCons (eTup (aCons (eCon (.int 1)) (aCons (eCon (.int 1)) aNil))) aNil))) aNil))) aNil)) (eTup (aCons (eCon (.str "root")) (aCons (eCon (.int 1)) (aCons (eUn gNeg (eCon (.int 1))) (aCons (eUn gNeg (eCon (.int 1))) aNil))))))) (bB (eBin (cB gNe) (eCall 1 F_endless [] (aCons (eTup (aCons (eTup (aCons (eCon (.str "row")) (aCons (eTup (aCons (eCon (.int 1)) (aCons (eCon (.int 1)) aNil))) aNil))) (aCons (eTup (aCons (eCon (.str "beside")) (aCons (eTup (aCons (eCon (.int 2)) (aCons (eCon (.int 1)) aNil))) aNil))) aNil))) aNil)) (eTup (aCons (eCon (.str "root")) (aCons (eCon (.int 1)) (aCons (eUn gNeg (eCon (.int 1))) (aCons (eUn gNeg (eCon (.int 2))) aNil))))))))
  (sRet (eCon (.bool false)))
  sNil)
theorem g7_two {x : Rat} (h : 0 < x ∧ x.num + x.den ≤ 7) : G7 [(true, 1), (false, x)] := fun p mp => by
  simp only [List.mem_cons, List.not_mem_nil, or_false] at mp
  rcases mp with rfl | rfl
  · exact ⟨by decide +kernel, by decide +kernel⟩
  · exact h
theorem two_root {x : Rat} (h : 0 < x ∧ x.num + x.den ≤ 7) (σ : Sto) : G.F_endless [.d (ladD [(true, 1), (false, x)])] σ = some (.ok (RT (mm [(true, 1), (false, x)])) σ) :=
  endless_eq (g7_two h) (by simp) (by simp) ⟨(true, 1), by simp, rfl⟩ ⟨(false, x), by simp, rfl⟩ σ
theorem lawa_eq (x : Option SV) (S : Sto) : lawa [x, none] S = some (.nx [x, none] S) := by
  have q1 := two_root (x := 1) ⟨by decide +kernel, by decide +kernel⟩ S
  have q2 := two_root (x := 2) ⟨by decide +kernel, by decide +kernel⟩ S
  have q1 : G.F_endless [.d (.tuple [.tuple [.str "row", .tuple [.int 1, .int 1]], .tuple [.str "beside", .tuple [.int 1, .int 1]]])] S = some (.ok (.d (.tuple [.str "root", .int 1, .int (-1), .int (-1)])) S) := q1
  have r2 : RT (mm [(true, 1), (false, 2)]) = rtV 1 (-1) (-2) := by
    rfl
  rw [r2] at q2
  have q2 : G.F_endless [.d (.tuple [.tuple [.str "row", .tuple [.int 1, .int 1]], .tuple [.str "beside", .tuple [.int 2, .int 1]]])] S = some (.ok (.d (.tuple [.str "root", .int 1, .int (-1), .int (-2)])) S) := q2
  have h1 : SeqAt.shaped (.tuple [.str "root", .int 1, .int (-1), .int (-1)]) = true := by decide +kernel
  have h2 : SeqAt.shaped (.tuple [.str "root", .int 1, .int (-1), .int (-2)]) = true := by decide +kernel
  unfold lawa
  simp [cB, q1, q2, gNe, sizeLine_eq, h1, h2, PyData.eqv, PyData.eqvAll]
theorem law_true (ns : List Int) (hl : ns.length ≤ 63) (hb : ∀ z ∈ ns, z.natAbs.log2 ≤ 2000000) : ∃ S, G.F_law [.scr ns] [] = some (.ok (.d (.bool true)) S) := by
  obtain ⟨q, hq, hq5⟩ : ∃ q : Nat, (if (4 : Int) < (if (1 : Int) > (ns.length : Int) then 1 else (ns.length : Int)) then (4 : Int) else (if (1 : Int) > (ns.length : Int) then 1 else (ns.length : Int))) = (q : Int) ∧ q ≤ 4 := by
    refine ⟨(if (4 : Int) < (if (1 : Int) > (ns.length : Int) then 1 else (ns.length : Int)) then (4 : Int) else (if (1 : Int) > (ns.length : Int) then 1 else (ns.length : Int))).toNat, ?_, ?_⟩ <;> (split <;> split <;> omega)
  have it : VL.iRng1 (aCons (eCal gMin2 (aCons (eCal gMax2 (aCons (eCal gLen (aCons (eVar 0) aNil)) (aCons (eCon (.int 1)) aNil))) (aCons (eCon (.int 4)) aNil))) aNil) [some (.scr ns), none] [] = some (.ok (rangeL 0 q) []) := by
    have e : (aCons (eCal gMin2 (aCons (eCal gMax2 (aCons (eCal gLen (aCons (eVar 0) aNil)) (aCons (eCon (.int 1)) aNil))) (aCons (eCon (.int 4)) aNil))) aNil) [some (.scr ns), none] [] = some (.ok [.d (.int (q : Int))] []) := by
      rw [← hq]
      simp
    rw [a_iRng1, e]
    simp only [bindM_ok, Int.toNat_natCast]
    exact if_pos (inR_of ⟨by omega, by omega⟩)
  obtain ⟨ρ2, S2, ⟨y1, rfl⟩, e⟩ := forL_step (t := gNm 1) (body := lawb) (fun _ ρ _ => ∃ y1, ρ = [some (.scr ns), y1]) (rangeL 0 q) (fun k x hx ρ S hI => by
    obtain ⟨y1, rfl⟩ := hI
    obtain ⟨hk, rfl⟩ := rangeL_at hx
    have e0 : ((0 : Int) + (k : Int)) = (k : Int) := by omega
    rw [e0]
    obtain ⟨S', e⟩ := lawb_eq (k := k) (by omega) hb (by omega) S
    exact ⟨_, rfl, _, S', ⟨_, rfl⟩, .inl e⟩) [some (.scr ns), none] [] ⟨_, rfl⟩
  refine ⟨S2, ?_⟩
  have e1 : G.F_law [.scr ns] [] = (match G.f_law [some (.scr ns), none] [] with
    | some (.nx _ S') => some (.ok (.d .none) S')
    | some (.rt x S') => some (.ok x S')
    | some (.exc c fs _ S') => some (.exc c fs S')
    | _ => none) := rfl
  have e2 : G.f_law [some (.scr ns), none] [] = some (.rt (.d (.bool true)) S2) := by
    refine seq_nx (lawa_eq _ []) ?_
    rw [a_sSeq, a_sFor, it, bindS_ok]
    erw [e]
    rfl
  rw [e1, e2]
end M

end
section
set_option Elab.async false
set_option linter.all false
set_option maxRecDepth 100000
theorem M.bits {z : Int} (h : PySem.Builtin.Int.intBits z ≤ 1048576) : z.natAbs.log2 ≤ 2000000 := by
  unfold PySem.Builtin.Int.intBits at h
  split at h <;> first | omega | simp_all
theorem PySem.Challenge.cw_currentwebs_k71_whole_endless_rows_holds : PySem.Challenge.rw_currentwebs_k71_whole_endless_rows.Holds :=
  G.holds fun ns hl hb => M.law_true ns hl fun z hz => M.bits (hb z hz)

end
