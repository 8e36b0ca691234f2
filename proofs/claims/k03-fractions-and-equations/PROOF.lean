import PyProof.Rows.All
import HandS.ForMost
import HandS.Exc
import HandS.TryOnly
import HandS.TryMany
import HandS.ExcOwn
import HandS.WordsExc
import HandS.Flow
import HandS.Deep
import HandS.Conv
import HandS.CallLocal
import HandS.CallSlots
import HandS.Small
import HandS.NoneIn
import HandS.TupAny
import KE.LtData
import HandS.Codes
import HandS.IsInst
import HandS.Defaults
import HandS.Words
import HandS.Ends
import HandS.EndBits
import HandS.HeadEnd
import HandS.Head0
import HandS.Head1
import HandS.Head2
import HandS.HeadHook1
import HandS.HeadHook2
import HandS.Style
import HandS.HeadHook3
import HandS.HeadHook4
import HandS.TupMul
import HandS.WideBits
import HandS.Zip
import HandS.Iter
import HandS.Walk
import HandS.RaiseMore
import KE.SortData
import KE.DataCmp
import HandS.SetKeys
import HandS.More
import HandS.WordsDict
import PyProof.TupleOfSeq
import HandS.SetFor
import PySem.Challenge.RW_currentwebs_k03_fractions_and_equations
import KE.SortLaws
section
set_option Elab.async false
set_option linter.all false
set_option maxRecDepth 100000
/-! VL1: the value layer: deep data in slots, a store of shared lists; a def's body as a function of these. -/
namespace VL
open PySem PySem.Spec PyProof.Rows L2

/-- what a slot holds: data; a shared list by its number; a def of the module by its name; the script; a list of one's own -/
inductive SV where
  | d (x : PyData)
  | ref (n : Nat)
  | fn (x : Str)
  | scr (ns : List Int)
  | own (xs : List SV)
  | dic (ks : List Int) (xs : List SV)
abbrev Rho := List (Option SV)
abbrev Sto := List (List SV)
inductive Res (α : Type) where
  | ok (a : α) (S : Sto)
  | exc (c : Str) (fs : List (Str × SV)) (S : Sto)
abbrev Mo (α : Type) := Sto → Option (Res α)
inductive Fl where
  | nx (ρ : Rho) (S : Sto)
  | rt (x : SV) (S : Sto)
  | bk (ρ : Rho) (S : Sto)
  | ct (ρ : Rho) (S : Sto)
  | exc (c : Str) (fs : List (Str × SV)) (ρ : Rho) (S : Sto)

/-! ### data in the heap -/
mutual
inductive Dq (K : PySem.W.Frag) (H : Hp) (F : Addr → Prop) : PyData → V → Prop
  | non : Dq K H F .none .non
  | bl (b : Bool) : Dq K H F (.bool b) (.bl b)
  | int (i : Int) : Dq K H F (.int i) (.int i)
  | str (x : Str) : Dq K H F (.str x) (.str x)
  | lst {a : Addr} {xs : List V} {ds : List PyData} : H a = some (.lst xs) → ¬ F a → xs.length ≤ sizeLine → DqL K H F ds xs → Dq K H F (.list ds) (.ref a)
  | tup {a : Addr} {xs : List V} {ds : List PyData} : H a = some (.tup xs) → ¬ F a → xs.length ≤ sizeLine → DqL K H F ds xs → Dq K H F (.tuple ds) (.ref a)
  | ctup {a : Addr} {xs : List V} {ds : List PyData} : SqT K (fun _ => none) a xs → xs.length ≤ sizeLine → DqL K H F ds xs → Dq K H F (.tuple ds) (.ref a)
inductive DqL (K : PySem.W.Frag) (H : Hp) (F : Addr → Prop) : List PyData → List V → Prop
  | nil : DqL K H F [] []
  | cons {d : PyData} {ds : List PyData} {v : V} {vs : List V} : Dq K H F d v → DqL K H F ds vs → DqL K H F (d :: ds) (v :: vs)
end

theorem SqT.const {K : PySem.W.Frag} {a : Addr} {xs : List V} (h : SqT K (fun _ => none) a xs) (H : Hp) : SqT K H a xs := by
  rcases h with h | h
  · rcases h with h | ⟨o, h⟩ <;> cases h
  · exact .inr h

theorem SqL.const {K : PySem.W.Frag} {a : Addr} {xs : List V} (h : SqL K (fun _ => none) a xs) (H : Hp) : SqL K H a xs := by
  rcases h with h | h
  · rcases h with h | ⟨o, h⟩ <;> cases h
  · exact .inr h

section
variable {K : PySem.W.Frag} {H H' : Hp} {F F' : Addr → Prop}
mutual
theorem Dq.mono (hF : ∀ a, F' a → F a ∨ H a = none) (hH : ∀ a o, H a = some o → ¬ F a → H' a = some o) : ∀ (d : PyData) (v : V), Dq K H F d v → Dq K H' F' d v
  | .none, _, h => by cases h; exact .non
  | .bool b, _, h => by cases h; exact .bl b
  | .int i, _, h => by cases h; exact .int i
  | .str x, _, h => by cases h; exact .str x
  | .list ds, _, h => by
    cases h with
    | lst r n l q =>
      refine .lst (hH _ _ r n) (fun z => ?_) l (DqL.mono hF hH ds _ q)
      rcases hF _ z with z | z
      · exact n z
      · rw [r] at z; cases z
  | .tuple ds, _, h => by
    cases h with
    | tup r n l q =>
      refine .tup (hH _ _ r n) (fun z => ?_) l (DqL.mono hF hH ds _ q)
      rcases hF _ z with z | z
      · exact n z
      · rw [r] at z; cases z
    | ctup r l q => exact .ctup r l (DqL.mono hF hH ds _ q)
  | .dict _, _, h => by cases h
theorem DqL.mono (hF : ∀ a, F' a → F a ∨ H a = none) (hH : ∀ a o, H a = some o → ¬ F a → H' a = some o) : ∀ (ds : List PyData) (vs : List V), DqL K H F ds vs → DqL K H' F' ds vs
  | [], _, h => by cases h; exact .nil
  | d :: ds, _, h => by
    cases h with
    | cons h1 h2 => exact .cons (Dq.mono hF hH d _ h1) (DqL.mono hF hH ds _ h2)
end
mutual
theorem Dq.dp : ∀ (d : PyData) (v : V), Dq K H F d v → Dp K H v d
  | .none, _, h => by cases h; exact .non
  | .bool b, _, h => by cases h; exact .bl b
  | .int i, _, h => by cases h; exact .int i
  | .str x, _, h => by cases h; exact .str x
  | .list ds, _, h => by
    cases h with
    | lst r n l q => exact .lst (.inl (.inl r)) (DqL.dp ds _ q)
  | .tuple ds, _, h => by
    cases h with
    | tup r n l q => exact .tup (.inl (.inl r)) (DqL.dp ds _ q)
    | ctup r l q => exact .tup (SqT.const r H) (DqL.dp ds _ q)
  | .dict _, _, h => by cases h
theorem DqL.dp : ∀ (ds : List PyData) (vs : List V), DqL K H F ds vs → DpAll K H vs ds
  | [], _, h => by cases h; exact .nil
  | d :: ds, _, h => by
    cases h with
    | cons h1 h2 => exact .cons (Dq.dp d _ h1) (DqL.dp ds _ h2)
end
theorem DqL.length : ∀ {ds : List PyData} {vs : List V}, DqL K H F ds vs → vs.length = ds.length
  | [], _, h => by cases h; rfl
  | d :: ds, _, h => by
    cases h with
    | cons h1 h2 => simp [DqL.length h2]
theorem DqL.get : ∀ {ds : List PyData} {vs : List V} {i : Nat} {d : PyData}, DqL K H F ds vs → ds[i]? = some d → ∃ v, vs[i]? = some v ∧ Dq K H F d v
  | [], _, _, _, _, e => by simp at e
  | d :: ds, _, i, x, h, e => by
    cases h with
    | cons h1 h2 =>
      cases i with
      | zero => simp at e; subst e; exact ⟨_, rfl, h1⟩
      | succ i => simpa using DqL.get h2 (by simpa using e)
theorem DqL.get' : ∀ {ds : List PyData} {vs : List V} {i : Nat} {v : V}, DqL K H F ds vs → vs[i]? = some v → ∃ d, ds[i]? = some d ∧ Dq K H F d v
  | [], _, i, _, h, e => by cases h; simp at e
  | d :: ds, _, i, x, h, e => by
    cases h with
    | cons h1 h2 =>
      cases i with
      | zero => simp at e; subst e; exact ⟨_, rfl, h1⟩
      | succ i => simpa using DqL.get' h2 (by simpa using e)
theorem DqL.app : ∀ {ds es : List PyData} {vs us : List V}, DqL K H F ds vs → DqL K H F es us → DqL K H F (ds ++ es) (vs ++ us)
  | [], _, _, _, h, q => by cases h; exact q
  | d :: ds, _, _, _, h, q => by
    cases h with
    | cons h1 h2 => exact .cons h1 (DqL.app h2 q)
theorem DqL.drop : ∀ {ds : List PyData} {vs : List V} (n : Nat), DqL K H F ds vs → DqL K H F (ds.drop n) (vs.drop n)
  | _, _, 0, h => h
  | [], _, n + 1, h => by cases h; exact .nil
  | d :: ds, _, n + 1, h => by
    cases h with
    | cons h1 h2 => exact DqL.drop n h2
theorem DqL.take : ∀ {ds : List PyData} {vs : List V} (n : Nat), DqL K H F ds vs → DqL K H F (ds.take n) (vs.take n)
  | _, _, 0, _ => .nil
  | [], _, n + 1, h => by cases h; exact .nil
  | d :: ds, _, n + 1, h => by
    cases h with
    | cons h1 h2 => exact .cons h1 (DqL.take n h2)
/-- it is one value's data only: two readings of the ints -/
theorem DqL.ints : ∀ {ns : List Int} {vs : List V}, DqL K H F (ns.map PyData.int) vs → vs = ns.map V.int
  | [], _, h => by cases h; rfl
  | n :: ns, _, h => by
    cases h with
    | cons h1 h2 => cases h1; simp [DqL.ints h2]
end

/-! ### slots' values in the heap: g the addresses of one's own lists within -/
mutual
inductive Rs (K : PySem.W.Frag) (mg : Str → Option Value) (H : Hp) (A : List Addr) (F : Addr → Prop) : SV → V → List Addr → Prop
  | d {x : PyData} {v : V} : Dq K H F x v → Rs K mg H A F (.d x) v []
  | ref {n : Nat} {a : Addr} : A[n]? = some a → Rs K mg H A F (.ref n) (.ref a) []
  | fn {x : Str} {a : Addr} : mg x = some (.ref a) → Rs K mg H A F (.fn x) (.ref a) []
  | scr {a : Addr} {o : Obj} {ns : List Int} : H a = some (.frz o (.lst (ns.map V.int))) → ¬ F a → ns.length ≤ sizeLine → Rs K mg H A F (.scr ns) (.ref a) []
  | scrK {a : Addr} {ns : List Int} : SqL K (fun _ => none) a (ns.map V.int) → ns.length ≤ sizeLine → Rs K mg H A F (.scr ns) (.ref a) []
  | own {a : Addr} {xs : List SV} {vs : List V} {g : List Addr} : H a = some (.lst vs) → vs.length ≤ sizeLine → RsL K mg H A F xs vs g → Rs K mg H A F (.own xs) (.ref a) (a :: g)
  | dic {a : Addr} {ks : List Int} {xs : List SV} {vs : List V} {g : List Addr} : H a = some (.dK ((ks.map Sum.inl).zip vs)) → vs.length = ks.length → vs.length ≤ sizeLine → RsL K mg H A F xs vs g → Rs K mg H A F (.dic ks xs) (.ref a) (a :: g)
inductive RsL (K : PySem.W.Frag) (mg : Str → Option Value) (H : Hp) (A : List Addr) (F : Addr → Prop) : List SV → List V → List Addr → Prop
  | nil : RsL K mg H A F [] [] []
  | cons {x : SV} {xs : List SV} {v : V} {vs : List V} {g g' : List Addr} : Rs K mg H A F x v g → RsL K mg H A F xs vs g' → RsL K mg H A F (x :: xs) (v :: vs) (g ++ g')
end
section
variable {K : PySem.W.Frag} {mg : Str → Option Value} {H H' : Hp} {A A' : List Addr} {F F' : Addr → Prop}
mutual
theorem Rs.mono (hA : ∀ (n : Nat) a, A[n]? = some a → A'[n]? = some a) (hF : ∀ a, F' a → F a ∨ H a = none) (hH : ∀ a o, H a = some o → ¬ F a → H' a = some o) :
    ∀ (x : SV) (v : V) (g : List Addr), (∀ a ∈ g, ∀ o, H a = some o → H' a = some o) → Rs K mg H A F x v g → Rs K mg H' A' F' x v g
  | .d x, _, _, _, h => by cases h with | d h => exact .d (Dq.mono hF hH _ _ h)
  | .ref n, _, _, _, h => by cases h with | ref h => exact .ref (hA _ _ h)
  | .fn x, _, _, _, h => by cases h with | fn h => exact .fn h
  | .scr ns, _, _, _, h => by
    cases h with
    | scr r n l =>
      refine .scr (hH _ _ r n) (fun z => ?_) l
      rcases hF _ z with z | z
      · exact n z
      · rw [r] at z; cases z
    | scrK r l => exact .scrK r l
  | .own xs, _, _, hg, h => by
    cases h with
    | own e l h => exact .own (hg _ List.mem_cons_self _ e) l (RsL.mono hA hF hH xs _ _ (fun a m o q => hg a (List.mem_cons_of_mem _ m) o q) h)
  | .dic ks xs, _, _, hg, h => by
    cases h with
    | dic e k l h => exact .dic (hg _ List.mem_cons_self _ e) k l (RsL.mono hA hF hH xs _ _ (fun a m o q => hg a (List.mem_cons_of_mem _ m) o q) h)
theorem RsL.mono (hA : ∀ (n : Nat) a, A[n]? = some a → A'[n]? = some a) (hF : ∀ a, F' a → F a ∨ H a = none) (hH : ∀ a o, H a = some o → ¬ F a → H' a = some o) :
    ∀ (xs : List SV) (vs : List V) (g : List Addr), (∀ a ∈ g, ∀ o, H a = some o → H' a = some o) → RsL K mg H A F xs vs g → RsL K mg H' A' F' xs vs g
  | [], _, _, _, h => by cases h; exact .nil
  | x :: xs, _, _, hg, h => by
    cases h with
    | cons h1 h2 => exact .cons (Rs.mono hA hF hH x _ _ (fun a m => hg a (List.mem_append_left _ m)) h1) (RsL.mono hA hF hH xs _ _ (fun a m => hg a (List.mem_append_right _ m)) h2)
end
theorem RsL.length : ∀ {xs : List SV} {vs : List V} {g : List Addr}, RsL K mg H A F xs vs g → vs.length = xs.length
  | [], _, _, h => by cases h; rfl
  | x :: xs, _, _, h => by
    cases h with
    | cons h1 h2 => simp [RsL.length h2]
theorem RsL.app : ∀ {xs ys : List SV} {vs us : List V} {g g' : List Addr}, RsL K mg H A F xs vs g → RsL K mg H A F ys us g' → RsL K mg H A F (xs ++ ys) (vs ++ us) (g ++ g')
  | [], _, _, _, _, _, h, q => by cases h; exact q
  | x :: xs, _, _, _, _, _, h, q => by
    cases h with
    | cons h1 h2 => rw [List.append_assoc]; exact .cons h1 (RsL.app h2 q)
/-- data alone -/
def allD : List SV → Option (List PyData)
  | [] => some []
  | .d x :: r => (allD r).map (x :: ·)
  | _ :: _ => none
theorem RsL.ofD : ∀ {ds : List PyData} {vs : List V}, DqL K H F ds vs → RsL K mg H A F (ds.map SV.d) vs []
  | [], _, h => by cases h; exact .nil
  | d :: ds, _, h => by
    cases h with
    | cons h1 h2 => exact .cons (g := []) (g' := []) (.d h1) (RsL.ofD h2)
theorem RsL.toD : ∀ {xs : List SV} {ds : List PyData} {vs : List V} {g : List Addr}, RsL K mg H A F xs vs g → allD xs = some ds → DqL K H F ds vs ∧ g = []
  | [], _, _, _, h, e => by cases h; cases e; exact ⟨.nil, rfl⟩
  | .d x :: xs, _, _, _, h, e => by
    cases h with
    | cons h1 h2 =>
      cases h1 with
      | d h1 =>
        simp only [allD, Option.map_eq_some_iff] at e
        obtain ⟨r, e, rfl⟩ := e
        obtain ⟨q, rfl⟩ := RsL.toD h2 e
        exact ⟨.cons h1 q, rfl⟩
  | .ref _ :: _, _, _, _, _, e => by cases e
  | .fn _ :: _, _, _, _, _, e => by cases e
  | .scr _ :: _, _, _, _, _, e => by cases e
  | .own _ :: _, _, _, _, _, e => by cases e
  | .dic _ _ :: _, _, _, _, _, e => by cases e
theorem allD_map : ∀ ds : List PyData, allD (ds.map SV.d) = some ds
  | [] => rfl
  | d :: ds => by simp [allD, allD_map ds]
theorem Rs.nil_d {x : PyData} {v : V} {g : List Addr} (h : Rs K mg H A F (.d x) v g) : g = [] ∧ Dq K H F x v := by cases h with | d h => exact ⟨rfl, h⟩
end

/-! ### the state -/
structure Ct where
  K : PySem.W.Frag
  mg : Str → Option Value
  E0 : Hp
  A0 : List Addr
  Pr : Addr → Prop

/-- with other things that are left alone -/
def Ct.pr (C : Ct) (P : Addr → Prop) : Ct := { C with Pr := P }
def Fs (C : Ct) (A : List Addr) (G : List (List Addr)) : Addr → Prop := fun a => a ∈ A ∨ a ∈ G.flatten ∨ C.Pr a

structure Sim (C : Ct) (ρ : Rho) (S : Sto) (A : List Addr) (G : List (List Addr)) (σ : L2.St) (H : Hp) : Prop where
  pre : C.A0 <+: A
  lr : ρ.length = σ.length
  lg : G.length = ρ.length
  ls : S.length = A.length
  nd : (A ++ G.flatten).Nodup
  trk : ∀ a ∈ A ++ G.flatten, H a ≠ none
  prot : ∀ a, C.Pr a → a ∉ A ++ G.flatten ∧ H a ≠ none
  slots : ∀ (i : Nat) x, ρ[i]? = some (some x) → ∃ v g, σ[i]? = some (some v) ∧ Rs C.K C.mg H A (Fs C A G) x v g ∧ g.Sublist (G[i]?.getD [])
  sto : ∀ (n : Nat) xs, S[n]? = some xs → ∃ a vs, A[n]? = some a ∧ H a = some (.lst vs) ∧ vs.length ≤ sizeLine ∧ RsL C.K C.mg H A (Fs C A G) xs vs []
  frame : ∀ a o, C.E0 a = some o → a ∉ C.A0 → H a = some o
  fresh : ∀ a ∈ A ++ G.flatten, a ∈ C.A0 ∨ C.E0 a = none
  a0 : ∀ a ∈ C.A0, C.E0 a ≠ none

/-- what an expression may do to the heap -/
structure Ext (A : List Addr) (H : Hp) (A' : List Addr) (H' : Hp) : Prop where
  pre : A <+: A'
  new : ∀ a ∈ A', a ∈ A ∨ H a = none
  keep : ∀ a o, H a = some o → a ∉ A → H' a = some o
  there : ∀ a, H a ≠ none → H' a ≠ none
theorem Ext.refl {A : List Addr} {H : Hp} : Ext A H A H := ⟨List.prefix_refl _, fun _ h => .inl h, fun _ _ h _ => h, fun _ h => h⟩
theorem Ext.trans {A A1 A2 : List Addr} {H H1 H2 : Hp} (x : Ext A H A1 H1) (y : Ext A1 H1 A2 H2) : Ext A H A2 H2 := by
  refine ⟨x.pre.trans y.pre, fun a h => ?_, fun a o e n => ?_, fun a h => y.there a (x.there a h)⟩
  · rcases y.new a h with z | z
    · exact x.new a z
    · refine .inr ?_
      cases q : H a with
      | none => rfl
      | some o => exact absurd z (x.there a (by rw [q]; simp))
  · refine y.keep a o (x.keep a o e n) fun z => ?_
    rcases x.new a z with z | z
    · exact n z
    · rw [e] at z; cases z
theorem prefix_get {A A' : List Addr} (h : A <+: A') : ∀ (n : Nat) a, A[n]? = some a → A'[n]? = some a := fun n a e => by
  obtain ⟨t, rfl⟩ := h
  rw [List.getElem?_append_left]
  · exact e
  · exact (List.getElem?_eq_some_iff.mp e).1
/-- a heap that grows by new objects alone -/
theorem Ext.upd {A : List Addr} {H : Hp} {p : Addr} {o : HO} (h : H p = none) : Ext A H A (upd H p o) := by
  refine ⟨List.prefix_refl _, fun _ h => .inl h, fun a u e _ => ?_, fun a e => ?_⟩
  · rw [upd_ne (ne_of_none e h)]; exact e
  · unfold L2.upd; split
    · simp
    · exact e
section
variable {C : Ct} {ρ : Rho} {S S' : Sto} {A A' : List Addr} {G : List (List Addr)} {σ : L2.St} {H H' : Hp}
theorem Sim.len (I : Sim C ρ S A G σ H) : G.length = σ.length := I.lg.trans I.lr
theorem Sim.notPr (I : Sim C ρ S A G σ H) {a : Addr} (p : C.Pr a) : a ∉ A ++ G.flatten := (I.prot a p).1
theorem Sim.prTrk (I : Sim C ρ S A G σ H) {a : Addr} (p : C.Pr a) : H a ≠ none := (I.prot a p).2
theorem Sim.fsTrk (I : Sim C ρ S A G σ H) {a : Addr} (p : Fs C A G a) : H a ≠ none := by
  rcases p with p | p | p
  · exact I.trk a (List.mem_append_left _ p)
  · exact I.trk a (List.mem_append_right _ p)
  · exact I.prTrk p
/-- the slots stay through what an expression does; the store may have changed -/
theorem Sim.ext (I : Sim C ρ S A G σ H) (x : Ext A H A' H') (ls : S'.length = A'.length) (nd : A'.Nodup) (trk : ∀ a ∈ A', H' a ≠ none)
    (sto : ∀ (n : Nat) xs, S'[n]? = some xs → ∃ a vs, A'[n]? = some a ∧ H' a = some (.lst vs) ∧ vs.length ≤ sizeLine ∧ RsL C.K C.mg H' A' (Fs C A' G) xs vs []) : Sim C ρ S' A' G σ H' := by
  have kG : ∀ a ∈ G.flatten, a ∉ A := fun a h z => (List.nodup_append.mp I.nd).2.2 a z a h rfl
  have kept : ∀ a ∈ G.flatten, ∀ o, H a = some o → H' a = some o := fun a h o e => x.keep a o e (kG a h)
  have e0 : ∀ a, H a = none → C.E0 a = none := fun a h => by
    cases q : C.E0 a with
    | none => rfl
    | some o =>
      by_cases z : a ∈ C.A0
      · exact absurd h (I.trk a (List.mem_append_left _ (I.pre.subset z)))
      · rw [I.frame a o q z] at h; cases h
  refine ⟨I.pre.trans x.pre, I.lr, I.lg, ls, ?_, fun a h => ?_, fun a p => ⟨fun z => ?_, x.there a (I.prot a p).2⟩, fun i y e => ?_, sto, fun a o e n => ?_, fun a h => ?_, I.a0⟩
  · refine List.nodup_append.mpr ⟨nd, (List.nodup_append.mp I.nd).2.1, fun a h b h' e => ?_⟩
    subst e
    rcases x.new a h with z | z
    · exact kG a h' z
    · exact I.trk a (List.mem_append_right _ h') z
  · rcases List.mem_append.mp h with h | h
    · exact trk a h
    · exact x.there a (I.trk a (List.mem_append_right _ h))
  · rcases List.mem_append.mp z with z | z
    · rcases x.new a z with z | z
      · exact (I.prot a p).1 (List.mem_append_left _ z)
      · exact (I.prot a p).2 z
    · exact (I.prot a p).1 (List.mem_append_right _ z)
  · obtain ⟨v, g, e1, r, sb⟩ := I.slots i y e
    refine ⟨v, g, e1, Rs.mono (prefix_get x.pre) (fun a z => ?_) (fun a o q n => ?_) _ _ _ (fun a m o q => ?_) r, sb⟩
    · rcases z with z | z | z
      · rcases x.new a z with z | z
        · exact .inl (.inl z)
        · exact .inr z
      · exact .inl (.inr (.inl z))
      · exact .inl (.inr (.inr z))
    · exact x.keep a o q fun z => n (.inl z)
    · have m := sb.subset m
      refine kept a ?_ o q
      cases hg : G[i]? with
      | none => rw [hg] at m; cases m
      | some g => rw [hg] at m; exact List.mem_flatten.mpr ⟨g, List.mem_of_getElem? hg, m⟩
  · refine x.keep a o (I.frame a o e n) fun z => ?_
    rcases I.fresh a (List.mem_append_left _ z) with q | q
    · exact n q
    · rw [e] at q; cases q
  · rcases List.mem_append.mp h with h | h
    · rcases x.new a h with z | z
      · exact I.fresh a (List.mem_append_left _ z)
      · exact .inr (e0 a z)
    · exact I.fresh a (List.mem_append_right _ h)
theorem Sim.e0 (I : Sim C ρ S A G σ H) : ∀ a, H a = none → C.E0 a = none := fun a h => by
  cases q : C.E0 a with
  | none => rfl
  | some o =>
    by_cases z : a ∈ C.A0
    · exact absurd h (I.trk a (List.mem_append_left _ (I.pre.subset z)))
    · rw [I.frame a o q z] at h; cases h
/-- .. where the store is as it was -/
theorem Sim.grow (I : Sim C ρ S A G σ H) (x : Ext A H A H') (kp : ∀ a ∈ A, ∀ o, H a = some o → H' a = some o) : Sim C ρ S A G σ H' := by
  refine I.ext x I.ls (List.nodup_append.mp I.nd).1 (fun a h => x.there a (I.trk a (List.mem_append_left _ h))) fun n xs e => ?_
  obtain ⟨a, vs, e1, e2, l, r⟩ := I.sto n xs e
  refine ⟨a, vs, e1, kp a (List.mem_of_getElem? e1) _ e2, l, RsL.mono (fun _ _ h => h) (fun a h => .inl h) (fun a o q n => x.keep a o q fun z => n (.inl z)) _ _ _ (fun a m => by cases m) r⟩
theorem Sim.new (I : Sim C ρ S A G σ H) {p : Addr} {o : HO} (h : H p = none) : Sim C ρ S A G σ (upd H p o) := I.grow (Ext.upd h) fun a _ u e => by rw [upd_ne (ne_of_none e h)]; exact e
end

theorem Sim.prw {C : Ct} {P : Addr → Prop} {ρ : Rho} {S : Sto} {A : List Addr} {G : List (List Addr)} {σ : L2.St} {H : Hp} (I : Sim (C.pr P) ρ S A G σ H) (h : ∀ a, C.Pr a → P a) : Sim C ρ S A G σ H := by
  have hF : ∀ a, Fs C A G a → Fs (C.pr P) A G a := fun a z => z.elim .inl fun z => z.elim (fun z => .inr (.inl z)) fun z => .inr (.inr (h a z))
  refine ⟨I.pre, I.lr, I.lg, I.ls, I.nd, I.trk, fun a p => I.prot a (h a p), fun i x e => ?_, fun n xs e => ?_, I.frame, I.fresh, I.a0⟩
  · obtain ⟨v, g, e1, r, sb⟩ := I.slots i x e
    exact ⟨v, g, e1, Rs.mono (fun _ _ q => q) (fun a z => .inl (hF a z)) (fun a o q n => q) _ _ _ (fun a m o q => q) r, sb⟩
  · obtain ⟨a, vs, e1, e2, l, r⟩ := I.sto n xs e
    exact ⟨a, vs, e1, e2, l, RsL.mono (fun _ _ q => q) (fun a z => .inl (hF a z)) (fun a o q n => q) _ _ _ (fun a m o q => q) r⟩
theorem Sim.prc {C : Ct} {P : Addr → Prop} {ρ : Rho} {S : Sto} {A : List Addr} {G : List (List Addr)} {σ : L2.St} {H : Hp} (I : Sim C ρ S A G σ H) (h : ∀ a, P a → C.Pr a) : Sim (C.pr P) ρ S A G σ H := by
  have hF : ∀ a, Fs (C.pr P) A G a → Fs C A G a := fun a z => z.elim .inl fun z => z.elim (fun z => .inr (.inl z)) fun z => .inr (.inr (h a z))
  refine ⟨I.pre, I.lr, I.lg, I.ls, I.nd, I.trk, fun a p => I.prot a (h a p), fun i x e => ?_, fun n xs e => ?_, I.frame, I.fresh, I.a0⟩
  · obtain ⟨v, g, e1, r, sb⟩ := I.slots i x e
    exact ⟨v, g, e1, Rs.mono (fun _ _ q => q) (fun a z => .inl (hF a z)) (fun a o q n => q) _ _ _ (fun a m o q => q) r, sb⟩
  · obtain ⟨a, vs, e1, e2, l, r⟩ := I.sto n xs e
    exact ⟨a, vs, e1, e2, l, RsL.mono (fun _ _ q => q) (fun a z => .inl (hF a z)) (fun a o q n => q) _ _ _ (fun a m o q => q) r⟩
/-! ### what an expression hands on -/
/-- be: looked at now; fe: one's own from here on (data, a shared list's number, or a new list that nobody else has) -/
inductive Kd | be | fe
def Rk (C : Ct) (kd : Kd) (g : List Addr) (A' : List Addr) (G : List (List Addr)) (H H' : Hp) (x : SV) (v : V) : Prop :=
  match kd with
  | .be => Rs C.K C.mg H' A' (Fs C A' G) x v g ∧ ∀ a ∈ g, a ∉ A' ∧ H' a ≠ none
  | .fe => Rs C.K C.mg H' A' (fun a => Fs C A' G a ∨ a ∈ g) x v g ∧ g.Nodup ∧ ∀ a ∈ g, H a = none ∧ H' a ≠ none ∧ a ∉ A'
/-- new lists of one's own are left alone by what comes next -/
def Ct.pg (C : Ct) (kd : Kd) (g : List Addr) : Ct :=
  match kd with
  | .be => C
  | .fe => C.pr fun a => C.Pr a ∨ a ∈ g
def EPost (C : Ct) (kd : Kd) (ρ : Rho) (A : List Addr) (G : List (List Addr)) (σ : L2.St) (H : Hp) (x : SV) (S' : Sto) (v : V) (H' : Hp) : Prop :=
  ∃ A' g, Ext A H A' H' ∧ Sim (C.pg kd g) ρ S' A' G σ H' ∧ Rk C kd g A' G H H' x v
/-- an exception's class, its fields -/
def XRep (C : Ct) (H' : Hp) (c : Str) (fs : List (Str × SV)) (cls : Value) (d : Option Addr) : Prop :=
  ∃ Ca, C.mg c = some (.ref Ca) ∧ cls = .ref Ca ∧ ((fs = [] ∧ d = none) ∨ ∃ dx vs, d = some dx ∧ H' dx = some (.xd vs) ∧ vs.map (·.1) = fs.map (·.1) ∧ RsL C.K C.mg H' [] (fun _ => True) (fs.map (·.2)) (vs.map (·.2)) [])
def XPost (C : Ct) (ρ : Rho) (A : List Addr) (G : List (List Addr)) (σ : L2.St) (H : Hp) (c : Str) (fs : List (Str × SV)) (S' : Sto) (cls : Value) (d : Option Addr) (H' : Hp) : Prop :=
  ∃ A', Ext A H A' H' ∧ Sim C ρ S' A' G σ H' ∧ XRep C H' c fs cls d
def EGood {α V' : Type} (post : α → Sto → V' → Hp → Prop) (xpost : Str → List (Str × SV) → Sto → Value → Option Addr → Hp → Prop) (W : WX) (σ : L2.St) (Q : V' → Hp → Prop) : Option (Res α) → Prop
  | none => False
  | some (.ok x S') => ∀ v H', post x S' v H' → Q v H'
  | some (.exc c fs S') => ∀ cls d H', xpost c fs S' cls d H' → W cls d σ H'
/-- an expression's reading by its function -/
def tV (C : Ct) (W : WX) (kd : Kd) (f : Rho → Mo SV) : TE := fun σ H Q => ∃ P ρ S A G, (∀ a, C.Pr a → P a) ∧ Sim (C.pr P) ρ S A G σ H ∧ EGood (EPost (C.pr P) kd ρ A G σ H) (XPost C ρ A G σ H) W σ Q (f ρ S)
/-- a list of expressions, each of the same kind -/
def RkL (C : Ct) (kd : Kd) (g : List Addr) (A' : List Addr) (G : List (List Addr)) (H H' : Hp) (xs : List SV) (vs : List V) : Prop :=
  match kd with
  | .be => RsL C.K C.mg H' A' (Fs C A' G) xs vs g ∧ ∀ a ∈ g, a ∉ A' ∧ H' a ≠ none
  | .fe => RsL C.K C.mg H' A' (fun a => Fs C A' G a ∨ a ∈ g) xs vs g ∧ g.Nodup ∧ ∀ a ∈ g, H a = none ∧ H' a ≠ none ∧ a ∉ A'
def APost (C : Ct) (kd : Kd) (ρ : Rho) (A : List Addr) (G : List (List Addr)) (σ : L2.St) (H : Hp) (xs : List SV) (S' : Sto) (vs : List V) (H' : Hp) : Prop :=
  ∃ A' g, Ext A H A' H' ∧ Sim (C.pg kd g) ρ S' A' G σ H' ∧ RkL C kd g A' G H H' xs vs
def tVs (C : Ct) (W : WX) (kd : Kd) (f : Rho → Mo (List SV)) : TA := fun σ H Q => ∃ P ρ S A G, (∀ a, C.Pr a → P a) ∧ Sim (C.pr P) ρ S A G σ H ∧ EGood (APost (C.pr P) kd ρ A G σ H) (XPost C ρ A G σ H) W σ Q (f ρ S)
/-- a test -/
def BPost (C : Ct) (ρ : Rho) (A : List Addr) (G : List (List Addr)) (σ : L2.St) (H : Hp) (b : Bool) (S' : Sto) (b' : Bool) (H' : Hp) : Prop :=
  b' = b ∧ ∃ A', Ext A H A' H' ∧ Sim C ρ S' A' G σ H'
def tTs (C : Ct) (W : WX) (f : Rho → Mo Bool) : TT := fun σ H Q => ∃ P ρ S A G, (∀ a, C.Pr a → P a) ∧ Sim (C.pr P) ρ S A G σ H ∧ EGood (BPost (C.pr P) ρ A G σ H) (XPost C ρ A G σ H) W σ Q (f ρ S)

/-! ### what a statement hands on -/
structure ExtS (A : List Addr) (G : List (List Addr)) (H : Hp) (A' : List Addr) (G' : List (List Addr)) (H' : Hp) : Prop where
  pre : A <+: A'
  new : ∀ a ∈ A' ++ G'.flatten, a ∈ A ++ G.flatten ∨ H a = none
  keep : ∀ a o, H a = some o → a ∉ A ++ G.flatten → H' a = some o
  there : ∀ a, H a ≠ none → H' a ≠ none
theorem ExtS.refl {A : List Addr} {G : List (List Addr)} {H : Hp} : ExtS A G H A G H := ⟨List.prefix_refl _, fun _ h => .inl h, fun _ _ h _ => h, fun _ h => h⟩
theorem ExtS.trans {A A1 A2 : List Addr} {G G1 G2 : List (List Addr)} {H H1 H2 : Hp} (x : ExtS A G H A1 G1 H1) (y : ExtS A1 G1 H1 A2 G2 H2) : ExtS A G H A2 G2 H2 := by
  refine ⟨x.pre.trans y.pre, fun a h => ?_, fun a o e n => ?_, fun a h => y.there a (x.there a h)⟩
  · rcases y.new a h with z | z
    · exact x.new a z
    · refine .inr ?_
      cases q : H a with
      | none => rfl
      | some o => exact absurd z (x.there a (by rw [q]; simp))
  · refine y.keep a o (x.keep a o e n) fun z => ?_
    rcases x.new a z with z | z
    · exact n z
    · rw [e] at z; cases z
theorem Ext.s {A A' : List Addr} {G : List (List Addr)} {H H' : Hp} (x : Ext A H A' H') : ExtS A G H A' G H' := by
  refine ⟨x.pre, fun a h => ?_, fun a o e n => x.keep a o e fun z => n (List.mem_append_left _ z), x.there⟩
  rcases List.mem_append.mp h with h | h
  · rcases x.new a h with z | z
    · exact .inl (List.mem_append_left _ z)
    · exact .inr z
  · exact .inl (List.mem_append_right _ h)
/-- what a def leaves: the store, what is one's own in what it hands back -/
structure RSto (C : Ct) (A' g : List Addr) (S' : Sto) (H' : Hp) : Prop where
  pre : C.A0 <+: A'
  ls : S'.length = A'.length
  nd : (A' ++ g).Nodup
  trk : ∀ a ∈ A' ++ g, H' a ≠ none ∧ (a ∈ C.A0 ∨ C.E0 a = none)
  own : ∀ a ∈ g, C.E0 a = none
  sto : ∀ (n : Nat) xs, S'[n]? = some xs → ∃ a vs, A'[n]? = some a ∧ H' a = some (.lst vs) ∧ vs.length ≤ sizeLine ∧ RsL C.K C.mg H' A' (fun a => a ∈ A' ∨ a ∈ g ∨ C.Pr a) xs vs []
  frame : ∀ a o, C.E0 a = some o → a ∉ C.A0 → H' a = some o
  there : ∀ a, C.E0 a ≠ none → H' a ≠ none
def RPost (C : Ct) (x : SV) (S' : Sto) (v : V) (H' : Hp) : Prop := ∃ A' g, RSto C A' g S' H' ∧ Rs C.K C.mg H' A' (fun a => a ∈ A' ∨ a ∈ g ∨ C.Pr a) x v g
def SGood (C : Ct) (W : WX) (A : List Addr) (G : List (List Addr)) (H : Hp) (D : Ends) : Option Fl → Prop
  | none => False
  | some (.nx ρ' S') => ∀ A' G' σ' H', ExtS A G H A' G' H' → Sim C ρ' S' A' G' σ' H' → D.nx σ' H'
  | some (.bk ρ' S') => ∀ A' G' σ' H', ExtS A G H A' G' H' → Sim C ρ' S' A' G' σ' H' → D.bk σ' H'
  | some (.ct ρ' S') => ∀ A' G' σ' H', ExtS A G H A' G' H' → Sim C ρ' S' A' G' σ' H' → D.ct σ' H'
  | some (.rt x S') => ∀ v H', RPost C x S' v H' → D.rt v H'
  | some (.exc c fs ρ' S') => ∀ A' G' σ' H' cls d, ExtS A G H A' G' H' → Sim C ρ' S' A' G' σ' H' → XRep C H' c fs cls d → W cls d σ' H'
def tS (C : Ct) (W : WX) (f : Rho → Sto → Option Fl) : TS := fun D σ H => ∃ ρ S A G, Sim C ρ S A G σ H ∧ SGood C W A G H D (f ρ S)
theorem SGood.ext {C : Ct} {W : WX} {A A1 : List Addr} {G G1 : List (List Addr)} {H H1 : Hp} {D : Ends} {r : Option Fl} (x : ExtS A G H A1 G1 H1) (h : SGood C W A G H D r) : SGood C W A1 G1 H1 D r := by
  cases r with
  | none => exact h
  | some f =>
    cases f with
    | nx ρ' S' => exact fun A' G' σ' H' y s => h A' G' σ' H' (x.trans y) s
    | bk ρ' S' => exact fun A' G' σ' H' y s => h A' G' σ' H' (x.trans y) s
    | ct ρ' S' => exact fun A' G' σ' H' y s => h A' G' σ' H' (x.trans y) s
    | rt z S' => exact h
    | exc c fs ρ' S' => exact fun A' G' σ' H' cls d y s => h A' G' σ' H' cls d (x.trans y) s
end VL

end
section
set_option Elab.async false
set_option linter.all false
set_option maxRecDepth 100000
/-! VL2: expressions: names, constants, operators, comparisons, tests. -/
namespace VL
open PySem PySem.Spec PyProof.Rows L2

def bindM {α β : Type} (m : Option (Res α)) (k : α → Sto → Option (Res β)) : Option (Res β) :=
  match m with
  | none => none
  | some (.ok a S) => k a S
  | some (.exc c fs S) => some (.exc c fs S)
@[simp] theorem bindM_ok {α β : Type} (a : α) (S : Sto) (k : α → Sto → Option (Res β)) : bindM (some (.ok a S)) k = k a S := rfl
@[simp] theorem bindM_none {α β : Type} (k : α → Sto → Option (Res β)) : bindM none k = none := rfl
@[simp] theorem bindM_exc {α β : Type} (c : Str) (fs : List (Str × SV)) (S : Sto) (k : α → Sto → Option (Res β)) : bindM (some (.exc c fs S)) k = some (.exc c fs S) := rfl

theorem pe_imp {X : Cx} {e : Expr} {t t' : TE} (h : PE X e t) (i : ∀ σ H Q, t' σ H Q → t σ H Q) : PE X e t' := ⟨fun pins s σ H Q I q => h.run pins s σ H Q I (i σ H Q q)⟩
theorem pt_imp {X : Cx} {e : Expr} {t t' : TT} (h : PT X e t) (i : ∀ σ H Q, t' σ H Q → t σ H Q) : PT X e t' := ⟨fun pins s σ H Q I q => h.run pins s σ H Q I (i σ H Q q)⟩
theorem pw_imp {X : Cx} {e : Expr} {t t' : TT} (h : PW X e t) (i : ∀ σ H Q, t' σ H Q → t σ H Q) : PW X e t' := ⟨fun wh pins s σ H Q I q => h.run wh pins s σ H Q I (i σ H Q q)⟩
theorem pa_imp {X : Cx} {es : List Expr} {t t' : TA} (h : PA X es t) (i : ∀ σ H Q, t' σ H Q → t σ H Q) : PA X es t' := ⟨fun pos pins s σ H Q I q => h.run pos pins s σ H Q I (i σ H Q q)⟩
theorem ps_imp {X : Cx} {st : Stmt} {t t' : TS} (h : PS X st t) (i : ∀ D σ H, t' D σ H → t D σ H) : PS X st t' := ⟨fun pins s σ H D I q => h.run pins s σ H D I (i D σ H q)⟩
theorem pss_imp {X : Cx} {st : List Stmt} {t t' : TS} (h : PSs X st t) (i : ∀ D σ H, t' D σ H → t D σ H) : PSs X st t' := ⟨fun pins s σ H D I q => h.run pins s σ H D I (i D σ H q)⟩

section
variable {C : Ct} {W : WX} {kd ka kb : Kd} {ρ : Rho} {S S1 : Sto} {A A1 A2 : List Addr} {G : List (List Addr)} {σ : L2.St} {H H0 H1 H2 : Hp} {x y z : SV} {v u w : V} {g g' : List Addr} {xs : List SV} {vs : List V}

theorem fs_ext (x : Ext A1 H1 A2 H2) : ∀ a, Fs C A2 G a → Fs C A1 G a ∨ H1 a = none := fun a z => by
  rcases z with z | z | z
  · rcases x.new a z with z | z
    · exact .inl (.inl z)
    · exact .inr z
  · exact .inl (.inr (.inl z))
  · exact .inl (.inr (.inr z))
theorem Rk.ext (e : Ext A1 H1 A2 H2) (r : Rk C kd g A1 G H H1 x v) : Rk C kd g A2 G H H2 x v := by
  cases kd with
  | be =>
    obtain ⟨r, hg⟩ := r
    refine ⟨Rs.mono (prefix_get e.pre) (fs_ext e) (fun a o q n => e.keep a o q fun z => n (.inl z)) _ _ _ (fun a m o q => e.keep a o q (hg a m).1) r, fun a m => ⟨fun z => ?_, e.there a (hg a m).2⟩⟩
    rcases e.new a z with z | z
    · exact (hg a m).1 z
    · exact (hg a m).2 z
  | fe =>
    obtain ⟨r, nd, hg⟩ := r
    refine ⟨Rs.mono (prefix_get e.pre) (fun a z => ?_) (fun a o q n => e.keep a o q fun z => n (.inl (.inl z))) _ _ _ (fun a m o q => e.keep a o q (hg a m).2.2) r, nd, fun a m => ⟨(hg a m).1, e.there a (hg a m).2.1, fun z => ?_⟩⟩
    · rcases z with z | z
      · rcases fs_ext e a z with z | z
        · exact .inl (.inl z)
        · exact .inr z
      · exact .inl (.inr z)
    · rcases e.new a z with z | z
      · exact (hg a m).2.2 z
      · exact (hg a m).2.1 z
theorem RkL.ext (e : Ext A1 H1 A2 H2) (r : RkL C kd g A1 G H H1 xs vs) : RkL C kd g A2 G H H2 xs vs := by
  cases kd with
  | be =>
    obtain ⟨r, hg⟩ := r
    refine ⟨RsL.mono (prefix_get e.pre) (fs_ext e) (fun a o q n => e.keep a o q fun z => n (.inl z)) _ _ _ (fun a m o q => e.keep a o q (hg a m).1) r, fun a m => ⟨fun z => ?_, e.there a (hg a m).2⟩⟩
    rcases e.new a z with z | z
    · exact (hg a m).1 z
    · exact (hg a m).2 z
  | fe =>
    obtain ⟨r, nd, hg⟩ := r
    refine ⟨RsL.mono (prefix_get e.pre) (fun a z => ?_) (fun a o q n => e.keep a o q fun z => n (.inl (.inl z))) _ _ _ (fun a m o q => e.keep a o q (hg a m).2.2) r, nd, fun a m => ⟨(hg a m).1, e.there a (hg a m).2.1, fun z => ?_⟩⟩
    · rcases z with z | z
      · rcases fs_ext e a z with z | z
        · exact .inl (.inl z)
        · exact .inr z
      · exact .inl (.inr z)
    · rcases e.new a z with z | z
      · exact (hg a m).2.2 z
      · exact (hg a m).2.1 z
theorem none_back (e : Ext A H A1 H1) {a : Addr} (h : H1 a = none) : H a = none := by
  cases q : H a with
  | none => rfl
  | some o => exact absurd h (e.there a (by rw [q]; simp))
theorem Rk.from (h : ∀ a, H0 a = none → H a = none) (r : Rk C kd g A1 G H0 H1 x v) : Rk C kd g A1 G H H1 x v := by
  cases kd with
  | be => exact r
  | fe =>
    obtain ⟨r, nd, hg⟩ := r
    exact ⟨r, nd, fun a m => ⟨h a (hg a m).1, (hg a m).2⟩⟩
theorem RkL.from (h : ∀ a, H0 a = none → H a = none) (r : RkL C kd g A1 G H0 H1 xs vs) : RkL C kd g A1 G H H1 xs vs := by
  cases kd with
  | be => exact r
  | fe =>
    obtain ⟨r, nd, hg⟩ := r
    exact ⟨r, nd, fun a m => ⟨h a (hg a m).1, (hg a m).2⟩⟩
theorem EPost.trans (e : Ext A H A1 H1) (p : EPost C kd ρ A1 G σ H1 x S v H2) : EPost C kd ρ A G σ H x S v H2 := by
  obtain ⟨A2, g, e2, I, r⟩ := p
  exact ⟨A2, g, e.trans e2, I, r.from fun a q => none_back e q⟩
theorem APost.trans (e : Ext A H A1 H1) (p : APost C kd ρ A1 G σ H1 xs S vs H2) : APost C kd ρ A G σ H xs S vs H2 := by
  obtain ⟨A2, g, e2, I, r⟩ := p
  exact ⟨A2, g, e.trans e2, I, r.from fun a q => none_back e q⟩
theorem XPost.trans {c : Str} {fs : List (Str × SV)} {cls : Value} {d : Option Addr} (e : Ext A H A1 H1) (p : XPost C ρ A1 G σ H1 c fs S cls d H2) : XPost C ρ A G σ H c fs S cls d H2 := by
  obtain ⟨A2, e2, I, r⟩ := p
  exact ⟨A2, e.trans e2, I, r⟩
theorem BPost.trans {b b' : Bool} (e : Ext A H A1 H1) (p : BPost C ρ A1 G σ H1 b S b' H2) : BPost C ρ A G σ H b S b' H2 := by
  obtain ⟨q, A2, e2, I⟩ := p
  exact ⟨q, A2, e.trans e2, I⟩
theorem pg_sub {kd : Kd} {a : Addr} (h : C.Pr a) : (C.pg kd g).Pr a := by
  cases kd with
  | be => exact h
  | fe => exact .inl h
/-- the state alone -/
theorem Sim.pgw (I : Sim (C.pg kd g) ρ S A G σ H) : Sim C ρ S A G σ H := by
  cases kd with
  | be => exact I
  | fe => exact I.prw fun a h => .inl h
theorem Sim.pg0 (I : Sim C ρ S A G σ H) : Sim (C.pg kd []) ρ S A G σ H := by
  cases kd with
  | be => exact I
  | fe => exact I.prc fun a h => h.elim id fun m => by cases m
/-- the heap as it is -/
theorem EPost.same (I : Sim C ρ S A G σ H) (r : Rk C kd [] A G H H x v) : EPost C kd ρ A G σ H x S v H := ⟨A, [], Ext.refl, I.pg0, r⟩
/-- a new object that is left alone -/
theorem Sim.newP (I : Sim C ρ S A G σ H) {p : Addr} {o : HO} (h : H p = none) : Sim (C.pr fun a => C.Pr a ∨ a = p) ρ S A G σ (upd H p o) := by
  have J : Sim C ρ S A G σ (upd H p o) := I.new h
  have hF : ∀ a, Fs (C.pr fun a => C.Pr a ∨ a = p) A G a → Fs C A G a ∨ H a = none := fun a z => by
    rcases z with z | z | z | z
    · exact .inl (.inl z)
    · exact .inl (.inr (.inl z))
    · exact .inl (.inr (.inr z))
    · exact .inr (by rw [z]; exact h)
  have hk : ∀ a o', H a = some o' → upd H p o a = some o' := fun a o' e => by rw [upd_ne (ne_of_none e h)]; exact e
  refine ⟨J.pre, J.lr, J.lg, J.ls, J.nd, J.trk, fun a q => ?_, fun i x e => ?_, fun n xs e => ?_, J.frame, J.fresh, J.a0⟩
  · rcases q with q | q
    · exact J.prot a q
    · subst q
      exact ⟨fun z => I.trk a z h, by rw [upd_same]; simp⟩
  · obtain ⟨v, g, e1, r, sb⟩ := I.slots i x e
    exact ⟨v, g, e1, Rs.mono (fun _ _ q => q) hF (fun a o q n => hk a o q) _ _ _ (fun a m o q => hk a o q) r, sb⟩
  · obtain ⟨a, vs, e1, e2, l, r⟩ := I.sto n xs e
    exact ⟨a, vs, e1, hk _ _ e2, l, RsL.mono (fun _ _ q => q) hF (fun a o q n => hk a o q) _ _ _ (fun a m o q => hk a o q) r⟩
/-- data of any kind -/
theorem Rk.dat {d : PyData} (h : Dq C.K H1 (Fs C A1 G) d v) : Rk C kd [] A1 G H H1 (.d d) v := by
  cases kd with
  | be => exact ⟨.d h, fun a m => by cases m⟩
  | fe => exact ⟨.d (Dq.mono (fun a z => z.elim .inl fun m => by cases m) (fun a o q n => q) _ _ h), List.nodup_nil, fun a m => by cases m⟩
theorem Rk.undat {d : PyData} (h : Rk C kd g A1 G H H1 (.d d) v) : Dq C.K H1 (Fs C A1 G) d v := by
  cases kd with
  | be =>
    obtain ⟨r, _⟩ := h
    exact r.nil_d.2
  | fe =>
    obtain ⟨r, _⟩ := h
    exact Dq.mono (fun a z => .inl (.inl z)) (fun a o q n => q) _ _ r.nil_d.2
theorem Rk.int {i : Int} (h : Rk C kd g A1 G H H1 (.d (.int i)) v) : v = .int i := by cases h.undat; rfl
theorem Rk.bl {i : Bool} (h : Rk C kd g A1 G H H1 (.d (.bool i)) v) : v = .bl i := by cases h.undat; rfl
theorem Rk.str {i : Str} (h : Rk C kd g A1 G H H1 (.d (.str i)) v) : v = .str i := by cases h.undat; rfl
theorem Rk.non (h : Rk C kd g A1 G H H1 (.d .none) v) : v = .non := by cases h.undat; rfl
/-- from one's own to looked at -/
theorem Rk.be (h : Rk C .fe g A1 G H H1 x v) : Rk C .be g A1 G H H1 x v := by
  obtain ⟨r, nd, hg⟩ := h
  exact ⟨Rs.mono (fun _ _ q => q) (fun a z => .inl (.inl z)) (fun a o q n => q) _ _ _ (fun a m o q => q) r, fun a m => ⟨(hg a m).2.2, (hg a m).2.1⟩⟩
theorem RkL.be (h : RkL C .fe g A1 G H H1 xs vs) : RkL C .be g A1 G H H1 xs vs := by
  obtain ⟨r, nd, hg⟩ := h
  exact ⟨RsL.mono (fun _ _ q => q) (fun a z => .inl (.inl z)) (fun a o q n => q) _ _ _ (fun a m o q => q) r, fun a m => ⟨(hg a m).2.2, (hg a m).2.1⟩⟩
theorem EPost.be (h : EPost C .fe ρ A G σ H x S v H1) : EPost C kd ρ A G σ H x S v H1 := by
  cases kd with
  | fe => exact h
  | be =>
    obtain ⟨A', g, e, I, r⟩ := h
    exact ⟨A', g, e, I.pgw, r.be⟩
end

section
variable {α β V1 V2 : Type} {C : Ct} {W : WX} {ρ : Rho} {S : Sto} {A : List Addr} {G : List (List Addr)} {σ : L2.St} {H : Hp}
theorem EGood.step {post : β → Sto → V2 → Hp → Prop} {xpost : Str → List (Str × SV) → Sto → Value → Option Addr → Hp → Prop} {post1 : α → Sto → V1 → Hp → Prop} {xpost1 : Str → List (Str × SV) → Sto → Value → Option Addr → Hp → Prop}
    {Q : V2 → Hp → Prop} {Q1 : V1 → Hp → Prop} {m : Option (Res α)} {k : α → Sto → Option (Res β)} (q : EGood post xpost W σ Q (bindM m k)) (hx : ∀ c fs S' cls d H', xpost1 c fs S' cls d H' → xpost c fs S' cls d H')
    (h : ∀ x S', EGood post xpost W σ Q (k x S') → ∀ v H', post1 x S' v H' → Q1 v H') : EGood post1 xpost1 W σ Q1 m := by
  cases m with
  | none => exact q
  | some r =>
    cases r with
    | ok x S' => exact h x S' q
    | exc c fs S' => exact fun cls d H' p => q cls d H' (hx _ _ _ _ _ _ p)
theorem EGood.post {post post1 : α → Sto → V1 → Hp → Prop} {xpost xpost1 : Str → List (Str × SV) → Sto → Value → Option Addr → Hp → Prop} {Q : V1 → Hp → Prop} {m : Option (Res α)} (q : EGood post xpost W σ Q m)
    (hp : ∀ x S' v H', post1 x S' v H' → post x S' v H') (hx : ∀ c fs S' cls d H', xpost1 c fs S' cls d H' → xpost c fs S' cls d H') : EGood post1 xpost1 W σ Q m := by
  cases m with
  | none => exact q
  | some r =>
    cases r with
    | ok x S' => exact fun v H' p => q v H' (hp _ _ _ _ p)
    | exc c fs S' => exact fun cls d H' p => q cls d H' (hx _ _ _ _ _ _ p)
end
section
variable {C : Ct} {P P1 : Addr → Prop} {kd ka kb : Kd} {ρ : Rho} {S S1 : Sto} {A A1 A2 : List Addr} {G : List (List Addr)} {σ : L2.St} {H H0 H1 H2 : Hp} {x y z : SV} {v u w : V} {g g' : List Addr} {xs : List SV} {vs : List V}
theorem Rk.prw (r : Rk (C.pr P1) kd g A1 G H H1 x v) (h : ∀ a, P a → P1 a) : Rk (C.pr P) kd g A1 G H H1 x v := by
  have hF : ∀ a, Fs (C.pr P) A1 G a → Fs (C.pr P1) A1 G a := fun a z => z.elim .inl fun z => z.elim (fun z => .inr (.inl z)) fun z => .inr (.inr (h a z))
  cases kd with
  | be => exact ⟨Rs.mono (fun _ _ q => q) (fun a z => .inl (hF a z)) (fun a o q n => q) _ _ _ (fun a m o q => q) r.1, r.2⟩
  | fe => exact ⟨Rs.mono (fun _ _ q => q) (fun a z => .inl (z.elim (fun z => .inl (hF a z)) .inr)) (fun a o q n => q) _ _ _ (fun a m o q => q) r.1, r.2⟩
theorem RkL.prw (r : RkL (C.pr P1) kd g A1 G H H1 xs vs) (h : ∀ a, P a → P1 a) : RkL (C.pr P) kd g A1 G H H1 xs vs := by
  have hF : ∀ a, Fs (C.pr P) A1 G a → Fs (C.pr P1) A1 G a := fun a z => z.elim .inl fun z => z.elim (fun z => .inr (.inl z)) fun z => .inr (.inr (h a z))
  cases kd with
  | be => exact ⟨RsL.mono (fun _ _ q => q) (fun a z => .inl (hF a z)) (fun a o q n => q) _ _ _ (fun a m o q => q) r.1, r.2⟩
  | fe => exact ⟨RsL.mono (fun _ _ q => q) (fun a z => .inl (z.elim (fun z => .inl (hF a z)) .inr)) (fun a o q n => q) _ _ _ (fun a m o q => q) r.1, r.2⟩
theorem Ct.pr_pr : (C.pr P).pr P1 = C.pr P1 := rfl
/-- what comes next leaves the new lists alone -/
theorem EPost.next (p : EPost (C.pr P) ka ρ A G σ H x S1 v H1) : ∃ A1 g P1, Ext A H A1 H1 ∧ (∀ a, P a → P1 a) ∧ Sim (C.pr P1) ρ S1 A1 G σ H1 ∧ Rk (C.pr P) ka g A1 G H H1 x v ∧ ∀ a ∈ g, ka = .fe → P1 a := by
  obtain ⟨A1, g, e, I, r⟩ := p
  cases ka with
  | be => exact ⟨A1, g, P, e, fun a h => h, I, r, fun a m q => by cases q⟩
  | fe => exact ⟨A1, g, fun a => P a ∨ a ∈ g, e, fun a h => .inl h, I, r, fun a m _ => .inr m⟩
theorem EPost.prw (p : EPost (C.pr P1) kd ρ A G σ H x S v H1) (h : ∀ a, P a → P1 a) : EPost (C.pr P) kd ρ A G σ H x S v H1 := by
  obtain ⟨A1, g, e, I, r⟩ := p
  refine ⟨A1, g, e, ?_, r.prw h⟩
  cases kd with
  | be => exact (show Sim ((C.pr P1).pr P) ρ S A1 G σ H1 from Sim.prc I h)
  | fe => exact (show Sim (((C.pr P1).pr fun a => P1 a ∨ a ∈ g).pr fun a => P a ∨ a ∈ g) ρ S A1 G σ H1 from Sim.prc I fun a z => z.elim (fun z => .inl (h a z)) .inr)
theorem APost.prw (p : APost (C.pr P1) kd ρ A G σ H xs S vs H1) (h : ∀ a, P a → P1 a) : APost (C.pr P) kd ρ A G σ H xs S vs H1 := by
  obtain ⟨A1, g, e, I, r⟩ := p
  refine ⟨A1, g, e, ?_, r.prw h⟩
  cases kd with
  | be => exact (show Sim ((C.pr P1).pr P) ρ S A1 G σ H1 from Sim.prc I h)
  | fe => exact (show Sim (((C.pr P1).pr fun a => P1 a ∨ a ∈ g).pr fun a => P a ∨ a ∈ g) ρ S A1 G σ H1 from Sim.prc I fun a z => z.elim (fun z => .inl (h a z)) .inr)
theorem BPost.prw {b b' : Bool} (p : BPost (C.pr P1) ρ A G σ H b S b' H1) (h : ∀ a, P a → P1 a) : BPost (C.pr P) ρ A G σ H b S b' H1 := by
  obtain ⟨q, A1, e, I⟩ := p
  exact ⟨q, A1, e, (show Sim ((C.pr P1).pr P) ρ S A1 G σ H1 from Sim.prc I h)⟩
end
section
variable {X : Cx} {C : Ct} {W : WX} {kd ka kb : Kd} {e a b c : Expr} {pos : Pos} {f fa fb fc : Rho → Mo SV}
theorem be_of (h : PE X e (tV C W .fe f)) : PE X e (tV C W kd f) := by
  refine pe_imp h fun σ H Q ⟨P, ρ, S, A, G, hP, I, q⟩ => ⟨P, ρ, S, A, G, hP, I, ?_⟩
  cases e : f ρ S with
  | none => rw [e] at q; exact q
  | some r =>
    rw [e] at q
    cases r with
    | ok x S' => exact fun v H' p => q v H' p.be
    | exc c fs S' => exact q
/-! ### names and constants -/
def eVar (i : Nat) : Rho → Mo SV := fun ρ S => match ρ[i]? with
  | some (some x) => some (.ok x S)
  | _ => none
/-- .. that is no list of one's own -/
def noOwn : SV → Bool
  | .own _ => false
  | .dic _ _ => false
  | _ => true
def eVarV (i : Nat) : Rho → Mo SV := fun ρ S => match ρ[i]? with
  | some (some x) => if noOwn x then some (.ok x S) else none
  | _ => none
theorem Rs.noOwn {K : PySem.W.Frag} {mg : Str → Option Value} {H : Hp} {A : List Addr} {F : Addr → Prop} {x : SV} {v : V} {g : List Addr} (r : Rs K mg H A F x v g) (h : noOwn x = true) : g = [] := by
  cases r with
  | d _ => rfl
  | ref _ => rfl
  | fn _ => rfl
  | scr _ _ _ => rfl
  | scrK _ _ => rfl
  | own _ _ _ => cases h
  | dic _ _ _ _ => cases h
theorem Rk.noOwn {A1 : List Addr} {G : List (List Addr)} {H H1 : Hp} {x : SV} {v : V} {g : List Addr} (r : Rs C.K C.mg H1 A1 (Fs C A1 G) x v g) (h : VL.noOwn x = true) : Rk C kd [] A1 G H H1 x v := by
  obtain rfl := r.noOwn h
  cases kd with
  | be => exact ⟨r, fun a m => by cases m⟩
  | fe => exact ⟨Rs.mono (fun _ _ q => q) (fun a z => z.elim .inl fun m => by cases m) (fun a o q n => q) _ _ _ (fun a m o q => q) r, List.nodup_nil, fun a m => by cases m⟩
theorem getD_mem {G : List (List Addr)} {i : Nat} {a : Addr} (h : a ∈ G[i]?.getD []) : a ∈ G.flatten := by
  cases q : G[i]? with
  | none => rw [q] at h; cases h
  | some g => rw [q] at h; exact List.mem_flatten.mpr ⟨g, List.mem_of_getElem? q, h⟩
theorem v_var {i : Nat} (h : PE X e (tVar i)) : PE X e (tV C W .be (eVar i)) := by
  refine pe_imp h fun σ H Q ⟨P, ρ, S, A, G, hP, I, q⟩ => ?_
  unfold eVar at q
  split at q
  · rename_i x hx
    obtain ⟨v, g, e1, r, sb⟩ := I.slots i x hx
    exact ⟨v, e1, q v H ⟨A, _, Ext.refl, I, r, fun a m => ⟨fun z => (List.nodup_append.mp I.nd).2.2 a z a (getD_mem (sb.subset m)) rfl, I.trk a (List.mem_append_right _ (getD_mem (sb.subset m)))⟩⟩⟩
  · exact q.elim
theorem v_varV {i : Nat} (h : PE X e (tVar i)) : PE X e (tV C W kd (eVarV i)) := by
  refine pe_imp h fun σ H Q ⟨P, ρ, S, A, G, hP, I, q⟩ => ?_
  unfold eVarV at q
  split at q
  · rename_i x hx
    obtain ⟨v, g, e1, r, sb⟩ := I.slots i x hx
    split at q
    · rename_i hn
      exact ⟨v, e1, q v H (EPost.same I (Rk.noOwn r hn))⟩
    · exact q.elim
  · exact q.elim
/-- a constant without a place in the heap -/
def eCon (x : PyData) : Rho → Mo SV := fun _ S => some (.ok (.d x) S)
theorem v_con {x : PyData} {v : V} (h : PE X e (tC v)) (r : ∀ (H : Hp) (F : Addr → Prop), Dq C.K H F x v) : PE X e (tV C W kd (eCon x)) := by
  refine pe_imp h fun σ H Q ⟨P, ρ, S, A, G, hP, I, q⟩ => ?_
  exact q v H (EPost.same I (Rk.dat (r _ _)))
theorem v_int {i : Int} {j pos} : PE X (.Constant (.int i) j pos) (tV C W kd (eCon (.int i))) := v_con pe_int fun _ _ => .int i
theorem v_bl {i : Bool} {j pos} : PE X (.Constant (.bool i) j pos) (tV C W kd (eCon (.bool i))) := v_con pe_bl fun _ _ => .bl i
theorem v_non {j pos} : PE X (.Constant .none j pos) (tV C W kd (eCon .none)) := v_con pe_non fun _ _ => .non
theorem v_str {i : Str} {j pos} : PE X (.Constant (.str i) j pos) (tV C W kd (eCon (.str i))) := v_con pe_str fun _ _ => .str i
theorem v_glob {x : Str} {y : PyData} {v : V} {u : Value} (hg : Gl X x) (hm : X.mg x = some u) (r : RelV v u) (rd : ∀ (H : Hp) (F : Addr → Prop), Dq C.K H F y v) (hd : (x == ("__debug__" : Str)) = false := by decide) : PE X (.Name x pos) (tV C W kd (eCon y)) := v_con (pe_glob hg hm r hd) rd
/-- a def of the module as a value -/
def eFn (x : Str) : Rho → Mo SV := fun _ S => some (.ok (.fn x) S)
theorem v_fn {x : Str} {f : Addr} (hc : C.mg = X.mg) (hg : Gl X x) (hm : X.mg x = some (.ref f)) (hd : (x == ("__debug__" : Str)) = false := by decide) : PE X (.Name x pos) (tV C W kd (eFn x)) := by
  refine pe_imp (pe_glob (v := .ref f) hg hm rfl hd) fun σ H Q ⟨P, ρ, S, A, G, hP, I, q⟩ => ?_
  exact q _ H (EPost.same I (Rk.noOwn (g := []) (.fn (show C.mg x = some (.ref f) by rw [hc]; exact hm)) rfl))

/-! ### operators of two values -/
def eBin (g : Sto → SV → SV → Option SV) (fa fb : Rho → Mo SV) : Rho → Mo SV := fun ρ S => bindM (fa ρ S) fun x S1 => bindM (fb ρ S1) fun y S2 => (g S2 x y).map fun z => .ok z S2
/-- what an operation's rule must do -/
def OpOk (K : PySem.W.Frag) (ka kb kd : Kd) (g : Sto → SV → SV → Option SV) (r : R2) : Prop :=
  ∀ (C : Ct) (ρ : Rho) (S : Sto) (A : List Addr) (G : List (List Addr)) (σ : L2.St) (H0 H1 H : Hp) (x y z : SV) (v u : V) (gx gy : List Addr) (Q : VK), C.K = K → Sim C ρ S A G σ H → Rk C ka gx A G H0 H x v → Rk C kb gy A G H1 H y u → g S x y = some z →
    (∀ w H', EPost C kd ρ A G σ H z S w H' → Q w H') → r v u H Q
theorem tV_two {g : Sto → SV → SV → Option SV} {r : R2} (h : OpOk C.K ka kb kd g r) : ∀ σ H Q, tV C W kd (eBin g fa fb) σ H Q → tOp r (tV C W ka fa) (tV C W kb fb) σ H Q := by
  intro σ H Q ⟨P, ρ, S, A, G, hP, I, q⟩
  refine ⟨P, ρ, S, A, G, hP, I, EGood.step q (fun _ _ _ _ _ _ z => z) fun x S1 q v H1 p => ?_⟩
  obtain ⟨A1, g1, P1, e1, hP1, I1, k1, _⟩ := p.next
  refine ⟨P1, ρ, S1, A1, G, fun a z => hP1 a (hP a z), I1, EGood.step q (fun _ _ _ _ _ _ z => z.trans e1) fun y S2 q u H2 p => ?_⟩
  obtain ⟨A2, g2, e2, I2, k2⟩ := p
  cases eg : g S2 x y with
  | none => rw [eg] at q; exact q.elim
  | some z =>
    rw [eg] at q
    have I2' : Sim (C.pr P) ρ S2 A2 G σ H2 := (show Sim ((C.pr P1).pr P) ρ S2 A2 G σ H2 from Sim.prc I2.pgw hP1)
    exact h (C.pr P) ρ S2 A2 G σ H H1 H2 x y z v u g1 g2 Q rfl I2' (k1.ext e2) (k2.prw hP1) eg fun w H' p => q w H' (p.trans (e1.trans e2))
theorem v_op {op : Operator} {g : Sto → SV → SV → Option SV} {r : R2} (ho : OpR X (binaryOp op) r) (h : OpOk C.K ka kb kd g r) (ha : PE X a (tV C W ka fa)) (hb : PE X b (tV C W kb fb)) : PE X (.BinOp a op b pos) (tV C W kd (eBin g fa fb)) := pe_imp (pe_op ho ha hb) (tV_two h)
theorem v_cmp {op : CmpOp} {g : Sto → SV → SV → Option SV} {r : R2} (ho : OpR X (compareOp op) r) (h : OpOk C.K ka kb kd g r) (ha : PE X a (tV C W ka fa)) (hb : PE X b (tV C W kb fb)) (hm : behindInMarks op b = false) : PE X (.Compare a [op] [b] pos) (tV C W kd (eBin g fa fb)) := pe_imp (pe_cmpR ho ha hb hm) (tV_two h)
/-- .. of one -/
def eUn (g : Sto → SV → Option SV) (fa : Rho → Mo SV) : Rho → Mo SV := fun ρ S => bindM (fa ρ S) fun x S1 => (g S1 x).map fun z => .ok z S1
def UnOk (K : PySem.W.Frag) (ka kd : Kd) (g : Sto → SV → Option SV) (r : V → Hp → VK → Prop) : Prop :=
  ∀ (C : Ct) (ρ : Rho) (S : Sto) (A : List Addr) (G : List (List Addr)) (σ : L2.St) (H0 H : Hp) (x z : SV) (v : V) (gx : List Addr) (Q : VK), C.K = K → Sim C ρ S A G σ H → Rk C ka gx A G H0 H x v → g S x = some z →
    (∀ w H', EPost C kd ρ A G σ H z S w H' → Q w H') → r v H Q
theorem tV_one {g : Sto → SV → Option SV} {r : V → Hp → VK → Prop} (h : UnOk C.K ka kd g r) : ∀ σ H Q, tV C W kd (eUn g fa) σ H Q → tUn r (tV C W ka fa) σ H Q := by
  intro σ H Q ⟨P, ρ, S, A, G, hP, I, q⟩
  refine ⟨P, ρ, S, A, G, hP, I, EGood.step q (fun _ _ _ _ _ _ z => z) fun x S1 q v H1 p => ?_⟩
  obtain ⟨A1, g1, e1, I1, k1⟩ := p
  cases eg : g S1 x with
  | none => rw [eg] at q; exact q.elim
  | some z =>
    rw [eg] at q
    exact h (C.pr P) ρ S1 A1 G σ H H1 x z v g1 Q rfl I1.pgw k1 eg fun w H' p => q w H' (p.trans e1)
theorem v_un {op : UnaryOp} {g : Sto → SV → Option SV} {r : V → Hp → VK → Prop} (ho : UnR X (unaryOp op) r) (h : UnOk C.K ka kd g r) (ha : PE X a (tV C W ka fa)) : PE X (.UnaryOp op a pos) (tV C W kd (eUn g fa)) := pe_imp (pe_un ho ha) (tV_one h)
end
end VL

end
section
set_option Elab.async false
set_option linter.all false
set_option maxRecDepth 100000
/-! VL3: looking at lists and tuples; arithmetic, comparisons, tests. -/
namespace VL
open PySem PySem.Spec PyProof.Rows L2

/-- a list that may be told by its items -/
def lst? (S : Sto) : SV → Option (List SV)
  | .own xs => some xs
  | .d (.list ds) => some (ds.map .d)
  | .ref n => S[n]?
  | _ => none
/-- .. or a tuple, or the script -/
def seq? (S : Sto) : SV → Option (List SV)
  | .d (.tuple ds) => some (ds.map .d)
  | .scr ns => some (ns.map fun n => .d (.int n))
  | x => lst? S x
def tup? : SV → Option (List PyData)
  | .d (.tuple ds) => some ds
  | _ => none
/-- data -/
def dat? (S : Sto) : SV → Option PyData
  | .d x => some x
  | .own xs => (allD xs).map .list
  | .ref n => (S[n]?.bind allD).map .list
  | _ => none
theorem RsL.noOwn {K : PySem.W.Frag} {mg : Str → Option Value} {H : Hp} {A : List Addr} {F : Addr → Prop} : ∀ {xs : List SV} {vs : List V} {g : List Addr}, RsL K mg H A F xs vs g → xs.all VL.noOwn = true → g = []
  | [], _, _, r, _ => by cases r; rfl
  | x :: xs, _, _, r, h => by
    cases r with
    | cons r1 r2 =>
      simp only [List.all_cons, Bool.and_eq_true] at h
      rw [r1.noOwn h.1, RsL.noOwn r2 h.2]
      rfl
section
variable {C : Ct} {kd ka kb : Kd} {ρ : Rho} {S : Sto} {A : List Addr} {G : List (List Addr)} {σ : L2.St} {H H0 H1 H2 : Hp} {x y z : SV} {v u w : V} {xs ys : List SV} {vs us : List V} {g g' : List Addr}
theorem RkL.get {i : Nat} (r : RkL C .be g A G H H1 xs vs) (h : xs[i]? = some x) : ∃ v g', vs[i]? = some v ∧ Rk C .be g' A G H H1 x v := by
  obtain ⟨r, hg⟩ := r
  induction xs generalizing vs g i with
  | nil => simp at h
  | cons y ys ih =>
    cases r with
    | cons r1 r2 =>
      cases i with
      | zero =>
        simp at h
        subst h
        exact ⟨_, _, rfl, r1, fun a m => hg a (List.mem_append_left _ m)⟩
      | succ i => simpa using ih (by simpa using h) r2 fun a m => hg a (List.mem_append_right _ m)
theorem RkL.len (r : RkL C kd g A G H H1 xs vs) : vs.length = xs.length := by
  cases kd with
  | be => exact r.1.length
  | fe => exact r.1.length
theorem RkL.get' {i : Nat} (r : RkL C .be g A G H H1 xs vs) (h : vs[i]? = some v) : ∃ x g', xs[i]? = some x ∧ Rk C .be g' A G H H1 x v := by
  have l := r.len
  have hi : i < vs.length := (List.getElem?_eq_some_iff.mp h).1
  obtain ⟨v', g', e, q⟩ := r.get (i := i) (x := xs[i]'(by omega)) (List.getElem?_eq_getElem _)
  rw [h] at e
  cases e
  exact ⟨_, _, List.getElem?_eq_getElem _, q⟩
theorem RkL.dats {ds : List PyData} (r : DqL C.K H1 (Fs C A G) ds vs) : RkL C kd [] A G H H1 (ds.map SV.d) vs := by
  cases kd with
  | be => exact ⟨.ofD r, fun a m => by cases m⟩
  | fe => exact ⟨.ofD (DqL.mono (fun a z => z.elim .inl fun m => by cases m) (fun a o q n => q) _ _ r), List.nodup_nil, fun a m => by cases m⟩
theorem RkL.undat {ds : List PyData} (r : RkL C kd g A G H H1 xs vs) (h : allD xs = some ds) : DqL C.K H1 (Fs C A G) ds vs := by
  cases kd with
  | be => exact (r.1.toD h).1
  | fe => exact DqL.mono (fun a z => .inl (.inl z)) (fun a o q n => q) _ _ (r.1.toD h).1
theorem Rk.asBe (r : Rk C kd g A G H H1 x v) : Rk C .be g A G H H1 x v := by
  cases kd with
  | be => exact r
  | fe => exact r.be
/-- one's own, where it is no list of one's own -/
theorem Rk.fe_of (r : Rk C ka g A G H H1 x v) (h : VL.noOwn x = true) : Rk C kd [] A G H0 H1 x v := by
  have r := r.asBe
  exact Rk.noOwn r.1 h
/-- a list in the heap -/
theorem Rk.lst (I : Sim C ρ S A G σ H) (r : Rk C kd g A G H0 H x v) (h : lst? S x = some xs) : ∃ a vs g', v = .ref a ∧ H a = some (.lst vs) ∧ vs.length ≤ sizeLine ∧ RkL C .be g' A G H H xs vs := by
  obtain ⟨r1, hg⟩ := r.asBe
  cases r1 with
  | d r2 =>
    cases r2 with
    | lst e n l q =>
      simp only [lst?, Option.some.injEq] at h
      subst h
      exact ⟨_, _, _, rfl, e, l, RkL.dats q⟩
    | _ => cases h
  | ref e =>
    obtain ⟨a, vs, e1, e2, l, q⟩ := I.sto _ _ h
    rw [e] at e1
    cases e1
    exact ⟨_, _, _, rfl, e2, l, q, fun a m => by cases m⟩
  | fn _ => cases h
  | scr _ _ _ => cases h
  | scrK _ _ => cases h
  | own e l q =>
    simp only [lst?, Option.some.injEq] at h
    subst h
    exact ⟨_, _, _, rfl, e, l, q, fun a m => hg a (List.mem_cons_of_mem _ m)⟩
  | dic _ _ _ _ => cases h
theorem DqL.ofInts {F : Addr → Prop} : ∀ ns : List Int, DqL C.K H F (ns.map PyData.int) (ns.map V.int)
  | [] => .nil
  | n :: ns => .cons (.int n) (DqL.ofInts ns)
theorem Rk.seq (I : Sim C ρ S A G σ H) (r : Rk C kd g A G H0 H x v) (h : seq? S x = some xs) : ∃ a vs g', v = .ref a ∧ (SqL C.K H a vs ∨ SqT C.K H a vs) ∧ vs.length ≤ sizeLine ∧ RkL C .be g' A G H H xs vs := by
  have go : lst? S x = some xs → ∃ a vs g', v = .ref a ∧ (SqL C.K H a vs ∨ SqT C.K H a vs) ∧ vs.length ≤ sizeLine ∧ RkL C .be g' A G H H xs vs := fun h => by
    obtain ⟨a, vs, g', e, e2, l, q⟩ := r.lst I h
    exact ⟨a, vs, g', e, .inl (.of e2), l, q⟩
  unfold seq? at h
  split at h
  · rename_i ds
    simp only [Option.some.injEq] at h
    subst h
    cases r.undat with
    | tup e n l q => exact ⟨_, _, _, rfl, .inr (.of e), l, RkL.dats q⟩
    | ctup e l q => exact ⟨_, _, _, rfl, .inr (SqT.const e H), l, RkL.dats q⟩
  · rename_i ns
    simp only [Option.some.injEq] at h
    subst h
    obtain ⟨r, hg⟩ := r.asBe
    cases r with
    | scr e n l =>
      refine ⟨_, _, [], rfl, .inl (.inl (.inr ⟨_, e⟩)), by simpa using l, ?_⟩
      have := RkL.dats (C := C) (kd := .be) (A := A) (G := G) (H := H) (DqL.ofInts (C := C) (H := H) (F := Fs C A G) ns)
      rw [List.map_map] at this
      exact this
    | scrK e l =>
      refine ⟨_, _, [], rfl, .inl (SqL.const e H), by simpa using l, ?_⟩
      have := RkL.dats (C := C) (kd := .be) (A := A) (G := G) (H := H) (DqL.ofInts (C := C) (H := H) (F := Fs C A G) ns)
      rw [List.map_map] at this
      exact this
  · exact go h
theorem Rk.tup {ds : List PyData} (r : Rk C kd g A G H0 H (.d (.tuple ds)) v) : ∃ a vs, v = .ref a ∧ SqT C.K H a vs ∧ vs.length ≤ sizeLine ∧ DqL C.K H (Fs C A G) ds vs := by
  cases r.undat with
  | tup e n l q => exact ⟨_, _, rfl, .of e, l, q⟩
  | ctup e l q => exact ⟨_, _, rfl, SqT.const e H, l, q⟩
theorem Rk.dp {d : PyData} (I : Sim C ρ S A G σ H) (r : Rk C kd g A G H0 H x v) (h : dat? S x = some d) : Dp C.K H v d := by
  have go : ∀ xs ds, lst? S x = some xs → allD xs = some ds → Dp C.K H v (.list ds) := fun xs ds h h2 => by
    obtain ⟨a, vs, g', rfl, e, l, q⟩ := r.lst I h
    exact .lst (.of e) (DqL.dp _ _ (q.undat h2))
  unfold dat? at h
  split at h
  · simp only [Option.some.injEq] at h
    subst h
    exact Dq.dp _ _ r.undat
  · rename_i xs
    simp only [Option.map_eq_some_iff] at h
    obtain ⟨ds, h, rfl⟩ := h
    exact go xs ds rfl h
  · rename_i n
    simp only [Option.map_eq_some_iff, Option.bind_eq_some_iff] at h
    obtain ⟨ds, ⟨xs, h1, h2⟩, rfl⟩ := h
    exact go xs ds h1 h2
  · cases h

/-! new objects -/
theorem notFs (I : Sim C ρ S A G σ H) {p : Addr} (h : H p = none) : ¬ Fs C A G p := fun z => I.fsTrk z h
/-- a new tuple of data -/
theorem EPost.tup {ds : List PyData} {p : Addr} (I : Sim C ρ S A G σ H) (r : DqL C.K H (Fs C A G) ds vs) (l : vs.length ≤ sizeLine) (h : H p = none) : EPost C kd ρ A G σ H (.d (.tuple ds)) S (.ref p) (upd H p (.tup vs)) := by
  refine ⟨A, [], Ext.upd h, (I.new h).pg0, Rk.dat (.tup upd_same (notFs I h) l (DqL.mono (fun a q => .inl q) (fun a o q n => ?_) _ _ r))⟩
  rw [upd_ne (ne_of_none q h)]
  exact q
theorem Rk.newOwn {p : Addr} (I : Sim C ρ S A G σ H) (r : RkL C .fe g A G H1 H xs vs) (l : vs.length ≤ sizeLine) (h : H p = none) (hb : ∀ a, H a = none → H1 a = none) : Rk C .fe (p :: g) A G H1 (upd H p (.lst vs)) (.own xs) (.ref p) := by
  obtain ⟨r, nd, hg⟩ := r
  have pg : p ∉ g := fun m => (hg p m).2.1 h
  refine ⟨.own upd_same l (RsL.mono (fun _ _ q => q) (fun a z => ?_) (fun a o q n => ?_) _ _ _ (fun a m o q => ?_) r), List.nodup_cons.mpr ⟨pg, nd⟩, fun a m => ?_⟩
  · rcases z with z | z
    · exact .inl (.inl z)
    · rcases List.mem_cons.mp z with z | z
      · exact .inr (z ▸ h)
      · exact .inl (.inr z)
  · rw [upd_ne (ne_of_none q h)]; exact q
  · rw [upd_ne (ne_of_none q h)]; exact q
  · rcases List.mem_cons.mp m with e | m
    · subst e
      exact ⟨hb _ h, by rw [upd_same]; simp, fun z => I.trk _ (List.mem_append_left _ z) h⟩
    · refine ⟨(hg a m).1, ?_, (hg a m).2.2⟩
      rw [upd_ne (show a ≠ p from fun e => pg (by rw [← e]; exact m))]
      exact (hg a m).2.1
/-- a new list, one's own, of items of one's own -/
theorem EPost.own {p : Addr} {A' : List Addr} (e : Ext A H1 A' H) (I : Sim (C.pg .fe g) ρ S A' G σ H) (r : RkL C .fe g A' G H1 H xs vs) (l : vs.length ≤ sizeLine) (h : H p = none) : EPost C kd ρ A G σ H1 (.own xs) S (.ref p) (upd H p (.lst vs)) := by
  refine EPost.be ⟨A', p :: g, e.trans (Ext.upd h), ?_, Rk.newOwn I.pgw r l h fun a q => none_back e q⟩
  have J := Sim.newP (o := .lst vs) I h
  exact (show Sim (((C.pg .fe g).pr fun a => (C.pg .fe g).Pr a ∨ a = p).pr fun a => C.Pr a ∨ a ∈ p :: g) ρ S A' G σ _ from Sim.prc J fun a z => by
    rcases z with z | z
    · exact .inl (.inl z)
    · rcases List.mem_cons.mp z with z | z
      · exact .inr z
      · exact .inl (.inr z))
/-- .. of items that are no lists of one's own -/
theorem EPost.lst {p : Addr} (I : Sim C ρ S A G σ H) (r : RkL C .be g A G H1 H xs vs) (ho : xs.all noOwn = true) (l : vs.length ≤ sizeLine) (h : H p = none) : EPost C kd ρ A G σ H (.own xs) S (.ref p) (upd H p (.lst vs)) := by
  obtain ⟨r, _⟩ := r
  obtain rfl := RsL.noOwn r ho
  exact EPost.own Ext.refl I.pg0 ⟨RsL.mono (fun _ _ q => q) (fun a z => z.elim .inl fun m => by cases m) (fun a o q n => q) _ _ _ (fun a m => by cases m) r, List.nodup_nil, fun a m => by cases m⟩ l h
end

/-! ### arithmetic -/
def mulOk (i j : Int) : Bool := decide (i.natAbs.log2 + j.natAbs.log2 < 100000000)
def divOk (i j : Int) : Bool := decide (j ≠ 0) && !(Builtin.divisionGoesByPylong i j)
def gAdd (S : Sto) (x y : SV) : Option SV :=
  match x, y with
  | .d (.int i), .d (.int j) => some (.d (.int (i + j)))
  | .d (.str a), .d (.str b) => if a.length + b.length ≤ sizeLine then some (.d (.str (a ++ b))) else none
  | .d (.tuple xs), .d (.tuple ys) => if xs.length + ys.length ≤ sizeLine then some (.d (.tuple (xs ++ ys))) else none
  | x, y => (lst? S x).bind fun xs => (lst? S y).bind fun ys => if xs.all noOwn && ys.all noOwn && decide (xs.length + ys.length ≤ sizeLine) then some (.own (xs ++ ys)) else none
def gSub (_ : Sto) (x y : SV) : Option SV :=
  match x, y with
  | .d (.int i), .d (.int j) => some (.d (.int (i - j)))
  | _, _ => none
/-- within 63 bits (no wide literal behind a subtraction: the kernel counts it down) -/
def smI (i : Int) : Bool := decide (i.natAbs < 4611686018427387904)
theorem smI_lt {i : Int} (h : smI i = true) : -(2 ^ 63) ≤ i ∧ i < 2 ^ 63 := by
  have h := of_decide_eq_true h
  have e : (2 : Int) ^ 63 = 9223372036854775808 := by decide
  rw [e]
  omega
def gMul (S : Sto) (x y : SV) : Option SV :=
  match x, y with
  | .d (.int i), .d (.int j) => if mulOk i j then some (.d (.int (i * j))) else none
  | x, .d (.int k) => (lst? S x).bind fun xs => if xs.all noOwn && smI k && decide (xs.length * k.toNat ≤ sizeLine) then some (.own (List.replicate k.toNat xs).flatten) else none
  | _, _ => none
def gFdiv (_ : Sto) (x y : SV) : Option SV :=
  match x, y with
  | .d (.int i), .d (.int j) => if divOk i j then some (.d (.int (i.fdiv j))) else none
  | _, _ => none
def gMod (_ : Sto) (x y : SV) : Option SV :=
  match x, y with
  | .d (.int i), .d (.int j) => if j ≠ 0 then some (.d (.int (i.fmod j))) else none
  | _, _ => none
def gPow (_ : Sto) (x y : SV) : Option SV :=
  match x, y with
  | .d (.int i), .d (.int j) => if 0 ≤ j ∧ j ≤ 1000000 ∧ i.natAbs < 2 ^ 64 then some (.d (.int (i ^ j.toNat))) else none
  | _, _ => none
def gNeg (_ : Sto) (x : SV) : Option SV :=
  match x with
  | .d (.int i) => some (.d (.int (-i)))
  | _ => none
theorem mulOk.ok {i j : Int} (h : mulOk i j = true) : IntMulOk i j := by
  have b : ∀ x : Int, Builtin.Int.intBits x ≤ x.natAbs.log2 + 1 := fun x => by
    unfold Builtin.Int.intBits
    split <;> omega
  have h1 := b i
  have h2 := b j
  have h3 : i.natAbs.log2 + j.natAbs.log2 < 100000000 := of_decide_eq_true h
  have e : bitsLine = 134217728 := by decide
  unfold IntMulOk
  intro z
  rw [Bool.and_eq_true] at z
  have z2 := z.2
  unfold Builtin.Int.intTooBig at z2
  have z3 := of_decide_eq_true z2
  rw [e] at z3
  omega
section
variable {X : Cx} {C : Ct} {W : WX} {kd ka kb : Kd} {e a b c : Expr} {pos : Pos} {f fa fb fc : Rho → Mo SV}
abbrev rAddV (K : PySem.W.Frag) : R2 := fun x y H Q => rI0 (fun i j => .int (i + j)) x y H Q ∨ (∃ i j, x = .str i ∧ y = .str j ∧ i.length + j.length ≤ sizeLine ∧ Q (.str (i ++ j)) H) ∨ rCatA K x y H Q ∨ rCat x y H Q
theorem ok_add {K : PySem.W.Frag} : OpOk K ka kb kd gAdd (rAddV K) := by
  intro C ρ S A G σ H0 H1 H x y z v u gx gy Q hK I rx ry h q
  subst hK
  unfold gAdd at h
  split at h
  · rename_i i j
    cases h
    exact .inl ⟨i, j, rx.int, ry.int, q _ H (EPost.same I (Rk.dat (.int _)))⟩
  · rename_i a b
    split at h
    · rename_i hl
      cases h
      exact .inr (.inl ⟨a, b, rx.str, ry.str, hl, q _ H (EPost.same I (Rk.dat (.str _)))⟩)
    · cases h
  · rename_i xs ys
    split at h
    · rename_i hl
      cases h
      obtain ⟨a, vs, rfl, hs, l1, r1⟩ := rx.tup
      obtain ⟨b, us, rfl, ht, l2, r2⟩ := ry.tup
      have e1 := r1.length
      have e2 := r2.length
      refine .inr (.inr (.inl ⟨a, b, vs, us, rfl, rfl, hs, ht, by omega, fun e => ?_, fun _ e => ?_, fun _ _ p hp => q _ _ (EPost.tup I (r1.app r2) (by rw [List.length_append]; omega) hp)⟩))
      · have : xs = [] := List.eq_nil_of_length_eq_zero (by rw [← e1, e]; rfl)
        subst this
        exact q _ H (EPost.same I (Rk.fe_of ry rfl))
      · have : ys = [] := List.eq_nil_of_length_eq_zero (by rw [← e2, e]; rfl)
        subst this
        rw [List.append_nil] at q
        exact q _ H (EPost.same I (Rk.fe_of rx rfl))
    · cases h
  · simp only [Option.bind_eq_some_iff] at h
    obtain ⟨xs, hx, ys, hy, h⟩ := h
    split at h
    · rename_i hc
      cases h
      simp only [Bool.and_eq_true, decide_eq_true_eq] at hc
      obtain ⟨a, vs, ga, rfl, ha, l1, r1⟩ := rx.lst I hx
      obtain ⟨b, us, gb, rfl, hb, l2, r2⟩ := ry.lst I hy
      refine .inr (.inr (.inr ⟨a, b, vs, us, rfl, rfl, ha, hb, by rw [r1.len, r2.len]; exact hc.2, fun p hp => q _ _ (EPost.lst (g := ga ++ gb) (H1 := H) I ?_ ?_ ?_ hp)⟩))
      · exact (show RkL C .be (ga ++ gb) A G H H (xs ++ ys) (vs ++ us) from ⟨r1.1.app r2.1, fun a m => (List.mem_append.mp m).elim (r1.2 a) (r2.2 a)⟩)
      · rw [List.all_append, hc.1.1, hc.1.2]; rfl
      · rw [List.length_append, r1.len, r2.len]; exact hc.2
    · cases h
theorem op_addV : OpR X (binaryOp .Add) (rAddV X.K) := op_add.or (op_add_str.or (op_catA.or op_cat))
theorem v_add (hk : C.K = X.K) (ha : PE X a (tV C W ka fa)) (hb : PE X b (tV C W kb fb)) : PE X (.BinOp a .Add b pos) (tV C W kd (eBin gAdd fa fb)) := v_op op_addV (hk ▸ ok_add) ha hb
theorem v_sub (ha : PE X a (tV C W ka fa)) (hb : PE X b (tV C W kb fb)) : PE X (.BinOp a .Sub b pos) (tV C W kd (eBin gSub fa fb)) := v_op op_sub (fun C ρ S A G σ H0 H1 H x y z v u gx gy Q hK I rx ry h q => by
  unfold gSub at h
  split at h
  · rename_i i j
    cases h
    exact ⟨i, j, rx.int, ry.int, q _ H (EPost.same I (Rk.dat (.int _)))⟩
  · cases h) ha hb
theorem op_mulI : OpR X (binaryOp .Mult) (rI IntMulOk fun i j => .int (i * j)) := opI fun _ _ _ _ _ _ _ hc q => mul_int q hc
theorem RsL.rep {K : PySem.W.Frag} {mg : Str → Option Value} {H : Hp} {A : List Addr} {F : Addr → Prop} {xs : List SV} {vs : List V} (r : RsL K mg H A F xs vs []) : ∀ n : Nat, RsL K mg H A F (List.replicate n xs).flatten (List.replicate n vs).flatten []
  | 0 => .nil
  | n + 1 => by
    rw [List.replicate_succ, List.replicate_succ, List.flatten_cons, List.flatten_cons]
    exact r.app (RsL.rep r n)
theorem v_mul (ha : PE X a (tV C W ka fa)) (hb : PE X b (tV C W kb fb)) : PE X (.BinOp a .Mult b pos) (tV C W kd (eBin gMul fa fb)) := v_op (op_mulI.or op_rep) (fun C ρ S A G σ H0 H1 H x y z v u gx gy Q hK I rx ry h q => by
  unfold gMul at h
  split at h
  · rename_i i j
    split at h
    · rename_i hm
      cases h
      exact .inl ⟨i, j, rx.int, ry.int, mulOk.ok hm, q _ H (EPost.same I (Rk.dat (.int _)))⟩
    · cases h
  · rename_i k _
    simp only [Option.bind_eq_some_iff] at h
    obtain ⟨xs, hx, h⟩ := h
    split at h
    · rename_i hc
      cases h
      simp only [Bool.and_eq_true, decide_eq_true_eq] at hc
      obtain ⟨a, vs, ga, rfl, ha, l1, r1⟩ := rx.lst I hx
      have hl := r1.len
      refine .inr ⟨a, k, vs, rfl, ry.int, ha, (smI_lt hc.1.2).1, (smI_lt hc.1.2).2, by rw [hl]; exact hc.2, fun p hp => q _ _ ?_⟩
      obtain ⟨r1, n1⟩ := r1
      obtain rfl := r1.noOwn hc.1.1
      refine EPost.lst (g := []) (H1 := H) I ⟨r1.rep k.toNat, fun a m => by cases m⟩ ?_ ?_ hp
      · rw [List.all_flatten]
        simp only [List.all_eq_true, List.mem_replicate]
        rintro l ⟨_, rfl⟩
        intro y hy
        exact List.all_eq_true.mp hc.1.1 y hy
      · simp only [List.length_flatten, List.map_replicate, List.sum_replicate_nat]
        rw [Nat.mul_comm, hl]
        exact hc.2
    · cases h
  · cases h) ha hb
theorem op_fdivP : OpR X (binaryOp .FloorDiv) (rI (fun i j => j ≠ 0 ∧ Builtin.divisionGoesByPylong i j = false) fun i j => .int (i.fdiv j)) := opI fun _ _ _ _ _ _ _ hc q => floordiv_int hc.1 q (.inl hc.2)
theorem v_fdiv (ha : PE X a (tV C W ka fa)) (hb : PE X b (tV C W kb fb)) : PE X (.BinOp a .FloorDiv b pos) (tV C W kd (eBin gFdiv fa fb)) := v_op op_fdivP (fun C ρ S A G σ H0 H1 H x y z v u gx gy Q hK I rx ry h q => by
  unfold gFdiv at h
  split at h
  · rename_i i j
    split at h
    · rename_i hm
      cases h
      simp only [divOk, Bool.and_eq_true, decide_eq_true_eq, Bool.not_eq_true'] at hm
      exact ⟨i, j, rx.int, ry.int, hm, q _ H (EPost.same I (Rk.dat (.int _)))⟩
    · cases h
  · cases h) ha hb
theorem v_mod (ha : PE X a (tV C W ka fa)) (hb : PE X b (tV C W kb fb)) : PE X (.BinOp a .Mod b pos) (tV C W kd (eBin gMod fa fb)) := v_op op_modN (fun C ρ S A G σ H0 H1 H x y z v u gx gy Q hK I rx ry h q => by
  unfold gMod at h
  split at h
  · rename_i i j
    split at h
    · rename_i hm
      cases h
      exact ⟨i, j, rx.int, ry.int, hm, q _ H (EPost.same I (Rk.dat (.int _)))⟩
    · cases h
  · cases h) ha hb
theorem v_pow (ha : PE X a (tV C W ka fa)) (hb : PE X b (tV C W kb fb)) : PE X (.BinOp a .Pow b pos) (tV C W kd (eBin gPow fa fb)) := v_op op_pow (fun C ρ S A G σ H0 H1 H x y z v u gx gy Q hK I rx ry h q => by
  unfold gPow at h
  split at h
  · rename_i i j
    split at h
    · rename_i hm
      cases h
      exact ⟨i, j, rx.int, ry.int, hm, q _ H (EPost.same I (Rk.dat (.int _)))⟩
    · cases h
  · cases h) ha hb
theorem v_neg (ha : PE X a (tV C W ka fa)) : PE X (.UnaryOp .USub a pos) (tV C W kd (eUn gNeg fa)) := v_un un_neg (fun C ρ S A G σ H0 H x z v gx Q hK I rx h q => by
  unfold gNeg at h
  split at h
  · rename_i i
    cases h
    exact ⟨i, rx.int, q _ H (EPost.same I (Rk.dat (.int _)))⟩
  · cases h) ha

/-! ### comparisons -/
/-- a comparison by its answer -/
def cB (g : Sto → SV → SV → Option Bool) : Sto → SV → SV → Option SV := fun S x y => (g S x y).map fun b => .d (.bool b)
def CmpOk (K : PySem.W.Frag) (ka kb : Kd) (g : Sto → SV → SV → Option Bool) (r : R2) : Prop :=
  ∀ (C : Ct) (ρ : Rho) (S : Sto) (A : List Addr) (G : List (List Addr)) (σ : L2.St) (H0 H1 H : Hp) (x y : SV) (b : Bool) (v u : V) (gx gy : List Addr) (Q : VK), C.K = K → Sim C ρ S A G σ H → Rk C ka gx A G H0 H x v → Rk C kb gy A G H1 H y u → g S x y = some b →
    Q (.bl b) H → r v u H Q
theorem CmpOk.op {K : PySem.W.Frag} {ka kb kd : Kd} {g : Sto → SV → SV → Option Bool} {r : R2} (h : CmpOk K ka kb g r) : OpOk K ka kb kd (cB g) r := by
  intro C ρ S A G σ H0 H1 H x y z v u gx gy Q hK I rx ry e q
  unfold cB at e
  simp only [Option.map_eq_some_iff] at e
  obtain ⟨b, e, rfl⟩ := e
  exact h C ρ S A G σ H0 H1 H x y b v u gx gy Q hK I rx ry e (q _ H (EPost.same I (Rk.dat (.bl _))))
/-- an order of two ints, or of alike data -/
def gLt (_ : Sto) (x y : SV) : Option Bool :=
  match x, y with
  | .d (.int i), .d (.int j) => some (decide (i < j))
  | .d (.tuple xs), .d (.tuple ys) => if PySem.W.alike (.tuple xs) (.tuple ys) && SeqAt.shaped (.tuple xs) then some (PySem.W.dataLt (.tuple xs) (.tuple ys)) else none
  | _, _ => none
def gLe (_ : Sto) (x y : SV) : Option Bool :=
  match x, y with
  | .d (.int i), .d (.int j) => some (decide (i ≤ j))
  | _, _ => none
def gGt (_ : Sto) (x y : SV) : Option Bool :=
  match x, y with
  | .d (.int i), .d (.int j) => some (decide (j < i))
  | _, _ => none
def gGe (_ : Sto) (x y : SV) : Option Bool :=
  match x, y with
  | .d (.int i), .d (.int j) => some (decide (j ≤ i))
  | _, _ => none
def gEq (S : Sto) (x y : SV) : Option Bool := (dat? S x).bind fun d => (dat? S y).bind fun e => if SeqAt.shaped d && SeqAt.shaped e then some (PyData.eqv d e) else none
def gNe (S : Sto) (x y : SV) : Option Bool := (dat? S x).bind fun d => (dat? S y).bind fun e => if SeqAt.shaped d && SeqAt.shaped e then some (!PyData.eqv d e) else none
def isNone : SV → Bool
  | .d .none => true
  | _ => false
def gIsN (_ : Sto) (x y : SV) : Option Bool := if isNone y then some (isNone x) else none
def gNotN (_ : Sto) (x y : SV) : Option Bool := if isNone y then some (!isNone x) else none
def gIn (S : Sto) (x y : SV) : Option Bool := (dat? S x).bind fun d => (dat? S y).bind fun e => match e with
  | .list ds => if SeqAt.shaped d && SeqAt.shaped (.list ds) then some (ds.any fun z => PyData.eqv z d) else none
  | _ => none
def gNotIn (S : Sto) (x y : SV) : Option Bool := (dat? S x).bind fun d => (dat? S y).bind fun e => match e with
  | .list ds => if SeqAt.shaped d && SeqAt.shaped (.list ds) then some (!ds.any fun z => PyData.eqv z d) else none
  | _ => none
/-- a comparison as a value -/
theorem v_cmpB {X : Cx} {C : Ct} {W : WX} {kd ka kb : Kd} {a b : Expr} {pos : Pos} {fa fb : Rho → Mo SV} {op : CmpOp} {g : Sto → SV → SV → Option Bool} {r : R2} (ho : OpR X (compareOp op) r) (h : CmpOk C.K ka kb g r) (ha : PE X a (tV C W ka fa)) (hb : PE X b (tV C W kb fb)) (hm : behindInMarks op b = false) : PE X (.Compare a [op] [b] pos) (tV C W kd (eBin (cB g) fa fb)) := v_cmp ho h.op ha hb hm
/-- a < b of alike data -/
def rLtD (K : PySem.W.Frag) : R2 := fun x y H Q => ∃ d e, Dp K H x d ∧ Dp K H y e ∧ PySem.W.alike d e = true ∧ d ≠ .none ∧ SeqAt.shaped d = true ∧ Q (.bl (PySem.W.dataLt d e)) H
theorem op_ltD (hu : X.A.units + 64 < cLine) : OpR X (compareOp .Lt) (rLtD X.K) := by
  intro pins s σ H x y v u Q I rx ry h
  obtain ⟨d, e, hd, he, al, nn, sd, q⟩ := h
  obtain ⟨as, r1⟩ := Dp.reads I d x v hd rx
  obtain ⟨bs, r2⟩ := Dp.reads I e y u he ry
  exact PySem.W.rcLt_alike d e X.A s v u as bs r1 r2 al nn (SeqAt.room_of_shaped sd hu) _ _ _ _ ⟨.bl _, H, I, rfl, q⟩
theorem c_lt {K : PySem.W.Frag} : CmpOk K ka kb gLt (fun x y H Q => rI0 (fun i j => .bl (decide (i < j))) x y H Q ∨ rLtD K x y H Q) := (fun C ρ S A G σ H0 H1 H x y b v u gx gy Q hK I rx ry h q => by
  subst hK
  unfold gLt at h
  split at h
  · rename_i i j
    cases h
    exact .inl ⟨i, j, rx.int, ry.int, q⟩
  · split at h
    · rename_i hc
      cases h
      simp only [Bool.and_eq_true] at hc
      exact .inr ⟨_, _, Dq.dp _ _ rx.undat, Dq.dp _ _ ry.undat, hc.1, (by intro z; cases z), hc.2, q⟩
    · cases h
  · cases h)
theorem v_lt (hk : C.K = X.K) (hu : X.A.units + 64 < cLine) (ha : PE X a (tV C W ka fa)) (hb : PE X b (tV C W kb fb)) : PE X (.Compare a [.Lt] [b] pos) (tV C W kd (eBin (cB gLt) fa fb)) := v_cmpB (op_lt.or (op_ltD hu)) (hk ▸ c_lt) ha hb (nomark _)
theorem c_le {K : PySem.W.Frag} : CmpOk K ka kb gLe (rI0 fun i j => .bl (decide (i ≤ j))) := (fun C ρ S A G σ H0 H1 H x y b v u gx gy Q hK I rx ry h q => by
  subst hK
  unfold gLe at h
  split at h
  · rename_i i j
    cases h
    exact ⟨i, j, rx.int, ry.int, q⟩
  · cases h)
theorem v_le (ha : PE X a (tV C W ka fa)) (hb : PE X b (tV C W kb fb)) : PE X (.Compare a [.LtE] [b] pos) (tV C W kd (eBin (cB gLe) fa fb)) := v_cmpB (op_le) (c_le (K := C.K)) ha hb (nomark _)
theorem c_gt {K : PySem.W.Frag} : CmpOk K ka kb gGt (rI0 fun i j => .bl (decide (j < i))) := (fun C ρ S A G σ H0 H1 H x y b v u gx gy Q hK I rx ry h q => by
  subst hK
  unfold gGt at h
  split at h
  · rename_i i j
    cases h
    exact ⟨i, j, rx.int, ry.int, q⟩
  · cases h)
theorem v_gt (ha : PE X a (tV C W ka fa)) (hb : PE X b (tV C W kb fb)) : PE X (.Compare a [.Gt] [b] pos) (tV C W kd (eBin (cB gGt) fa fb)) := v_cmpB (op_gt) (c_gt (K := C.K)) ha hb (nomark _)
theorem c_ge {K : PySem.W.Frag} : CmpOk K ka kb gGe (rI0 fun i j => .bl (decide (j ≤ i))) := (fun C ρ S A G σ H0 H1 H x y b v u gx gy Q hK I rx ry h q => by
  subst hK
  unfold gGe at h
  split at h
  · rename_i i j
    cases h
    exact ⟨i, j, rx.int, ry.int, q⟩
  · cases h)
theorem v_ge (ha : PE X a (tV C W ka fa)) (hb : PE X b (tV C W kb fb)) : PE X (.Compare a [.GtE] [b] pos) (tV C W kd (eBin (cB gGe) fa fb)) := v_cmpB (op_ge) (c_ge (K := C.K)) ha hb (nomark _)
theorem c_eq {K : PySem.W.Frag} : CmpOk K ka kb gEq (rEqD K) := (fun C ρ S A G σ H0 H1 H x y b v u gx gy Q hK I rx ry h q => by
  subst hK
  unfold gEq at h
  simp only [Option.bind_eq_some_iff] at h
  obtain ⟨d, hd, e, he, h⟩ := h
  split at h
  · rename_i hc
    cases h
    simp only [Bool.and_eq_true] at hc
    exact ⟨d, e, rx.dp I hd, ry.dp I he, hc.1, hc.2, q⟩
  · cases h)
theorem v_eq (hk : C.K = X.K) (hu : X.A.units + 64 < cLine) (ha : PE X a (tV C W ka fa)) (hb : PE X b (tV C W kb fb)) : PE X (.Compare a [.Eq] [b] pos) (tV C W kd (eBin (cB gEq) fa fb)) := v_cmpB (op_eqD hu) (hk ▸ c_eq) ha hb (nomark _)
theorem c_ne {K : PySem.W.Frag} : CmpOk K ka kb gNe (rNeD K) := (fun C ρ S A G σ H0 H1 H x y b v u gx gy Q hK I rx ry h q => by
  subst hK
  unfold gNe at h
  simp only [Option.bind_eq_some_iff] at h
  obtain ⟨d, hd, e, he, h⟩ := h
  split at h
  · rename_i hc
    cases h
    simp only [Bool.and_eq_true] at hc
    exact ⟨d, e, rx.dp I hd, ry.dp I he, hc.1, hc.2, q⟩
  · cases h)
theorem v_ne (hk : C.K = X.K) (hu : X.A.units + 64 < cLine) (ha : PE X a (tV C W ka fa)) (hb : PE X b (tV C W kb fb)) : PE X (.Compare a [.NotEq] [b] pos) (tV C W kd (eBin (cB gNe) fa fb)) := v_cmpB (op_neD hu) (hk ▸ c_ne) ha hb (nomark _)
theorem Rk.isNone {g A : List Addr} {G : List (List Addr)} {H H' : Hp} {x : SV} {v : V} (r : Rk C kd g A G H H' x v) : decide (v = .non) = VL.isNone x := by
  obtain ⟨r1, _⟩ := r.asBe
  cases r1 with
  | d r2 => cases r2 <;> simp [VL.isNone]
  | _ => simp [VL.isNone]
theorem isNone_of {x : SV} (h : isNone x = true) : x = .d .none := by
  unfold isNone at h
  split at h
  · rfl
  · cases h
theorem c_isN {K : PySem.W.Frag} : CmpOk K ka kb gIsN (fun x y H Q => y = .non ∧ Q (.bl (decide (x = .non))) H) := (fun C ρ S A G σ H0 H1 H x y b v u gx gy Q hK I rx ry h q => by
  subst hK
  unfold gIsN at h
  split at h
  · rename_i hn
    cases h
    obtain rfl := isNone_of hn
    refine ⟨ry.non, ?_⟩
    rw [rx.isNone]
    exact q
  · cases h)
theorem v_isN (ha : PE X a (tV C W ka fa)) (hb : PE X b (tV C W kb fb)) : PE X (.Compare a [.Is] [b] pos) (tV C W kd (eBin (cB gIsN) fa fb)) := v_cmpB (op_isN) (c_isN (K := C.K)) ha hb (nomark _)
theorem c_notN {K : PySem.W.Frag} : CmpOk K ka kb gNotN (fun x y H Q => y = .non ∧ Q (.bl (!decide (x = .non))) H) := (fun C ρ S A G σ H0 H1 H x y b v u gx gy Q hK I rx ry h q => by
  subst hK
  unfold gNotN at h
  split at h
  · rename_i hn
    cases h
    obtain rfl := isNone_of hn
    refine ⟨ry.non, ?_⟩
    rw [rx.isNone]
    exact q
  · cases h)
theorem v_notN (ha : PE X a (tV C W ka fa)) (hb : PE X b (tV C W kb fb)) : PE X (.Compare a [.IsNot] [b] pos) (tV C W kd (eBin (cB gNotN) fa fb)) := v_cmpB (op_notN) (c_notN (K := C.K)) ha hb (nomark _)
theorem c_in {K : PySem.W.Frag} : CmpOk K ka kb gIn (rInD K) := (fun C ρ S A G σ H0 H1 H x y b v u gx gy Q hK I rx ry h q => by
  subst hK
  unfold gIn at h
  simp only [Option.bind_eq_some_iff] at h
  obtain ⟨d, hd, e, he, h⟩ := h
  split at h
  · split at h
    · rename_i hc
      cases h
      simp only [Bool.and_eq_true] at hc
      exact ⟨d, _, rx.dp I hd, ry.dp I he, hc.1, hc.2, q⟩
    · cases h
  · cases h)
theorem v_in (hk : C.K = X.K) (hu : X.A.units + 65 < cLine) (ha : PE X a (tV C W ka fa)) (hb : PE X b (tV C W kb fb)) (hm : behindInMarks .In b = false) : PE X (.Compare a [.In] [b] pos) (tV C W kd (eBin (cB gIn) fa fb)) := v_cmpB (op_inD hu) (hk ▸ c_in) ha hb hm
theorem c_notIn {K : PySem.W.Frag} : CmpOk K ka kb gNotIn (rNotInD K) := (fun C ρ S A G σ H0 H1 H x y b v u gx gy Q hK I rx ry h q => by
  subst hK
  unfold gNotIn at h
  simp only [Option.bind_eq_some_iff] at h
  obtain ⟨d, hd, e, he, h⟩ := h
  split at h
  · split at h
    · rename_i hc
      cases h
      simp only [Bool.and_eq_true] at hc
      exact ⟨d, _, rx.dp I hd, ry.dp I he, hc.1, hc.2, q⟩
    · cases h
  · cases h)
theorem v_notIn (hk : C.K = X.K) (hu : X.A.units + 65 < cLine) (ha : PE X a (tV C W ka fa)) (hb : PE X b (tV C W kb fb)) (hm : behindInMarks .NotIn b = false) : PE X (.Compare a [.NotIn] [b] pos) (tV C W kd (eBin (cB gNotIn) fa fb)) := v_cmpB (op_notInD hu) (hk ▸ c_notIn) ha hb hm
end
end VL

end
section
set_option Elab.async false
set_option linter.all false
set_option maxRecDepth 100000
/-! VL4: tests, and, or, if; subscripts and slices; displays; argument lists; calls of built-ins. -/
namespace VL
open PySem PySem.Spec PyProof.Rows L2

/-! ### tests -/
def truth (S : Sto) (x : SV) : Option Bool :=
  match x with
  | .d .none => some false
  | .d (.bool b) => some b
  | .d (.int i) => some (i != 0)
  | x => (seq? S x).map fun xs => !xs.isEmpty
def bVal (f : Rho → Mo SV) : Rho → Mo Bool := fun ρ S => bindM (f ρ S) fun x S1 => (truth S1 x).map fun b => .ok b S1
def bAnd (f g : Rho → Mo Bool) : Rho → Mo Bool := fun ρ S => bindM (f ρ S) fun b S1 => if b then g ρ S1 else some (.ok false S1)
def bOr (f g : Rho → Mo Bool) : Rho → Mo Bool := fun ρ S => bindM (f ρ S) fun b S1 => if b then some (.ok true S1) else g ρ S1
def bNot (f : Rho → Mo Bool) : Rho → Mo Bool := fun ρ S => bindM (f ρ S) fun b S1 => some (.ok (!b) S1)
/-- as values (all but the last a bool) -/
def eAnd (f g : Rho → Mo SV) : Rho → Mo SV := fun ρ S => bindM (f ρ S) fun x S1 => match x with
  | .d (.bool b) => if b then g ρ S1 else some (.ok (.d (.bool false)) S1)
  | _ => none
def eOr (f g : Rho → Mo SV) : Rho → Mo SV := fun ρ S => bindM (f ρ S) fun x S1 => match x with
  | .d (.bool b) => if b then some (.ok (.d (.bool true)) S1) else g ρ S1
  | _ => none
def eNot (f : Rho → Mo SV) : Rho → Mo SV := fun ρ S => bindM (f ρ S) fun x S1 => match x with
  | .d (.bool b) => some (.ok (.d (.bool (!b))) S1)
  | _ => none
def eIf (c : Rho → Mo Bool) (f g : Rho → Mo SV) : Rho → Mo SV := fun ρ S => bindM (c ρ S) fun b S1 => if b then f ρ S1 else g ρ S1

section
variable {X : Cx} {C : Ct} {W : WX} {kd ka kb kc : Kd} {e a b c : Expr} {pos : Pos} {rest : List Expr} {f fa fb fc : Rho → Mo SV} {p q r : Rho → Mo Bool}
theorem Rk.truth {g : List Addr} {ρ : Rho} {S : Sto} {A : List Addr} {G : List (List Addr)} {σ : L2.St} {H0 H : Hp} {x : SV} {v : V} {k : Bool} (I : Sim C ρ S A G σ H) (rx : Rk C ka g A G H0 H x v) (h : VL.truth S x = some k) : TruV C.K v H k := by
  unfold VL.truth at h
  split at h
  · cases h; rw [rx.non]; rfl
  · cases h; rw [rx.bl]; rfl
  · cases h; rw [rx.int]; rfl
  · simp only [Option.map_eq_some_iff] at h
    obtain ⟨xs, h, rfl⟩ := h
    obtain ⟨a, vs, g', rfl, hs, l, r⟩ := rx.seq I h
    have e : xs.isEmpty = vs.isEmpty := by
      have := r.len
      cases xs <;> cases vs <;> simp_all
    rw [e]
    rcases hs with hs | hs
    · exact .inl ⟨_, hs, rfl⟩
    · exact .inr (.inl ⟨_, hs, rfl⟩)
theorem b_val (hk : C.K = X.K) (ha : PE X e (tV C W ka f)) (he : ∀ whole, isTrue e X.env whole = (do let v ← whole; standAt e.pos; holding [v] (truthy v)) := by intro _; rfl) : PT X e (tTs C W (bVal f)) := by
  refine pt_imp (pt_truth ha he) fun σ H Q ⟨P, ρ, S, A, G, hP, I, q⟩ => ⟨P, ρ, S, A, G, hP, I, EGood.step q (fun _ _ _ _ _ _ z => z) fun x S1 q v H1 p__ => ?_⟩
  obtain ⟨A1, g1, e1, J1, k1⟩ := p__
  have I1 := J1.pgw
  cases eg : truth S1 x with
  | none => rw [eg] at q; exact q.elim
  | some k =>
    rw [eg] at q
    exact ⟨k, hk ▸ (show TruV (C.pr P).K v H1 k from k1.truth I1 eg), q k H1 ⟨rfl, A1, e1, I1⟩⟩
def bB (f : Rho → Mo SV) : Rho → Mo Bool := fun ρ S => bindM (f ρ S) fun x S1 => match x with
  | .d (.bool b) => some (.ok b S1)
  | _ => none
theorem tV_test (ta : TE) (h : ∀ σ H Q, tV C W kd f σ H Q → ta σ H Q) : ∀ σ H Q, tTs C W (bB f) σ H Q → tTest ta σ H Q := by
  intro σ H Q ⟨P, ρ, S, A, G, hP, I, q⟩
  refine h σ H _ ⟨P, ρ, S, A, G, hP, I, EGood.step q (fun _ _ _ _ _ _ z => z) fun x S1 q v H1 p__ => ?_⟩
  obtain ⟨A1, g1, e1, J1, k1⟩ := p__
  have I1 := J1.pgw
  split at q
  · rename_i b
    exact ⟨b, k1.bl, q b H1 ⟨rfl, A1, e1, I1⟩⟩
  · exact q.elim
/-- a comparison as a test, by its operation -/
theorem t_cmp {op : CmpOp} {g : Sto → SV → SV → Option Bool} {r : R2} (ho : OpR X (compareOp op) r) (h : CmpOk C.K ka kb g r) (ha : PE X a (tV C W ka fa)) (hb : PE X b (tV C W kb fb)) (hm : behindInMarks op b = false) : PT X (.Compare a [op] [b] pos) (tTs C W (bB (eBin (cB g) fa fb))) :=
  pt_imp (pt_cmpR ho ha hb hm) (tV_test (kd := .fe) _ (tV_two h.op))
theorem b_and1 (h : PT X a (tTs C W p)) : PW X (.BoolOp .And [a] pos) (tTs C W p) := pw_and1 h
theorem b_or1 (h : PT X a (tTs C W p)) : PW X (.BoolOp .Or [a] pos) (tTs C W p) := pw_or1 h
theorem b_and (ha : PT X a (tTs C W p)) (hb : PW X (.BoolOp .And (b :: rest) pos) (tTs C W q)) : PW X (.BoolOp .And (a :: b :: rest) pos) (tTs C W (bAnd p q)) := by
  refine pw_imp (pw_and ha hb) fun σ H Q ⟨P, ρ, S, A, G, hP, I, h⟩ => ⟨P, ρ, S, A, G, hP, I, EGood.step h (fun _ _ _ _ _ _ z => z) fun k S1 h v H1 ⟨ev, A1, e1, I1⟩ => ?_⟩
  subst ev
  cases v with
  | true => exact ⟨P, ρ, S1, A1, G, hP, I1, EGood.post h (fun _ _ _ _ z => z.trans e1) fun _ _ _ _ _ _ z => z.trans e1⟩
  | false => exact h _ _ ⟨rfl, A1, e1, I1⟩
theorem b_or (ha : PT X a (tTs C W p)) (hb : PW X (.BoolOp .Or (b :: rest) pos) (tTs C W q)) : PW X (.BoolOp .Or (a :: b :: rest) pos) (tTs C W (bOr p q)) := by
  refine pw_imp (pw_or ha hb) fun σ H Q ⟨P, ρ, S, A, G, hP, I, h⟩ => ⟨P, ρ, S, A, G, hP, I, EGood.step h (fun _ _ _ _ _ _ z => z) fun k S1 h v H1 ⟨ev, A1, e1, I1⟩ => ?_⟩
  subst ev
  cases v with
  | false => exact ⟨P, ρ, S1, A1, G, hP, I1, EGood.post h (fun _ _ _ _ z => z.trans e1) fun _ _ _ _ _ _ z => z.trans e1⟩
  | true => exact h _ _ ⟨rfl, A1, e1, I1⟩
theorem b_not (ha : PT X a (tTs C W p)) : PT X (.UnaryOp .Not a pos) (tTs C W (bNot p)) := by
  refine pt_imp (pt_not ha) fun σ H Q ⟨P, ρ, S, A, G, hP, I, h⟩ => ⟨P, ρ, S, A, G, hP, I, EGood.step h (fun _ _ _ _ _ _ z => z) fun k S1 h v H1 ⟨ev, A1, e1, I1⟩ => ?_⟩
  subst ev
  exact h _ _ ⟨rfl, A1, e1, I1⟩
theorem v_one {op} (h : PE X a (tV C W kd f)) : PE X (.BoolOp op [a] pos) (tV C W kd f) := pe_one h
theorem v_and (ha : PE X a (tV C W ka fa)) (hb : PE X (.BoolOp .And (b :: rest) pos) (tV C W kd fb)) : PE X (.BoolOp .And (a :: b :: rest) pos) (tV C W kd (eAnd fa fb)) := by
  refine pe_imp (pe_and ha hb) fun σ H Q ⟨P, ρ, S, A, G, hP, I, h⟩ => ⟨P, ρ, S, A, G, hP, I, EGood.step h (fun _ _ _ _ _ _ z => z) fun x S1 h v H1 p__ => ?_⟩
  obtain ⟨A1, g1, e1, J1, k1⟩ := p__
  have I1 := J1.pgw
  split at h
  · rename_i k
    refine ⟨k, k1.bl, ?_⟩
    cases k with
    | true => exact ⟨P, ρ, S1, A1, G, hP, I1, EGood.post h (fun _ _ _ _ z => z.trans e1) fun _ _ _ _ _ _ z => z.trans e1⟩
    | false => exact h _ _ ⟨A1, [], e1, I1.pg0, Rk.dat (.bl _)⟩
  · exact h.elim
theorem v_or (ha : PE X a (tV C W ka fa)) (hb : PE X (.BoolOp .Or (b :: rest) pos) (tV C W kd fb)) : PE X (.BoolOp .Or (a :: b :: rest) pos) (tV C W kd (eOr fa fb)) := by
  refine pe_imp (pe_or ha hb) fun σ H Q ⟨P, ρ, S, A, G, hP, I, h⟩ => ⟨P, ρ, S, A, G, hP, I, EGood.step h (fun _ _ _ _ _ _ z => z) fun x S1 h v H1 p__ => ?_⟩
  obtain ⟨A1, g1, e1, J1, k1⟩ := p__
  have I1 := J1.pgw
  split at h
  · rename_i k
    refine ⟨k, k1.bl, ?_⟩
    cases k with
    | false => exact ⟨P, ρ, S1, A1, G, hP, I1, EGood.post h (fun _ _ _ _ z => z.trans e1) fun _ _ _ _ _ _ z => z.trans e1⟩
    | true => exact h _ _ ⟨A1, [], e1, I1.pg0, Rk.dat (.bl _)⟩
  · exact h.elim
theorem v_not (ha : PE X a (tV C W ka fa)) : PE X (.UnaryOp .Not a pos) (tV C W kd (eNot fa)) := by
  refine pe_imp (pe_not ha) fun σ H Q ⟨P, ρ, S, A, G, hP, I, h⟩ => ⟨P, ρ, S, A, G, hP, I, EGood.step h (fun _ _ _ _ _ _ z => z) fun x S1 h v H1 p__ => ?_⟩
  obtain ⟨A1, g1, e1, J1, k1⟩ := p__
  have I1 := J1.pgw
  split at h
  · rename_i k
    exact ⟨k, k1.bl, h _ _ ⟨A1, [], e1, I1.pg0, Rk.dat (.bl _)⟩⟩
  · exact h.elim
theorem v_if (hc : PT X c (tTs C W p)) (ha : PE X a (tV C W kd fa)) (hb : PE X b (tV C W kd fb)) : PE X (.IfExp c a b pos) (tV C W kd (eIf p fa fb)) := by
  refine pe_imp (pe_ifExp hc ha hb) fun σ H Q ⟨P, ρ, S, A, G, hP, I, h⟩ => ⟨P, ρ, S, A, G, hP, I, EGood.step h (fun _ _ _ _ _ _ z => z) fun k S1 h v H1 ⟨ev, A1, e1, I1⟩ => ?_⟩
  subst ev
  cases v with
  | true => exact ⟨P, ρ, S1, A1, G, hP, I1, EGood.post h (fun _ _ _ _ z => z.trans e1) fun _ _ _ _ _ _ z => z.trans e1⟩
  | false => exact ⟨P, ρ, S1, A1, G, hP, I1, EGood.post h (fun _ _ _ _ z => z.trans e1) fun _ _ _ _ _ _ z => z.trans e1⟩
/-- a chain of two comparisons -/
def eChain (g g' : Sto → SV → SV → Option Bool) (fa fb fc : Rho → Mo SV) : Rho → Mo SV := fun ρ S => bindM (fa ρ S) fun x S1 => bindM (fb ρ S1) fun y S2 => match g S2 x y with
  | some true => bindM (fc ρ S2) fun z S3 => (g' S3 y z).map fun w => .ok (.d (.bool w)) S3
  | some false => some (.ok (.d (.bool false)) S2)
  | none => none
theorem tV_chain {g g' : Sto → SV → SV → Option Bool} {r r' : R2} (h : CmpOk C.K ka kb g r) (h' : CmpOk C.K kb kc g' r') : ∀ σ H Q, tV C W kd (eChain g g' fa fb fc) σ H Q → tChain r r' (tV C W ka fa) (tV C W kb fb) (tV C W kc fc) σ H Q := by
  intro σ H Q ⟨P, ρ, S, A, G, hP, I, q⟩
  refine ⟨P, ρ, S, A, G, hP, I, EGood.step q (fun _ _ _ _ _ _ z => z) fun x S1 q v H1 p => ?_⟩
  obtain ⟨A1, g1, P1, e1, hP1, I1, k1, _⟩ := p.next
  refine ⟨P1, ρ, S1, A1, G, fun a z => hP1 a (hP a z), I1, EGood.step q (fun _ _ _ _ _ _ z => z.trans e1) fun y S2 q u H2 p => ?_⟩
  obtain ⟨A2, g2, P2, e2, hP2, I2, k2, _⟩ := p.next
  have I2' : Sim (C.pr P) ρ S2 A2 G σ H2 := (show Sim ((C.pr P2).pr P) ρ S2 A2 G σ H2 from Sim.prc I2 fun a z => hP2 a (hP1 a z))
  have k2' := k2.prw hP1
  cases eg : g S2 x y with
  | none => rw [eg] at q; exact q.elim
  | some k =>
    rw [eg] at q
    refine h (C.pr P) ρ S2 A2 G σ H H1 H2 x y k v u g1 g2 _ rfl I2' (k1.ext e2) k2' eg ⟨k, rfl, ?_⟩
    cases k with
    | false => exact q _ _ ⟨A2, [], e1.trans e2, I2'.pg0, Rk.dat (.bl _)⟩
    | true =>
      refine ⟨P2, ρ, S2, A2, G, fun a z => hP2 a (hP1 a (hP a z)), I2, EGood.step q (fun _ _ _ _ _ _ z => z.trans (e1.trans e2)) fun z S4 q t4 H4 p => ?_⟩
      obtain ⟨A4, g4, e4, J4, k4⟩ := p
      have I4' : Sim (C.pr P) ρ S4 A4 G σ H4 := (show Sim ((C.pr P2).pr P) ρ S4 A4 G σ H4 from Sim.prc J4.pgw fun a z => hP2 a (hP1 a z))
      cases eg' : g' S4 y z with
      | none => rw [eg'] at q; exact q.elim
      | some w' =>
        rw [eg'] at q
        exact h' (C.pr P) ρ S4 A4 G σ H1 H2 H4 y z w' u t4 g2 g4 Q rfl I4' (k2'.ext e4) (k4.prw fun a z => hP2 a (hP1 a z)) eg' (q _ _ ⟨A4, [], e1.trans (e2.trans e4), I4'.pg0, Rk.dat (.bl _)⟩)
theorem v_chain {op op' : CmpOp} {g g' : Sto → SV → SV → Option Bool} {r r' : R2} (ho : OpR X (compareOp op) r) (ho' : OpR X (compareOp op') r') (h : CmpOk C.K ka kb g r) (h' : CmpOk C.K kb kc g' r') (ha : PE X a (tV C W ka fa)) (hb : PE X b (tV C W kb fb)) (hc : PE X c (tV C W kc fc))
    (hm : lastMarks [op, op'] [b, c] = false := by with_unfolding_all rfl) : PE X (.Compare a [op, op'] [b, c] pos) (tV C W kd (eChain g g' fa fb fc)) := pe_imp (pe_chain ho ho' ha hb hc hm) (tV_chain h h')
theorem t_chain {op op' : CmpOp} {g g' : Sto → SV → SV → Option Bool} {r r' : R2} (ho : OpR X (compareOp op) r) (ho' : OpR X (compareOp op') r') (h : CmpOk C.K ka kb g r) (h' : CmpOk C.K kb kc g' r') (ha : PE X a (tV C W ka fa)) (hb : PE X b (tV C W kb fb)) (hc : PE X c (tV C W kc fc))
    (hm : lastMarks [op, op'] [b, c] = false := by with_unfolding_all rfl) : PT X (.Compare a [op, op'] [b, c] pos) (tTs C W (bB (eChain g g' fa fb fc))) := pt_imp (pt_chain ho ho' ha hb hc hm) (tV_test (kd := .fe) _ (tV_chain h h'))
end

/-! ### subscripts -/
def ixL {α : Type} (xs : List α) (i : Int) : Option α := atI xs i
/-- an item; no list of one's own -/
def gIx (S : Sto) (x y : SV) : Option SV :=
  match x, y with
  | .d (.str z), .d (.int i) => if z.length ≤ sizeLine then (atI z.cps.toList i).map fun c => .d (.str ⟨#[c]⟩) else none
  | x, .d (.int i) => (seq? S x).bind fun xs => (atI xs i).bind fun z => if noOwn z then some z else none
  | _, _ => none
/-- an item that is looked at -/
def gIxB (S : Sto) (x y : SV) : Option SV :=
  match y with
  | .d (.int i) => (seq? S x).bind fun xs => atI xs i
  | _ => none
section
variable {X : Cx} {C : Ct} {W : WX} {kd ka kb : Kd} {e a b c : Expr} {pos : Pos} {f fa fb fc : Rho → Mo SV}
theorem RkL.at {g A : List Addr} {G : List (List Addr)} {H H1 : Hp} {xs : List SV} {vs : List V} {x : SV} {i : Int} (r : RkL C .be g A G H H1 xs vs) (h : atI xs i = some x) : ∃ v g', atI vs i = some v ∧ Rk C .be g' A G H H1 x v := by
  unfold atI at h ⊢
  rw [r.len]
  cases e : ixN xs.length i with
  | none => rw [e] at h; cases h
  | some j =>
    rw [e] at h
    exact r.get h
theorem ok_ix {K : PySem.W.Frag} : OpOk K ka kb kd gIx (rIx K) := by
  intro C ρ S A G σ H0 H1 H x y z v u gx gy Q hK I rx ry h q
  subst hK
  unfold gIx at h
  split at h
  · rename_i t i
    split at h
    · rename_i hl
      simp only [Option.map_eq_some_iff] at h
      obtain ⟨c, hc, rfl⟩ := h
      exact .inr (.inr ⟨t, i, c, rx.str, ry.int, hl, hc, q _ H (EPost.same I (Rk.dat (.str _)))⟩)
    · cases h
  · rename_i i _
    simp only [Option.bind_eq_some_iff] at h
    obtain ⟨xs, hx, w, hw, h⟩ := h
    split at h
    · rename_i hn
      cases h
      obtain ⟨a, vs, ga, rfl, hs, l, r⟩ := rx.seq I hx
      obtain ⟨t, gt, ht, rt⟩ := r.at hw
      have fin : Q t H := q _ H (EPost.same I (Rk.fe_of rt hn))
      rcases hs with hs | hs
      · exact .inl ⟨a, vs, i, t, rfl, ry.int, hs, ht, fin⟩
      · exact .inr (.inl ⟨a, vs, i, t, rfl, ry.int, hs, ht, fin⟩)
    · cases h
  · cases h
theorem ok_ixB {K : PySem.W.Frag} : OpOk K ka kb .be gIxB (rIx K) := by
  intro C ρ S A G σ H0 H1 H x y z v u gx gy Q hK I rx ry h q
  subst hK
  unfold gIxB at h
  split at h
  · rename_i i
    simp only [Option.bind_eq_some_iff] at h
    obtain ⟨xs, hx, hw⟩ := h
    obtain ⟨a, vs, ga, rfl, hs, l, r⟩ := rx.seq I hx
    obtain ⟨t, gt, ht, rt⟩ := r.at hw
    have fin : Q t H := q _ H ⟨A, gt, Ext.refl, I, rt⟩
    rcases hs with hs | hs
    · exact .inl ⟨a, vs, i, t, rfl, ry.int, hs, ht, fin⟩
    · exact .inr (.inl ⟨a, vs, i, t, rfl, ry.int, hs, ht, fin⟩)
  · cases h
theorem v_ix (hk : C.K = X.K) (ha : PE X a (tV C W ka fa)) (hb : PE X b (tV C W kb fb)) (hs : PlainIx b) : PE X (.Subscript a b pos) (tV C W kd (eBin gIx fa fb)) := pe_imp (pe_ix ix_seq ha hb hs) (tV_two (hk ▸ ok_ix))
theorem v_ixB (hk : C.K = X.K) (ha : PE X a (tV C W ka fa)) (hb : PE X b (tV C W kb fb)) (hs : PlainIx b) : PE X (.Subscript a b pos) (tV C W .be (eBin gIxB fa fb)) := pe_imp (pe_ix ix_seq ha hb hs) (tV_two (hk ▸ ok_ixB))
/-! slices -/
def cutL {α : Type} (xs : List α) (lo hi : Option Int) : List α := (xs.drop (HT.sIx xs.length 0 lo)).take (HT.sIx xs.length xs.length hi - HT.sIx xs.length 0 lo)
def pNone : Rho → Mo (Option Int) := fun _ S => some (.ok none S)
def pSome (f : Rho → Mo SV) : Rho → Mo (Option Int) := fun ρ S => bindM (f ρ S) fun x S1 => match x with
  | .d (.int i) => some (.ok (some i) S1)
  | _ => none
def OPost (C : Ct) (ρ : Rho) (A : List Addr) (G : List (List Addr)) (σ : L2.St) (H : Hp) (b : Option Int) (S' : Sto) (b' : Option Int) (H' : Hp) : Prop := b' = b ∧ ∃ A', Ext A H A' H' ∧ Sim C ρ S' A' G σ H'
def tO (C : Ct) (W : WX) (f : Rho → Mo (Option Int)) : TO := fun σ H Q => ∃ P ρ S A G, (∀ a, C.Pr a → P a) ∧ Sim (C.pr P) ρ S A G σ H ∧ EGood (OPost (C.pr P) ρ A G σ H) (XPost C ρ A G σ H) W σ Q (f ρ S)
theorem po_imp {e : Option Expr} {t t' : TO} (h : PO X e t) (i : ∀ σ H Q, t' σ H Q → t σ H Q) : PO X e t' := ⟨fun pins s σ H Q I q => h.run pins s σ H Q I (i σ H Q q)⟩
theorem o_none : PO X none (tO C W pNone) := po_imp po_none fun σ H Q ⟨P, ρ, S, A, G, hP, I, q⟩ => q none H ⟨rfl, A, Ext.refl, I⟩
theorem o_some (h : PE X e (tV C W ka f)) : PO X (some e) (tO C W (pSome f)) := by
  refine po_imp (po_some h) fun σ H Q ⟨P, ρ, S, A, G, hP, I, q⟩ => ⟨P, ρ, S, A, G, hP, I, EGood.step q (fun _ _ _ _ _ _ z => z) fun x S1 q v H1 p__ => ?_⟩
  obtain ⟨A1, g1, e1, J1, k1⟩ := p__
  have I1 := J1.pgw
  split at q
  · rename_i i
    exact ⟨i, k1.int, q _ H1 ⟨rfl, A1, e1, I1⟩⟩
  · exact q.elim
def gSl (S : Sto) (x : SV) (lo hi : Option Int) : Option SV :=
  match x with
  | .d (.tuple ds) => some (.d (.tuple (cutL ds lo hi)))
  | .d (.str z) => if z.length ≤ sizeLine then some (.d (.str (Txt.slice z lo hi))) else none
  | .scr ns => some (.own ((cutL ns lo hi).map fun n => .d (.int n)))
  | x => (lst? S x).bind fun xs => if xs.all noOwn then some (.own (cutL xs lo hi)) else none
def eSl (f : Rho → Mo SV) (lo hi : Rho → Mo (Option Int)) : Rho → Mo SV := fun ρ S => bindM (f ρ S) fun x S1 => bindM (lo ρ S1) fun l S2 => bindM (hi ρ S2) fun h S3 => (gSl S3 x l h).map fun z => .ok z S3
theorem cutL_length {α : Type} (xs : List α) (lo hi : Option Int) : (cutL xs lo hi).length ≤ xs.length := by
  unfold cutL
  rw [List.length_take, List.length_drop]
  omega
theorem DqL.cut {K : PySem.W.Frag} {H : Hp} {F : Addr → Prop} {ds : List PyData} {vs : List V} (r : DqL K H F ds vs) (lo hi : Option Int) : DqL K H F (cutL ds lo hi) (cutV vs lo hi) := by
  unfold cutL cutV
  rw [r.length]
  exact (r.drop _).take _
theorem RsL.drop {K : PySem.W.Frag} {mg : Str → Option Value} {H : Hp} {A : List Addr} {F : Addr → Prop} : ∀ {xs : List SV} {vs : List V} (n : Nat), RsL K mg H A F xs vs [] → RsL K mg H A F (xs.drop n) (vs.drop n) []
  | _, _, 0, r => r
  | [], _, n + 1, r => by cases r; exact .nil
  | x :: xs, _, n + 1, r => by
    generalize hg : ([] : List Addr) = g at r
    cases r with
    | cons r1 r2 =>
      have := List.append_eq_nil_iff.mp hg.symm
      obtain ⟨rfl, rfl⟩ := this
      exact RsL.drop n r2
theorem RsL.take {K : PySem.W.Frag} {mg : Str → Option Value} {H : Hp} {A : List Addr} {F : Addr → Prop} : ∀ {xs : List SV} {vs : List V} (n : Nat), RsL K mg H A F xs vs [] → RsL K mg H A F (xs.take n) (vs.take n) []
  | _, _, 0, r => .nil
  | [], _, n + 1, r => by cases r; exact .nil
  | x :: xs, _, n + 1, r => by
    generalize hg : ([] : List Addr) = g at r
    cases r with
    | cons r1 r2 =>
      have := List.append_eq_nil_iff.mp hg.symm
      obtain ⟨rfl, rfl⟩ := this
      exact .cons (g := []) (g' := []) r1 (RsL.take n r2)
theorem v_sl (hk : C.K = X.K) {lo hi : Option Expr} {p2 : Pos} {fl fh : Rho → Mo (Option Int)} (ha : PE X a (tV C W ka fa)) (hl : PO X lo (tO C W fl)) (hh : PO X hi (tO C W fh)) : PE X (.Subscript a (.Slice lo hi none p2) pos) (tV C W kd (eSl fa fl fh)) := by
  refine pe_imp (pe_slice (sl_tupA.or (sl_list.or C8.sl_txt)) ha hl hh) fun σ H Q ⟨P, ρ, S, A, G, hP, I, q⟩ => ⟨P, ρ, S, A, G, hP, I, EGood.step q (fun _ _ _ _ _ _ z => z) fun x S1 q v H1 p__ => ?_⟩
  obtain ⟨A1, g1, P1, e1, hP1, I1, k1, _⟩ := p__.next
  refine ⟨P1, ρ, S1, A1, G, fun a z => hP1 a (hP a z), I1, EGood.step q (fun _ _ _ _ _ _ z => z.trans e1) fun lo S2 q2 lo' H2 ⟨el, A2, e2, I2⟩ => ?_⟩
  subst el
  refine ⟨P1, ρ, S2, A2, G, fun a z => hP1 a (hP a z), I2, EGood.step q2 (fun _ _ _ _ _ _ z => z.trans (e1.trans e2)) fun hi S3 q3 hi' H3 ⟨eh, A3, e3, I3'⟩ => ?_⟩
  subst eh
  have I3 : Sim (C.pr P) ρ S3 A3 G σ H3 := (show Sim ((C.pr P1).pr P) ρ S3 A3 G σ H3 from Sim.prc I3' hP1)
  have rx := (k1.ext e2).ext e3
  clear q q2
  cases eg : gSl S3 x lo' hi' with
  | none => rw [eg] at q3; exact q3.elim
  | some z =>
    rw [eg] at q3
    have fin : ∀ w H', EPost (C.pr P) kd ρ A3 G σ H3 z S3 w H' → Q w H' := fun w H' p => q3 w H' (p.trans (e1.trans (e2.trans e3)))
    clear q3
    have lists : ∀ xs, lst? S3 x = some xs → xs.all noOwn = true → z = .own (cutL xs lo' hi') → ∃ a vs, v = .ref a ∧ SqL X.K H3 a vs ∧ ∀ p, H3 p = none → Q (.ref p) (upd H3 p (.lst (cutV vs lo' hi'))) := fun xs hx hn hz => by
      obtain ⟨a, vs, ga, rfl, e, l, r⟩ := rx.lst I3 hx
      refine ⟨a, vs, rfl, .of e, fun p hp => fin _ _ ?_⟩
      subst hz
      have hlen := r.len
      obtain ⟨r, _⟩ := r
      obtain rfl := r.noOwn hn
      refine EPost.lst (g := []) (H1 := H3) I3 ⟨?_, fun a m => by cases m⟩ ?_ (Nat.le_trans (cutV_length _ _ _) l) hp
      · unfold cutL cutV
        rw [hlen]
        exact (r.drop _).take _
      · refine List.all_eq_true.mpr fun y hy => List.all_eq_true.mp hn y ?_
        unfold cutL at hy
        exact List.mem_of_mem_drop (List.mem_of_mem_take hy)
    unfold gSl at eg
    split at eg
    · rename_i ds
      cases eg
      obtain ⟨a, vs, rfl, hs, l, r⟩ := rx.tup
      refine .inl ⟨a, vs, rfl, hk ▸ hs, fun hw => ?_, fun hw p hp => fin _ _ (EPost.tup I3 (r.cut _ _) (Nat.le_trans (cutV_length _ _ _) l) hp)⟩
      have e : cutL ds lo' hi' = ds := by
        unfold cutL
        rw [← r.length, hw.1, hw.2, List.drop_zero, Nat.sub_zero, r.length]
        exact List.take_length
      rw [e] at fin
      exact fin _ _ (EPost.same I3 (Rk.fe_of rx rfl))
    · rename_i t
      split at eg
      · rename_i hz
        cases eg
        exact .inr (.inr ⟨t, rx.str, hz, fin _ _ (EPost.same I3 (Rk.dat (.str _)))⟩)
      · cases eg
    · rename_i ns
      cases eg
      obtain ⟨r0, hg⟩ := rx.asBe
      cases r0 with
      | scr e n l =>
        refine .inr (.inl ⟨_, _, rfl, .inl (.inr ⟨_, e⟩), fun p hp => fin _ _ ?_⟩)
        have hc : cutV (ns.map V.int) lo' hi' = (cutL ns lo' hi').map V.int := by
          unfold cutV cutL
          rw [List.length_map, ← List.map_drop, ← List.map_take]
        rw [hc]
        refine EPost.lst (g := []) (H1 := H3) I3 ⟨?_, fun a m => by cases m⟩ (by simp [List.all_map, noOwn]) ?_ hp
        · have := RsL.ofD (K := C.K) (mg := C.mg) (A := A3) (DqL.ofInts (C := C) (H := H3) (F := Fs (C.pr P) A3 G) (cutL ns lo' hi'))
          rw [List.map_map] at this
          exact this
        · rw [List.length_map]
          exact Nat.le_trans (cutL_length _ _ _) l
      | scrK e l =>
        refine .inr (.inl ⟨_, _, rfl, hk ▸ SqL.const e H3, fun p hp => fin _ _ ?_⟩)
        have hc : cutV (ns.map V.int) lo' hi' = (cutL ns lo' hi').map V.int := by
          unfold cutV cutL
          rw [List.length_map, ← List.map_drop, ← List.map_take]
        rw [hc]
        refine EPost.lst (g := []) (H1 := H3) I3 ⟨?_, fun a m => by cases m⟩ (by simp [List.all_map, noOwn]) ?_ hp
        · have := RsL.ofD (K := C.K) (mg := C.mg) (A := A3) (DqL.ofInts (C := C) (H := H3) (F := Fs (C.pr P) A3 G) (cutL ns lo' hi'))
          rw [List.map_map] at this
          exact this
        · rw [List.length_map]
          exact Nat.le_trans (cutL_length _ _ _) l
    · simp only [Option.bind_eq_some_iff] at eg
      obtain ⟨xs, hx, eg⟩ := eg
      split at eg
      · rename_i hn
        cases eg
        exact .inr (.inl (lists xs hx hn rfl))
      · cases eg
end
end VL

end
section
set_option Elab.async false
set_option linter.all false
set_option maxRecDepth 100000
/-! VL5: displays, argument lists, calls of built-ins. -/
namespace VL
open PySem PySem.Spec PyProof.Rows L2

/-! ### from a list of one's own to data -/
mutual
def datO : SV → Option PyData
  | .d x => some x
  | .own xs => (datOs xs).map .list
  | .dic _ _ => none
  | .ref _ => none
  | .fn _ => none
  | .scr _ => none
def datOs : List SV → Option (List PyData)
  | [] => some []
  | x :: xs => (datO x).bind fun d => (datOs xs).map (d :: ·)
end
/-- what may be handed on for good -/
def frz (x : SV) : Option SV := if noOwn x then some x else (datO x).map .d
def frzs : List SV → Option (List SV)
  | [] => some []
  | x :: xs => (frz x).bind fun y => (frzs xs).map (y :: ·)
section
variable {K : PySem.W.Frag} {mg : Str → Option Value} {H : Hp} {A : List Addr} {F F1 : Addr → Prop}
mutual
theorem Rs.datO (hF : ∀ a, F a → F1 a) : ∀ (x : SV) (v : V) (g : List Addr) (d : PyData), Rs K mg H A F1 x v g → VL.datO x = some d → (∀ a ∈ g, ¬ F a) → Dq K H F d v
  | .d x, _, _, _, r, h, _ => by
    cases r with
    | d r =>
      simp only [VL.datO, Option.some.injEq] at h
      subst h
      exact Dq.mono (fun a z => .inl (hF a z)) (fun a o q n => q) _ _ r
  | .own xs, _, _, _, r, h, n => by
    cases r with
    | own e l r =>
      simp only [VL.datO, Option.map_eq_some_iff] at h
      obtain ⟨ds, h, rfl⟩ := h
      exact .lst e (n _ List.mem_cons_self) l (RsL.datO hF xs _ _ ds r h fun a m => n a (List.mem_cons_of_mem _ m))
  | .ref _, _, _, _, _, h, _ => by simp [VL.datO] at h
  | .dic _ _, _, _, _, _, h, _ => by simp [VL.datO] at h
  | .fn _, _, _, _, _, h, _ => by simp [VL.datO] at h
  | .scr _, _, _, _, _, h, _ => by simp [VL.datO] at h
theorem RsL.datO (hF : ∀ a, F a → F1 a) : ∀ (xs : List SV) (vs : List V) (g : List Addr) (ds : List PyData), RsL K mg H A F1 xs vs g → VL.datOs xs = some ds → (∀ a ∈ g, ¬ F a) → DqL K H F ds vs
  | [], _, _, _, r, h, _ => by
    cases r
    simp only [VL.datOs, Option.some.injEq] at h
    subst h
    exact .nil
  | x :: xs, _, _, _, r, h, n => by
    cases r with
    | cons r1 r2 =>
      simp only [VL.datOs, Option.bind_eq_some_iff, Option.map_eq_some_iff] at h
      obtain ⟨d, h1, ds, h2, rfl⟩ := h
      exact .cons (Rs.datO hF x _ _ d r1 h1 fun a m => n a (List.mem_append_left _ m)) (RsL.datO hF xs _ _ ds r2 h2 fun a m => n a (List.mem_append_right _ m))
end
end
section
variable {C : Ct} {kd ka kb : Kd} {ρ : Rho} {S : Sto} {A A' : List Addr} {G : List (List Addr)} {σ : L2.St} {H H0 H1 H2 : Hp} {x y z : SV} {v u w : V} {xs ys : List SV} {vs us : List V} {g : List Addr}
/-- what is one's own is neither the store's, nor a slot's, nor left alone by others -/
theorem fe_not (I : Sim (C.pg .fe g) ρ S A' G σ H) {a : Addr} (h : Rk C .fe g A' G H0 H x v) (m : a ∈ g) (hp : ∀ a ∈ g, ¬ C.Pr a) : ¬ Fs C A' G a := fun z => by
  have q : (C.pg .fe g).Pr a := .inr m
  have n := (I.prot a q).1
  rcases z with z | z | z
  · exact n (List.mem_append_left _ z)
  · exact n (List.mem_append_right _ z)
  · exact hp a m z
theorem RkL.datO {ds : List PyData} (r : RkL C .fe g A' G H0 H xs vs) (hg : ∀ a ∈ g, ¬ Fs C A' G a) (h : VL.datOs xs = some ds) : DqL C.K H (Fs C A' G) ds vs := RsL.datO (fun a z => .inl z) _ _ _ _ r.1 h hg
theorem Rk.datO {d : PyData} (r : Rk C .fe g A' G H0 H x v) (hg : ∀ a ∈ g, ¬ Fs C A' G a) (h : VL.datO x = some d) : Dq C.K H (Fs C A' G) d v := Rs.datO (fun a z => .inl z) _ _ _ _ r.1 h hg
theorem Rk.frz (r : Rk C .fe g A' G H0 H x v) (hg : ∀ a ∈ g, ¬ Fs C A' G a) (h : VL.frz x = some y) : Rs C.K C.mg H A' (Fs C A' G) y v [] := by
  unfold VL.frz at h
  split at h
  · rename_i hn
    cases h
    obtain ⟨r, nd, hg'⟩ := r
    obtain rfl := r.noOwn hn
    exact Rs.mono (fun _ _ q => q) (fun a z => .inl (.inl z)) (fun a o q n => q) _ _ _ (fun a m => by cases m) r
  · simp only [Option.map_eq_some_iff] at h
    obtain ⟨d, h, rfl⟩ := h
    exact .d (r.datO hg h)
theorem RkL.uncons (r : RkL C .fe g A G H0 H (x :: xs) vs) : ∃ v us g1 g2, vs = v :: us ∧ g = g1 ++ g2 ∧ Rk C .fe g1 A G H0 H x v ∧ RkL C .fe g2 A G H0 H xs us := by
  obtain ⟨r, nd, hg⟩ := r
  cases r with
  | cons r1 r2 =>
    rename_i v us g1 g2
    have n := List.nodup_append.mp nd
    refine ⟨v, us, g1, g2, rfl, rfl, ⟨?_, n.1, fun a m => hg a (List.mem_append_left _ m)⟩, ⟨?_, n.2.1, fun a m => hg a (List.mem_append_right _ m)⟩⟩
    · exact Rs.mono (fun _ _ q => q) (fun a z => z.elim (fun z => .inl (.inl z)) fun z => .inl (.inr (List.mem_append_left _ z))) (fun a o q n => q) _ _ _ (fun a m o q => q) r1
    · exact RsL.mono (fun _ _ q => q) (fun a z => z.elim (fun z => .inl (.inl z)) fun z => .inl (.inr (List.mem_append_right _ z))) (fun a o q n => q) _ _ _ (fun a m o q => q) r2
theorem RkL.frz (r : RkL C .fe g A' G H0 H xs vs) (hg : ∀ a ∈ g, ¬ Fs C A' G a) (h : VL.frzs xs = some ys) : RsL C.K C.mg H A' (Fs C A' G) ys vs [] := by
  induction xs generalizing vs ys g with
  | nil =>
    simp only [VL.frzs, Option.some.injEq] at h
    subst h
    obtain ⟨r, _⟩ := r
    cases r
    exact .nil
  | cons x xs ih =>
    simp only [VL.frzs, Option.bind_eq_some_iff, Option.map_eq_some_iff] at h
    obtain ⟨y, hy, zs, hz, rfl⟩ := h
    obtain ⟨v, us, g1, g2, rfl, rfl, r1, r2⟩ := r.uncons
    exact .cons (g := []) (g' := []) (r1.frz (fun a m => hg a (List.mem_append_left _ m)) hy) (ih r2 (fun a m => hg a (List.mem_append_right _ m)) hz)
end

/-! ### argument lists -/
def aNil : Rho → Mo (List SV) := fun _ S => some (.ok [] S)
def aCons (f : Rho → Mo SV) (g : Rho → Mo (List SV)) : Rho → Mo (List SV) := fun ρ S => bindM (f ρ S) fun x S1 => bindM (g ρ S1) fun xs S2 => some (.ok (x :: xs) S2)
section
variable {X : Cx} {C : Ct} {W : WX} {kd ka kb : Kd} {e a b c : Expr} {es : List Expr} {pos : Pos} {f fa fb : Rho → Mo SV} {fs : Rho → Mo (List SV)}
theorem a_nil : PA X [] (tVs C W kd aNil) := pa_imp pa_nil fun σ H Q ⟨P, ρ, S, A, G, hP, I, q⟩ => q [] H ⟨A, [], Ext.refl, I.pg0, by
  cases kd with
  | be => exact ⟨.nil, fun a m => by cases m⟩
  | fe => exact ⟨.nil, List.nodup_nil, fun a m => by cases m⟩⟩
theorem a_cons (ha : PE X e (tV C W kd f)) (hr : PA X es (tVs C W kd fs)) (hs : starEach (e :: es) X.env = (false, eval e X.env) :: starEach es X.env := by rfl) : PA X (e :: es) (tVs C W kd (aCons f fs)) := by
  refine pa_imp (pa_cons ha hr hs) fun σ H Q ⟨P, ρ, S, A, G, hP, I, q⟩ => ⟨P, ρ, S, A, G, hP, I, EGood.step q (fun _ _ _ _ _ _ z => z) fun x S1 q v H1 p => ?_⟩
  obtain ⟨A1, g1, e1, J1, k1⟩ := p
  cases kd with
  | be =>
    refine ⟨P, ρ, S1, A1, G, hP, J1, EGood.step q (fun _ _ _ _ _ _ z => z.trans e1) fun xs S2 q us H2 p => ?_⟩
    obtain ⟨A2, g2, e2, J2, k2⟩ := p
    have k1 := k1.ext e2
    exact q _ _ ⟨A2, g1 ++ g2, e1.trans e2, J2, .cons k1.1 k2.1, fun a m => (List.mem_append.mp m).elim (k1.2 a) (k2.2 a)⟩
  | fe =>
    refine ⟨fun a => P a ∨ a ∈ g1, ρ, S1, A1, G, fun a z => .inl (hP a z), J1, EGood.step q (fun _ _ _ _ _ _ z => z.trans e1) fun xs S2 q us H2 p => ?_⟩
    obtain ⟨A2, g2, e2, J2, k2⟩ := p
    have hF : ∀ a, (Fs (C.pr P) A2 G a ∨ a ∈ g1 ++ g2) ↔ (Fs (C.pr fun a => P a ∨ a ∈ g1) A2 G a ∨ a ∈ g2) := fun a => by
      constructor
      · rintro ((z | z | z) | z)
        · exact .inl (.inl z)
        · exact .inl (.inr (.inl z))
        · exact .inl (.inr (.inr (.inl z)))
        · exact (List.mem_append.mp z).elim (fun z => .inl (.inr (.inr (.inr z)))) .inr
      · rintro ((z | z | z | z) | z)
        · exact .inl (.inl z)
        · exact .inl (.inr (.inl z))
        · exact .inl (.inr (.inr z))
        · exact .inr (List.mem_append_left _ z)
        · exact .inr (List.mem_append_right _ z)
    refine q _ _ ⟨A2, g1 ++ g2, e1.trans e2, ?_, .cons ?_ ?_, ?_, ?_⟩
    · exact (show Sim (((C.pr fun a => P a ∨ a ∈ g1).pr fun a => (P a ∨ a ∈ g1) ∨ a ∈ g2).pr fun a => P a ∨ a ∈ g1 ++ g2) ρ S2 A2 G σ H2 from Sim.prc J2 fun a z => z.elim (fun z => .inl (.inl z)) fun z => (List.mem_append.mp z).elim (fun z => .inl (.inr z)) .inr)
    · refine Rs.mono (prefix_get e2.pre) (fun a z => ?_) (fun a o q n => e2.keep a o q fun z => n (.inl (.inl z))) _ _ _ (fun a m o q => e2.keep a o q (k1.2.2 a m).2.2) k1.1
      rcases z with z | z
      · rcases fs_ext e2 a z with z | z
        · exact .inl (.inl z)
        · exact .inr z
      · rcases List.mem_append.mp z with z | z
        · exact .inl (.inr z)
        · exact .inr (k2.2.2 a z).1
    · exact RsL.mono (fun _ _ q => q) (fun a z => .inl ((hF a).mp z)) (fun a o q n => q) _ _ _ (fun a m o q => q) k2.1
    · refine List.nodup_append.mpr ⟨k1.2.1, k2.2.1, fun a h b h' e => ?_⟩
      subst e
      exact (k1.2.2 a h).2.1 (k2.2.2 a h').1
    · intro a m
      rcases List.mem_append.mp m with m | m
      · refine ⟨(k1.2.2 a m).1, e2.there a (k1.2.2 a m).2.1, fun z => ?_⟩
        rcases e2.new a z with z | z
        · exact (k1.2.2 a m).2.2 z
        · exact (k1.2.2 a m).2.1 z
      · exact ⟨none_back e1 (k2.2.2 a m).1, (k2.2.2 a m).2⟩
/-- no new thing is the store's or a slot's -/
theorem new_not {P : Addr → Prop} {ρ : Rho} {S S1 : Sto} {A A1 : List Addr} {G : List (List Addr)} {σ : L2.St} {H H1 : Hp} {g : List Addr} (I : Sim (C.pr P) ρ S A G σ H) {xs : List SV} {vs : List V} (r : RkL (C.pr P) .fe g A1 G H H1 xs vs) : ∀ a ∈ g, ¬ Fs (C.pr P) A1 G a := fun a m z => by
  obtain ⟨h0, _, hA⟩ := r.2.2 a m
  rcases z with z | z | z
  · exact hA z
  · exact I.trk a (List.mem_append_right _ z) h0
  · exact I.prTrk z h0
theorem new_not1 {P : Addr → Prop} {ρ : Rho} {S S1 : Sto} {A A1 : List Addr} {G : List (List Addr)} {σ : L2.St} {H H1 : Hp} {g : List Addr} (I : Sim (C.pr P) ρ S A G σ H) {x : SV} {v : V} (r : Rk (C.pr P) .fe g A1 G H H1 x v) : ∀ a ∈ g, ¬ Fs (C.pr P) A1 G a := fun a m z => by
  obtain ⟨h0, _, hA⟩ := r.2.2 a m
  rcases z with z | z | z
  · exact hA z
  · exact I.trk a (List.mem_append_right _ z) h0
  · exact I.prTrk z h0
/-! ### displays -/
def eTup (fs : Rho → Mo (List SV)) : Rho → Mo SV := fun ρ S => bindM (fs ρ S) fun xs S1 => if xs.length ≤ sizeLine then (datOs xs).map fun ds => .ok (.d (.tuple ds)) S1 else none
def eLst (fs : Rho → Mo (List SV)) : Rho → Mo SV := fun ρ S => bindM (fs ρ S) fun xs S1 => if xs.length ≤ sizeLine then some (.ok (.own xs) S1) else none
theorem v_tup {x1} (h : PA X es (tVs C W .fe fs)) : PE X (.Tuple es x1 pos) (tV C W kd (eTup fs)) := by
  refine pe_imp (pe_tup h) fun σ H Q ⟨P, ρ, S, A, G, hP, I, q⟩ => ⟨P, ρ, S, A, G, hP, I, EGood.step q (fun _ _ _ _ _ _ z => z) fun xs S1 q vs H1 p => ?_⟩
  obtain ⟨A1, g1, e1, J1, k1⟩ := p
  split at q
  · rename_i hl
    cases ed : datOs xs with
    | none => rw [ed] at q; exact q.elim
    | some ds =>
      rw [ed] at q
      have r := k1.datO (new_not (S1 := S1) I k1) ed
      refine ⟨by rw [k1.len]; exact hl, fun p hp => q _ _ (EPost.trans e1 (EPost.tup J1.pgw r (by rw [k1.len]; exact hl) hp))⟩
  · exact q.elim
theorem v_lst (h : PA X es (tVs C W .fe fs)) : PE X (.List es pos) (tV C W kd (eLst fs)) := by
  refine pe_imp (pe_lst h) fun σ H Q ⟨P, ρ, S, A, G, hP, I, q⟩ => ⟨P, ρ, S, A, G, hP, I, EGood.step q (fun _ _ _ _ _ _ z => z) fun xs S1 q vs H1 p => ?_⟩
  obtain ⟨A1, g1, e1, J1, k1⟩ := p
  split at q
  · rename_i hl
    exact ⟨by rw [k1.len]; exact hl, fun p hp => q _ _ (EPost.own e1 J1 k1 (by rw [k1.len]; exact hl) hp)⟩
  · exact q.elim

/-! ### calls of built-ins by values -/
def eCal (g : Sto → List SV → Option SV) (fs : Rho → Mo (List SV)) : Rho → Mo SV := fun ρ S => bindM (fs ρ S) fun xs S1 => (g S1 xs).map fun z => .ok z S1
def CalOk (K : PySem.W.Frag) (ka kd : Kd) (g : Sto → List SV → Option SV) (r : List V → Hp → VK → Prop) : Prop :=
  ∀ (C : Ct) (ρ : Rho) (S : Sto) (A : List Addr) (G : List (List Addr)) (σ : L2.St) (H0 H : Hp) (xs : List SV) (z : SV) (vs : List V) (gx : List Addr) (Q : VK), C.K = K → Sim C ρ S A G σ H → RkL C ka gx A G H0 H xs vs → g S xs = some z →
    (∀ w H', EPost C kd ρ A G σ H z S w H' → Q w H') → r vs H Q
theorem tV_cal {g : Sto → List SV → Option SV} {r : List V → Hp → VK → Prop} (h : CalOk C.K ka kd g r) : ∀ σ H Q, tV C W kd (eCal g fs) σ H Q → tCB r (tVs C W ka fs) σ H Q := by
  intro σ H Q ⟨P, ρ, S, A, G, hP, I, q⟩
  refine ⟨P, ρ, S, A, G, hP, I, EGood.step q (fun _ _ _ _ _ _ z => z) fun xs S1 q vs H1 p => ?_⟩
  obtain ⟨A1, g1, e1, J1, k1⟩ := p
  cases eg : g S1 xs with
  | none => rw [eg] at q; exact q.elim
  | some z =>
    rw [eg] at q
    exact h (C.pr P) ρ S1 A1 G σ H H1 xs z vs g1 Q rfl J1.pgw k1 eg fun w H' p => q w H' (p.trans e1)
theorem v_calB {id : String} {x : Str} {p : Pos} {g : Sto → List SV → Option SV} {r : List V → Hp → VK → Prop} (hc : CallR X (.builtin id) r) (h : CalOk C.K ka kd g r) (hg : Gl X x) (hm : X.mg x = none) (hv : bootBuiltins x = some (.builtin id)) (ha : PA X (e :: es) (tVs C W ka fs)) (hn : x ≠ "__name__" := by decide) (hdb : (x == ("__debug__" : Str)) = false := by decide)
    (he : starEach (e :: es) X.env = (false, eval e X.env) :: starEach es X.env := by rfl) (hpl : (backTo pos (starEach es X.env)).any (·.1) = false := by rfl) : PE X (.Call (.Name x p) (e :: es) [] pos) (tV C W kd (eCal g fs)) := pe_imp (pe_callB hc hg hm hv ha hn hdb he hpl) (tV_cal h)
theorem v_calT {T : String} {x : Str} {p : Pos} {g : Sto → List SV → Option SV} {r : List V → Hp → VK → Prop} (hc : CallR X (.type T) r) (h : CalOk C.K ka kd g r) (hg : Gl X x) (hm : X.mg x = none) (hv : bootBuiltins x = some (.type T)) (ha : PA X (e :: es) (tVs C W ka fs)) (hn : x ≠ "__name__" := by decide) (hdb : (x == ("__debug__" : Str)) = false := by decide)
    (he : starEach (e :: es) X.env = (false, eval e X.env) :: starEach es X.env := by rfl) (hpl : (backTo pos (starEach es X.env)).any (·.1) = false := by rfl) : PE X (.Call (.Name x p) (e :: es) [] pos) (tV C W kd (eCal g fs)) := pe_imp (pe_callTy hc hg hm hv ha hn hdb he hpl) (tV_cal h)
end
section
variable {X : Cx} {C : Ct} {W : WX} {kd ka kb : Kd}
theorem RkL.one {g A : List Addr} {G : List (List Addr)} {H0 H : Hp} {x : SV} {vs : List V} (r : RkL C ka g A G H0 H [x] vs) : ∃ v, vs = [v] ∧ Rk C .be g A G H0 H x v := by
  have r : RkL C .be g A G H0 H [x] vs := by
    cases ka with
    | be => exact r
    | fe => exact r.be
  obtain ⟨r, hg⟩ := r
  cases r with
  | cons r1 r2 => cases r2; rw [List.append_nil] at hg ⊢; exact ⟨_, rfl, r1, hg⟩
theorem RkL.two {g A : List Addr} {G : List (List Addr)} {H0 H : Hp} {x y : SV} {vs : List V} (r : RkL C ka g A G H0 H [x, y] vs) : ∃ v u g1 g2, vs = [v, u] ∧ Rk C .be g1 A G H0 H x v ∧ Rk C .be g2 A G H0 H y u := by
  have r : RkL C .be g A G H0 H [x, y] vs := by
    cases ka with
    | be => exact r
    | fe => exact r.be
  obtain ⟨r, hg⟩ := r
  cases r with
  | cons r1 r2 =>
    cases r2 with
    | cons r2 r3 =>
      cases r3
      exact ⟨_, _, _, _, rfl, ⟨r1, fun a m => hg a (List.mem_append_left _ m)⟩, r2, fun a m => hg a (List.mem_append_right _ (List.mem_append_left _ m))⟩
/-- len -/
def gLen (S : Sto) (xs : List SV) : Option SV :=
  match xs with
  | [.d (.str z)] => if z.length ≤ sizeLine then some (.d (.int z.length)) else none
  | [x] => (seq? S x).map fun ys => .d (.int ys.length)
  | _ => none
theorem ok_len {K : PySem.W.Frag} : CalOk K ka kd gLen (fun xs H Q => ∃ x n, xs = [x] ∧ LenV K x H n ∧ Q (.int n) H) := by
  intro C ρ S A G σ H0 H xs z vs gx Q hK I r h q
  subst hK
  unfold gLen at h
  split at h
  · rename_i t
    split at h
    · rename_i hl
      cases h
      obtain ⟨v, rfl, r1⟩ := r.one
      exact ⟨v, _, rfl, by rw [r1.str]; exact ⟨hl, rfl⟩, q _ H (EPost.same I (Rk.dat (.int _)))⟩
    · cases h
  · rename_i x _
    simp only [Option.map_eq_some_iff] at h
    obtain ⟨ys, hy, rfl⟩ := h
    obtain ⟨v, rfl, r1⟩ := r.one
    obtain ⟨a, vs, ga, rfl, hs, l, r2⟩ := r1.seq I hy
    refine ⟨_, vs.length, rfl, ?_, by rw [r2.len]; exact q _ H (EPost.same I (Rk.dat (.int _)))⟩
    rcases hs with hs | hs
    · exact .inl ⟨_, hs, rfl⟩
    · exact .inr ⟨_, hs, rfl⟩
  · cases h
/-- abs of an int -/
def gAbs (_ : Sto) (xs : List SV) : Option SV :=
  match xs with
  | [.d (.int i)] => some (.d (.int (if i < 0 then -i else i)))
  | _ => none
theorem ok_abs {K : PySem.W.Frag} : CalOk K ka kd gAbs (fun xs H Q => ∃ i, xs = [.int i] ∧ Q (.int (if i < 0 then -i else i)) H) := by
  intro C ρ S A G σ H0 H xs z vs gx Q hK I r h q
  unfold gAbs at h
  split at h
  · cases h
    obtain ⟨v, rfl, r1⟩ := r.one
    exact ⟨_, by rw [r1.int], q _ H (EPost.same I (Rk.dat (.int _)))⟩
  · cases h
/-- max, min of two ints -/
def gMax2 (_ : Sto) (xs : List SV) : Option SV :=
  match xs with
  | [.d (.int i), .d (.int j)] => some (.d (.int (if j > i then j else i)))
  | _ => none
def gMin2 (_ : Sto) (xs : List SV) : Option SV :=
  match xs with
  | [.d (.int i), .d (.int j)] => some (.d (.int (if j < i then j else i)))
  | _ => none
theorem ok_max2 {K : PySem.W.Frag} : CalOk K ka kd gMax2 (fun xs H Q => ∃ i j, xs = [.int i, .int j] ∧ Q (.int (if j > i then j else i)) H) := by
  intro C ρ S A G σ H0 H xs z vs gx Q hK I r h q
  unfold gMax2 at h
  split at h
  · cases h
    obtain ⟨v, u, g1, g2, rfl, r1, r2⟩ := r.two
    exact ⟨_, _, by rw [r1.int, r2.int], q _ H (EPost.same I (Rk.dat (.int _)))⟩
  · cases h
theorem ok_min2 {K : PySem.W.Frag} : CalOk K ka kd gMin2 (fun xs H Q => ∃ i j, xs = [.int i, .int j] ∧ Q (.int (if j < i then j else i)) H) := by
  intro C ρ S A G σ H0 H xs z vs gx Q hK I r h q
  unfold gMin2 at h
  split at h
  · cases h
    obtain ⟨v, u, g1, g2, rfl, r1, r2⟩ := r.two
    exact ⟨_, _, by rw [r1.int, r2.int], q _ H (EPost.same I (Rk.dat (.int _)))⟩
  · cases h
/-- int of an int or a bool -/
def gInt (_ : Sto) (xs : List SV) : Option SV :=
  match xs with
  | [.d (.int i)] => some (.d (.int i))
  | [.d (.bool b)] => some (.d (.int (if b then 1 else 0)))
  | _ => none
theorem ok_int {K : PySem.W.Frag} : CalOk K ka kd gInt (fun xs H Q => (∃ i, xs = [.int i] ∧ Q (.int i) H) ∨ ∃ k, xs = [.bl k] ∧ Q (.int (if k then 1 else 0)) H) := by
  intro C ρ S A G σ H0 H xs z vs gx Q hK I r h q
  unfold gInt at h
  split at h
  · cases h
    obtain ⟨v, rfl, r1⟩ := r.one
    exact .inl ⟨_, by rw [r1.int], q _ H (EPost.same I (Rk.dat (.int _)))⟩
  · cases h
    obtain ⟨v, rfl, r1⟩ := r.one
    exact .inr ⟨_, by rw [r1.bl], q _ H (EPost.same I (Rk.dat (.int _)))⟩
  · cases h
/-- list(x): a new list -/
def gList (S : Sto) (xs : List SV) : Option SV :=
  match xs with
  | [x] => (seq? S x).bind fun ys => if ys.all noOwn then some (.own ys) else none
  | _ => none
theorem ok_list {K : PySem.W.Frag} : CalOk K ka kd gList (fun xs H Q => ∃ p ys, xs = [.ref p] ∧ (SqL K H p ys ∨ SqT K H p ys) ∧ ∀ l, H l = none → Q (.ref l) (upd H l (.lst ys))) := by
  intro C ρ S A G σ H0 H xs z vs gx Q hK I r h q
  subst hK
  unfold gList at h
  split at h
  · simp only [Option.bind_eq_some_iff] at h
    obtain ⟨ys, hy, h⟩ := h
    split at h
    · rename_i hn
      cases h
      obtain ⟨v, rfl, r1⟩ := r.one
      obtain ⟨a, vs, ga, rfl, hs, l, r2⟩ := r1.seq I hy
      exact ⟨a, vs, rfl, hs, fun p hp => q _ _ (EPost.lst I r2 hn l hp)⟩
    · cases h
  · cases h
/-- tuple(x): a new tuple of a list's data; a tuple is itself -/
def gTuple (S : Sto) (xs : List SV) : Option SV :=
  match xs with
  | [.d (.tuple ds)] => some (.d (.tuple ds))
  | [x] => (lst? S x).bind fun ys => (allD ys).map fun ds => .d (.tuple ds)
  | _ => none
theorem ok_tuple {K : PySem.W.Frag} : CalOk K ka kd gTuple (fun xs H Q => ∃ a ys, xs = [.ref a] ∧ ((SqL K H a ys ∧ ∀ l, H l = none → Q (.ref l) (upd H l (.tup ys))) ∨ (SqT K H a ys ∧ Q (.ref a) H))) := by
  intro C ρ S A G σ H0 H xs z vs gx Q hK I r h q
  subst hK
  unfold gTuple at h
  split at h
  · cases h
    obtain ⟨v, rfl, r1⟩ := r.one
    obtain ⟨a, vs, rfl, hs, l, _⟩ := r1.tup
    exact ⟨a, vs, rfl, .inr ⟨hs, q _ H (EPost.same I (Rk.fe_of r1 rfl))⟩⟩
  · simp only [Option.bind_eq_some_iff, Option.map_eq_some_iff] at h
    obtain ⟨ys, hy, ds, hd, rfl⟩ := h
    obtain ⟨v, rfl, r1⟩ := r.one
    obtain ⟨a, vs, ga, rfl, hs, l, r2⟩ := r1.lst I hy
    exact ⟨a, vs, rfl, .inl ⟨.of hs, fun p hp => q _ _ (EPost.tup I (r2.undat hd) l hp)⟩⟩
  · cases h
/-- all, any of bools -/
def bools : List SV → Option (List Bool)
  | [] => some []
  | .d (.bool b) :: r => (bools r).map (b :: ·)
  | _ :: _ => none
def ints? : List SV → Option (List Int)
  | [] => some []
  | .d (.int b) :: r => (ints? r).map (b :: ·)
  | _ :: _ => none
theorem RsL.bools {K : PySem.W.Frag} {mg : Str → Option Value} {H : Hp} {A : List Addr} {F : Addr → Prop} : ∀ {xs : List SV} {vs : List V} {g : List Addr} {bs : List Bool}, RsL K mg H A F xs vs g → VL.bools xs = some bs → vs = bs.map V.bl
  | [], _, _, _, r, h => by cases r; cases h; rfl
  | .d (.bool b) :: xs, _, _, _, r, h => by
    cases r with
    | cons r1 r2 =>
      simp only [VL.bools, Option.map_eq_some_iff] at h
      obtain ⟨bs, h, rfl⟩ := h
      cases r1 with
      | d r1 => cases r1; rw [RsL.bools r2 h]; rfl
  | .d .none :: _, _, _, _, _, h => by cases h
  | .d (.int _) :: _, _, _, _, _, h => by cases h
  | .d (.str _) :: _, _, _, _, _, h => by cases h
  | .d (.list _) :: _, _, _, _, _, h => by cases h
  | .d (.tuple _) :: _, _, _, _, _, h => by cases h
  | .d (.dict _) :: _, _, _, _, _, h => by cases h
  | .ref _ :: _, _, _, _, _, h => by cases h
  | .fn _ :: _, _, _, _, _, h => by cases h
  | .scr _ :: _, _, _, _, _, h => by cases h
  | .own _ :: _, _, _, _, _, h => by cases h
  | .dic _ _ :: _, _, _, _, _, h => by cases h
theorem RsL.ints {K : PySem.W.Frag} {mg : Str → Option Value} {H : Hp} {A : List Addr} {F : Addr → Prop} : ∀ {xs : List SV} {vs : List V} {g : List Addr} {bs : List Int}, RsL K mg H A F xs vs g → VL.ints? xs = some bs → vs = bs.map V.int
  | [], _, _, _, r, h => by cases r; cases h; rfl
  | .d (.int b) :: xs, _, _, _, r, h => by
    cases r with
    | cons r1 r2 =>
      simp only [VL.ints?, Option.map_eq_some_iff] at h
      obtain ⟨bs, h, rfl⟩ := h
      cases r1 with
      | d r1 => cases r1; rw [RsL.ints r2 h]; rfl
  | .d .none :: _, _, _, _, _, h => by cases h
  | .d (.bool _) :: _, _, _, _, _, h => by cases h
  | .d (.str _) :: _, _, _, _, _, h => by cases h
  | .d (.list _) :: _, _, _, _, _, h => by cases h
  | .d (.tuple _) :: _, _, _, _, _, h => by cases h
  | .d (.dict _) :: _, _, _, _, _, h => by cases h
  | .ref _ :: _, _, _, _, _, h => by cases h
  | .fn _ :: _, _, _, _, _, h => by cases h
  | .scr _ :: _, _, _, _, _, h => by cases h
  | .own _ :: _, _, _, _, _, h => by cases h
  | .dic _ _ :: _, _, _, _, _, h => by cases h
def gAll (S : Sto) (xs : List SV) : Option SV :=
  match xs with
  | [x] => (lst? S x).bind fun ys => (bools ys).map fun bs => .d (.bool (bs.all id))
  | _ => none
def gAny (S : Sto) (xs : List SV) : Option SV :=
  match xs with
  | [x] => (lst? S x).bind fun ys => (bools ys).map fun bs => .d (.bool (bs.any id))
  | _ => none
def gSum (S : Sto) (xs : List SV) : Option SV :=
  match xs with
  | [x] => (lst? S x).bind fun ys => (ints? ys).map fun bs => .d (.int bs.sum)
  | _ => none
theorem ok_all {K : PySem.W.Frag} : CalOk K ka kd gAll (rAll K) := by
  intro C ρ S A G σ H0 H xs z vs gx Q hK I r h q
  subst hK
  unfold gAll at h
  split at h
  · simp only [Option.bind_eq_some_iff, Option.map_eq_some_iff] at h
    obtain ⟨ys, hy, bs, hb, rfl⟩ := h
    obtain ⟨v, rfl, r1⟩ := r.one
    obtain ⟨a, vs, ga, rfl, hs, l, r2⟩ := r1.lst I hy
    obtain rfl := RsL.bools r2.1 hb
    exact ⟨a, bs, rfl, .of hs, q _ H (EPost.same I (Rk.dat (.bl _)))⟩
  · cases h
theorem ok_any {K : PySem.W.Frag} : CalOk K ka kd gAny (rAny K) := by
  intro C ρ S A G σ H0 H xs z vs gx Q hK I r h q
  subst hK
  unfold gAny at h
  split at h
  · simp only [Option.bind_eq_some_iff, Option.map_eq_some_iff] at h
    obtain ⟨ys, hy, bs, hb, rfl⟩ := h
    obtain ⟨v, rfl, r1⟩ := r.one
    obtain ⟨a, vs, ga, rfl, hs, l, r2⟩ := r1.lst I hy
    obtain rfl := RsL.bools r2.1 hb
    exact ⟨a, bs, rfl, .of hs, q _ H (EPost.same I (Rk.dat (.bl _)))⟩
  · cases h
theorem ok_sum {K : PySem.W.Frag} : CalOk K ka kd gSum (rSum K) := by
  intro C ρ S A G σ H0 H xs z vs gx Q hK I r h q
  subst hK
  unfold gSum at h
  split at h
  · simp only [Option.bind_eq_some_iff, Option.map_eq_some_iff] at h
    obtain ⟨ys, hy, bs, hb, rfl⟩ := h
    obtain ⟨v, rfl, r1⟩ := r.one
    obtain ⟨a, vs, ga, rfl, hs, l, r2⟩ := r1.lst I hy
    obtain rfl := RsL.ints r2.1 hb
    exact ⟨a, bs, rfl, .of hs, q _ H (EPost.same I (Rk.dat (.int _)))⟩
  · cases h
/-- isinstance of built-in classes -/
def tyOf : SV → Option String
  | .d .none => some "NoneType"
  | .d (.bool _) => some "bool"
  | .d (.int _) => some "int"
  | .d (.str _) => some "str"
  | .d (.list _) => some "list"
  | .d (.tuple _) => some "tuple"
  | .own _ => some "list"
  | .ref _ => some "list"
  | _ => none
def isB (t c : String) : Bool := t == c || (t == "bool" && c == "int")
/-- the classes that are asked for here -/
def knownTy (c : String) : Bool := ["int", "bool", "str", "tuple", "list"].contains c
theorem kit_is {t c : String} (ht : ["NoneType", "bool", "int", "str", "list", "tuple"].contains t = true) (hc : knownTy c = true) : kitB t c = some (isB t c) := by
  have h1 : ∀ t ∈ ["NoneType", "bool", "int", "str", "list", "tuple"], ∀ c ∈ ["int", "bool", "str", "tuple", "list"], kitB t c = some (isB t c) := by decide +kernel
  exact h1 t (by simpa using ht) c (by simpa [knownTy] using hc)
def eIsi (f : Rho → Mo SV) (c : String) : Rho → Mo SV := fun ρ S => bindM (f ρ S) fun x S1 => (tyOf x).map fun t => .ok (.d (.bool (isB t c))) S1
theorem Rk.ty {C : Ct} {ρ : Rho} {S : Sto} {g A : List Addr} {G : List (List Addr)} {σ : L2.St} {H0 H : Hp} {x : SV} {v : V} {t : String} (I : Sim C ρ S A G σ H) (hn : ∀ n, x = .ref n → (S[n]?).isSome) (r : Rk C ka g A G H0 H x v) (h : VL.tyOf x = some t) : TyX C.K H v (.type t) ∧ ["NoneType", "bool", "int", "str", "list", "tuple"].contains t = true := by
  obtain ⟨r1, _⟩ := r.asBe
  cases r1 with
  | d r2 =>
    cases r2 with
    | non => cases h; exact ⟨.base .non, by decide⟩
    | bl b => cases h; exact ⟨.base (.bl b), by decide⟩
    | int i => cases h; exact ⟨.base (.int i), by decide⟩
    | str z => cases h; exact ⟨.base (.str z), by decide⟩
    | lst e _ _ _ => cases h; exact ⟨.base (.lst e), by decide⟩
    | tup e _ _ _ => cases h; exact ⟨.base (.tup e), by decide⟩
    | ctup e _ _ =>
      cases h
      refine ⟨?_, by decide⟩
      rcases e with e | ⟨o, its, n, e1, e2, _⟩
      · rcases e with e | ⟨o, e⟩ <;> cases e
      · exact .kTuple e1 e2
  | @ref n a e =>
    cases h
    have := hn n rfl
    cases q : S[n]? with
    | none => rw [q] at this; cases this
    | some xs =>
      obtain ⟨a', vs, e1, e2, _, _⟩ := I.sto n xs q
      rw [e] at e1
      cases e1
      exact ⟨.base (.lst e2), by decide⟩
  | fn _ => cases h
  | scr e _ _ => cases h
  | scrK _ _ => cases h
  | own e _ _ => cases h; exact ⟨.base (.lst e), by decide⟩
  | dic _ _ _ _ => cases h
end
section
variable {X : Cx} {C : Ct} {W : WX} {kd ka kb : Kd} {e a b c : Expr} {es : List Expr} {pos : Pos} {f fa fb : Rho → Mo SV} {fs : Rho → Mo (List SV)}
def refOk (S : Sto) : SV → Bool
  | .ref n => (S[n]?).isSome
  | _ => true
/-- isinstance(x, c) for one of the classes c -/
def eIsi1 (f : Rho → Mo SV) (cs : List String) : Rho → Mo SV := fun ρ S => bindM (f ρ S) fun x S1 => if refOk S1 x then (tyOf x).map fun t => .ok (.d (.bool (cs.any (isB t)))) S1 else none
theorem refOk.ref {S : Sto} {x : SV} (h : refOk S x = true) : ∀ n, x = .ref n → (S[n]?).isSome := fun n e => by subst e; exact h
theorem v_isi {T : String} {p p1 : Pos} {x1 : Str} (hk : C.K = X.K) (hT : knownTy T = true) (hg : Gl X "isinstance") (hm : X.mg "isinstance" = none) (ha : PE X a (tV C W ka f)) (hg1 : Gl X x1) (hm1 : X.mg x1 = none) (hv1 : bootBuiltins x1 = some (.type T)) (hn1 : x1 ≠ "__name__" := by decide) (hd1 : (x1 == ("__debug__" : Str)) = false := by decide)
    (hs1 : starEach [a, .Name x1 p1] X.env = (false, eval a X.env) :: starEach [.Name x1 p1] X.env := by rfl) (hs2 : starEach [.Name x1 p1] X.env = (false, eval (.Name x1 p1) X.env) :: starEach [] X.env := by rfl) (hpl : (backTo pos (starEach [.Name x1 p1] X.env)).any (·.1) = false := by rfl) :
    PE X (.Call (.Name "isinstance" p) [a, .Name x1 p1] [] pos) (tV C W kd (eIsi1 f [T])) := by
  refine pe_imp (pe_callB call_isi hg hm (by decide +kernel) (pa_cons ha (pa_cons (pe_bltn (v := .ty T) hg1 hm1 hv1 rfl hn1 hd1) pa_nil hs2) hs1) (by decide) (by decide) hs1 hpl) fun σ H Q ⟨P, ρ, S, A, G, hP, I, q⟩ => ⟨P, ρ, S, A, G, hP, I, EGood.step q (fun _ _ _ _ _ _ z => z) fun x S1 q v H1 p => ?_⟩
  obtain ⟨A1, g1, e1, J1, k1⟩ := p
  split at q
  · rename_i hr
    cases et : tyOf x with
    | none => rw [et] at q; exact q.elim
    | some t =>
      rw [et] at q
      obtain ⟨ty, ht⟩ := k1.ty J1.pgw (refOk.ref hr) et
      refine ⟨v, .ty T, .type t, .type T, isB t T, rfl, .ty T, hk ▸ ty, kit_ty (kit_is ht hT), ?_⟩
      have e : isB t T = [T].any (isB t) := by simp
      rw [e]
      exact q _ _ ⟨A1, [], e1, J1.pgw.pg0, Rk.dat (.bl _)⟩
  · exact q.elim
theorem v_isi2 {T T2 : String} {p p1 p2 p3 : Pos} {kk : Nat} {x1 x2 : Str} (hk : C.K = X.K) (hT : knownTy T = true) (hT2 : knownTy T2 = true) (hg : Gl X "isinstance") (hm : X.mg "isinstance" = none) (ha : PE X a (tV C W ka f))
    (hg1 : Gl X x1) (hm1 : X.mg x1 = none) (hv1 : bootBuiltins x1 = some (.type T)) (hg2 : Gl X x2) (hm2 : X.mg x2 = none) (hv2 : bootBuiltins x2 = some (.type T2)) (hn1 : x1 ≠ "__name__" := by decide) (hd1 : (x1 == ("__debug__" : Str)) = false := by decide) (hn2 : x2 ≠ "__name__" := by decide) (hd2 : (x2 == ("__debug__" : Str)) = false := by decide)
    (hs1 : starEach [a, .Tuple [.Name x1 p1, .Name x2 p2] kk p3] X.env = (false, eval a X.env) :: starEach [.Tuple [.Name x1 p1, .Name x2 p2] kk p3] X.env := by rfl) (hs2 : starEach [.Tuple [.Name x1 p1, .Name x2 p2] kk p3] X.env = (false, eval (.Tuple [.Name x1 p1, .Name x2 p2] kk p3) X.env) :: starEach [] X.env := by rfl) (hpl : (backTo pos (starEach [.Tuple [.Name x1 p1, .Name x2 p2] kk p3] X.env)).any (·.1) = false := by rfl)
    (hs3 : starEach [.Name x1 p1, .Name x2 p2] X.env = (false, eval (.Name x1 p1) X.env) :: starEach [.Name x2 p2] X.env := by rfl) (hs4 : starEach [.Name x2 p2] X.env = (false, eval (.Name x2 p2) X.env) :: starEach [] X.env := by rfl) :
    PE X (.Call (.Name "isinstance" p) [a, .Tuple [.Name x1 p1, .Name x2 p2] kk p3] [] pos) (tV C W kd (eIsi1 f [T, T2])) := by
  refine pe_imp (pe_callB call_isiT hg hm (by decide +kernel) (pa_cons ha (pa_cons (pe_tup (pa_cons (pe_bltn (v := .ty T) hg1 hm1 hv1 rfl hn1 hd1) (pa_cons (pe_bltn (v := .ty T2) hg2 hm2 hv2 rfl hn2 hd2) pa_nil hs4) hs3)) pa_nil hs2) hs1) (by decide) (by decide) hs1 hpl)
    fun σ H Q ⟨P, ρ, S, A, G, hP, I, q⟩ => ⟨P, ρ, S, A, G, hP, I, EGood.step q (fun _ _ _ _ _ _ z => z) fun x S1 q v H1 p => ?_⟩
  obtain ⟨A1, g1, e1, J1, k1⟩ := p
  split at q
  · rename_i hr
    cases et : tyOf x with
    | none => rw [et] at q; exact q.elim
    | some t =>
      rw [et] at q
      refine ⟨by show 2 ≤ sizeLine; decide, fun tp hp => ?_⟩
      have ex : Ext A1 H1 A1 (upd H1 tp (.tup [.ty T, .ty T2])) := Ext.upd hp
      obtain ⟨ty, ht⟩ := (k1.ext ex).ty (J1.pgw.new hp) (refOk.ref hr) et
      refine ⟨v, tp, [.ty T, .ty T2], .type t, [.type T, .type T2], [T, T2].any (isB t), rfl, upd_same, .cons (.ty T) (.cons (.ty T2) .nil), hk ▸ ty, ?_, q _ _ ⟨A1, [], e1.trans ex, (J1.pgw.new hp).pg0, Rk.dat (.bl _)⟩⟩
      simp only [List.any_cons, List.any_nil, Bool.or_false]
      refine kitAny_cons (kit_ty (kit_is ht hT)) (fun e => ?_) (fun e => by rw [e]; rfl)
      rw [e, Bool.false_or]
      refine kitAny_cons (kit_ty (kit_is ht hT2)) (fun e => ?_) (fun e => e)
      rw [e]
      rfl
  · exact q.elim
end
end VL

end
section
set_option Elab.async false
set_option linter.all false
set_option maxRecDepth 100000
/-! VL6: slots stored, targets, what is walked, comprehensions. -/
namespace VL
open PySem PySem.Spec PyProof.Rows L2

section
variable {C : Ct} {ρ : Rho} {S S' : Sto} {A A' : List Addr} {G : List (List Addr)} {σ : L2.St} {H H' : Hp} {x : SV} {v : V} {g : List Addr} {i : Nat}
theorem flatten_set_sub {G : List (List Addr)} {i : Nat} {g : List Addr} {a : Addr} (h : a ∈ (G.set i g).flatten) : a ∈ G.flatten ∨ a ∈ g := by
  obtain ⟨l, hl, ha⟩ := List.mem_flatten.mp h
  rcases List.mem_or_eq_of_mem_set hl with hl | rfl
  · exact .inl (List.mem_flatten.mpr ⟨l, hl, ha⟩)
  · exact .inr ha
theorem nodup_set (hn : (A ++ G.flatten).Nodup) (hg : g.Nodup) (hd : ∀ a ∈ g, a ∉ A ∧ ∀ j l, j ≠ i → G[j]? = some l → a ∉ l) : (A ++ (G.set i g).flatten).Nodup := by
  by_cases hi : i < G.length
  · have e : (G.set i g) = G.take i ++ g :: G.drop (i + 1) := List.set_eq_take_append_cons_drop .. |>.trans (by rw [if_pos hi])
    have e0 : G = G.take i ++ G[i] :: G.drop (i + 1) := by rw [List.getElem_cons_drop, List.take_append_drop]
    rw [e, List.flatten_append, List.flatten_cons]
    rw [e0, List.flatten_append, List.flatten_cons] at hn
    have ht : ∀ a ∈ g, a ∉ (G.take i).flatten := fun a m z => by
      obtain ⟨l, hl, ha⟩ := List.mem_flatten.mp z
      obtain ⟨j, hj, rfl⟩ := List.getElem_of_mem hl
      rw [List.length_take] at hj
      exact (hd a m).2 j _ (by omega) (by rw [List.getElem_take]; exact List.getElem?_eq_getElem _) ha
    have hr : ∀ a ∈ g, a ∉ (G.drop (i + 1)).flatten := fun a m z => by
      obtain ⟨l, hl, ha⟩ := List.mem_flatten.mp z
      obtain ⟨j, hj, rfl⟩ := List.getElem_of_mem hl
      rw [List.length_drop] at hj
      exact (hd a m).2 (i + 1 + j) _ (by omega) (by rw [List.getElem_drop]; exact List.getElem?_eq_getElem _) ha
    have n1 := List.nodup_append.mp hn
    have n2 := List.nodup_append.mp n1.2.1
    have n3 := List.nodup_append.mp n2.2.1
    refine List.nodup_append.mpr ⟨n1.1, List.nodup_append.mpr ⟨n2.1, List.nodup_append.mpr ⟨hg, n3.2.1, fun a h b h' e => ?_⟩, fun a h b h' e => ?_⟩, fun a h b h' e => ?_⟩
    · subst e; exact hr a h h'
    · subst e
      rcases List.mem_append.mp h' with h' | h'
      · exact ht a h' h
      · exact n2.2.2 a h a (List.mem_append_right _ h') rfl
    · subst e
      rcases List.mem_append.mp h' with h' | h'
      · exact n1.2.2 a h a (List.mem_append_left _ h') rfl
      · rcases List.mem_append.mp h' with h' | h'
        · exact (hd a h').1 h
        · exact n1.2.2 a h a (List.mem_append_right _ (List.mem_append_right _ h')) rfl
  · rw [List.set_eq_of_length_le (by omega)]
    exact hn
/-- .. by what is one's own: I the state in which it is left alone -/
theorem Sim.put (I : Sim (C.pr fun a => C.Pr a ∨ a ∈ g) ρ S A G σ H) (r : Rs C.K C.mg H A (fun a => Fs C A G a ∨ a ∈ g) x v g) (hg : g.Nodup) (h0 : ∀ a ∈ g, C.E0 a = none) (hp : ∀ a ∈ g, ¬ C.Pr a) : Sim C (ρ.set i (some x)) S A (G.set i g) (σ.set i (some v)) H := by
  have hgn : ∀ a ∈ g, a ∉ A ++ G.flatten ∧ H a ≠ none := fun a m => I.prot a (.inr m)
  have hF : ∀ a, Fs C A (G.set i g) a → Fs (C.pr fun a => C.Pr a ∨ a ∈ g) A G a := fun a z => by
    rcases z with z | z | z
    · exact .inl z
    · rcases flatten_set_sub z with z | z
      · exact .inr (.inl z)
      · exact .inr (.inr (.inr z))
    · exact .inr (.inr (.inl z))
  have hFx : ∀ a, Fs C A (G.set i g) a → Fs C A G a ∨ a ∈ g := fun a z => by
    rcases z with z | z | z
    · exact .inl (.inl z)
    · rcases flatten_set_sub z with z | z
      · exact .inl (.inr (.inl z))
      · exact .inr z
    · exact .inl (.inr (.inr z))
  refine ⟨I.pre, by simp [I.lr], by simp [I.lg], I.ls, nodup_set I.nd hg fun a m => ⟨fun z => (hgn a m).1 (List.mem_append_left _ z), fun j l _ e z => (hgn a m).1 (List.mem_append_right _ (List.mem_flatten.mpr ⟨l, List.mem_of_getElem? e, z⟩))⟩, fun a m => ?_, fun a p => ⟨fun z => ?_, (I.prot a (.inl p)).2⟩, fun j y e => ?_, fun n xs e => ?_, I.frame, fun a m => ?_, I.a0⟩
  · rcases List.mem_append.mp m with m | m
    · exact I.trk a (List.mem_append_left _ m)
    · rcases flatten_set_sub m with m | m
      · exact I.trk a (List.mem_append_right _ m)
      · exact (hgn a m).2
  · rcases List.mem_append.mp z with z | z
    · exact (I.prot a (.inl p)).1 (List.mem_append_left _ z)
    · rcases flatten_set_sub z with z | z
      · exact (I.prot a (.inl p)).1 (List.mem_append_right _ z)
      · exact hp a z p
  · have lr := I.lr
    have lg := I.lg
    by_cases hj : j = i
    · subst hj
      have hlt : j < ρ.length := by
        have := (List.getElem?_eq_some_iff.mp e).1
        simpa using this
      rw [List.getElem?_set_self hlt] at e
      cases e
      exact ⟨v, g, by rw [List.getElem?_set_self (by omega)], Rs.mono (fun _ _ q => q) (fun a z => .inl (hFx a z)) (fun a o q n => q) _ _ _ (fun a m o q => q) r, by rw [List.getElem?_set_self (by omega)]; exact List.Sublist.refl _⟩
    · rw [List.getElem?_set_ne (Ne.symm hj)] at e
      obtain ⟨w, l, e1, r1, sb⟩ := I.slots j y e
      exact ⟨w, l, by rw [List.getElem?_set_ne (Ne.symm hj)]; exact e1, Rs.mono (fun _ _ q => q) (fun a z => .inl (hF a z)) (fun a o q n => q) _ _ _ (fun a m o q => q) r1, by rw [List.getElem?_set_ne (Ne.symm hj)]; exact sb⟩
  · obtain ⟨a, vs, e1, e2, l, r1⟩ := I.sto n xs e
    exact ⟨a, vs, e1, e2, l, RsL.mono (fun _ _ q => q) (fun a z => .inl (hF a z)) (fun a o q n => q) _ _ _ (fun a m o q => q) r1⟩
  · rcases List.mem_append.mp m with m | m
    · exact I.fresh a (List.mem_append_left _ m)
    · rcases flatten_set_sub m with m | m
      · exact I.fresh a (List.mem_append_right _ m)
      · exact .inr (h0 a m)
/-- .. by what is no list of one's own; the footprints stay -/
theorem Sim.putV (I : Sim C ρ S A G σ H) (r : Rs C.K C.mg H A (Fs C A G) x v []) : Sim C (ρ.set i (some x)) S A G (σ.set i (some v)) H := by
  refine ⟨I.pre, by simp [I.lr], by simp [I.lg], I.ls, I.nd, I.trk, I.prot, fun j y e => ?_, I.sto, I.frame, I.fresh, I.a0⟩
  have lr := I.lr
  by_cases hj : j = i
  · subst hj
    have hlt : j < ρ.length := by
      have := (List.getElem?_eq_some_iff.mp e).1
      simpa using this
    rw [List.getElem?_set_self hlt] at e
    cases e
    exact ⟨v, [], by rw [List.getElem?_set_self (by omega)], r, List.nil_sublist _⟩
  · rw [List.getElem?_set_ne (Ne.symm hj)] at e
    obtain ⟨w, l, e1, r1, sb⟩ := I.slots j y e
    exact ⟨w, l, by rw [List.getElem?_set_ne (Ne.symm hj)]; exact e1, r1, sb⟩
end

/-! ### targets -/
abbrev TgF := SV → Rho → Option Rho
def gNm (i : Nat) : TgF := fun x ρ => if noOwn x then some (ρ.set i (some x)) else none
def gsNil : List SV → Rho → Option Rho := fun xs ρ => if xs.isEmpty then some ρ else none
def gsCons (t : TgF) (u : List SV → Rho → Option Rho) : List SV → Rho → Option Rho := fun xs ρ => match xs with
  | x :: xs => (t x ρ).bind fun ρ' => u xs ρ'
  | [] => none
def gTp (n : Nat) (u : List SV → Rho → Option Rho) : TgF := fun x ρ => match x with
  | .d (.tuple ds) => if ds.length = n then u (ds.map .d) ρ else none
  | _ => none
/-- two rows of slots alike but at some places -/
def SameOff (is : List Nat) (σ σ' : L2.St) : Prop := σ'.length = σ.length ∧ ∀ j, j ∉ is → σ'[j]? = σ[j]?
theorem wipe_in {σ : L2.St} {j : Nat} : ∀ {vs : List Nat}, j ∈ vs → j < σ.length → (wipe σ vs)[j]? = some none
  | v :: vs, h, hl => by
    unfold wipe
    by_cases e : j = v
    · subst e
      rw [List.getElem?_set_self (by rw [wipe_length]; exact hl)]
    · rw [List.getElem?_set_ne (Ne.symm e)]
      exact wipe_in ((List.mem_cons.mp h).resolve_left e) hl
theorem SameOff.wipe {is vs : List Nat} {σ σ' : L2.St} (h : SameOff is σ σ') (hs : ∀ j ∈ is, j ∈ vs) : L2.wipe σ' vs = L2.wipe σ vs := by
  apply List.ext_getElem?
  intro j
  by_cases hj : j ∈ vs
  · by_cases hl : j < σ.length
    · rw [wipe_in hj hl, wipe_in hj (by rw [h.1]; exact hl)]
    · rw [List.getElem?_eq_none (by rw [wipe_length, h.1]; omega), List.getElem?_eq_none (by rw [wipe_length]; omega)]
  · rw [wipe_out hj, wipe_out hj]
    exact h.2 j fun m => hj (hs j m)
theorem wipe_wipe (σ : L2.St) (vs : List Nat) : L2.wipe (L2.wipe σ vs) vs = L2.wipe σ vs := by
  apply List.ext_getElem?
  intro j
  by_cases hj : j ∈ vs
  · by_cases hl : j < σ.length
    · rw [wipe_in hj hl, wipe_in hj (by rw [wipe_length]; exact hl)]
    · rw [List.getElem?_eq_none (by rw [wipe_length, wipe_length]; omega), List.getElem?_eq_none (by rw [wipe_length]; omega)]
  · rw [wipe_out hj]
/-- a target's reading by its function -/
def GOk (C : Ct) (t : TgF) (is : List Nat) (tg : TG) : Prop := ∀ (P : Addr → Prop) (ρ ρ' : Rho) (S : Sto) (A : List Addr) (G : List (List Addr)) (σ : L2.St) (H : Hp) (x : SV) (v : V) (Q : L2.St → Hp → Prop), Sim (C.pr P) ρ S A G σ H → Rs C.K C.mg H A (Fs (C.pr P) A G) x v [] → t x ρ = some ρ' →
  (∀ σ', Sim (C.pr P) ρ' S A G σ' H → SameOff is σ σ' → Q σ' H) → tg v σ H Q
def GsOk (C : Ct) (t : List SV → Rho → Option Rho) (is : List Nat) (tg : TGs) : Prop := ∀ (P : Addr → Prop) (ρ ρ' : Rho) (S : Sto) (A : List Addr) (G : List (List Addr)) (σ : L2.St) (H : Hp) (xs : List SV) (vs : List V) (Q : L2.St → Hp → Prop), Sim (C.pr P) ρ S A G σ H → RsL C.K C.mg H A (Fs (C.pr P) A G) xs vs [] → t xs ρ = some ρ' →
  (∀ σ', Sim (C.pr P) ρ' S A G σ' H → SameOff is σ σ' → Q σ' H) → tg vs σ H Q
theorem g_nm {C : Ct} {i : Nat} : GOk C (gNm i) [i] (gName i) := by
  intro P ρ ρ' S A G σ H x v Q I r h q
  unfold gNm at h
  split at h
  · cases h
    refine q _ (I.putV r) ⟨by simp, fun j hj => ?_⟩
    rw [List.getElem?_set_ne]
    exact fun e => hj (by simp [e])
  · cases h
theorem gs_nil {C : Ct} : GsOk C gsNil [] gNil := by
  intro P ρ ρ' S A G σ H xs vs Q I r h q
  unfold gsNil at h
  split at h
  · rename_i he
    cases h
    have : xs = [] := by simpa using he
    subst this
    cases r
    exact ⟨rfl, q σ I ⟨rfl, fun _ _ => rfl⟩⟩
  · cases h
theorem gs_cons {C : Ct} {t : TgF} {u : List SV → Rho → Option Rho} {is js : List Nat} {tg : TG} {ug : TGs} (h1 : GOk C t is tg) (h2 : GsOk C u js ug) : GsOk C (gsCons t u) (is ++ js) (gCons tg ug) := by
  intro P ρ ρ' S A G σ H xs vs Q I r h q
  unfold gsCons at h
  split at h
  · rename_i x xs
    simp only [Option.bind_eq_some_iff] at h
    obtain ⟨ρ1, e1, e2⟩ := h
    generalize hg : ([] : List Addr) = g at r
    cases r with
    | cons r1 r2 =>
      have hh := List.append_eq_nil_iff.mp hg.symm
      obtain ⟨rfl, rfl⟩ := hh
      refine ⟨_, _, rfl, h1 P ρ ρ1 S A G σ H _ _ _ I r1 e1 fun σ1 I1 s1 => h2 P ρ1 ρ' S A G σ1 H _ _ _ I1 r2 e2 fun σ2 I2 s2 => q σ2 I2 ⟨s2.1.trans s1.1, fun j hj => ?_⟩⟩
      rw [s2.2 j fun m => hj (List.mem_append_right _ m), s1.2 j fun m => hj (List.mem_append_left _ m)]
  · cases h
theorem g_tp {C : Ct} {n : Nat} {u : List SV → Rho → Option Rho} {is : List Nat} {ug : TGs} (h : GsOk C u is ug) : GOk C (gTp n u) is (gTup C.K n ug) := by
  intro P ρ ρ' S A G σ H x v Q I r e q
  unfold gTp at e
  split at e
  · rename_i ds
    split at e
    · rename_i hl
      obtain ⟨_, d⟩ := r.nil_d
      have go : ∀ a vs, SqT C.K H a vs → DqL C.K H (Fs (C.pr P) A G) ds vs → v = .ref a → gTup C.K n ug v σ H Q := fun a vs hs hd hv => ⟨a, vs, hv, hs, hd.length.trans hl, h P ρ ρ' S A G σ H _ _ _ I (RsL.ofD hd) e q⟩
      cases d with
      | tup e' _ _ hd => exact go _ _ (.of e') hd rfl
      | ctup e' _ hd => exact go _ _ (SqT.const e' H) hd rfl
    · cases e
  · cases e

/-! ### what is walked -/
structure Wk (C : Ct) (full : Bool) (A : List Addr) (G : List (List Addr)) (J : It) (xs : List SV) (H : Hp) : Prop where
  go : ∀ P2 A2 G2 H2, (∀ a, P2 a → C.Pr a ∨ H a = none) → ExtS A G H A2 G2 H2 → (full = false → ∀ a o, H a = some o → a ∉ A → H2 a = some o) → (∀ a, Fs (C.pr P2) A2 G2 a → H2 a ≠ none) → ∀ (i : Nat) x, xs[i]? = some x →
    J.go i H2 ∧ ∀ v H3, J.yld i H2 v H3 → (H3 = H2 ∨ ∃ p o, H2 p = none ∧ H3 = upd H2 p o) ∧ Rs C.K C.mg H3 A2 (Fs (C.pr P2) A2 G2) x v []
  stop : ∀ A2 G2 H2, ExtS A G H A2 G2 H2 → (full = false → ∀ a o, H a = some o → a ∉ A → H2 a = some o) → ∀ i, xs.length ≤ i → J.stop i H2
def IPost (C : Ct) (full : Bool) (ρ : Rho) (A : List Addr) (G : List (List Addr)) (σ : L2.St) (H : Hp) (xs : List SV) (S' : Sto) (J : It) (H' : Hp) : Prop :=
  ∃ A', Ext A H A' H' ∧ Sim C ρ S' A' G σ H' ∧ Wk C full A' G J xs H'
def tI (C : Ct) (W : WX) (full : Bool) (f : Rho → Mo (List SV)) : TI := fun σ H R => ∃ P ρ S A G, (∀ a, C.Pr a → P a) ∧ Sim (C.pr P) ρ S A G σ H ∧ EGood (IPost (C.pr P) full ρ A G σ H) (XPost C ρ A G σ H) W σ R (f ρ S)
theorem pi_imp {X : Cx} {tg e : Expr} {t t' : TI} (h : PI X tg e t) (i : ∀ σ H Q, t' σ H Q → t σ H Q) : PI X tg e t' := ⟨fun pins s σ H Q I q => h.run pins s σ H Q I (i σ H Q q)⟩
def iSeq2 (K : PySem.W.Frag) (tl : TE) : TI := fun σ H R => tl σ H fun x H1 => ∃ a, x = .ref a ∧ (((∃ xs, SqL K H1 a xs) ∧ R (Itl K a) H1) ∨ ((∃ xs, SqT K H1 a xs) ∧ R (Itt K a) H1))
theorem pi_seq {X : Cx} {tg l : Expr} {tl : TE} (hl : PE X l tl) : PI X tg l (iSeq2 X.K tl) := by
  refine ⟨fun pins s σ H R I h => ?_⟩
  refine thn (hl.run pins s σ H _ I h) fun v s1 ⟨x, H1, I1, r1, q1⟩ => ?_
  obtain ⟨a, e, q⟩ := q1
  subst e
  cases r1
  rcases q with ⟨⟨xs, hq⟩, q⟩ | ⟨⟨xs, hq⟩, q⟩
  · obtain ⟨its, rv, p, hz⟩ := I1.list hq
    refine wpAny_pyIter_list p.isList ?_
    refine ⟨s1.heap.objs.size, [s1.heap.objs.size], _, _, H1, rfl, I1.kept (t' := s1.toks) fun b o e => Heap.get?_push_of_some _ e, turn_list a _, ⟨_, Heap.get?_push_size _ rfl, rfl, rfl⟩, fun b hb => ?_, q⟩
    have e : b = s1.heap.objs.size := by simpa using hb
    subst e
    exact I1.fpOk (Nat.le_refl _) (I1.hok.fresh (Nat.le_refl _))
  · obtain ⟨its, rv, p, hz⟩ := I1.tuple hq
    refine wpAny_pyIter_tuple (show s1.heap.IsTuple a its.toArray from p) ?_
    refine ⟨s1.heap.objs.size, [s1.heap.objs.size], _, _, H1, rfl, I1.kept (t' := s1.toks) fun b o e => Heap.get?_push_of_some _ e, turn_tuple a _, ⟨_, Heap.get?_push_size _ rfl, rfl, rfl⟩, fun b hb => ?_, q⟩
    have e : b = s1.heap.objs.size := by simpa using hb
    subst e
    exact I1.fpOk (Nat.le_refl _) (I1.hok.fresh (Nat.le_refl _))
section
variable {C : Ct} {A A2 : List Addr} {G G2 : List (List Addr)} {H H2 : Hp} {P2 : Addr → Prop} {x : SV} {v : V} {xs : List SV} {vs : List V}
theorem fs_later (hP : ∀ a, P2 a → C.Pr a ∨ H a = none) (e : ExtS A G H A2 G2 H2) : ∀ a, Fs (C.pr P2) A2 G2 a → Fs C A G a ∨ H a = none := fun a z => by
  have go : a ∈ A2 ++ G2.flatten → Fs C A G a ∨ H a = none := fun m => by
    rcases e.new a m with m | m
    · rcases List.mem_append.mp m with m | m
      · exact .inl (.inl m)
      · exact .inl (.inr (.inl m))
    · exact .inr m
  rcases z with z | z | z
  · exact go (List.mem_append_left _ z)
  · exact go (List.mem_append_right _ z)
  · exact (hP a z).imp (fun z => .inr (.inr z)) id
theorem fs_kept (e : ExtS A G H A2 G2 H2) : ∀ a o, H a = some o → ¬ Fs C A G a → H2 a = some o := fun a o q n => e.keep a o q fun m => n ((List.mem_append.mp m).elim .inl fun m => .inr (.inl m))
/-- an item later on -/
theorem Rs.later (hP : ∀ a, P2 a → C.Pr a ∨ H a = none) (e : ExtS A G H A2 G2 H2) (r : Rs C.K C.mg H A (Fs C A G) x v []) : Rs C.K C.mg H2 A2 (Fs (C.pr P2) A2 G2) x v [] :=
  Rs.mono (prefix_get e.pre) (fs_later hP e) (fs_kept e) _ _ _ (fun a m => by cases m) r
theorem RsL.get0 : ∀ {xs : List SV} {vs : List V} {K : PySem.W.Frag} {mg : Str → Option Value} {F : Addr → Prop} {i : Nat}, RsL K mg H A F xs vs [] → vs[i]? = some v → ∃ x, xs[i]? = some x ∧ Rs K mg H A F x v []
  | [], _, _, _, _, i, r, e => by cases r; simp at e
  | x :: xs, _, _, _, _, i, r, e => by
    generalize hg : ([] : List Addr) = g at r
    cases r with
    | cons r1 r2 =>
      obtain ⟨rfl, rfl⟩ := List.append_eq_nil_iff.mp hg.symm
      cases i with
      | zero => simp at e; subst e; exact ⟨_, rfl, r1⟩
      | succ i => simpa using RsL.get0 r2 (by simpa using e)
theorem RsL.get1 {K : PySem.W.Frag} {mg : Str → Option Value} {F : Addr → Prop} {i : Nat} (r : RsL K mg H A F xs vs []) (h : xs[i]? = some x) : ∃ v, vs[i]? = some v ∧ Rs K mg H A F x v [] := by
  have l := r.length
  have hi : i < xs.length := (List.getElem?_eq_some_iff.mp h).1
  obtain ⟨x', e, q⟩ := r.get0 (i := i) (v := vs[i]'(by omega)) (List.getElem?_eq_getElem _)
  rw [h] at e
  cases e
  exact ⟨_, List.getElem?_eq_getElem _, q⟩
theorem sqL_inj {K : PySem.W.Frag} {a : Addr} {us : List V} (h : H a = some (.lst vs)) (q : SqL K H a us) (hk : ∀ o, K.lookup a = some o → False) : us = vs := by
  rcases q with (q | ⟨o, q⟩) | ⟨o, its, n, e, _⟩
  · rw [h] at q; cases q; rfl
  · rw [h] at q; cases q
  · exact (hk _ e).elim
theorem sqL_stay {K : PySem.W.Frag} {a : Addr} (q : SqL K H a vs) (h : ∀ o, H a = some o → H2 a = some o) : SqL K H2 a vs := by
  rcases q with (q | ⟨o, q⟩) | q
  · exact .inl (.inl (h _ q))
  · exact .inl (.inr ⟨o, h _ q⟩)
  · exact .inr q
theorem sqT_stay {K : PySem.W.Frag} {a : Addr} (q : SqT K H a vs) (h : ∀ o, H a = some o → H2 a = some o) : SqT K H2 a vs := by
  rcases q with (q | ⟨o, q⟩) | q
  · exact .inl (.inl (h _ q))
  · exact .inl (.inr ⟨o, h _ q⟩)
  · exact .inr q
theorem wk_lst {full : Bool} {a : Addr} (r : RsL C.K C.mg H A (Fs C A G) xs vs []) (st : ∀ A2 G2 H2, ExtS A G H A2 G2 H2 → (full = false → ∀ a o, H a = some o → a ∉ A → H2 a = some o) → SqL C.K H2 a vs) : Wk C full A G (Itl C.K a) xs H := by
  refine ⟨fun P2 A2 G2 H2 hP e hk ht i x hx => ?_, fun A2 G2 H2 e hk i hi => ?_⟩
  · obtain ⟨v, hv, rv⟩ := r.get1 hx
    have s2 := st A2 G2 H2 e hk
    refine ⟨⟨vs, v, s2, hv⟩, fun w H3 ⟨e3, y⟩ => ?_⟩
    subst e3
    have e' := y vs s2
    rw [hv] at e'
    cases e'
    exact ⟨.inl rfl, rv.later hP e⟩
  · exact ⟨vs, st A2 G2 H2 e hk, by rw [r.length]; exact hi⟩
theorem wk_tup {full : Bool} {a : Addr} (r : RsL C.K C.mg H A (Fs C A G) xs vs []) (st : ∀ A2 G2 H2, ExtS A G H A2 G2 H2 → (full = false → ∀ a o, H a = some o → a ∉ A → H2 a = some o) → SqT C.K H2 a vs) : Wk C full A G (Itt C.K a) xs H := by
  refine ⟨fun P2 A2 G2 H2 hP e hk ht i x hx => ?_, fun A2 G2 H2 e hk i hi => ?_⟩
  · obtain ⟨v, hv, rv⟩ := r.get1 hx
    have s2 := st A2 G2 H2 e hk
    refine ⟨⟨vs, v, s2, hv⟩, fun w H3 ⟨e3, y⟩ => ?_⟩
    subst e3
    have e' := y vs s2
    rw [hv] at e'
    cases e'
    exact ⟨.inl rfl, rv.later hP e⟩
  · exact ⟨vs, st A2 G2 H2 e hk, by rw [r.length]; exact hi⟩
def rangeL (lo : Int) (n : Nat) : List SV := (List.range n).map fun k => .d (.int (lo + (k : Nat)))
theorem wk_rng {full : Bool} {lo : Int} {n : Nat} : Wk C full A G (Itr lo n) (rangeL lo n) H := by
  refine ⟨fun P2 A2 G2 H2 hP e hk ht i x hx => ?_, fun A2 G2 H2 e hk i hi => ?_⟩
  · unfold rangeL at hx
    rw [List.getElem?_map, Option.map_eq_some_iff] at hx
    obtain ⟨k, hk', rfl⟩ := hx
    have hi : i < n := by
      have := (List.getElem?_eq_some_iff.mp hk').1
      simpa using this
    rw [List.getElem?_range hi] at hk'
    cases hk'
    refine ⟨hi, fun w H3 ⟨e3, y⟩ => ?_⟩
    subst e3
    subst y
    exact ⟨.inl rfl, .d (.int _)⟩
  · show n ≤ i
    simpa [rangeL] using hi
end
/-- a list or tuple that is walked -/
def isRef : SV → Bool
  | .ref _ => true
  | _ => false
def iSeq (f : Rho → Mo SV) : Rho → Mo (List SV) := fun ρ S => bindM (f ρ S) fun x S1 => if isRef x then none else (seq? S1 x).bind fun xs => if xs.all noOwn then some (.ok xs S1) else none
section
variable {X : Cx} {C : Ct} {W : WX} {kd ka kb : Kd} {tg e a b c : Expr} {es : List Expr} {pos : Pos} {f fa fb : Rho → Mo SV} {fs : Rho → Mo (List SV)}
/-- where a walked thing stands -/
theorem Rk.walk {P : Addr → Prop} {ρ : Rho} {S : Sto} {g A : List Addr} {G : List (List Addr)} {σ : L2.St} {H0 H : Hp} {x : SV} {v : V} {xs : List SV} {full : Bool} (I : Sim (C.pr P) ρ S A G σ H) (r : Rk (C.pr P) ka g A G H0 H x v) (hr : isRef x = false) (h : seq? S x = some xs) (hn : xs.all VL.noOwn = true)
    (hg : full = true → ∀ a ∈ g, a ∉ G.flatten) : ∃ a, v = .ref a ∧ (((∃ ys, SqL C.K H a ys) ∧ Wk (C.pr P) full A G (Itl C.K a) xs H) ∨ ((∃ ys, SqT C.K H a ys) ∧ Wk (C.pr P) full A G (Itt C.K a) xs H)) := by
  obtain ⟨r1, h1⟩ := r.asBe
  have items : ∀ vs g', RkL (C.pr P) .be g' A G H H xs vs → RsL C.K C.mg H A (Fs (C.pr P) A G) xs vs [] := fun vs g' rr => by
    obtain ⟨rr, _⟩ := rr
    have e := RsL.noOwn rr hn
    rw [e] at rr
    exact rr
  cases r1 with
  | d r1 =>
    cases r1 with
    | lst e n l q =>
      cases h
      exact ⟨_, rfl, .inl ⟨⟨_, .of e⟩, wk_lst (items _ _ (RkL.dats q)) fun A2 G2 H2 e2 hk => .of (fs_kept e2 _ _ e n)⟩⟩
    | tup e n l q =>
      cases h
      exact ⟨_, rfl, .inr ⟨⟨_, .of e⟩, wk_tup (items _ _ (RkL.dats q)) fun A2 G2 H2 e2 hk => .of (fs_kept e2 _ _ e n)⟩⟩
    | ctup e l q =>
      cases h
      exact ⟨_, rfl, .inr ⟨⟨_, SqT.const e H⟩, wk_tup (items _ _ (RkL.dats q)) fun A2 G2 H2 e2 hk => SqT.const e H2⟩⟩
    | _ => cases h
  | ref e => cases hr
  | fn e => cases h
  | @scr a o ns e n l =>
    have hvs : SqL C.K H a (ns.map V.int) := .inl (.inr ⟨_, e⟩)
    cases h
    refine ⟨a, rfl, .inl ⟨⟨_, hvs⟩, wk_lst (vs := ns.map V.int) ?_ fun A2 G2 H2 e2 hk => .inl (.inr ⟨_, fs_kept e2 _ _ e n⟩)⟩⟩
    have := RsL.ofD (K := C.K) (mg := C.mg) (A := A) (DqL.ofInts (C := C) (H := H) (F := Fs (C.pr P) A G) ns)
    rw [List.map_map] at this
    exact this
  | @scrK a ns e l =>
    cases h
    refine ⟨a, rfl, .inl ⟨⟨_, SqL.const e H⟩, wk_lst (vs := ns.map V.int) ?_ fun A2 G2 H2 e2 hk => SqL.const e H2⟩⟩
    have := RsL.ofD (K := C.K) (mg := C.mg) (A := A) (DqL.ofInts (C := C) (H := H) (F := Fs (C.pr P) A G) ns)
    rw [List.map_map] at this
    exact this
  | own e l q =>
    cases h
    refine ⟨_, rfl, .inl ⟨⟨_, .of e⟩, wk_lst (items _ _ ⟨q, fun a m => h1 a (List.mem_cons_of_mem _ m)⟩) fun A2 G2 H2 e2 hk => .of ?_⟩⟩
    cases full with
    | false => exact hk rfl _ _ e (h1 _ List.mem_cons_self).1
    | true => exact e2.keep _ _ e fun m => (List.mem_append.mp m).elim (fun m => (h1 _ List.mem_cons_self).1 m) (fun m => hg rfl _ List.mem_cons_self m)
  | dic _ _ _ _ => cases h
theorem i_seq (hk : C.K = X.K) (h : PE X e (tV C W ka f)) : PI X tg e (tI C W false (iSeq f)) := by
  refine pi_imp (pi_seq h) fun σ H R ⟨P, ρ, S, A, G, hP, I, q⟩ => ⟨P, ρ, S, A, G, hP, I, EGood.step q (fun _ _ _ _ _ _ z => z) fun x S1 q v H1 p => ?_⟩
  obtain ⟨A1, g1, e1, J1, k1⟩ := p
  split at q
  · exact q.elim
  · rename_i hr
    cases es : seq? S1 x with
    | none => rw [es] at q; exact q.elim
    | some xs =>
      rw [es] at q
      simp only [Option.bind_some] at q
      split at q
      · rename_i hn
        obtain ⟨a, rfl, w⟩ := k1.walk (full := false) J1.pgw (by simpa using hr) es hn (fun z => by cases z)
        rw [hk] at w
        refine ⟨a, rfl, ?_⟩
        rcases w with ⟨w1, w2⟩ | ⟨w1, w2⟩
        · exact .inl ⟨w1, q _ _ ⟨A1, e1, J1.pgw, w2⟩⟩
        · exact .inr ⟨w1, q _ _ ⟨A1, e1, J1.pgw, w2⟩⟩
      · exact q.elim
theorem i_seqF (hk : C.K = X.K) (h : PE X e (tV C W .fe f)) : PI X tg e (tI C W true (iSeq f)) := by
  refine pi_imp (pi_seq h) fun σ H R ⟨P, ρ, S, A, G, hP, I, q⟩ => ⟨P, ρ, S, A, G, hP, I, EGood.step q (fun _ _ _ _ _ _ z => z) fun x S1 q v H1 p => ?_⟩
  obtain ⟨A1, g1, e1, J1, k1⟩ := p
  split at q
  · exact q.elim
  · rename_i hr
    cases es : seq? S1 x with
    | none => rw [es] at q; exact q.elim
    | some xs =>
      rw [es] at q
      simp only [Option.bind_some] at q
      split at q
      · rename_i hn
        obtain ⟨a, rfl, w⟩ := k1.walk (full := true) J1.pgw (by simpa using hr) es hn (fun _ a m z => (J1.prot a (.inr m)).1 (List.mem_append_right _ z))
        rw [hk] at w
        refine ⟨a, rfl, ?_⟩
        rcases w with ⟨w1, w2⟩ | ⟨w1, w2⟩
        · exact .inl ⟨w1, q _ _ ⟨A1, e1, J1.pgw, w2⟩⟩
        · exact .inr ⟨w1, q _ _ ⟨A1, e1, J1.pgw, w2⟩⟩
      · exact q.elim
/-- range of one int, of two -/
def inR (i : Int) : Bool := decide (i.natAbs < 4611686018427387904)
theorem inR_lt {i : Int} (h : inR i = true) : -(2 ^ 62) ≤ i ∧ i < 2 ^ 62 := by
  have h := of_decide_eq_true h
  have e : (2 : Int) ^ 62 = 4611686018427387904 := by decide
  rw [e]
  omega
def iRng1 (fs : Rho → Mo (List SV)) : Rho → Mo (List SV) := fun ρ S => bindM (fs ρ S) fun xs S1 => match xs with
  | [.d (.int j)] => if inR j then some (.ok (rangeL 0 j.toNat) S1) else none
  | _ => none
def iRng2 (fs : Rho → Mo (List SV)) : Rho → Mo (List SV) := fun ρ S => bindM (fs ρ S) fun xs S1 => match xs with
  | [.d (.int i), .d (.int j)] => if inR i && inR j then some (.ok (rangeL i (j - i).toNat) S1) else none
  | _ => none
theorem i_rng1 {full : Bool} {p : Pos} (hg : Gl X "range") (hm : X.mg "range" = none) (ha : PA X [a] (tVs C W .be fs)) (hs : starEach [a] X.env = [(false, eval a X.env)] := by rfl) : PI X tg (.Call (.Name "range" p) [a] [] pos) (tI C W full (iRng1 fs)) := by
  refine pi_imp (pi_range1 hg hm ha hs) fun σ H R ⟨P, ρ, S, A, G, hP, I, q⟩ => ⟨P, ρ, S, A, G, hP, I, EGood.step q (fun _ _ _ _ _ _ z => z) fun xs S1 q vs H1 p => ?_⟩
  obtain ⟨A1, g1, e1, J1, k1⟩ := p
  split at q
  · rename_i j
    split at q
    · rename_i hj
      have hj := inR_lt hj
      obtain ⟨v, rfl, r⟩ := k1.one
      exact ⟨j, by rw [r.int], hj.1, hj.2, q _ _ ⟨A1, e1, J1, wk_rng⟩⟩
    · exact q.elim
  · exact q.elim
theorem i_rng2 {full : Bool} {p : Pos} (hg : Gl X "range") (hm : X.mg "range" = none) (ha : PA X [a, b] (tVs C W .be fs)) (hs : starEach [a, b] X.env = [(false, eval a X.env), (false, eval b X.env)] := by rfl) (hs2 : starEach [b] X.env = [(false, eval b X.env)] := by rfl) : PI X tg (.Call (.Name "range" p) [a, b] [] pos) (tI C W full (iRng2 fs)) := by
  refine pi_imp (pi_range2 hg hm ha hs hs2) fun σ H R ⟨P, ρ, S, A, G, hP, I, q⟩ => ⟨P, ρ, S, A, G, hP, I, EGood.step q (fun _ _ _ _ _ _ z => z) fun xs S1 q vs H1 p => ?_⟩
  obtain ⟨A1, g1, e1, J1, k1⟩ := p
  split at q
  · rename_i i j
    split at q
    · rename_i hj
      have hj := Bool.and_eq_true_iff.mp hj
      have hj := And.intro (inR_lt hj.1) (inR_lt hj.2)
      obtain ⟨v, u, ga, gb, rfl, r1, r2⟩ := k1.two
      exact ⟨i, j, by rw [r1.int, r2.int], ⟨hj.1.1, hj.1.2, hj.2.1, hj.2.2⟩, q _ _ ⟨A1, e1, J1, wk_rng⟩⟩
    · exact q.elim
  · exact q.elim
end

/-! ### comprehensions -/
def wipeR (ρ : Rho) : List Nat → Rho
  | [] => ρ
  | v :: vs => (wipeR ρ vs).set v none
def compL (tf : TgF) (tst : Rho → Mo Bool) (elt : Rho → Mo SV) (ρ : Rho) : List SV → List SV → Mo (List SV)
  | [], acc, S => some (.ok acc S)
  | x :: xs, acc, S => match tf x ρ with
    | none => none
    | some ρ' => match tst ρ' S with
      | some (.ok true S1) => (match elt ρ' S1 with
        | some (.ok y S2) => if acc.length < sizeLine then compL tf tst elt ρ xs (acc ++ [y]) S2 else none
        | _ => none)
      | some (.ok false S1) => compL tf tst elt ρ xs acc S1
      | _ => none
def eLc (it : Rho → Mo (List SV)) (tf : TgF) (tst : Rho → Mo Bool) (elt : Rho → Mo SV) (vs : List Nat) : Rho → Mo SV := fun ρ S => bindM (it ρ S) fun xs S1 => bindM (compL tf tst elt (wipeR ρ vs) xs [] S1) fun ys S2 => some (.ok (.own ys) S2)
/-- no exception leaves -/
abbrev WF : WX := fun _ _ _ _ => False
theorem wipeR_length (ρ : Rho) : ∀ vs : List Nat, (wipeR ρ vs).length = ρ.length
  | [] => rfl
  | v :: vs => by unfold wipeR; rw [List.length_set, wipeR_length ρ vs]
theorem wipeR_some {ρ : Rho} {i : Nat} {x : SV} : ∀ {vs : List Nat}, (wipeR ρ vs)[i]? = some (some x) → ρ[i]? = some (some x) ∧ i ∉ vs
  | [], h => ⟨h, by simp⟩
  | v :: vs, h => by
    unfold wipeR at h
    by_cases e : v = i
    · subst e
      by_cases hl : v < (wipeR ρ vs).length
      · rw [List.getElem?_set_self hl] at h; cases h
      · rw [List.getElem?_set, if_pos rfl, if_neg hl] at h; cases h
    · rw [List.getElem?_set_ne e] at h
      obtain ⟨h1, h2⟩ := wipeR_some h
      exact ⟨h1, by simp [h2, Ne.symm e]⟩
theorem Sim.wipe {C : Ct} {ρ : Rho} {S : Sto} {A : List Addr} {G : List (List Addr)} {σ : L2.St} {H : Hp} (I : Sim C ρ S A G σ H) (vs : List Nat) : Sim C (wipeR ρ vs) S A G (L2.wipe σ vs) H := by
  refine ⟨I.pre, by rw [wipeR_length, wipe_length, I.lr], by rw [wipeR_length, I.lg], I.ls, I.nd, I.trk, I.prot, fun i x e => ?_, I.sto, I.frame, I.fresh, I.a0⟩
  obtain ⟨e1, e2⟩ := wipeR_some e
  obtain ⟨v, g, h1, r, sb⟩ := I.slots i x e1
  exact ⟨v, g, by rw [wipe_out e2]; exact h1, r, sb⟩
end VL

end
section
set_option Elab.async false
set_option linter.all false
set_option maxRecDepth 100000
/-! VL7: comprehensions, for, while. -/
namespace VL
open PySem PySem.Spec PyProof.Rows L2
section
variable {C : Ct} {P P2 P3 : Addr → Prop} {ρ ρ' : Rho} {S S' : Sto} {A A' : List Addr} {G : List (List Addr)} {σ σ' : L2.St} {H H' : Hp}
/-- the outer slots, behind what was done within -/
theorem Sim.back (I : Sim (C.pr P2) ρ S A G σ H) (J : Sim (C.pr P3) ρ' S' A' G σ' H') (e : Ext A H A' H') (hp : ∀ a, P3 a → P2 a ∨ H a = none) : Sim (C.pr P3) ρ S' A' G σ H' := by
  refine ⟨J.pre, I.lr, I.lg, J.ls, J.nd, J.trk, J.prot, fun i x ex => ?_, J.sto, J.frame, J.fresh, J.a0⟩
  obtain ⟨v, g, e1, r, sb⟩ := I.slots i x ex
  refine ⟨v, g, e1, Rs.mono (prefix_get e.pre) (fun a z => ?_) (fun a o q n => e.keep a o q fun z => n (.inl z)) _ _ _ (fun a m o q => e.keep a o q fun z => (List.nodup_append.mp I.nd).2.2 a z a (getD_mem (sb.subset m)) rfl) r, sb⟩
  rcases z with z | z | z
  · exact (e.new a z).imp .inl id
  · exact .inl (.inr (.inl z))
  · exact (hp a z).imp (fun z => .inr (.inr z)) id
/-- a thing that is left alone is changed -/
theorem Sim.updP (I : Sim (C.pr P) ρ S A G σ H) {D : Addr} {o : HO} (hD : P D) (h0 : C.E0 D = none) : Sim (C.pr P) ρ S A G σ (upd H D o) := by
  have nD := I.prot D hD
  have hH : ∀ a o', H a = some o' → ¬ Fs (C.pr P) A G a → upd H D o a = some o' := fun a o' e n => by rw [upd_ne (show a ≠ D from fun z => n (by rw [z]; exact .inr (.inr hD)))]; exact e
  have hA : ∀ a, a ≠ D → upd H D o a = H a := fun a n => upd_ne n
  have tr : ∀ a, H a ≠ none → upd H D o a ≠ none := fun a h => by
    by_cases e : a = D
    · rw [e, upd_same]; simp
    · rw [hA a e]; exact h
  refine ⟨I.pre, I.lr, I.lg, I.ls, I.nd, fun a m => tr a (I.trk a m), fun a p => ⟨(I.prot a p).1, tr a (I.prot a p).2⟩, fun i x e => ?_, fun n xs e => ?_, fun a o' e n => ?_, I.fresh, I.a0⟩
  · obtain ⟨v, g, e1, r, sb⟩ := I.slots i x e
    refine ⟨v, g, e1, Rs.mono (fun _ _ q => q) (fun a z => .inl z) hH _ _ _ (fun a m o' q => ?_) r, sb⟩
    rw [hA a fun z => nD.1 (by rw [← z]; exact List.mem_append_right _ (getD_mem (sb.subset m)))]
    exact q
  · obtain ⟨a, vs, e1, e2, l, r⟩ := I.sto n xs e
    exact ⟨a, vs, e1, by rw [hA a fun z => nD.1 (by rw [← z]; exact List.mem_append_left _ (List.mem_of_getElem? e1))]; exact e2, l, RsL.mono (fun _ _ q => q) (fun a z => .inl z) hH _ _ _ (fun a m => by cases m) r⟩
  · have e' : C.E0 a = some o' := e
    rw [hA a fun z => by rw [z] at e'; rw [e'] at h0; cases h0]
    exact I.frame a o' e n
end
section
variable {X : Cx} {C : Ct} {W : WX} {kd ka kb : Kd} {tg elt iter : Expr} {ifs : List Expr} {scope : Scope} {own : List (Str × Nat)} {pos : Pos} {fi : Rho → Mo (List SV)} {ft : Rho → Mo Bool} {fe : Rho → Mo SV} {tf : TgF} {is : List Nat} {g : TG}
theorem compL_noexc {tf : TgF} {tst : Rho → Mo Bool} {elt : Rho → Mo SV} {ρ : Rho} : ∀ (xs acc : List SV) (S : Sto) (c : Str) (fs : List (Str × SV)) (S' : Sto), compL tf tst elt ρ xs acc S ≠ some (.exc c fs S')
  | [], acc, S, c, fs, S', h => by cases h
  | x :: xs, acc, S, c, fs, S', h => by
    unfold compL at h
    split at h
    · cases h
    · split at h
      · split at h
        · split at h
          · exact compL_noexc _ _ _ _ _ _ h
          · cases h
        · cases h
      · exact compL_noexc _ _ _ _ _ _ h
      · cases h
theorem t_lc (hgo : GOk C tf is g) {vs : List Nat} (his : ∀ j ∈ is, j ∈ vs) : ∀ σ H Q, tV C W kd (eLc fi tf ft fe vs) σ H Q → tLc (tI C W false fi) g (tTs C WF ft) (tV C WF .fe fe) vs σ H Q := by
  intro σ H Q ⟨P, ρ, S, A, G, hP, I, q⟩
  refine ⟨P, ρ, S, A, G, hP, I, EGood.step q (fun _ _ _ _ _ _ z => z) fun xs S1 q J H1 p => ?_⟩
  obtain ⟨A1, e1, I1, wk⟩ := p
  cases hcl : compL tf ft fe (wipeR ρ vs) xs [] S1 with
  | none => rw [hcl] at q; exact q.elim
  | some rr =>
  cases rr with
  | exc c fs S' => exact (compL_noexc _ _ _ _ _ _ hcl).elim
  | ok ys S2 =>
  rw [hcl] at q
  intro D hD
  have hE0 : C.E0 D = none := I1.e0 D hD
  have hW : ∀ (v : V) (H' : Hp), EPost (C.pr P) kd ρ A G σ H (SV.own ys) S2 v H' → Q v H' := q
  clear q
  refine ⟨fun i m H' => m = xs.length - i ∧ ∃ Si Ai acc accV gacc, i ≤ xs.length ∧ compL tf ft fe (wipeR ρ vs) (xs.drop i) acc Si = some (.ok ys S2) ∧ Ext A1 H1 Ai H' ∧ Sim (C.pr fun a => P a ∨ a = D ∨ a ∈ gacc) ρ Si Ai G σ H' ∧
    H' D = some (.lst accV) ∧ accV.length ≤ sizeLine ∧ RsL C.K C.mg H' Ai (fun a => Fs (C.pr P) Ai G a ∨ a = D ∨ a ∈ gacc) acc accV gacc ∧ gacc.Nodup ∧ (∀ a ∈ gacc, H1 a = none ∧ a ≠ D), ⟨xs.length - 0, rfl, S1, A1, [], [], [], Nat.zero_le _, by rw [List.drop_zero]; exact hcl, Ext.upd hD, ?_, upd_same, Nat.zero_le _, .nil, List.nodup_nil, fun a m => by cases m⟩, ?_⟩
  · exact Sim.prc (C := (C.pr P).pr fun a => P a ∨ a = D) (Sim.newP I1 hD) fun a z => z.elim .inl fun z => z.elim .inr fun m => by cases m
  rintro i m H' ⟨rfl, Si, Ai, acc, accV, gacc, hi, hc, ex, Is, hDa, hl, rl, nd, hg⟩
  have hkeep : false = false → ∀ a o, H1 a = some o → a ∉ A1 → H' a = some o := fun _ a o e n => ex.keep a o e n
  by_cases hlt : i < xs.length
  · -- a turn
    have hx : xs[i]? = some xs[i] := List.getElem?_eq_getElem hlt
    have hP2 : ∀ a, (P a ∨ a = D ∨ a ∈ gacc) → P a ∨ H1 a = none := fun a z => z.imp id fun z => z.elim (fun z => by rw [z]; exact hD) fun m => (hg a m).1
    obtain ⟨jgo, jy⟩ := wk.go (fun a => P a ∨ a = D ∨ a ∈ gacc) Ai G H' hP2 ex.s hkeep (fun a z => Is.fsTrk z) i _ hx
    rw [List.drop_eq_getElem_cons hlt] at hc
    unfold compL at hc
    cases htf : tf xs[i] (wipeR ρ vs) with
    | none => rw [htf] at hc; cases hc
    | some ρ' =>
    rw [htf] at hc
    simp only at hc
    refine .inr ⟨jgo, fun H'' => ∃ Si Ai acc accV gacc, i + 1 ≤ xs.length ∧ compL tf ft fe (wipeR ρ vs) (xs.drop (i + 1)) acc Si = some (.ok ys S2) ∧ Ext A1 H1 Ai H'' ∧ Sim (C.pr fun a => P a ∨ a = D ∨ a ∈ gacc) ρ Si Ai G σ H'' ∧
      H'' D = some (.lst accV) ∧ accV.length ≤ sizeLine ∧ RsL C.K C.mg H'' Ai (fun a => Fs (C.pr P) Ai G a ∨ a = D ∨ a ∈ gacc) acc accV gacc ∧ gacc.Nodup ∧ (∀ a ∈ gacc, H1 a = none ∧ a ≠ D), fun H'' h => ⟨xs.length - (i + 1), by omega, rfl, h⟩, fun v H3 y => ?_⟩
    obtain ⟨hn, rx⟩ := jy v H3 y
    have e3 : Ext Ai H' Ai H3 := by
      rcases hn with rfl | ⟨p, o, hp, rfl⟩
      · exact Ext.refl
      · exact Ext.upd hp
    have I3 : Sim (C.pr fun a => P a ∨ a = D ∨ a ∈ gacc) ρ Si Ai G σ H3 := by
      rcases hn with rfl | ⟨p, o, hp, rfl⟩
      · exact Is
      · exact Is.new hp
    refine hgo _ _ _ _ _ _ _ _ _ _ _ (I3.wipe vs) rx htf fun σ2 I4 so => ⟨?_, ?_⟩
    · rw [so.wipe his, wipe_wipe]
    refine ⟨_, ρ', Si, Ai, G, fun a z => .inl (hP a z), I4, ?_⟩
    cases htt : ft ρ' Si with
    | none => rw [htt] at hc; cases hc
    | some rt =>
    cases rt with
    | exc c fs S' => rw [htt] at hc; cases hc
    | ok b S3 =>
    rw [htt] at hc
    rintro b' H4 ⟨rfl, A4, e4, I5⟩
    have e34 : Ext Ai H' A4 H4 := e3.trans e4
    have hD4 : H4 D = some (.lst accV) := e34.keep D _ hDa fun z => (Is.prot D (.inr (.inl rfl))).1 (List.mem_append_left _ z)
    cases b' with
    | false =>
      simp only [Bool.false_eq_true, if_false] at hc ⊢
      refine ⟨S3, A4, acc, accV, gacc, hlt, hc, ex.trans e34, Sim.back Is I5 e34 fun a z => .inl z, hD4, hl, ?_, nd, hg⟩
      refine RsL.mono (prefix_get e34.pre) (fun a z => ?_) (fun a o q n => e34.keep a o q fun z => n (.inl (.inl z))) _ _ _ (fun a m o q => e34.keep a o q fun z => (Is.prot a (.inr (.inr m))).1 (List.mem_append_left _ z)) rl
      rcases z with (z | z | z) | z
      · exact (e34.new a z).imp (fun z => .inl (.inl z)) id
      · exact .inl (.inl (.inr (.inl z)))
      · exact .inl (.inl (.inr (.inr z)))
      · exact .inl (.inr z)
    | true =>
      simp only [if_true] at hc ⊢
      refine ⟨_, ρ', S3, A4, G, fun a z => .inl (hP a z), I5, ?_⟩
      cases hte : fe ρ' S3 with
      | none => rw [hte] at hc; cases hc
      | some re =>
      cases re with
      | exc c fs S' => rw [hte] at hc; cases hc
      | ok z S4 =>
      rw [hte] at hc
      simp only at hc
      rintro w H5 ⟨A5, g5, e5, I6, k5⟩
      have e35 : Ext Ai H' A5 H5 := e34.trans e5
      have hD5 : H5 D = some (.lst accV) := e35.keep D _ hDa fun z => (Is.prot D (.inr (.inl rfl))).1 (List.mem_append_left _ z)
      split at hc
      · rename_i hsz
        have hlen := rl.length
        refine ⟨accV, hD5, by rw [hlen]; exact hsz, S4, A5, acc ++ [z], accV ++ [w], gacc ++ g5, hlt, hc, ?_, ?_, upd_same, by rw [List.length_append, hlen]; exact hsz, ?_, ?_, ?_⟩
        · have e15 := ex.trans e35
          refine ⟨e15.pre, e15.new, fun a o e n => ?_, fun a h => ?_⟩
          · rw [upd_ne (show a ≠ D from fun z => by rw [z, hD] at e; cases e)]
            exact e15.keep a o e n
          · by_cases ea : a = D
            · rw [ea, upd_same]; simp
            · rw [upd_ne ea]; exact e15.there a h
        · have I6' : Sim (C.pr fun a => (P a ∨ a = D ∨ a ∈ gacc) ∨ a ∈ g5) ρ' S4 A5 G σ2 H5 := I6
          have I7 := Sim.back Is I6' e35 (fun a z => z.imp id fun m => none_back e34 (k5.2.2 a m).1)
          have I8 : Sim (C.pr fun a => P a ∨ a = D ∨ a ∈ gacc ++ g5) ρ S4 A5 G σ H5 := Sim.prc (C := C.pr fun a => (P a ∨ a = D ∨ a ∈ gacc) ∨ a ∈ g5) I7 fun a z => by
            rcases z with z | z | z
            · exact .inl (.inl z)
            · exact .inl (.inr (.inl z))
            · exact (List.mem_append.mp z).elim (fun z => .inl (.inr (.inr z))) .inr
          exact I8.updP (.inr (.inl rfl)) hE0
        · refine RsL.app ?_ (g' := g5) ?_
          · refine RsL.mono (prefix_get e35.pre) (fun a z => ?_) (fun a o q n => ?_) _ _ _ (fun a m o q => ?_) rl
            · rcases z with (z | z | z) | z | z
              · exact (e35.new a z).imp (fun z => .inl (.inl z)) id
              · exact .inl (.inl (.inr (.inl z)))
              · exact .inl (.inl (.inr (.inr z)))
              · exact .inl (.inr (.inl z))
              · rcases List.mem_append.mp z with z | z
                · exact .inl (.inr (.inr z))
                · exact .inr (none_back e34 (k5.2.2 a z).1)
            · rw [upd_ne (show a ≠ D from fun z => n (.inr (.inl z)))]
              exact e35.keep a o q fun z => n (.inl (.inl z))
            · rw [upd_ne (hg a m).2]
              exact e35.keep a o q fun z => (Is.prot a (.inr (.inr m))).1 (List.mem_append_left _ z)
          · have r5 := k5.1
            have : RsL C.K C.mg (upd H5 D (.lst (accV ++ [w]))) A5 (fun a => Fs (C.pr P) A5 G a ∨ a = D ∨ a ∈ gacc ++ g5) [z] [w] (g5 ++ []) := by
              refine .cons (Rs.mono (fun _ _ q => q) (fun a z => ?_) (fun a o q n => ?_) _ _ _ (fun a m o q => ?_) r5) .nil
              · rcases z with (z | z | z) | z | z
                · exact .inl (.inl (.inl z))
                · exact .inl (.inl (.inr (.inl z)))
                · exact .inl (.inl (.inr (.inr (.inl z))))
                · exact .inl (.inl (.inr (.inr (.inr (.inl z)))))
                · rcases List.mem_append.mp z with z | z
                  · exact .inl (.inl (.inr (.inr (.inr (.inr z)))))
                  · exact .inl (.inr z)
              · rw [upd_ne (show a ≠ D from fun z => n (.inl (.inr (.inr (.inr (.inl z))))))]
                exact q
              · rw [upd_ne (show a ≠ D from fun z => by
                  have := (k5.2.2 a m).1
                  rw [z, hD4] at this
                  cases this)]
                exact q
            rw [List.append_nil] at this
            exact this
        · refine List.nodup_append.mpr ⟨nd, k5.2.1, fun a h b h' e => ?_⟩
          subst e
          have h1 := (k5.2.2 a h').1
          exact e34.there a (Is.prot a (.inr (.inr h))).2 h1
        · intro a m
          rcases List.mem_append.mp m with m | m
          · exact hg a m
          · have h1 := (k5.2.2 a m).1
            refine ⟨none_back ex (none_back e34 h1), fun z => ?_⟩
            rw [z, hD4] at h1
            cases h1
      · cases hc
  · -- the end
    have hie : i = xs.length := by omega
    rw [List.drop_eq_nil_of_le (by omega)] at hc
    cases hc
    refine .inl ⟨wk.stop Ai G H' ex.s hkeep i (by omega), hW _ _ (EPost.be ⟨Ai, D :: gacc, e1.trans ex, ?_, .own hDa hl ?_, ?_, ?_⟩)⟩
    · exact Sim.prc (C := C.pr fun a => P a ∨ a = D ∨ a ∈ gacc) Is fun a z => z.imp id fun m => by simpa using m
    · exact RsL.mono (fun _ _ q => q) (fun a z => .inl (z.imp id fun m => by simpa using m)) (fun a o q n => q) _ _ _ (fun a m o q => q) rl
    · exact List.nodup_cons.mpr ⟨fun m => (hg D m).2 rfl, nd⟩
    · intro a m
      have m' : a = D ∨ a ∈ gacc := by simpa using m
      refine ⟨?_, (Is.prot a (.inr m')).2, fun z => (Is.prot a (.inr m')).1 (List.mem_append_left _ z)⟩
      rcases m' with m' | m'
      · rw [m']; exact none_back e1 hD
      · exact none_back e1 (hg a m').1
theorem v_lc (hc : X.calm = true) (hN : X.N.Nodup) (hi : PI X tg iter (tI C W false fi)) (ok : BlkOk X.N X.env.scope scope own) (hg : ∀ (s : Shared) (H : Hp) (Ca : Addr) (cl : List (Str × Addr)) (fp : List Addr), PG (X.blk s H scope (compEnvC scope cl Ca X.env) fp) tg g) (hgo : GOk C tf is g)
    (his : ∀ j ∈ is, j ∈ own.map (·.2)) (ht : ∀ (s : Shared) (H : Hp) (Ca : Addr) (cl : List (Str × Addr)) (fp : List Addr), PTs (X.blk s H scope (compEnvC scope cl Ca X.env) fp) ifs (tTs C WF ft))
    (he : ∀ (s : Shared) (H : Hp) (Ca : Addr) (cl : List (Str × Addr)) (fp : List Addr), PE (X.blk s H scope (compEnvC scope cl Ca X.env) fp) elt (tV C WF .fe fe)) (hs : ∀ x, foldedSetIterable iter X.env x = pure x := by intro _; rfl) :
    PE X (.ListComp elt [⟨tg, iter, ifs, 0⟩] scope pos) (tV C W kd (eLc fi tf ft fe (own.map (·.2)))) := pe_imp (pe_lc hc hN hi ok hg ht he hs) (t_lc hgo his)
/-- no test -/
def bYes : Rho → Mo Bool := fun _ S => some (.ok true S)
theorem ts_nil {X : Cx} : PTs X [] (tTs C WF bYes) := ⟨fun pins s σ H Q I h => pts_nil.run pins s σ H Q I (by
  obtain ⟨P, ρ, S, A, G, hP, I', q⟩ := h
  exact q true H ⟨rfl, A, Ext.refl, I'⟩)⟩
theorem ts_one {X : Cx} {c : Expr} (h : PT X c (tTs C WF ft)) : PTs X [c] (tTs C WF ft) := pts_one h
end
end VL

end
section
set_option Elab.async false
set_option linter.all false
set_option maxRecDepth 100000
/-! VL8: statements; a def by its body; calls. -/
namespace VL
open PySem PySem.Spec PyProof.Rows L2

def bindS {α : Type} (ρ : Rho) (m : Option (Res α)) (k : α → Sto → Option Fl) : Option Fl :=
  match m with
  | none => none
  | some (.ok a S) => k a S
  | some (.exc c fs S) => some (.exc c fs ρ S)
@[simp] theorem bindS_ok {α : Type} (ρ : Rho) (a : α) (S : Sto) (k : α → Sto → Option Fl) : bindS ρ (some (.ok a S)) k = k a S := rfl
@[simp] theorem bindS_none {α : Type} (ρ : Rho) (k : α → Sto → Option Fl) : bindS ρ none k = none := rfl
@[simp] theorem bindS_exc {α : Type} (ρ : Rho) (c : Str) (fs : List (Str × SV)) (S : Sto) (k : α → Sto → Option Fl) : bindS ρ (some (.exc c fs S)) k = some (.exc c fs ρ S) := rfl
def sNil : Rho → Sto → Option Fl := fun ρ S => some (.nx ρ S)
def sSeq (f g : Rho → Sto → Option Fl) : Rho → Sto → Option Fl := fun ρ S => match f ρ S with
  | some (.nx ρ' S') => g ρ' S'
  | r => r
def sSet (i : Nat) (f : Rho → Mo SV) : Rho → Sto → Option Fl := fun ρ S => bindS ρ (f ρ S) fun x S1 => some (.nx (ρ.set i (some x)) S1)
def sAsg (t : TgF) (f : Rho → Mo SV) : Rho → Sto → Option Fl := fun ρ S => bindS ρ (f ρ S) fun x S1 => (frz x).bind fun y => (t y ρ).map fun ρ' => .nx ρ' S1
def sPar (i j : Nat) (fs : Rho → Mo (List SV)) : Rho → Sto → Option Fl := fun ρ S => bindS ρ (fs ρ S) fun xs S1 => match xs with
  | [x, y] => some (.nx ((ρ.set i (some x)).set j (some y)) S1)
  | _ => none
def sRet (f : Rho → Mo SV) : Rho → Sto → Option Fl := fun ρ S => bindS ρ (f ρ S) fun x S1 => some (.rt x S1)
/-- a local is handed back, a list of one's own too -/
def sRetV (i : Nat) : Rho → Sto → Option Fl := fun ρ S => match ρ[i]? with
  | some (some x) => some (.rt x S)
  | _ => none
def sRetN : Rho → Sto → Option Fl := fun _ S => some (.rt (.d .none) S)
def sIf (c : Rho → Mo Bool) (f g : Rho → Sto → Option Fl) : Rho → Sto → Option Fl := fun ρ S => bindS ρ (c ρ S) fun b S1 => if b then f ρ S1 else g ρ S1
def sDrop (f : Rho → Mo SV) : Rho → Sto → Option Fl := fun ρ S => bindS ρ (f ρ S) fun _ S1 => some (.nx ρ S1)
def sBrk : Rho → Sto → Option Fl := fun ρ S => some (.bk ρ S)
def sCnt : Rho → Sto → Option Fl := fun ρ S => some (.ct ρ S)
def forL (t : TgF) (body : Rho → Sto → Option Fl) : List SV → Rho → Sto → Option Fl
  | [], ρ, S => some (.nx ρ S)
  | x :: xs, ρ, S => match t x ρ with
    | none => none
    | some ρ' => match body ρ' S with
      | some (.nx ρ2 S2) => forL t body xs ρ2 S2
      | some (.ct ρ2 S2) => forL t body xs ρ2 S2
      | some (.bk ρ2 S2) => some (.nx ρ2 S2)
      | r => r
def sFor (it : Rho → Mo (List SV)) (t : TgF) (body : Rho → Sto → Option Fl) : Rho → Sto → Option Fl := fun ρ S => bindS ρ (it ρ S) fun xs S1 => forL t body xs ρ S1
def whileF (c : Rho → Mo Bool) (b : Rho → Sto → Option Fl) : Nat → Rho → Sto → Option Fl
  | 0, _, _ => none
  | n + 1, ρ, S => bindS ρ (c ρ S) fun k S1 => if k then (match b ρ S1 with
      | some (.nx ρ2 S2) => whileF c b n ρ2 S2
      | some (.ct ρ2 S2) => whileF c b n ρ2 S2
      | some (.bk ρ2 S2) => some (.nx ρ2 S2)
      | r => r) else some (.nx ρ S1)
open Classical in
noncomputable def sWhile (c : Rho → Mo Bool) (b : Rho → Sto → Option Fl) : Rho → Sto → Option Fl := fun ρ S =>
  if h : ∃ n r, whileF c b n ρ S = some r then some h.choose_spec.choose else none
theorem whileF_mono {c : Rho → Mo Bool} {b : Rho → Sto → Option Fl} : ∀ {n : Nat} {ρ : Rho} {S : Sto} {r : Fl}, whileF c b n ρ S = some r → whileF c b (n + 1) ρ S = some r
  | 0, _, _, _, h => by cases h
  | n + 1, ρ, S, r, h => by
    unfold whileF at h ⊢
    cases e : c ρ S with
    | none => rw [e] at h; cases h
    | some x =>
      rw [e] at h
      cases x with
      | exc => exact h
      | ok k S1 =>
        simp only [bindS_ok] at h ⊢
        cases k with
        | false => exact h
        | true =>
          simp only [if_true] at h ⊢
          cases eb : b ρ S1 with
          | none => rw [eb] at h; cases h
          | some y =>
            rw [eb] at h
            cases y with
            | nx ρ2 S2 => exact whileF_mono h
            | ct ρ2 S2 => exact whileF_mono h
            | bk ρ2 S2 => exact h
            | rt v S2 => exact h
            | exc c f S2 => exact h
theorem whileF_add {c : Rho → Mo Bool} {b : Rho → Sto → Option Fl} {n : Nat} {ρ : Rho} {S : Sto} {r : Fl} (h : whileF c b n ρ S = some r) (m : Nat) : whileF c b (n + m) ρ S = some r := by
  induction m with
  | zero => exact h
  | succ m ih => exact whileF_mono ih
theorem sWhile_of {c : Rho → Mo Bool} {b : Rho → Sto → Option Fl} {n : Nat} {ρ : Rho} {S : Sto} {r : Fl} (h : whileF c b n ρ S = some r) : sWhile c b ρ S = some r := by
  unfold sWhile
  have hx : ∃ n r, whileF c b n ρ S = some r := ⟨n, r, h⟩
  rw [dif_pos hx]
  have h2 := hx.choose_spec.choose_spec
  have e1 := whileF_add h hx.choose
  have e2 := whileF_add h2 n
  rw [Nat.add_comm] at e2
  rw [e1] at e2
  exact e2.symm
theorem sWhile_some {c : Rho → Mo Bool} {b : Rho → Sto → Option Fl} {ρ : Rho} {S : Sto} {r : Fl} (h : sWhile c b ρ S = some r) : ∃ n, whileF c b n ρ S = some r := by
  unfold sWhile at h
  split at h
  · rename_i hx
    cases h
    exact ⟨_, hx.choose_spec.choose_spec⟩
  · cases h

/-! ### their readings -/
section
variable {C : Ct} {W : WX} {ρ ρ' : Rho} {S S' : Sto} {A A' : List Addr} {G G' : List (List Addr)} {σ σ' : L2.St} {H H' : Hp} {D : Ends}
theorem Ct.pr_self : C.pr C.Pr = C := rfl
theorem SGood.step {α V1 : Type} {post1 : α → Sto → V1 → Hp → Prop} {m : Option (Res α)} {k : α → Sto → Option Fl} {Q1 : V1 → Hp → Prop} (q : SGood C W A G H D (bindS ρ m k))
    (h : ∀ x S', SGood C W A G H D (k x S') → ∀ v H', post1 x S' v H' → Q1 v H') : EGood post1 (XPost C ρ A G σ H) W σ Q1 m := by
  cases m with
  | none => exact q
  | some r =>
    cases r with
    | ok x S' => exact h x S' q
    | exc c fs S' => exact fun cls d H' ⟨A', e, I, r⟩ => q A' G σ H' cls d e.s I r
theorem SGood.nx (q : SGood C W A G H D (some (.nx ρ' S'))) (e : ExtS A G H A' G' H') (I : Sim C ρ' S' A' G' σ' H') : D.nx σ' H' := q A' G' σ' H' e I
/-- at a return -/
theorem RSto.of {g : List Addr} (I : Sim (C.pr fun a => C.Pr a ∨ a ∈ g) ρ S' A' G σ H') (nd : g.Nodup) (h0 : ∀ a ∈ g, C.E0 a = none) : RSto C A' g S' H' := by
  refine ⟨I.pre, I.ls, List.nodup_append.mpr ⟨(List.nodup_append.mp I.nd).1, nd, fun a h b h' e => ?_⟩, fun a m => ?_, h0, fun n xs e => ?_, I.frame, fun a h => ?_⟩
  · subst e
    exact (I.prot a (.inr h')).1 (List.mem_append_left _ h)
  · rcases List.mem_append.mp m with m | m
    · exact ⟨I.trk a (List.mem_append_left _ m), I.fresh a (List.mem_append_left _ m)⟩
    · exact ⟨(I.prot a (.inr m)).2, .inr (h0 a m)⟩
  · obtain ⟨a, vs, e1, e2, l, r⟩ := I.sto n xs e
    exact ⟨a, vs, e1, e2, l, RsL.mono (fun _ _ q => q) (fun a z => .inl (z.elim .inl fun z => z.elim (fun z => .inr (.inr (.inr z))) fun z => .inr (.inr (.inl z)))) (fun a o q n => q) _ _ _ (fun a m o q => q) r⟩
  · cases q : C.E0 a with
    | none => exact absurd q h
    | some o =>
      by_cases z : a ∈ C.A0
      · exact I.trk a (List.mem_append_left _ (I.pre.subset z))
      · rw [I.frame a o q z]; simp
end
section
variable {X : Cx} {C : Ct} {W : WX} {kd ka kb : Kd} {tg e iter : Expr} {es : List Expr} {st : Stmt} {rest body : List Stmt} {pos : Pos} {f fa fb : Rho → Mo SV} {fs : Rho → Mo (List SV)} {fi : Rho → Mo (List SV)} {fc : Rho → Mo Bool} {s s1 s2 : Rho → Sto → Option Fl} {tf : TgF} {is : List Nat} {g : TG}
theorem ss_nil : PSs X [] (tS C W sNil) := pss_imp pss_nil fun D σ H ⟨ρ, S, A, G, I, q⟩ => q A G σ H ExtS.refl I
theorem ss_cons (h1 : PS X st (tS C W s1)) (h2 : PSs X rest (tS C W s2)) : PSs X (st :: rest) (tS C W (sSeq s1 s2)) := by
  refine pss_imp (pss_cons h1 h2) fun D σ H ⟨ρ, S, A, G, I, q⟩ => ⟨ρ, S, A, G, I, ?_⟩
  unfold sSeq at q
  cases e : s1 ρ S with
  | none => rw [e] at q; exact q
  | some r =>
    rw [e] at q
    cases r with
    | nx ρ' S' => exact fun A' G' σ' H' x J => ⟨ρ', S', A', G', J, q.ext x⟩
    | rt x S' => exact q
    | bk ρ' S' => exact q
    | ct ρ' S' => exact q
    | exc c fs ρ' S' => exact q
theorem ss_one (h1 : PS X st (tS C W s1)) : PSs X [st] (tS C W s1) := pss_one h1
theorem s_pass : PS X (.Pass pos) (tS C W sNil) := ps_imp ps_pass fun D σ H ⟨ρ, S, A, G, I, q⟩ => q A G σ H ExtS.refl I
theorem s_doc {x j pos pos'} : PS X (.Expr (.Constant (.str x) j pos) pos') (tS C W sNil) := ps_imp ps_doc fun D σ H ⟨ρ, S, A, G, I, q⟩ => q A G σ H ExtS.refl I
theorem s_brk : PS X (.Break pos) (tS C W sBrk) := ps_imp ps_break fun D σ H ⟨ρ, S, A, G, I, q⟩ => q A G σ H ExtS.refl I
theorem s_cnt : PS X (.Continue pos) (tS C W sCnt) := ps_imp ps_continue fun D σ H ⟨ρ, S, A, G, I, q⟩ => q A G σ H ExtS.refl I
theorem put_ext {A A' : List Addr} {G : List (List Addr)} {H H' : Hp} {g : List Addr} {i : Nat} (e : Ext A H A' H') (h : ∀ a ∈ g, H a = none) : ExtS A G H A' (G.set i g) H' := by
  refine ⟨e.pre, fun a m => ?_, e.s (G := G).keep, e.there⟩
  rcases List.mem_append.mp m with m | m
  · exact (e.new a m).imp (List.mem_append_left _) id
  · rcases flatten_set_sub m with m | m
    · exact .inl (List.mem_append_right _ m)
    · exact .inr (h a m)
theorem s_set {i : Nat} {x : Str} {pos' : Pos} (hN : X.N.Nodup) (hi : X.N[i]? = some x) (hx : Loc X.env.scope x) (he : PE X e (tV C W .fe f)) (hs : swapsWith e (some (.Name x pos')) pos.line X.env = pure false := by rfl) (hf : X.fn x = true ∨ X.env.scope.names.lookup x = some .local := by first | exact .inl rfl | exact .inr rfl | assumption) :
    PS X (.Assign [.Name x pos'] e pos) (tS C W (sSet i f)) := by
  refine ps_imp (ps_set hN hi hx he hs hf) fun D σ H ⟨ρ, S, A, G, I, q⟩ => ⟨C.Pr, ρ, S, A, G, fun _ h => h, I, SGood.step q fun x S' q v H' p => ?_⟩
  obtain ⟨A', g, e, J, r⟩ := p
  exact q _ _ _ _ (put_ext e fun a m => (r.2.2 a m).1) (Sim.put J r.1 r.2.1 (fun a m => I.e0 a (r.2.2 a m).1) fun a m z => (I.prot a z).2 (r.2.2 a m).1)
theorem t_setlc {i : Nat} {t : TE} (h : ∀ σ H Q, tV C W .fe f σ H Q → t σ H Q) : ∀ D σ H, tS C W (sSet i f) D σ H → tAsg t (gName i) D σ H := by
  intro D σ H ⟨ρ, S, A, G, I, q⟩
  refine h σ H _ ⟨C.Pr, ρ, S, A, G, fun _ h => h, I, SGood.step q fun x S' q v H' p => ?_⟩
  obtain ⟨A', g, e, J, r⟩ := p
  exact q _ _ _ _ (put_ext e fun a m => (r.2.2 a m).1) (Sim.put J r.1 r.2.1 (fun a m => I.e0 a (r.2.2 a m).1) fun a m z => (I.prot a z).2 (r.2.2 a m).1)
theorem s_asg (he : PE X e (tV C W .fe f)) (hg : PG X tg g) (hgo : GOk C tf is g) (hs : swapsWithSole [tg] e pos.line X.env = pure false := by rfl) (hw : swappedStores [tg] e X.env = pure none := by rfl)
    (h1 : (assignEach [tg] X.env).map (·.2) = [assign tg X.env] := by rfl) : PS X (.Assign [tg] e pos) (tS C W (sAsg tf f)) := by
  refine ps_imp (ps_asg he hg hs hw h1) fun D σ H ⟨ρ, S, A, G, I, q⟩ => ⟨C.Pr, ρ, S, A, G, fun _ h => h, I, SGood.step q fun x S' q v H' p => ?_⟩
  obtain ⟨A', g', e, J, r⟩ := p
  cases ef : frz x with
  | none => rw [ef] at q; exact q.elim
  | some y =>
    rw [ef] at q
    simp only [Option.bind_some] at q
    cases et : tf y ρ with
    | none => rw [et] at q; exact q.elim
    | some ρ' =>
      rw [et] at q
      have J0 : Sim (C.pr C.Pr) ρ S' A' G σ H' := Sim.prc (C := C.pr fun a => C.Pr a ∨ a ∈ g') J fun a z => .inl z
      exact hgo C.Pr ρ ρ' S' A' G σ H' y v _ J0 (Rk.frz (C := C) r (new_not1 (P := C.Pr) (S1 := S') I r) ef) et fun σ' J' _ => q A' G σ' H' e.s J'
theorem s_par {i j : Nat} {x y : Str} {a b : Expr} {px py pt : Pos} {kt k2 pt2} (hc : X.calm = true) (hN : X.N.Nodup) (hi : X.N[i]? = some x) (hj : X.N[j]? = some y) (hij : i ≠ j)
    (hx : X.env.scope.names.lookup x = some .local) (hy : X.env.scope.names.lookup y = some .local) (ha : PA X [a, b] (tVs C W .fe fs))
    (hw : swappedStores [.Tuple [.Name x px, .Name y py] kt pt] (.Tuple [a, b] k2 pt2) X.env = pure (some [x, y]))
    (hs : swapsWithSole [.Tuple [.Name x px, .Name y py] kt pt] (.Tuple [a, b] k2 pt2) pos.line X.env = pure false := by rfl) : PS X (.Assign [.Tuple [.Name x px, .Name y py] kt pt] (.Tuple [a, b] k2 pt2) pos) (tS C W (sPar i j fs)) := by
  refine ps_imp (ps_par hc hN hi hj hij hx hy ha hw hs) fun D σ H ⟨ρ, S, A, G, I, q⟩ => ⟨C.Pr, ρ, S, A, G, fun _ h => h, I, SGood.step q fun xs S' q vs H' p => ?_⟩
  obtain ⟨A', g', e, J, r⟩ := p
  split at q
  · rename_i x y
    obtain ⟨r0, nd, hg⟩ := r
    cases r0 with
    | cons r1 r2 =>
      rename_i v us g1 g2
      cases r2 with
      | cons r2 r3 =>
        rename_i w ws g3 g4
        cases r3
        rw [List.append_nil] at *
        have n := List.nodup_append.mp nd
        refine ⟨v, w, rfl, ?_⟩
        have e0 : ∀ a ∈ g1 ++ g3, C.E0 a = none := fun a m => I.e0 a (hg a m).1
        have np : ∀ a ∈ g1 ++ g3, ¬ C.Pr a := fun a m z => (I.prot a z).2 (hg a m).1
        -- the first
        have K1 : Sim ((C.pr fun a => C.Pr a ∨ a ∈ g3).pr fun a => (C.pr fun a => C.Pr a ∨ a ∈ g3).Pr a ∨ a ∈ g1) ρ S' A' G σ H' := Sim.prc (C := C.pr fun a => C.Pr a ∨ a ∈ g1 ++ g3) J fun a z => by
          rcases z with (z | z) | z
          · exact .inl z
          · exact .inr (List.mem_append_right _ z)
          · exact .inr (List.mem_append_left _ z)
        have J1 := Sim.put (i := i) K1 (x := x) (v := v) (Rs.mono (fun _ _ q => q) (fun a z => .inl (by
          rcases z with (z | z | z | z) | z
          · exact .inl (.inl z)
          · exact .inl (.inr (.inl z))
          · exact .inl (.inr (.inr z))
          · exact .inr (List.mem_append_right _ z)
          · exact .inr (List.mem_append_left _ z))) (fun a o q n => q) _ _ _ (fun a m o q => q) r1) n.1 (fun a m => e0 a (List.mem_append_left _ m)) (fun a m z => z.elim (np a (List.mem_append_left _ m)) fun z => n.2.2 a m a z rfl)
        -- the second
        have J2 := Sim.put (C := C) (i := j) (x := y) (v := w) (g := g3) J1 (Rs.mono (fun _ _ q => q) (fun a z => .inl (by
          rcases z with (z | z | z) | z
          · exact .inl (.inl z)
          · rcases flatten_set_sub z with z | z
            · exact .inl (.inr (.inl z))
            · exact .inr (List.mem_append_left _ z)
          · exact .inl (.inr (.inr z))
          · exact .inr (List.mem_append_right _ z))) (fun a o q n => q) _ _ _ (fun a m o q => q) r2) n.2.1 (fun a m => e0 a (List.mem_append_right _ m)) (fun a m => np a (List.mem_append_right _ m))
        refine q _ _ _ _ ⟨e.pre, fun a m => ?_, e.s (G := G).keep, e.there⟩ J2
        rcases List.mem_append.mp m with m | m
        · exact (e.new a m).imp (List.mem_append_left _) id
        · rcases flatten_set_sub m with m | m
          · rcases flatten_set_sub m with m | m
            · exact .inl (List.mem_append_right _ m)
            · exact .inr (hg a (List.mem_append_left _ m)).1
          · exact .inr (hg a (List.mem_append_right _ m)).1
  · exact q.elim
theorem s_ret (he : PE X e (tV C W .fe f)) : PS X (.Return (some e) pos) (tS C W (sRet f)) := by
  refine ps_imp (ps_ret he) fun D σ H ⟨ρ, S, A, G, I, q⟩ => ⟨C.Pr, ρ, S, A, G, fun _ h => h, I, SGood.step q fun x S' q v H' p => ?_⟩
  obtain ⟨A', g, e, J, r⟩ := p
  refine q v H' ⟨A', g, RSto.of J r.2.1 (fun a m => I.e0 a (r.2.2 a m).1), Rs.mono (fun _ _ q => q) (fun a z => .inl ?_) (fun a o q n => q) _ _ _ (fun a m o q => q) r.1⟩
  rcases z with z | z | z
  · exact .inl (.inl z)
  · exact .inr z
  · exact .inl (.inr (.inr z))
theorem s_retV {i : Nat} (he : PE X e (tVar i)) : PS X (.Return (some e) pos) (tS C W (sRetV i)) := by
  refine ps_imp (ps_ret he) fun D σ H ⟨ρ, S, A, G, I, q⟩ => ?_
  unfold sRetV at q
  split at q
  · rename_i x hx
    obtain ⟨v, g, e1, r, sb⟩ := I.slots i x hx
    have hm : ∀ a ∈ g, a ∈ G.flatten := fun a m => getD_mem (sb.subset m)
    have hnd : (A ++ g).Nodup := by
      have n := List.nodup_append.mp I.nd
      refine List.nodup_append.mpr ⟨n.1, ?_, fun a h b h' e => n.2.2 a h b (hm b h') e⟩
      cases hG : G[i]? with
      | none => rw [hG] at sb; rw [List.sublist_nil.mp sb]; exact List.nodup_nil
      | some l =>
        rw [hG] at sb
        exact ((List.pairwise_flatten.mp n.2.1).1 l (List.mem_of_getElem? hG)).sublist sb
    have hE : ∀ a ∈ g, C.E0 a = none := fun a m => by
      rcases I.fresh a (List.mem_append_right _ (hm a m)) with z | z
      · exact absurd rfl ((List.nodup_append.mp hnd).2.2 a (I.pre.subset z) a m)
      · exact z
    refine ⟨v, e1, q v H ⟨A, g, ⟨I.pre, I.ls, hnd, fun a m => ?_, hE, fun n xs e => ?_, I.frame, fun a h => ?_⟩, Rs.mono (fun _ _ q => q) (fun a z => .inl ?_) (fun a o q n => q) _ _ _ (fun a m o q => q) r⟩⟩
    · rcases List.mem_append.mp m with m | m
      · exact ⟨I.trk a (List.mem_append_left _ m), I.fresh a (List.mem_append_left _ m)⟩
      · exact ⟨I.trk a (List.mem_append_right _ (hm a m)), .inr (hE a m)⟩
    · obtain ⟨a, vs, e1, e2, l, r⟩ := I.sto n xs e
      exact ⟨a, vs, e1, e2, l, RsL.mono (fun _ _ q => q) (fun a z => .inl (z.elim .inl fun z => z.elim (fun z => .inr (.inl (hm a z))) fun z => .inr (.inr z))) (fun a o q n => q) _ _ _ (fun a m o q => q) r⟩
    · cases q : C.E0 a with
      | none => exact absurd q h
      | some o =>
        by_cases z : a ∈ C.A0
        · exact I.trk a (List.mem_append_left _ (I.pre.subset z))
        · rw [I.frame a o q z]; simp
    · exact z.elim .inl fun z => z.elim (fun z => .inr (.inl (hm a z))) fun z => .inr (.inr z)
  · exact q.elim
theorem s_retN : PS X (.Return none pos) (tS C W sRetN) := by
  refine ps_imp ps_retN fun D σ H ⟨ρ, S, A, G, I, q⟩ => ?_
  have J : Sim (C.pr fun a => C.Pr a ∨ a ∈ ([] : List Addr)) ρ S A G σ H := I.prc fun a h => h.elim id fun m => by cases m
  exact q _ H ⟨A, [], RSto.of J List.nodup_nil (fun a m => by cases m), .d .non⟩
theorem s_if {a b : List Stmt} (hc : PT X e (tTs C W fc)) (ha : PSs X a (tS C W s1)) (hb : PSs X b (tS C W s2)) : PS X (.If e a b pos) (tS C W (sIf fc s1 s2)) := by
  refine ps_imp (ps_if hc ha hb) fun D σ H ⟨ρ, S, A, G, I, q⟩ => ⟨C.Pr, ρ, S, A, G, fun _ h => h, I, SGood.step q fun k S' q v H' p => ?_⟩
  obtain ⟨rfl, A', e, J⟩ := p
  cases v with
  | true => exact ⟨ρ, S', A', G, J, q.ext e.s⟩
  | false => exact ⟨ρ, S', A', G, J, q.ext e.s⟩
theorem s_drop (he : PE X e (tV C W kd f)) (hs : swapsWith e none pos.line X.env = pure false := by rfl) : PS X (.Expr e pos) (tS C W (sDrop f)) := by
  refine ps_imp (ps_expr he hs) fun D σ H ⟨ρ, S, A, G, I, q⟩ => ⟨C.Pr, ρ, S, A, G, fun _ h => h, I, SGood.step q fun x S' q v H' p => ?_⟩
  obtain ⟨A', g, e, J, r⟩ := p
  exact q _ _ _ _ e.s J.pgw
theorem s_for (hp : PassesOwn (model X.prog X.w) X.A X.env X.xe) (hc : X.calm = true) (hi : PI X tg iter (tI C W true fi)) (hg : PG X tg g) (hgo : GOk C tf is g) (hb : PSs X body (tS C W s))
    (hs : ∀ x, foldedSetIterable iter X.env x = pure x := by intro _; rfl) : PS X (.For tg iter body [] pos) (tS C W (sFor fi tf s)) := by
  refine ps_imp (ps_for hp hc hi hg hb hs) fun D σ H ⟨ρ, S, A, G, I, q⟩ => ⟨C.Pr, ρ, S, A, G, fun _ h => h, I, SGood.step q fun xs S1 q J H1 p => ?_⟩
  obtain ⟨A1, e1, I1, wk⟩ := p
  have q := q.ext e1.s
  refine ⟨fun i m σ H' => m = xs.length - i ∧ i ≤ xs.length ∧ ∃ ρi Si Ai Gi, ExtS A1 G H1 Ai Gi H' ∧ Sim C ρi Si Ai Gi σ H' ∧ SGood C W A1 G H1 D (forL tf s (xs.drop i) ρi Si), ⟨xs.length - 0, rfl, Nat.zero_le _, ρ, S1, A1, G, ExtS.refl, I1, by rw [List.drop_zero]; exact q⟩, ?_⟩
  rintro i m σ H' ⟨rfl, hi, ρi, Si, Ai, Gi, ex, Is, qi⟩
  by_cases hlt : i < xs.length
  · have hx : xs[i]? = some xs[i] := List.getElem?_eq_getElem hlt
    obtain ⟨jgo, jy⟩ := wk.go C.Pr Ai Gi H' (fun a h => .inl h) ex (fun z => by cases z) (fun a z => Is.fsTrk z) i _ hx
    refine .inr ⟨jgo, fun σ' H'' => i + 1 ≤ xs.length ∧ ∃ ρi Si Ai Gi, ExtS A1 G H1 Ai Gi H'' ∧ Sim C ρi Si Ai Gi σ' H'' ∧ SGood C W A1 G H1 D (forL tf s (xs.drop (i + 1)) ρi Si), fun σ' H'' h => ⟨xs.length - (i + 1), by omega, rfl, h⟩, fun v H3 y => ?_⟩
    obtain ⟨hn, rx⟩ := jy v H3 y
    have e3 : Ext Ai H' Ai H3 := by
      rcases hn with rfl | ⟨p, o, hp, rfl⟩
      · exact Ext.refl
      · exact Ext.upd hp
    have I3 : Sim C ρi Si Ai Gi σ H3 := by
      rcases hn with rfl | ⟨p, o, hp, rfl⟩
      · exact Is
      · exact Is.new hp
    rw [List.drop_eq_getElem_cons hlt] at qi
    unfold forL at qi
    cases htf : tf xs[i] ρi with
    | none => rw [htf] at qi; exact qi.elim
    | some ρ' =>
    rw [htf] at qi
    simp only at qi
    refine hgo C.Pr ρi ρ' Si Ai Gi σ H3 _ v _ I3 rx htf fun σ2 I4 _ => ⟨ρ', Si, Ai, Gi, I4, ?_⟩
    have ex3 := ex.trans e3.s
    cases hb : s ρ' Si with
    | none => rw [hb] at qi; exact qi.elim
    | some r =>
      rw [hb] at qi
      cases r with
      | nx ρ2 S2 => exact fun A' G' σ' H'' x J' => ⟨hlt, ρ2, S2, A', G', ex3.trans x, J', qi⟩
      | ct ρ2 S2 => exact fun A' G' σ' H'' x J' => ⟨hlt, ρ2, S2, A', G', ex3.trans x, J', qi⟩
      | bk ρ2 S2 => exact fun A' G' σ' H'' x J' => qi A' G' σ' H'' (ex3.trans x) J'
      | rt z S2 => exact qi
      | exc c fs ρ2 S2 => exact fun A' G' σ' H'' cls d x J' r => qi A' G' σ' H'' cls d (ex3.trans x) J' r
  · rw [List.drop_eq_nil_of_le (by omega)] at qi
    exact .inl ⟨wk.stop Ai Gi H' ex (fun z => by cases z) i (by omega), qi Ai Gi σ H' ex Is⟩
theorem s_while (hp : PassesOwn (model X.prog X.w) X.A X.env X.xe) (hc : PT X e (tTs C W fc)) (hb : PSs X body (tS C W s)) : PS X (.While e body [] pos) (tS C W (sWhile fc s)) := by
  refine ps_imp (ps_while hp hc hb) fun D σ H ⟨ρ, S, A, G, I, q⟩ => ?_
  cases hw : sWhile fc s ρ S with
  | none => rw [hw] at q; exact q.elim
  | some r =>
  rw [hw] at q
  obtain ⟨n, hn⟩ := sWhile_some hw
  refine ⟨fun m σ H' => ∃ ρi Si Ai Gi, ExtS A G H Ai Gi H' ∧ Sim C ρi Si Ai Gi σ H' ∧ whileF fc s m ρi Si = some r, ⟨n, ρ, S, A, G, ExtS.refl, I, hn⟩, ?_⟩
  rintro m σ H' ⟨ρi, Si, Ai, Gi, ex, Is, hm⟩
  cases m with
  | zero => cases hm
  | succ m =>
  have qm : SGood C W A G H D (whileF fc s (m + 1) ρi Si) := by rw [hm]; exact q
  have qm := qm.ext ex
  unfold whileF at hm qm
  refine ⟨C.Pr, ρi, Si, Ai, Gi, fun _ h => h, Is, ?_⟩
  cases hcc : fc ρi Si with
  | none => rw [hcc] at hm; cases hm
  | some rc =>
  rw [hcc] at hm qm
  cases rc with
  | exc c fs S' => exact fun cls d H'' ⟨A', e, J, r⟩ => qm A' Gi σ H'' cls d e.s J r
  | ok k S1 =>
  simp only [bindS_ok] at hm qm
  rintro k' H2 ⟨rfl, A2, e2, I2⟩
  cases k' with
  | false => exact qm A2 Gi σ H2 e2.s I2
  | true =>
    simp only [if_true] at hm qm ⊢
    refine ⟨fun σ' H'' => ∃ ρi Si Ai Gi, ExtS A G H Ai Gi H'' ∧ Sim C ρi Si Ai Gi σ' H'' ∧ whileF fc s m ρi Si = some r, fun σ' H'' h => ⟨m, Nat.lt_succ_self m, h⟩, ρi, S1, A2, Gi, I2, ?_⟩
    have ex2 := ex.trans e2.s
    have qm := qm.ext e2.s
    cases hb : s ρi S1 with
    | none => rw [hb] at hm; cases hm
    | some rb =>
      rw [hb] at hm qm
      cases rb with
      | nx ρ2 S2 => exact fun A' G' σ' H'' x J' => ⟨ρ2, S2, A', G', ex2.trans x, J', hm⟩
      | ct ρ2 S2 => exact fun A' G' σ' H'' x J' => ⟨ρ2, S2, A', G', ex2.trans x, J', hm⟩
      | bk ρ2 S2 => exact qm
      | rt z S2 => exact qm
      | exc c fs ρ2 S2 => exact qm
end
end VL

end
section
set_option Elab.async false
set_option linter.all false
set_option maxRecDepth 100000
/-! VL9: what a def promises, by its function; the rule for a def; the rule for a call. -/
namespace VL
open PySem PySem.Spec PyProof.Rows L2

/-! ### the frame of a body -/
def rho0 (n : Nat) (xs : List SV) : Rho := xs.map some ++ List.replicate (n - xs.length) none
def runF (n : Nat) (fb : Rho → Sto → Option Fl) : List SV → Mo SV := fun xs S => match fb (rho0 n xs) S with
  | some (.nx _ S') => some (.ok (.d .none) S')
  | some (.rt x S') => some (.ok x S')
  | some (.exc c fs _ S') => some (.exc c fs S')
  | _ => none
/-- at the entry -/
structure Ent (C : Ct) (S : Sto) (xs : List SV) (vs : List V) : Prop where
  args : RsL C.K C.mg C.E0 C.A0 (fun a => a ∈ C.A0 ∨ C.Pr a) xs vs []
  ls : S.length = C.A0.length
  nd : C.A0.Nodup
  trk : ∀ a ∈ C.A0, C.E0 a ≠ none
  prot : ∀ a, C.Pr a → a ∉ C.A0 ∧ C.E0 a ≠ none
  sto : ∀ (n : Nat) xs, S[n]? = some xs → ∃ a vs, C.A0[n]? = some a ∧ C.E0 a = some (.lst vs) ∧ vs.length ≤ sizeLine ∧ RsL C.K C.mg C.E0 C.A0 (fun a => a ∈ C.A0 ∨ C.Pr a) xs vs []
def XP (C : Ct) (c : Str) (fs : List (Str × SV)) (S' : Sto) (cls : Value) (d : Option Addr) (H' : Hp) : Prop := ∃ A', RSto C A' [] S' H' ∧ XRep C H' c fs cls d
def CGood (C : Ct) (Q : VK) (E : XK) : Option (Res SV) → Prop
  | none => False
  | some (.ok x S') => ∀ v H', RPost C x S' v H' → Q v H'
  | some (.exc c fs S') => ∀ cls d H', XP C c fs S' cls d H' → E cls d H'
def spF (K : PySem.W.Frag) (mg : Str → Option Value) (n : Nat) (F : List SV → Mo SV) : Sp := fun vs H Q E => vs.length = n ∧ ∃ C xs S, C.K = K ∧ C.mg = mg ∧ C.E0 = H ∧ Ent C S xs vs ∧ CGood C Q E (F xs S)
theorem RsL.get2 {K : PySem.W.Frag} {mg : Str → Option Value} {H : Hp} {A : List Addr} {F : Addr → Prop} {xs : List SV} {vs : List V} {i : Nat} {x : SV} (r : RsL K mg H A F xs vs []) (h : xs[i]? = some x) : ∃ v, vs[i]? = some v ∧ Rs K mg H A F x v [] := RsL.get1 r h
theorem replicate_flatten_nil {α : Type} (n : Nat) : (List.replicate n ([] : List α)).flatten = [] := by induction n with
  | zero => rfl
  | succ n ih => simp [List.replicate_succ, ih]
theorem Ent.sim {C : Ct} {S : Sto} {xs : List SV} {vs : List V} {N : List Str} (e : Ent C S xs vs) (hl : xs.length ≤ N.length) : Sim C (rho0 N.length xs) S C.A0 (List.replicate N.length []) (L2.start N vs) C.E0 := by
  have hx : vs.length = xs.length := e.args.length
  have lr : (rho0 N.length xs).length = N.length := by unfold rho0; simp; omega
  have ls : (L2.start N vs).length = N.length := by unfold L2.start; simp; omega
  have hG : (List.replicate N.length ([] : List Addr)).flatten = [] := replicate_flatten_nil _
  have hF : Fs C C.A0 (List.replicate N.length []) = fun a => a ∈ C.A0 ∨ C.Pr a := by
    funext a
    unfold Fs
    rw [hG]
    simp
  refine ⟨List.prefix_refl _, lr.trans ls.symm, by simp [lr], e.ls, ?_, fun a m => ?_, fun a p => ?_, fun i x hi => ?_, fun n ys hn => ?_, fun a o q _ => q, fun a m => ?_, e.trk⟩
  · rw [hG, List.append_nil]; exact e.nd
  · rw [hG, List.append_nil] at m; exact e.trk a m
  · rw [hG, List.append_nil]; exact e.prot a p
  · unfold rho0 at hi
    by_cases h : i < xs.length
    · rw [List.getElem?_append_left (by simpa using h), List.getElem?_map] at hi
      cases q : xs[i]? with
      | none => rw [q] at hi; cases hi
      | some y =>
        rw [q] at hi
        simp only [Option.map_some, Option.some.injEq] at hi
        subst hi
        obtain ⟨v, hv, r⟩ := RsL.get1 e.args q
        refine ⟨v, [], ?_, by rw [hF]; exact r, List.nil_sublist _⟩
        unfold L2.start
        rw [List.getElem?_append_left (by simp; omega), List.getElem?_map, hv]
        rfl
    · rw [List.getElem?_append_right (by simpa using h), List.getElem?_replicate] at hi
      split at hi <;> cases hi
  · obtain ⟨a, us, e1, e2, l, r⟩ := e.sto n ys hn
    exact ⟨a, us, e1, e2, l, by rw [hF]; exact r⟩
  · rw [hG, List.append_nil] at m; exact .inl m
theorem Sim.rsto {C : Ct} {ρ : Rho} {S : Sto} {A : List Addr} {G : List (List Addr)} {σ : L2.St} {H : Hp} (I : Sim C ρ S A G σ H) : RSto C A [] S H := by
  have J : Sim (C.pr fun a => C.Pr a ∨ a ∈ ([] : List Addr)) ρ S A G σ H := I.prc fun a h => h.elim id fun m => by cases m
  exact RSto.of J List.nodup_nil fun a m => by cases m
/-- THE RULE for a def -/
theorem fn_vl {P : Program} {w : World} {K : PySem.W.Frag} {mg : Str → Option Value} {base : Heap} {x qual : Str} {params : Arguments} {body : List Stmt} {scope : Scope} {f : Addr} {fd : FuncData} {N ps : List Str} {k : Nat} {fb : Rho → Sto → Option Fl}
    (F : FunD K x qual params body scope [] [] f fd) (Sc : FnScope N ps scope) (hl : ps.length ≤ N.length)
    (hb : ∀ (cdv : Value) (A : Around) (outer : List Env) (s : Shared) (H : Hp) (E : XK), Room k (A.deeper (envOfC qual scope s.heap.objs.size f cdv)) → ∀ C : Ct, C.K = K → C.mg = mg →
      PSs (cxOf (L2.CX P w) P w K mg base N qual scope f cdv A outer s H E) body (tS C (fun cls d _ H => E cls d H) fb)) : FnOk P w K mg base (L2.CX P w) (k + 1) f fd ps (spF K mg ps.length (runF N.length fb)) := by
  refine F.ok Sc (fun vs H Q E h => h.1) fun cdv A outer s H vs Q E hr h => ?_
  obtain ⟨hlen, C, xs, S, hK, hm, rfl, e, q⟩ := h
  refine ⟨_, hb cdv A outer s C.E0 E hr C hK hm, rho0 N.length xs, S, C.A0, List.replicate N.length [], e.sim (by have := e.args.length; omega), ?_⟩
  unfold runF at q
  cases hf : fb (rho0 N.length xs) S with
  | none => rw [hf] at q; exact q.elim
  | some r =>
    rw [hf] at q
    cases r with
    | nx ρ' S' => exact fun A' G' σ' H' x J => q .non H' ⟨A', [], J.rsto, .d .non⟩
    | rt y S' => exact q
    | bk ρ' S' => exact q.elim
    | ct ρ' S' => exact q.elim
    | exc c fs ρ' S' => exact fun A' G' σ' H' cls d x J r => q cls d H' ⟨A', J.rsto, r⟩

/-! ### what is handed to a def: data, or a list that the def may change, made a shared one -/
def cvt : List Bool → List SV → Sto → Option (List SV × Sto)
  | _, [], S => some ([], S)
  | [], x :: xs, S => (frz x).bind fun y => (cvt [] xs S).map fun p => (y :: p.1, p.2)
  | false :: bs, x :: xs, S => (frz x).bind fun y => (cvt bs xs S).map fun p => (y :: p.1, p.2)
  | true :: bs, x :: xs, S => match x with
    | .own zs => (frzs zs).bind fun ys => (cvt bs xs (S ++ [ys])).map fun p => (.ref S.length :: p.1, p.2)
    | _ => (frz x).bind fun y => (cvt bs xs S).map fun p => (y :: p.1, p.2)
theorem Rs.frzF {K : PySem.W.Frag} {mg : Str → Option Value} {H : Hp} {A A' : List Addr} {F F1 : Addr → Prop} {x y : SV} {v : V} {g : List Addr} (hA : ∀ (n : Nat) a, A[n]? = some a → A'[n]? = some a) (hF : ∀ a, F a → F1 a) (r : Rs K mg H A F1 x v g) (hg : ∀ a ∈ g, ¬ F a) (h : VL.frz x = some y) : Rs K mg H A' F y v [] := by
  unfold VL.frz at h
  split at h
  · rename_i hn
    cases h
    obtain rfl := r.noOwn hn
    exact Rs.mono hA (fun a z => .inl (hF a z)) (fun a o q n => q) _ _ _ (fun a m o q => q) r
  · simp only [Option.map_eq_some_iff] at h
    obtain ⟨d, h, rfl⟩ := h
    exact .d (Rs.datO hF _ _ _ _ r h hg)
theorem RsL.frzF {K : PySem.W.Frag} {mg : Str → Option Value} {H : Hp} {A A' : List Addr} {F F1 : Addr → Prop} (hA : ∀ (n : Nat) a, A[n]? = some a → A'[n]? = some a) (hF : ∀ a, F a → F1 a) : ∀ {xs ys : List SV} {vs : List V} {g : List Addr}, RsL K mg H A F1 xs vs g → (∀ a ∈ g, ¬ F a) → VL.frzs xs = some ys → RsL K mg H A' F ys vs []
  | [], ys, _, _, r, _, h => by
    cases r
    cases h
    exact .nil
  | x :: xs, ys, _, _, r, hg, h => by
    cases r with
    | cons r1 r2 =>
      simp only [VL.frzs, Option.bind_eq_some_iff, Option.map_eq_some_iff] at h
      obtain ⟨y, hy, zs, hz, rfl⟩ := h
      exact .cons (g := []) (g' := []) (Rs.frzF hA hF r1 (fun a m => hg a (List.mem_append_left _ m)) hy) (RsL.frzF hA hF r2 (fun a m => hg a (List.mem_append_right _ m)) hz)
section
variable {K : PySem.W.Frag} {mg : Str → Option Value} {H : Hp} {A : List Addr} {F1 : Addr → Prop}
/-- what the lists that became shared ones are -/
structure Cvt (K : PySem.W.Frag) (mg : Str → Option Value) (H : Hp) (A : List Addr) (F1 : Addr → Prop) (S S2 : Sto) (ys : List SV) (vs : List V) (gs as : List Addr) (es : Sto) : Prop where
  sto : S2 = S ++ es
  len : as.length = es.length
  sub : as.Sublist gs
  to : ∀ (F : Addr → Prop) (A2 : List Addr), (∀ a, F a → F1 a) → (∀ a ∈ gs, F a → a ∈ as) → (∀ (n : Nat) a, A[n]? = some a → A2[n]? = some a) → (∀ (j : Nat) a, as[j]? = some a → A2[S.length + j]? = some a) →
    RsL K mg H A2 F ys vs [] ∧ ∀ (j : Nat) e, es[j]? = some e → ∃ a us, as[j]? = some a ∧ H a = some (.lst us) ∧ us.length ≤ sizeLine ∧ RsL K mg H A2 F e us []
theorem Cvt.frz {S S2 : Sto} {x y : SV} {ys : List SV} {v : V} {vs : List V} {g gs as : List Addr} {es : Sto} (h : Cvt K mg H A F1 S S2 ys vs gs as es) (r : Rs K mg H A F1 x v g) (nd : (g ++ gs).Nodup) (hf : VL.frz x = some y) : Cvt K mg H A F1 S S2 (y :: ys) (v :: vs) (g ++ gs) as es := by
  have hd : ∀ a ∈ g, a ∉ as := fun a m z => (List.nodup_append.mp nd).2.2 a m a (h.sub.subset z) rfl
  refine ⟨h.sto, h.len, h.sub.trans (List.sublist_append_right _ _), fun F A2 hF hg hA hs => ?_⟩
  obtain ⟨r2, q⟩ := h.to F A2 hF (fun a m z => hg a (List.mem_append_right _ m) z) hA hs
  exact ⟨.cons (g := []) (g' := []) (Rs.frzF hA hF r (fun a m z => hd a m (hg a (List.mem_append_left _ m) z)) hf) r2, q⟩
theorem cvt_ok : ∀ (bs : List Bool) (xs : List SV) (S : Sto) (ys : List SV) (S2 : Sto) (vs : List V) (gs : List Addr), cvt bs xs S = some (ys, S2) → RsL K mg H A F1 xs vs gs → gs.Nodup → ∃ as es, Cvt K mg H A F1 S S2 ys vs gs as es := by
  intro bs xs
  induction xs generalizing bs with
  | nil =>
    intro S ys S2 vs gs h r nd
    cases r
    cases bs <;> (simp only [cvt, Option.some.injEq, Prod.mk.injEq] at h; obtain ⟨rfl, rfl⟩ := h; exact ⟨[], [], (List.append_nil _).symm, rfl, List.Sublist.refl _, fun F A2 _ _ _ _ => ⟨.nil, fun j e h => by simp at h⟩⟩)
  | cons x xs ih =>
    intro S ys S2 vs gs h r nd
    cases r with
    | cons r1 r2 =>
    rename_i v vs g gs
    have nd2 := (List.nodup_append.mp nd).2.1
    have fz : ∀ bs', ((VL.frz x).bind fun y => (cvt bs' xs S).map fun p => (y :: p.1, p.2)) = some (ys, S2) → ∃ as es, Cvt K mg H A F1 S S2 ys (v :: vs) (g ++ gs) as es := fun bs' h' => by
      simp only [Option.bind_eq_some_iff, Option.map_eq_some_iff] at h'
      obtain ⟨y, hy, ⟨ys', S'⟩, h', e⟩ := h'
      obtain ⟨rfl, rfl⟩ := Prod.mk.inj e
      obtain ⟨as, es, q⟩ := ih bs' S ys' S' vs gs h' r2 nd2
      exact ⟨as, es, q.frz r1 nd hy⟩
    cases bs with
    | nil => exact fz [] h
    | cons b bs =>
      cases b with
      | false => exact fz bs h
      | true =>
        cases x with
        | d _ => exact fz bs h
        | ref _ => exact fz bs h
        | fn _ => exact fz bs h
        | scr _ => exact fz bs h
        | dic _ _ => exact fz bs h
        | own zs =>
          simp only [cvt, Option.bind_eq_some_iff, Option.map_eq_some_iff] at h
          obtain ⟨zs', hz, ⟨ys', S'⟩, h, e⟩ := h
          obtain ⟨rfl, rfl⟩ := Prod.mk.inj e
          cases r1 with
          | own e1 l r1 =>
          rename_i a us g
          obtain ⟨as, es, q⟩ := ih bs (S ++ [zs']) ys' S' vs gs h r2 nd2
          have n := List.nodup_append.mp nd
          have nh : a ∉ g := (List.nodup_cons.mp n.1).1
          refine ⟨a :: as, zs' :: es, by rw [q.sto, List.append_assoc]; rfl, by simp [q.len], ?_, fun F A2 hF hg hA hs => ?_⟩
          · exact (List.Sublist.cons_cons a (q.sub.trans (List.sublist_append_right _ _)))
          · have hg2 : ∀ b ∈ g, ¬ F b := fun b m z => by
              rcases List.mem_cons.mp (hg b (List.mem_append_left _ (List.mem_cons_of_mem _ m)) z) with rfl | z
              · exact nh m
              · exact n.2.2 b (List.mem_cons_of_mem _ m) b (q.sub.subset z) rfl
            obtain ⟨q1, q2⟩ := q.to F A2 hF (fun b m z => by
              rcases List.mem_cons.mp (hg b (List.mem_append_right _ m) z) with rfl | z
              · exact absurd rfl (n.2.2 b List.mem_cons_self b m)
              · exact z) hA (fun j b hj => by
              have := hs (j + 1) b (by simpa using hj)
              rw [List.length_append, List.length_singleton, Nat.add_assoc, Nat.add_comm 1 j]
              exact this)
            refine ⟨.cons (g := []) (g' := []) (.ref (by simpa using hs 0 a rfl)) q1, fun j e hj => ?_⟩
            cases j with
            | zero =>
              simp only [List.getElem?_cons_zero, Option.some.injEq] at hj
              subst hj
              exact ⟨a, us, rfl, e1, l, RsL.frzF hA hF r1 hg2 hz⟩
            | succ j => simpa using q2 j e (by simpa using hj)
end
/-- new lists are left alone from here on -/
theorem Sim.extP {C : Ct} {ρ : Rho} {S S' : Sto} {A A' : List Addr} {G : List (List Addr)} {σ : L2.St} {H H' : Hp} {g : List Addr} (I : Sim C ρ S A G σ H) (x : Ext A H A' H') (hg : ∀ a ∈ g, H a = none ∧ H' a ≠ none ∧ a ∉ A') (ls : S'.length = A'.length) (nd : A'.Nodup) (trk : ∀ a ∈ A', H' a ≠ none)
    (sto : ∀ (n : Nat) xs, S'[n]? = some xs → ∃ a vs, A'[n]? = some a ∧ H' a = some (.lst vs) ∧ vs.length ≤ sizeLine ∧ RsL C.K C.mg H' A' (fun a => Fs C A' G a ∨ a ∈ g) xs vs []) : Sim (C.pr fun a => C.Pr a ∨ a ∈ g) ρ S' A' G σ H' := by
  have J : Sim C ρ S' A' G σ H' := I.ext x ls nd trk fun n xs e => by
    obtain ⟨a, vs, e1, e2, l, r⟩ := sto n xs e
    exact ⟨a, vs, e1, e2, l, RsL.mono (fun _ _ q => q) (fun a z => .inl (.inl z)) (fun a o q n => q) _ _ _ (fun a m o q => q) r⟩
  have hF : ∀ a, Fs (C.pr fun a => C.Pr a ∨ a ∈ g) A' G a ↔ (Fs C A' G a ∨ a ∈ g) := fun a => by
    constructor
    · rintro (z | z | z | z)
      · exact .inl (.inl z)
      · exact .inl (.inr (.inl z))
      · exact .inl (.inr (.inr z))
      · exact .inr z
    · rintro ((z | z | z) | z)
      · exact .inl z
      · exact .inr (.inl z)
      · exact .inr (.inr (.inl z))
      · exact .inr (.inr (.inr z))
  refine ⟨J.pre, J.lr, J.lg, J.ls, J.nd, J.trk, fun a q => ?_, fun i y e => ?_, fun n xs e => ?_, J.frame, J.fresh, J.a0⟩
  · rcases q with q | q
    · exact J.prot a q
    · refine ⟨fun z => ?_, (hg a q).2.1⟩
      rcases List.mem_append.mp z with z | z
      · exact (hg a q).2.2 z
      · exact I.trk a (List.mem_append_right _ z) (hg a q).1
  · obtain ⟨v, g', e1, r, sb⟩ := I.slots i y e
    refine ⟨v, g', e1, Rs.mono (prefix_get x.pre) (fun a z => ?_) (fun a o q n => x.keep a o q fun z => n (.inl z)) _ _ _ (fun a m o q => ?_) r, sb⟩
    · rcases (hF a).mp z with z | z
      · exact fs_ext x a z
      · exact .inr (hg a z).1
    · exact x.keep a o q fun z => (List.nodup_append.mp I.nd).2.2 a z a (getD_mem (sb.subset m)) rfl
  · obtain ⟨a, vs, e1, e2, l, r⟩ := sto n xs e
    exact ⟨a, vs, e1, e2, l, RsL.mono (fun _ _ q => q) (fun a z => .inl ((hF a).mp z)) (fun a o q n => q) _ _ _ (fun a m o q => q) r⟩

/-! ### a call -/
def eCall (n : Nat) (F : List SV → Mo SV) (bs : List Bool) (fs : Rho → Mo (List SV)) : Rho → Mo SV := fun ρ S => bindM (fs ρ S) fun xs S1 => if xs.length = n then (cvt bs xs S1).bind fun p => F p.1 p.2 else none
theorem prefix_app_get {A as : List Addr} : ∀ (j : Nat) a, as[j]? = some a → (A ++ as)[A.length + j]? = some a := fun j a h => by rw [List.getElem?_append_right (by omega)]; simpa using h
theorem t_call {C : Ct} {W : WX} {kd : Kd} {n : Nat} {F : List SV → Mo SV} {bs : List Bool} {fs : Rho → Mo (List SV)} : ∀ σ H Q, tV C W kd (eCall n F bs fs) σ H Q → tVs C W .fe fs σ H fun vs H1 => spF C.K C.mg n F vs H1 Q (WE W σ) := by
  intro σ H Q ⟨P, ρ, S, A, G, hP, I, q⟩
  refine ⟨P, ρ, S, A, G, hP, I, EGood.step q (fun _ _ _ _ _ _ z => z) fun xs S1 q vs H1 p => ?_⟩
  obtain ⟨A1, gs, e1, I1, r, nd, hgs⟩ := p
  split at q
  case isFalse => exact q.elim
  rename_i hn
  have hn : vs.length = n := r.length.trans hn
  cases hc : cvt bs xs S1 with
  | none => rw [hc] at q; exact q.elim
  | some p =>
  obtain ⟨ys, S2⟩ := p
  rw [hc] at q
  simp only [Option.bind_some] at q
  obtain ⟨as, es, c⟩ := cvt_ok bs xs S1 ys S2 vs gs hc r nd
  obtain ⟨rfl, cl, csub, cto⟩ := c
  have hA1 : S1.length = A1.length := I1.ls
  have nG : ∀ a ∈ gs, a ∉ G.flatten := fun a m z => I.trk a (List.mem_append_right _ z) (hgs a m).1
  have nP : ∀ a ∈ gs, ¬ P a := fun a m z => (I.prot a z).2 (hgs a m).1
  -- the state, the new shared lists among the store's
  have hF1 : ∀ a, Fs (C.pr P) (A1 ++ as) G a → (Fs (C.pr P) A1 G a ∨ a ∈ gs) := fun a z => by
    rcases z with z | z
    · rcases List.mem_append.mp z with z | z
      · exact .inl (.inl z)
      · exact .inr (csub.subset z)
    · exact .inl (.inr z)
  have hF2 : ∀ a ∈ gs, Fs (C.pr P) (A1 ++ as) G a → a ∈ as := fun a m z => by
    rcases z with z | z | z
    · exact (List.mem_append.mp z).elim (fun z => absurd z (hgs a m).2.2) id
    · exact absurd z (nG a m)
    · exact absurd z (nP a m)
  obtain ⟨ra, rs⟩ := cto (Fs (C.pr P) (A1 ++ as) G) (A1 ++ as) hF1 hF2 (fun n a h => by rw [List.getElem?_append_left (List.getElem?_eq_some_iff.mp h).1]; exact h) (fun j a h => by rw [hA1]; exact prefix_app_get j a h)
  have e2 : Ext A H (A1 ++ as) H1 := ⟨e1.pre.trans (List.prefix_append _ _), fun a z => by
    rcases List.mem_append.mp z with z | z
    · exact e1.new a z
    · exact .inr (hgs a (csub.subset z)).1, e1.keep, e1.there⟩
  have ndA : (A1 ++ as).Nodup := List.nodup_append.mpr ⟨(List.nodup_append.mp I1.nd).1, nd.sublist csub, fun a z b z' e => by subst e; exact (hgs a (csub.subset z')).2.2 z⟩
  have I2 : Sim (C.pr P) ρ (S1 ++ es) (A1 ++ as) G σ H1 := by
    refine I.ext e2 (by simp [hA1, cl]) ndA (fun a z => ?_) fun k zs hk => ?_
    · rcases List.mem_append.mp z with z | z
      · exact I1.trk a (List.mem_append_left _ z)
      · exact (hgs a (csub.subset z)).2.1
    · by_cases hlt : k < S1.length
      · rw [List.getElem?_append_left hlt] at hk
        obtain ⟨a, us, q1, q2, l, rr⟩ := I1.sto k zs hk
        refine ⟨a, us, by rw [List.getElem?_append_left (by omega)]; exact q1, q2, l, RsL.mono (fun n a h => by rw [List.getElem?_append_left (List.getElem?_eq_some_iff.mp h).1]; exact h) (fun a z => .inl ?_) (fun a o q n => q) _ _ _ (fun a m o q => q) rr⟩
        rcases hF1 a z with (z | z | z) | z
        · exact .inl z
        · exact .inr (.inl z)
        · exact .inr (.inr (.inl z))
        · exact .inr (.inr (.inr z))
      · rw [List.getElem?_append_right (by omega)] at hk
        obtain ⟨a, us, q1, q2, l, rr⟩ := rs _ zs hk
        refine ⟨a, us, ?_, q2, l, rr⟩
        have := prefix_app_get (A := A1) _ _ q1
        rw [← hA1, show S1.length + (k - S1.length) = k by omega] at this
        exact this
  -- the callee
  refine ⟨hn, ⟨C.K, C.mg, H1, A1 ++ as, fun a => a ∈ G.flatten ∨ P a⟩, ys, S1 ++ es, rfl, rfl, rfl, ⟨ra, I2.ls, ndA, fun a z => I2.trk a (List.mem_append_left _ z), fun a z => ?_, I2.sto⟩, ?_⟩
  · rcases z with z | z
    · exact ⟨fun m => (List.nodup_append.mp I2.nd).2.2 a m a z rfl, I2.trk a (List.mem_append_right _ z)⟩
    · exact ⟨fun m => (I2.prot a z).1 (List.mem_append_left _ m), (I2.prot a z).2⟩
  have ext : ∀ A' g S' H', RSto ⟨C.K, C.mg, H1, A1 ++ as, fun a => a ∈ G.flatten ∨ P a⟩ A' g S' H' → Ext (A1 ++ as) H1 A' H' ∧ Sim ((C.pr P).pr fun a => (C.pr P).Pr a ∨ a ∈ g) ρ S' A' G σ H' ∧ g.Nodup ∧ ∀ a ∈ g, H1 a = none ∧ H' a ≠ none ∧ a ∉ A' := fun A' g S' H' R => by
    have x : Ext (A1 ++ as) H1 A' H' := ⟨R.pre, fun a z => (R.trk a (List.mem_append_left _ z)).2, R.frame, R.there⟩
    have hg : ∀ a ∈ g, H1 a = none ∧ H' a ≠ none ∧ a ∉ A' := fun a m => ⟨R.own a m, (R.trk a (List.mem_append_right _ m)).1, fun z => (List.nodup_append.mp R.nd).2.2 a z a m rfl⟩
    refine ⟨x, I2.extP x hg R.ls (List.nodup_append.mp R.nd).1 (fun a z => (R.trk a (List.mem_append_left _ z)).1) fun k zs hk => ?_, (List.nodup_append.mp R.nd).2.1, hg⟩
    obtain ⟨a, us, q1, q2, l, rr⟩ := R.sto k zs hk
    refine ⟨a, us, q1, q2, l, RsL.mono (fun _ _ q => q) (fun a z => .inl ?_) (fun a o q n => q) _ _ _ (fun a m o q => q) rr⟩
    rcases z with (z | z) | z
    · exact .inl z
    · exact .inr (.inr z)
    · exact .inr (.inl z)
  cases hf : F ys (S1 ++ es) with
  | none => rw [hf] at q; exact q.elim
  | some rr =>
  rw [hf] at q
  cases rr with
  | ok x S' =>
    rintro v H' ⟨A', g, R, rx⟩
    obtain ⟨x2, J, ndg, hg⟩ := ext A' g S' H' R
    refine q v H' (EPost.be (kd := kd) ⟨A', g, e2.trans x2, J, Rs.mono (fun _ _ q => q) (fun a z => .inl ?_) (fun a o q n => q) _ _ _ (fun a m o q => q) rx, ndg, fun a m => ⟨none_back e2 (hg a m).1, (hg a m).2⟩⟩)
    rcases z with (z | z | z) | z
    · exact .inl z
    · exact .inr (.inr (.inl z))
    · exact .inr (.inr (.inr z))
    · exact .inr (.inl z)
  | exc c fs S' =>
    rintro cls d H' ⟨A', R, rx⟩
    obtain ⟨x2, J, _, _⟩ := ext A' [] S' H' R
    exact q cls d H' ⟨A', e2.trans x2, Sim.prw (C := C) (P := fun a => (C.pr P).Pr a ∨ a ∈ ([] : List Addr)) J fun a z => .inl (hP a z), rx⟩
end VL

end
section
set_option Elab.async false
set_option linter.all false
set_option maxRecDepth 100000
/-! VL10: calls by name, by a local; what is frozen; raise; try. -/
namespace VL
open PySem PySem.Spec PyProof.Rows L2

/-- a def of the module, what it does -/
structure DefOk (P : Program) (w : World) (K : PySem.W.Frag) (mg : Str → Option Value) (base : Heap) (k : Nat) (x : Str) (n : Nat) (F : List SV → Mo SV) : Prop where
  ex : ∃ (f : Addr) (fd : FuncData) (ps : List Str), FnOk P w K mg base (L2.CX P w) k f fd ps (spF K mg n F) ∧ mg x = some (.ref f) ∧ PySem.W.keepIn K (.ref f) = true ∧ Binds K fd ps []
section
variable {X : Cx} {C : Ct} {W : WX} {kd ka kb : Kd} {e a b c : Expr} {es : List Expr} {pos : Pos} {f fa fb fc : Rho → Mo SV} {fs : Rho → Mo (List SV)} {n k : Nat} {x : Str} {Fn : List SV → Mo SV} {bs : List Bool}
theorem takes0 {X : Cx} : Takes X WF := fun u s' ⟨a, B, sI, pins, σ, H, cls, d, _, _, _, _, _, _, _, _, w⟩ => w.elim
theorem v_call {p : Pos} (D : DefOk X.prog X.w X.K X.mg X.base k x n Fn) (hK : C.K = X.K) (hM : C.mg = X.mg) (hr : Room k X.A) (hg : Gl X x) (tk : Takes X W) (ha : PA X (e :: es) (tVs C W .fe fs))
    (hdb : (x == ("__debug__" : Str)) = false := by decide) (he : starEach (e :: es) X.env = (false, eval e X.env) :: starEach es X.env := by rfl) (hpl : (backTo pos (starEach es X.env)).any (·.1) = false := by rfl) :
    PE X (.Call (.Name x p) (e :: es) [] pos) (tV C W kd (eCall n Fn bs fs)) := by
  obtain ⟨f, fd, ps, F, hm, hk, hb⟩ := D.ex
  refine pe_imp (pe_callS F hr hg hm hk hb (passAt tk) ha hdb he hpl) fun σ H Q q => ?_
  have h := t_call (n := n) (kd := kd) σ H Q q
  rw [hK, hM] at h
  exact h
/-- f() -/
theorem v_call0 {p : Pos} (D : DefOk X.prog X.w X.K X.mg X.base k x 0 Fn) (hK : C.K = X.K) (hM : C.mg = X.mg) (hr : Room k X.A) (hg : Gl X x) (tk : Takes X W) (hdb : (x == ("__debug__" : Str)) = false := by decide) :
    PE X (.Call (.Name x p) [] [] pos) (tV C W kd (eCall 0 Fn [] fun _ S => some (.ok [] S))) := by
  obtain ⟨f, fd, ps, F, hm, hk, hb⟩ := D.ex
  refine ⟨fun pins s σ H Q I h => ?_⟩
  have h := t_call (n := 0) (kd := kd) σ H Q h
  rw [hK, hM] at h
  obtain ⟨P, ρ, S, A, G, hP, J, q⟩ := h
  refine wpAny_Call_Name_kw (ld_glob I hg hm ?_ hdb)
  exact PySem.W.callWith_K0 I.kIn hk (run_fnS (us := []) F hr hb (passAt tk σ) I .nil (q [] H ⟨A, [], Ext.refl, J.pg0, .nil, List.nodup_nil, fun a m => by cases m⟩))
/-- a local that holds a def -/
def eCallL (i n : Nat) (D : List (Str × (List SV → Mo SV))) (bs : List Bool) (fs : Rho → Mo (List SV)) : Rho → Mo SV := fun ρ S => match ρ[i]? with
  | some (some (.fn x)) => (D.lookup x).bind fun Fn => eCall n Fn bs fs ρ S
  | _ => none
theorem v_callL {p : Pos} {i : Nat} {D : List (Str × (List SV → Mo SV))} (hD : ∀ x Fn, D.lookup x = some Fn → DefOk X.prog X.w X.K X.mg X.base k x n Fn) (hK : C.K = X.K) (hM : C.mg = X.mg) (hr : Room k X.A) (hN : X.N[i]? = some x) (hv : Vis X.env.scope x) (tk : Takes X W) (ha : PA X (e :: es) (tVs C W .fe fs))
    (hdb : (x == ("__debug__" : Str)) = false := by decide) (hcd : (x == ("__classdict__" : Str)) = false := by decide) (he : starEach (e :: es) X.env = (false, eval e X.env) :: starEach es X.env := by rfl) (hpl : (backTo pos (starEach es X.env)).any (·.1) = false := by rfl) :
    PE X (.Call (.Name x p) (e :: es) [] pos) (tV C W kd (eCallL i n D bs fs)) := by
  refine ⟨fun pins s σ H Q I h => ?_⟩
  obtain ⟨P, ρ, S, A, G, hP, J, q⟩ := h
  unfold eCallL at q
  split at q
  case h_2 => exact q.elim
  rename_i y hy
  cases hl : D.lookup y with
  | none => rw [hl] at q; exact q.elim
  | some Fn =>
  rw [hl] at q
  simp only [Option.bind_some] at q
  obtain ⟨f, fd, ps, F, hm, hk, hb⟩ := (hD y Fn hl).ex
  obtain ⟨v, g, e1, r, _⟩ := J.slots i _ hy
  have hv1 : v = .ref f := by
    cases r with
    | fn h =>
      have h : C.mg y = some (.ref _) := h
      rw [hM, hm] at h
      cases h
      rfl
  subst hv1
  have h := t_call (n := n) (kd := kd) σ H Q ⟨P, ρ, S, A, G, hP, J, q⟩
  rw [hK, hM] at h
  refine wpAny_Call_Name_kw (thn ((pe_var (pos := p) hN hv hdb hcd).run pins s σ H (fun v H1 => v = .ref f ∧ H1 = H) I ⟨.ref f, e1, rfl, rfl⟩) fun u s1 ⟨v, H1, I1, r1, q1⟩ => ?_)
  obtain ⟨rfl, rfl⟩ := q1
  cases r1
  refine PySem.W.callWith_K (h₀ := X.base) I.ok.mod.kin hk (thn (ha.run pos pins s1 σ _ _ I1 h) fun us s2 ⟨vs, H2, I2, r, q⟩ => ⟨I2.kIn, ?_⟩) he hpl
  exact run_fnS F hr hb (passAt tk σ) I2 r q
/-! ### what is frozen -/
def eFrz (f : Rho → Mo SV) : Rho → Mo SV := fun ρ S => bindM (f ρ S) fun x S1 => (frz x).map fun y => .ok y S1
theorem noOwn_frz {x y : SV} (h : frz x = some y) : noOwn y = true := by
  unfold frz at h
  split at h
  · rename_i hn; cases h; exact hn
  · simp only [Option.map_eq_some_iff] at h
    obtain ⟨d, _, rfl⟩ := h
    rfl
theorem v_frz (h : PE X e (tV C W .fe f)) : PE X e (tV C W kd (eFrz f)) := by
  refine pe_imp h fun σ H Q ⟨P, ρ, S, A, G, hP, I, q⟩ => ⟨P, ρ, S, A, G, hP, I, EGood.step q (fun _ _ _ _ _ _ z => z) fun x S1 q v H1 p => ?_⟩
  obtain ⟨A1, g, e1, I1, r⟩ := p
  cases hf : frz x with
  | none => rw [hf] at q; exact q.elim
  | some y =>
    rw [hf] at q
    refine q v H1 ⟨A1, [], e1, (I1.pgw).pg0, Rk.noOwn (C := C.pr P) (r.frz (C := C.pr P) (new_not1 (P := P) (S1 := S1) I r) hf) (noOwn_frz hf)⟩
/-- a slot's list becomes data for good -/
def ghF (is : List Nat) (s : Rho → Sto → Option Fl) : Rho → Sto → Option Fl := fun ρ S => match is with
  | [] => s ρ S
  | i :: r => match ρ[i]? with
    | some (some x) => match frz x with
      | some y => ghF r s (ρ.set i (some y)) S
      | none => none
    | _ => none
/-- a slot's list becomes a shared one -/
def ghA (i : Nat) (s : Rho → Sto → Option Fl) : Rho → Sto → Option Fl := fun ρ S => match ρ[i]? with
  | some (some (.own zs)) => (frzs zs).bind fun ys => s (ρ.set i (some (.ref S.length))) (S ++ [ys])
  | _ => none
end
section
variable {C : Ct} {ρ : Rho} {S : Sto} {A : List Addr} {G : List (List Addr)} {σ : L2.St} {H : Hp}
theorem flatten_set_nil {G : List (List Addr)} {i : Nat} : (G.set i []).flatten.Sublist G.flatten := by
  induction G generalizing i with
  | nil => exact List.Sublist.refl _
  | cons l G ih =>
    cases i with
    | zero => simp
    | succ i => simpa using List.Sublist.append_left ih l
/-- a slot is let go of -/
theorem Sim.drop (I : Sim C ρ S A G σ H) (i : Nat) : Sim (C.pr fun a => C.Pr a ∨ a ∈ G[i]?.getD []) (ρ.set i none) S A (G.set i []) σ H := by
  have sub := flatten_set_nil (G := G) (i := i)
  have hg : ∀ a ∈ G[i]?.getD [], a ∉ (G.set i []).flatten ∧ a ∈ G.flatten := fun a m => by
    refine ⟨fun z => ?_, getD_mem m⟩
    obtain ⟨l, hl, hz⟩ := List.mem_flatten.mp z
    obtain ⟨j, hj⟩ := List.getElem?_of_mem hl
    have nd := (List.nodup_append.mp I.nd).2.1
    cases hG : G[i]? with
    | none => rw [hG] at m; cases m
    | some g =>
      rw [hG] at m
      by_cases e : j = i
      · subst e
        rw [List.getElem?_set_self (List.getElem?_eq_some_iff.mp hG).1] at hj
        cases hj
        cases hz
      · rw [List.getElem?_set_ne (Ne.symm e)] at hj
        have pw := (List.pairwise_flatten.mp nd).2
        rw [List.pairwise_iff_getElem] at pw
        obtain ⟨h1, e1⟩ := List.getElem?_eq_some_iff.mp hG
        obtain ⟨h2, e2⟩ := List.getElem?_eq_some_iff.mp hj
        rcases Nat.lt_or_gt_of_ne e with lt | lt
        · exact pw j i h2 h1 lt a (by rw [e2]; exact hz) a (by rw [e1]; exact m) rfl
        · exact pw i j h1 h2 lt a (by rw [e1]; exact m) a (by rw [e2]; exact hz) rfl
  have hF : ∀ a, Fs (C.pr fun a => C.Pr a ∨ a ∈ G[i]?.getD []) A (G.set i []) a → Fs C A G a := fun a z => by
    rcases z with z | z | z | z
    · exact .inl z
    · exact .inr (.inl (sub.subset z))
    · exact .inr (.inr z)
    · exact .inr (.inl (hg a z).2)
  refine ⟨I.pre, by simp [I.lr], by simp [I.lg], I.ls, I.nd.sublist (List.Sublist.append_left sub A), fun a m => I.trk a ((List.Sublist.append_left sub A).subset m), fun a q => ?_, fun j x e => ?_, fun n xs e => ?_, I.frame, fun a m => I.fresh a ((List.Sublist.append_left sub A).subset m), I.a0⟩
  · rcases q with q | q
    · exact ⟨fun z => (I.prot a q).1 ((List.Sublist.append_left sub A).subset z), (I.prot a q).2⟩
    · refine ⟨fun z => ?_, I.trk a (List.mem_append_right _ (hg a q).2)⟩
      rcases List.mem_append.mp z with z | z
      · exact (List.nodup_append.mp I.nd).2.2 a z a (hg a q).2 rfl
      · exact (hg a q).1 z
  · by_cases hj : j = i
    · subst hj
      rw [List.getElem?_set] at e
      split at e
      · split at e <;> cases e
      · rename_i h; exact absurd rfl h
    · rw [List.getElem?_set_ne (Ne.symm hj)] at e
      obtain ⟨v, g, e1, r, sb⟩ := I.slots j x e
      exact ⟨v, g, e1, Rs.mono (fun _ _ q => q) (fun a z => .inl (hF a z)) (fun a o q n => q) _ _ _ (fun a m o q => q) r, by rw [List.getElem?_set_ne (Ne.symm hj)]; exact sb⟩
  · obtain ⟨a, vs, e1, e2, l, r⟩ := I.sto n xs e
    exact ⟨a, vs, e1, e2, l, RsL.mono (fun _ _ q => q) (fun a z => .inl (hF a z)) (fun a o q n => q) _ _ _ (fun a m o q => q) r⟩
theorem set_same {σ : L2.St} {i : Nat} {v : V} (h : σ[i]? = some (some v)) : σ.set i (some v) = σ := by
  obtain ⟨h1, h2⟩ := List.getElem?_eq_some_iff.mp h
  apply List.ext_getElem?
  intro j
  by_cases e : j = i
  · subst e; rw [List.getElem?_set_self h1, h]
  · rw [List.getElem?_set_ne (Ne.symm e)]
theorem Sim.frz (I : Sim C ρ S A G σ H) {i : Nat} {x y : SV} (h : ρ[i]? = some (some x)) (hf : VL.frz x = some y) : Sim C (ρ.set i (some y)) S A (G.set i []) σ H := by
  obtain ⟨v, g, e1, r, sb⟩ := I.slots i x h
  have J := I.drop i
  have J0 : Sim C (ρ.set i none) S A (G.set i []) σ H := J.prw fun a z => .inl z
  have r2 : Rs C.K C.mg H A (Fs C A (G.set i [])) y v [] := Rs.frzF (fun _ _ q => q) (fun a z => by
    rcases z with z | z | z
    · exact .inl z
    · exact .inr (.inl (flatten_set_nil.subset z))
    · exact .inr (.inr z)) r (fun a m z => by
    have hp := (J.prot a (.inr (sb.subset m))).1
    rcases z with z | z | z
    · exact hp (List.mem_append_left _ z)
    · exact hp (List.mem_append_right _ z)
    · exact (I.prot a z).1 (List.mem_append_right _ (getD_mem (sb.subset m)))) hf
  have K := J0.putV (i := i) r2
  rw [List.set_set, set_same e1] at K
  exact K
theorem set_ext {i : Nat} : ExtS A G H A (G.set i []) H := ⟨List.prefix_refl _, fun a m => .inl ((List.Sublist.append_left flatten_set_nil A).subset m), fun _ _ h _ => h, fun _ h => h⟩
theorem t_ghF {C : Ct} {W : WX} {s : Rho → Sto → Option Fl} : ∀ (is : List Nat) (D : Ends) (σ : L2.St) (H : Hp), tS C W (ghF is s) D σ H → tS C W s D σ H
  | [], D, σ, H, h => by
    obtain ⟨ρ, S, A, G, I, q⟩ := h
    unfold ghF at q
    exact ⟨ρ, S, A, G, I, q⟩
  | i :: r, D, σ, H, h => by
    obtain ⟨ρ, S, A, G, I, q⟩ := h
    unfold ghF at q
    split at q
    · rename_i x hx
      split at q
      · rename_i y hy
        exact t_ghF r D σ H ⟨_, S, A, _, I.frz hx hy, q.ext set_ext⟩
      · exact q.elim
    · exact q.elim
theorem ss_ghF {X : Cx} {C : Ct} {W : WX} {sts : List Stmt} {s : Rho → Sto → Option Fl} (is : List Nat) (h : PSs X sts (tS C W s)) : PSs X sts (tS C W (ghF is s)) := pss_imp h (t_ghF is)
theorem s_ghF {X : Cx} {C : Ct} {W : WX} {st : Stmt} {s : Rho → Sto → Option Fl} (is : List Nat) (h : PS X st (tS C W s)) : PS X st (tS C W (ghF is s)) := ps_imp h (t_ghF is)
end
section
variable {X : Cx} {C : Ct} {W : WX} {e : Expr} {pos : Pos} {x : Str}
/-! ### raise X() -/
structure ExcOk (K : PySem.W.Frag) (mg : Str → Option Value) (x : Str) : Prop where
  ex : ∃ Ca, mg x = some (.ref Ca) ∧ PySem.W.excIn K Ca [.type "ValueError", .type "Exception", .type "BaseException", .type "object"] "ValueError.__new__" = true ∧ PySem.W.keepIn K (.ref Ca) = true ∧ PySem.W.subIn K (.ref Ca) (.type "BaseException") = some true ∧ PySem.W.typeIn K (.ref Ca) = some (.type "type")
theorem pmk_own0 {Ca : Addr} {bmB : List Value} {B newId initId : String} {p : Pos} (F : ExcBaseFacts B newId initId bmB) (q : PySem.W.excIn X.K Ca bmB newId = true) (gC : X.mg x = some (.ref Ca)) (kC : PySem.W.keepIn X.K (.ref Ca) = true) (r : Raises X (.ref Ca)) (hg : Gl X x)
    (hdb : (x == ("__debug__" : Str)) = false := by decide) : PMk X (.Call (.Name x p) [] [] pos) (fun _ H Q => Q (.ref Ca) none H) := by
  intro pins s σ H Q I h
  refine wpAny_Call_Name_kw (ld_glob I hg gC ?_ hdb)
  refine PySem.W.callWith_K0 I.kIn kC ?_
  show wpAny _ _ (call (.ref Ca) []) _ _ _
  obtain ⟨bm, N, nm, qn, bs, hdct, sn, sub, ab, col, dd, k0, k1, k2, k3, k5, mN, hC, hN, hni, T⟩ := exc_obj I.kIn q
  refine wpAny_call_exc_subT F T hC hN hni (fun h' e hm => ?_) (by show 0 ≤ sizeLine; omega)
  exact mk_of I hm r h (I.hok.gone hm.new)
def sRaise (c : Str) : Rho → Sto → Option Fl := fun ρ S => some (.exc c [] ρ S)
theorem s_raise0 {p : Pos} (hM : C.mg = X.mg) (E : ExcOk X.K X.mg x) (hc : X.calm = true) (tk : Takes X W) (hg : Gl X x) (hdb : (x == ("__debug__" : Str)) = false := by decide) : PS X (.Raise (some (.Call (.Name x p) [] [] pos)) none pos) (tS C W (sRaise x)) := by
  obtain ⟨Ca, hm, q, kC, s1, s2⟩ := E.ex
  refine ps_imp (ps_raise hc tk (pmk_own0 PySem.F.excBase_ValueError q hm kC (raises_own s1 s2) hg hdb)) fun D σ H ⟨ρ, S, A, G, I, q⟩ => ?_
  exact q A G σ H (.ref Ca) none ExtS.refl I ⟨Ca, by rw [hM]; exact hm, rfl, .inl ⟨rfl, rfl⟩⟩
theorem s_raise {p p2 : Pos} (hM : C.mg = X.mg) (E : ExcOk X.K X.mg x) (hc : X.calm = true) (tk : Takes X W) (hg : Gl X x) (hdb : (x == ("__debug__" : Str)) = false := by decide) : PS X (.Raise (some (.Call (.Name x p) [] [] pos)) none p2) (tS C W (sRaise x)) := by
  obtain ⟨Ca, hm, q, kC, s1, s2⟩ := E.ex
  refine ps_imp (ps_raise hc tk (pmk_own0 PySem.F.excBase_ValueError q hm kC (raises_own s1 s2) hg hdb)) fun D σ H ⟨ρ, S, A, G, I, q⟩ => ?_
  exact q A G σ H (.ref Ca) none ExtS.refl I ⟨Ca, by rw [hM]; exact hm, rfl, .inl ⟨rfl, rfl⟩⟩
/-! ### try .. except X: -/
/-- which class a clause takes -/
def MtOk (K : PySem.W.Frag) (mg : Str → Option Value) (mt : Str → Str → Option Bool) : Prop := ∀ c x b Ca Cx, mt c x = some b → mg c = some (.ref Ca) → mg x = some (.ref Cx) → PySem.W.exmOne K (.ref Ca) (.ref Cx) = some b
/-- .. that raises nothing -/
def noX : Option Fl → Option Fl
  | some (.exc _ _ _ _) => none
  | r => r
theorem SGood.noX {W' : WX} {A : List Addr} {G : List (List Addr)} {H : Hp} {D : Ends} {r : Option Fl} (h : SGood C W A G H D (noX r)) : SGood C W' A G H D r := by
  cases r with
  | none => exact h
  | some f => cases f <;> first | exact h | exact h.elim
def sTry (mt : Str → Str → Option Bool) (x : Str) (b h : Rho → Sto → Option Fl) : Rho → Sto → Option Fl := fun ρ S => match b ρ S with
  | some (.exc c fs ρ1 S1) => match mt c x with
    | some true => noX (h ρ1 S1)
    | some false => some (.exc c fs ρ1 S1)
    | none => none
  | r => r
theorem s_try {mt : Str → Str → Option Bool} {fb fh : Rho → Sto → Option Fl} {body suite : List Stmt} {b₀ : Stmt} {np pos' : Pos} {Cx : Addr} (hK : C.K = X.K) (hM : C.mg = X.mg) (hmt : MtOk X.K X.mg mt) (hs : X.stack = X.env :: X.outer) (hf : X.env.frame = some X.env.locals)
    (hg : Gl X x) (hx : X.mg x = some (.ref Cx)) (tk : Takes X W)
    (hb : ∀ (W : WX) (pn : List (Addr × Obj)) (xe : Value → Shared → Prop), Takes (X.tr pn xe) W → PassesOwn (model X.prog X.w) X.A X.env xe → PSs (X.tr pn xe) body (tS C W fb))
    (hsu : ∀ (a : Addr) (oe : Obj) (pn : List (Addr × Obj)), PSs (X.suite a ((a, oe) :: pn)) (b₀ :: suite) (tS C WF fh)) (hdb : (x == ("__debug__" : Str)) = false := by decide) :
    PS X (.Try body [.ExceptHandler (some (.Name x np)) none (b₀ :: suite) pos'] [] [] pos) (tS C W (sTry mt x fb fh)) := by
  refine ps_imp (ps_try_only (c := .ref Cx) (tb := fun W => tS C W fb) (ts := fun _ _ _ => tS C WF fh) hs hf ⟨hg, hdb, .inl hx⟩ tk hb fun a oe cls d pn _ _ => hsu a oe pn) fun D σ H ⟨ρ, S, A, G, I, q⟩ => ⟨ρ, S, A, G, I, ?_⟩
  unfold sTry at q
  cases hr : fb ρ S with
  | none => rw [hr] at q; exact q
  | some r =>
    rw [hr] at q
    cases r with
    | nx ρ' S' => exact q
    | bk ρ' S' => exact q
    | ct ρ' S' => exact q
    | rt z S' => exact q
    | exc c fs ρ' S' =>
      rintro A' G' σ' H' cls d ex J ⟨Ca, hc, rfl, hfs⟩
      simp only at q
      cases hmc : mt c x with
      | none => rw [hmc] at q; exact q.elim
      | some k =>
        rw [hmc] at q
        refine ⟨k, hmt c x k Ca Cx hmc (by rw [← hM]; exact hc) hx, fun e a _ => ?_, fun e => ?_⟩
        · subst e
          exact ⟨ρ', S', A', G', J, SGood.ext ex (SGood.noX q)⟩
        · subst e
          exact q A' G' σ' H' (.ref Ca) d ex J ⟨Ca, hc, rfl, hfs⟩
end
end VL

end
section
set_option Elab.async false
set_option linter.all false
set_option maxRecDepth 100000
/-! VL11: lists that are changed: a slot's own (within others of its own) or a shared one. -/
namespace VL
open PySem PySem.Spec PyProof.Rows L2

def getP : List Nat → SV → Option (List SV)
  | [], .own xs => some xs
  | j :: p, .own xs => (xs[j]?).bind (getP p)
  | _, _ => none
def putP : List Nat → List SV → SV → SV
  | [], ys, .own _ => .own ys
  | j :: p, ys, .own xs => match xs[j]? with
    | some z => .own (xs.set j (putP p ys z))
    | none => .own xs
  | _, _, x => x
def addrP (H : Hp) : List Nat → V → Option Addr
  | [], .ref a => some a
  | j :: p, .ref a => match H a with
    | some (.lst vs) => (vs[j]?).bind (addrP H p)
    | _ => none
  | _, _ => none
section
variable {K : PySem.W.Frag} {mg : Str → Option Value} {H H' : Hp} {A : List Addr} {F F' : Addr → Prop}
theorem RsL.at' : ∀ {xs : List SV} {vs : List V} {g : List Addr} {j : Nat} {z : SV}, RsL K mg H A F xs vs g → xs[j]? = some z → ∃ v gl gz gr, vs[j]? = some v ∧ Rs K mg H A F z v gz ∧ g = gl ++ (gz ++ gr) ∧
    ∀ (H' : Hp) (F' : Addr → Prop), (∀ a, F' a → F a ∨ H a = none) → (∀ a o, H a = some o → ¬ F a → H' a = some o) → (∀ b ∈ gl ++ gr, ∀ o, H b = some o → H' b = some o) → ∀ z' gz', Rs K mg H' A F' z' v gz' → RsL K mg H' A F' (xs.set j z') vs (gl ++ (gz' ++ gr))
  | [], _, _, _, _, _, e => by simp at e
  | x :: xs, _, _, j, z, r, e => by
    cases r with
    | cons r1 r2 =>
      rename_i v vs g1 g2
      cases j with
      | zero =>
        simp only [List.getElem?_cons_zero, Option.some.injEq] at e
        subst e
        refine ⟨v, [], g1, g2, rfl, r1, rfl, fun H' F' hF hH hk z' gz' r' => ?_⟩
        show RsL K mg H' A F' _ _ (gz' ++ g2)
        exact .cons r' (RsL.mono (fun _ _ q => q) hF hH _ _ _ (fun a m o q => hk a m o q) r2)
      | succ j =>
        obtain ⟨v', gl, gz, gr, h1, h2, h3, h4⟩ := RsL.at' r2 (by simpa using e)
        refine ⟨v', g1 ++ gl, gz, gr, by simpa using h1, h2, by rw [h3, List.append_assoc], fun H' F' hF hH hk z' gz' r' => ?_⟩
        have q := h4 H' F' hF hH (fun b m => hk b (by
          rw [List.append_assoc]
          exact List.mem_append_right _ m)) z' gz' r'
        rw [List.append_assoc]
        exact .cons (Rs.mono (fun _ _ q => q) hF hH _ _ _ (fun a m o q => hk a (List.mem_append_left _ (List.mem_append_left _ m)) o q) r1) q
structure PutOk (K : PySem.W.Frag) (mg : Str → Option Value) (H : Hp) (A : List Addr) (F : Addr → Prop) (p : List Nat) (x : SV) (v : V) (g : List Addr) (a : Addr) (gx : List Addr) : Prop where
  to : ∀ (F' : Addr → Prop), (∀ b, F' b → F b ∨ H b = none) → (∀ b ∈ g, F b) → g.Nodup → ∀ ys ws gy, RsL K mg (upd H a (.lst ws)) A F' ys ws gy → ws.length ≤ sizeLine → gy.Nodup → (∀ b ∈ gy, b ∉ g ∨ b ∈ gx) →
    ∃ g', Rs K mg (upd H a (.lst ws)) A F' (putP p ys x) v g' ∧ g'.Nodup ∧ ∀ b ∈ g', b ∈ g ∨ b ∈ gy
theorem Rs.path : ∀ {p : List Nat} {x : SV} {v : V} {g : List Addr} {xs : List SV}, Rs K mg H A F x v g → getP p x = some xs → ∃ a us gx, addrP H p v = some a ∧ H a = some (.lst us) ∧ us.length ≤ sizeLine ∧ (a :: gx).Sublist g ∧ RsL K mg H A F xs us gx ∧ PutOk K mg H A F p x v g a gx
  | [], .own zs, _, _, xs, r, h => by
    simp only [getP, Option.some.injEq] at h
    subst h
    cases r with
    | own e l r =>
      rename_i a vs g
      refine ⟨a, vs, g, rfl, e, l, List.Sublist.refl _, r, ⟨fun F' hF hg nd ys ws gy ry lw ng hy => ⟨a :: gy, .own upd_same lw ry, List.nodup_cons.mpr ⟨fun m => ?_, ng⟩, fun b m => ?_⟩⟩⟩
      · rcases hy a m with z | z
        · exact z List.mem_cons_self
        · exact (List.nodup_cons.mp nd).1 z
      · rcases List.mem_cons.mp m with rfl | m
        · exact .inl List.mem_cons_self
        · exact .inr m
  | j :: p, .own zs, _, _, xs, r, h => by
    simp only [getP, Option.bind_eq_some_iff] at h
    obtain ⟨z, hz, h⟩ := h
    cases r with
    | own e l r =>
      rename_i a0 vs g1
      obtain ⟨v, gl, gz, gr, h1, h2, rfl, h4⟩ := RsL.at' r hz
      obtain ⟨a, us, gx, q1, q2, q3, q4, q5, q6⟩ := Rs.path h2 h
      have sub : (a :: gx).Sublist (a0 :: (gl ++ (gz ++ gr))) := (q4.trans ((List.sublist_append_left _ _).trans (List.sublist_append_right _ _))).trans (List.sublist_cons_self _ _)
      have maz : a ∈ gz := q4.subset List.mem_cons_self
      refine ⟨a, us, gx, by simp only [addrP, e, h1, Option.bind_some]; exact q1, q2, q3, sub, q5, ⟨fun F' hF hg nd ys ws gy ry lw ng hy => ?_⟩⟩
      have nd1 := (List.nodup_cons.mp nd).2
      have n1 := List.nodup_append.mp nd1
      have n2 := List.nodup_append.mp n1.2.1
      obtain ⟨gz', r', nz, sz⟩ := q6.to F' hF (fun b m => hg b (List.mem_cons_of_mem _ (List.mem_append_right _ (List.mem_append_left _ m)))) n2.1 ys ws gy ry lw ng (fun b m => (hy b m).imp (fun z w => z (List.mem_cons_of_mem _ (List.mem_append_right _ (List.mem_append_left _ w)))) id)
      have ha : ∀ b, b ∈ gl ∨ b ∈ gr → b ≠ a := fun b m e => by
        subst e
        rcases m with m | m
        · exact n1.2.2 b m b (List.mem_append_left _ maz) rfl
        · exact n2.2.2 b maz b m rfl
      have hne0 : a0 ≠ a := fun e => (List.nodup_cons.mp nd).1 (by rw [e]; exact List.mem_append_right _ (List.mem_append_left _ maz))
      have hFa : F a := hg a (sub.subset List.mem_cons_self)
      have rr := h4 (upd H a (.lst ws)) F' hF (fun b o q n => by rw [upd_ne (show b ≠ a from fun e => n (by rw [e]; exact hFa))]; exact q) (fun b m o q => by rw [upd_ne (ha b (List.mem_append.mp m))]; exact q) _ gz' r'
      -- what is in the new part, but was elsewhere
      have key : ∀ b ∈ gz', b ∈ gz ∨ (b ∉ a0 :: (gl ++ (gz ++ gr))) := fun b m => by
        rcases sz b m with z | z
        · exact .inl z
        · rcases hy b z with w | w
          · exact .inr w
          · exact .inl (q4.subset (List.mem_cons_of_mem _ w))
      refine ⟨a0 :: (gl ++ (gz' ++ gr)), by simp only [putP, hz]; exact .own (by rw [upd_ne hne0]; exact e) l rr, List.nodup_cons.mpr ⟨fun m => ?_, List.nodup_append.mpr ⟨n1.1, List.nodup_append.mpr ⟨nz, n2.2.1, fun b m c m' e => ?_⟩, fun b m c m' e => ?_⟩⟩, fun b m => ?_⟩
      · rcases List.mem_append.mp m with m | m
        · exact (List.nodup_cons.mp nd).1 (List.mem_append_left _ m)
        · rcases List.mem_append.mp m with m | m
          · rcases key a0 m with z | z
            · exact (List.nodup_cons.mp nd).1 (List.mem_append_right _ (List.mem_append_left _ z))
            · exact z List.mem_cons_self
          · exact (List.nodup_cons.mp nd).1 (List.mem_append_right _ (List.mem_append_right _ m))
      · subst e
        rcases key b m with z | z
        · exact n2.2.2 b z b m' rfl
        · exact z (List.mem_cons_of_mem _ (List.mem_append_right _ (List.mem_append_right _ m')))
      · subst e
        rcases List.mem_append.mp m' with m' | m'
        · rcases key b m' with z | z
          · exact n1.2.2 b m b (List.mem_append_left _ z) rfl
          · exact z (List.mem_cons_of_mem _ (List.mem_append_left _ m))
        · exact n1.2.2 b m b (List.mem_append_right _ m') rfl
      · rcases List.mem_cons.mp m with rfl | m
        · exact .inl List.mem_cons_self
        · rcases List.mem_append.mp m with m | m
          · exact .inl (List.mem_cons_of_mem _ (List.mem_append_left _ m))
          · rcases List.mem_append.mp m with m | m
            · rcases sz b m with z | z
              · exact .inl (List.mem_cons_of_mem _ (List.mem_append_right _ (List.mem_append_left _ z)))
              · exact .inr z
            · exact .inl (List.mem_cons_of_mem _ (List.mem_append_right _ (List.mem_append_right _ m)))
  | [], .d _, _, _, _, _, h => by simp [getP] at h
  | [], .ref _, _, _, _, _, h => by simp [getP] at h
  | [], .fn _, _, _, _, _, h => by simp [getP] at h
  | [], .scr _, _, _, _, _, h => by simp [getP] at h
  | [], .dic _ _, _, _, _, _, h => by simp [getP] at h
  | _ :: _, .d _, _, _, _, _, h => by simp [getP] at h
  | _ :: _, .ref _, _, _, _, _, h => by simp [getP] at h
  | _ :: _, .fn _, _, _, _, _, h => by simp [getP] at h
  | _ :: _, .scr _, _, _, _, _, h => by simp [getP] at h
  | _ :: _, .dic _ _, _, _, _, _, h => by simp [getP] at h
theorem addrP_ext {g : List Addr} (hk : ∀ b ∈ g, ∀ o, H b = some o → H' b = some o) : ∀ {p : List Nat} {x : SV} {v : V} {xs : List SV} {g0 : List Addr}, (∀ b ∈ g0, b ∈ g) → Rs K mg H A F x v g0 → getP p x = some xs → addrP H' p v = addrP H p v
  | [], .own zs, _, xs, g0, hs, r, h => by
    cases r with
    | own e l r => rfl
  | j :: p, .own zs, _, xs, g0, hs, r, h => by
    simp only [getP, Option.bind_eq_some_iff] at h
    obtain ⟨z, hz, h⟩ := h
    cases r with
    | own e l r =>
      rename_i a0 vs g1
      obtain ⟨v, gl, gz, gr, h1, h2, rfl, _⟩ := RsL.at' r hz
      simp only [addrP, e, hk a0 (hs a0 List.mem_cons_self) _ e, h1, Option.bind_some]
      exact addrP_ext hk (fun b m => hs b (List.mem_cons_of_mem _ (List.mem_append_right _ (List.mem_append_left _ m)))) h2 h
  | [], .d _, _, _, _, _, _, h => by simp [getP] at h
  | [], .ref _, _, _, _, _, _, h => by simp [getP] at h
  | [], .fn _, _, _, _, _, _, h => by simp [getP] at h
  | [], .scr _, _, _, _, _, _, h => by simp [getP] at h
  | [], .dic _ _, _, _, _, _, _, h => by simp [getP] at h
  | _ :: _, .d _, _, _, _, _, _, h => by simp [getP] at h
  | _ :: _, .ref _, _, _, _, _, _, h => by simp [getP] at h
  | _ :: _, .fn _, _, _, _, _, _, h => by simp [getP] at h
  | _ :: _, .scr _, _, _, _, _, _, h => by simp [getP] at h
  | _ :: _, .dic _ _, _, _, _, _, _, h => by simp [getP] at h
theorem getP_app : ∀ {p : List Nat} {x : SV} {xs zs : List SV} {j : Nat}, getP p x = some xs → xs[j]? = some (.own zs) → getP (p ++ [j]) x = some zs
  | [], .own ys, xs, zs, j, h, e => by
    simp only [getP, Option.some.injEq] at h
    subst h
    simp [getP, e]
  | i :: p, .own ys, xs, zs, j, h, e => by
    simp only [getP, Option.bind_eq_some_iff] at h
    obtain ⟨z, hz, h⟩ := h
    show (ys[i]?).bind (getP (p ++ [j])) = some zs
    rw [hz]
    exact getP_app h e
  | [], .d _, _, _, _, h, _ => by simp [getP] at h
  | [], .ref _, _, _, _, h, _ => by simp [getP] at h
  | [], .fn _, _, _, _, h, _ => by simp [getP] at h
  | [], .scr _, _, _, _, h, _ => by simp [getP] at h
  | [], .dic _ _, _, _, _, h, _ => by simp [getP] at h
  | _ :: _, .d _, _, _, _, h, _ => by simp [getP] at h
  | _ :: _, .ref _, _, _, _, h, _ => by simp [getP] at h
  | _ :: _, .fn _, _, _, _, h, _ => by simp [getP] at h
  | _ :: _, .scr _, _, _, _, h, _ => by simp [getP] at h
  | _ :: _, .dic _ _, _, _, _, h, _ => by simp [getP] at h
theorem addrP_app : ∀ {p : List Nat} {v : V} {a : Addr} {us : List V} {j : Nat} {b : Addr}, addrP H p v = some a → H a = some (.lst us) → us[j]? = some (.ref b) → addrP H (p ++ [j]) v = some b
  | [], .ref c, a, us, j, b, h, e, q => by
    simp only [addrP, Option.some.injEq] at h
    subst h
    simp [addrP, e, q]
  | i :: p, .ref c, a, us, j, b, h, e, q => by
    simp only [addrP] at h
    show addrP H (i :: (p ++ [j])) (.ref c) = some b
    simp only [addrP]
    split at h
    · rename_i vs hc
      simp only [Option.bind_eq_some_iff] at h ⊢
      obtain ⟨w, hw, h⟩ := h
      exact ⟨w, hw, addrP_app h e q⟩
    · cases h
  | [], .non, _, _, _, _, h, _, _ => by simp [addrP] at h
  | _, .int _, _, _, _, _, h, _, _ => by cases ‹List Nat› <;> simp [addrP] at h
  | _, .bl _, _, _, _, _, h, _, _ => by cases ‹List Nat› <;> simp [addrP] at h
  | _, .str _, _, _, _, _, h, _, _ => by cases ‹List Nat› <;> simp [addrP] at h
  | _ :: _, .non, _, _, _, _, h, _, _ => by simp [addrP] at h
end
end VL

end
section
set_option Elab.async false
set_option linter.all false
set_option maxRecDepth 100000
/-! VL12: places of lists; stores into them, append, pop. -/
namespace VL
open PySem PySem.Spec PyProof.Rows L2

/-- where a list lies: within slot i's own, by a path; the shared list n -/
inductive Lo where
  | sl (i : Nat) (p : List Nat)
  | st (n : Nat)
def Lo.get (ρ : Rho) (S : Sto) : Lo → Option (List SV)
  | .sl i p => match ρ[i]? with
    | some (some x) => getP p x
    | _ => none
  | .st n => S[n]?
def Lo.put (ρ : Rho) (S : Sto) (ys : List SV) : Lo → Option (Rho × Sto)
  | .sl i p => match ρ[i]? with
    | some (some x) => some (ρ.set i (some (putP p ys x)), S)
    | _ => none
  | .st n => if ys.all noOwn then some (ρ, S.set n ys) else none
def LoA (A : List Addr) (σ : L2.St) (H : Hp) : Lo → Option Addr
  | .sl i p => match σ[i]? with
    | some (some v) => addrP H p v
    | _ => none
  | .st n => A[n]?
section
variable {C : Ct} {ρ ρ' : Rho} {S S' : Sto} {A A' : List Addr} {G : List (List Addr)} {σ : L2.St} {H H' : Hp} {l : Lo} {xs ys : List SV} {a : Addr} {us ws : List V} {gn : List Addr}
theorem Sim.lget (I : Sim C ρ S A G σ H) (h : l.get ρ S = some xs) : ∃ a us gx, LoA A σ H l = some a ∧ H a = some (.lst us) ∧ us.length ≤ sizeLine ∧ RsL C.K C.mg H A (Fs C A G) xs us gx ∧ gx.Nodup ∧ a ∉ gx ∧ a ∈ A ++ G.flatten ∧ (∀ b ∈ gx, b ∈ G.flatten) ∧ ∀ n, l = .st n → gx = [] := by
  cases l with
  | sl i p =>
    simp only [Lo.get] at h
    split at h
    · rename_i x hx
      obtain ⟨v, g, e1, r, sb⟩ := I.slots i x hx
      obtain ⟨a, us, gx, q1, q2, q3, q4, q5, _⟩ := Rs.path r h
      have nd : g.Nodup := by
        have n := (List.nodup_append.mp I.nd).2.1
        cases hG : G[i]? with
        | none => rw [hG] at sb; rw [List.sublist_nil.mp sb]; exact List.nodup_nil
        | some l => rw [hG] at sb; exact ((List.pairwise_flatten.mp n).1 l (List.mem_of_getElem? hG)).sublist sb
      have nd2 := List.nodup_cons.mp (nd.sublist q4)
      exact ⟨a, us, gx, by simp only [LoA, e1]; exact q1, q2, q3, q5, nd2.2, nd2.1, List.mem_append_right _ (getD_mem (sb.subset (q4.subset List.mem_cons_self))), fun b m => getD_mem (sb.subset (q4.subset (List.mem_cons_of_mem _ m))), fun n e => by cases e⟩
    · cases h
  | st n =>
    obtain ⟨a, vs, e1, e2, l, r⟩ := I.sto n xs h
    exact ⟨a, vs, [], e1, e2, l, r, List.nodup_nil, by simp, List.mem_append_left _ (List.mem_of_getElem? e1), (fun b m => by cases m), fun _ _ => rfl⟩
theorem LoA.ext (I : Sim C ρ S A G σ H) (e : Ext A H A' H') (h : l.get ρ S = some xs) (ha : LoA A σ H l = some a) : LoA A' σ H' l = some a := by
  cases l with
  | sl i p =>
    simp only [Lo.get] at h
    split at h
    · rename_i x hx
      obtain ⟨v, g, e1, r, sb⟩ := I.slots i x hx
      simp only [LoA, e1] at ha ⊢
      rw [addrP_ext (g := g) (fun b m o q => e.keep b o q fun z => (List.nodup_append.mp I.nd).2.2 b z b (getD_mem (sb.subset m)) rfl) (fun b m => m) r h]
      exact ha
    · cases h
  | st n => exact prefix_get e.pre n a ha
theorem Lo.get_ext (h : l.get ρ S = some xs) (hl : S.length ≤ S'.length) : ∃ ys, l.get ρ S' = some ys := by
  cases l with
  | sl i p => exact ⟨xs, h⟩
  | st n =>
    have := (List.getElem?_eq_some_iff.mp h).1
    exact ⟨S'[n]'(by omega), List.getElem?_eq_getElem (by omega)⟩
/-- a list's contents are put anew; gn: new lists that come in -/
theorem Sim.lput (I : Sim (C.pr fun a => C.Pr a ∨ a ∈ gn) ρ S A G σ H) (ngn : gn.Nodup) (h0 : ∀ b ∈ gn, C.E0 b = none) (hp : ∀ b ∈ gn, ¬ C.Pr b) (hx : l.get ρ S = some xs) (ha : LoA A σ H l = some a) (hu : H a = some (.lst us)) (lw : ws.length ≤ sizeLine) (hput : l.put ρ S ys = some (ρ', S'))
    (hc : ∀ gx, RsL C.K C.mg H A (Fs (C.pr fun a => C.Pr a ∨ a ∈ gn) A G) xs us gx → gx.Nodup → (∀ b ∈ gx, b ∉ gn) → ∃ gy, RsL C.K C.mg H A (fun b => Fs (C.pr fun a => C.Pr a ∨ a ∈ gn) A G b) ys ws gy ∧ gy.Nodup ∧ ∀ b ∈ gy, b ∈ gx ∨ b ∈ gn) :
    ∃ G', Sim C ρ' S' A G' σ (upd H a (.lst ws)) ∧ ∀ b ∈ G'.flatten, b ∈ G.flatten ∨ b ∈ gn := by
  have hgn : ∀ b ∈ gn, b ∉ A ++ G.flatten ∧ H b ≠ none := fun b m => I.prot b (.inr m)
  have hFs : ∀ b, Fs (C.pr fun a => C.Pr a ∨ a ∈ gn) A G b ↔ Fs C A G b ∨ b ∈ gn := fun b => by
    constructor
    · rintro (z | z | z | z)
      · exact .inl (.inl z)
      · exact .inl (.inr (.inl z))
      · exact .inl (.inr (.inr z))
      · exact .inr z
    · rintro ((z | z | z) | z)
      · exact .inl z
      · exact .inr (.inl z)
      · exact .inr (.inr (.inl z))
      · exact .inr (.inr (.inr z))
  cases l with
  | st n =>
    simp only [Lo.put] at hput
    split at hput
    case isFalse => cases hput
    rename_i hno
    cases hput
    obtain ⟨a', us', e1, e2, l', r⟩ := I.sto n xs hx
    have e1' : A[n]? = some a := ha
    rw [e1'] at e1
    cases e1
    rw [hu] at e2
    cases e2
    obtain ⟨gy, ry, _, _⟩ := hc [] r List.nodup_nil fun b m => by cases m
    obtain rfl := RsL.noOwn ry hno
    have aA : a ∈ A := List.mem_of_getElem? e1'
    have hFa : Fs C A G a := .inl aA
    have hH : ∀ b o, H b = some o → ¬ Fs C A G b → upd H a (.lst ws) b = some o := fun b o q n => by rw [upd_ne (show b ≠ a from fun e => n (by rw [e]; exact hFa))]; exact q
    have tr : ∀ b, H b ≠ none → upd H a (.lst ws) b ≠ none := fun b h => by
      by_cases e : b = a
      · rw [e, upd_same]; simp
      · rw [upd_ne e]; exact h
    have I0 : Sim C ρ S A G σ H := I.prw fun a z => .inl z
    refine ⟨G, ⟨I0.pre, I0.lr, I0.lg, by simp [I0.ls], I0.nd, fun b m => tr b (I0.trk b m), fun b p => ⟨(I0.prot b p).1, tr b (I0.prot b p).2⟩, fun i x e => ?_, fun k zs e => ?_, fun b o e n => ?_, I0.fresh, I0.a0⟩, fun b m => .inl m⟩
    · obtain ⟨v, g, e1, r, sb⟩ := I0.slots i x e
      refine ⟨v, g, e1, Rs.mono (fun _ _ q => q) (fun a z => .inl z) hH _ _ _ (fun b m o q => ?_) r, sb⟩
      rw [upd_ne (show b ≠ a from fun e => (List.nodup_append.mp I.nd).2.2 a aA b (getD_mem (sb.subset m)) e.symm)]
      exact q
    · by_cases hk : k = n
      · subst hk
        have hlt : k < S.length := (List.getElem?_eq_some_iff.mp hx).1
        rw [List.getElem?_set_self hlt] at e
        cases e
        exact ⟨a, ws, e1', upd_same, lw, RsL.mono (fun _ _ q => q) (fun b z => .inl ((hFs b).mpr (.inl z))) (fun b o q n => by rw [upd_ne (show b ≠ a from fun e => n (by rw [e]; exact (hFs a).mpr (.inl hFa)))]; exact q) _ _ _ (fun b m => by cases m) ry⟩
      · rw [List.getElem?_set_ne (Ne.symm hk)] at e
        obtain ⟨b, vs, q1, q2, q3, q4⟩ := I0.sto k zs e
        refine ⟨b, vs, q1, ?_, q3, RsL.mono (fun _ _ q => q) (fun a z => .inl z) hH _ _ _ (fun a m => by cases m) q4⟩
        rw [upd_ne]
        · exact q2
        · intro e
          subst e
          have nA := (List.nodup_append.mp I.nd).1
          obtain ⟨p1, p2⟩ := List.getElem?_eq_some_iff.mp q1
          obtain ⟨p3, p4⟩ := List.getElem?_eq_some_iff.mp e1'
          rw [List.nodup_iff_pairwise_ne, List.pairwise_iff_getElem] at nA
          rcases Nat.lt_or_gt_of_ne hk with lt | lt
          · exact nA k n p1 p3 lt (p2.trans p4.symm)
          · exact nA n k p3 p1 lt (p4.trans p2.symm)
    · rw [upd_ne]
      · exact I0.frame b o e n
      · intro z
        subst z
        rcases I0.fresh b (List.mem_append_left _ aA) with q | q
        · exact n q
        · rw [q] at e; cases e
  | sl i p =>
    simp only [Lo.put] at hput
    simp only [Lo.get] at hx
    split at hput
    case h_2 => cases hput
    rename_i x hρ
    cases hput
    rw [hρ] at hx
    simp only at hx
    obtain ⟨v, g, e1, r, sb⟩ := I.slots i x hρ
    obtain ⟨a', us', gx, q1, q2, q3, q4, q5, q6⟩ := Rs.path r hx
    simp only [LoA, e1] at ha
    rw [q1] at ha
    cases ha
    rw [hu] at q2
    cases q2
    have gG : ∀ b ∈ g, b ∈ G.flatten := fun b m => getD_mem (sb.subset m)
    have nd : g.Nodup := by
      have n := (List.nodup_append.mp I.nd).2.1
      cases hG : G[i]? with
      | none => rw [hG] at sb; rw [List.sublist_nil.mp sb]; exact List.nodup_nil
      | some l => rw [hG] at sb; exact ((List.pairwise_flatten.mp n).1 l (List.mem_of_getElem? hG)).sublist sb
    have nd2 := List.nodup_cons.mp (nd.sublist q4)
    have ag : a ∈ g := q4.subset List.mem_cons_self
    have xg : ∀ b ∈ gx, b ∈ g := fun b m => q4.subset (List.mem_cons_of_mem _ m)
    obtain ⟨gy, ry, ny, sy⟩ := hc gx q5 nd2.2 fun b m z => (hgn b z).1 (List.mem_append_right _ (gG b (xg b m)))
    have aF : Fs (C.pr fun a => C.Pr a ∨ a ∈ gn) A G a := .inr (.inl (gG a ag))
    have yna : ∀ b ∈ gy, b ≠ a := fun b m e => by
      subst e
      rcases sy b m with z | z
      · exact nd2.1 z
      · exact (hgn b z).1 (List.mem_append_right _ (gG b ag))
    have ry' : RsL C.K C.mg (upd H a (.lst ws)) A (Fs (C.pr fun a => C.Pr a ∨ a ∈ gn) A G) ys ws gy := RsL.mono (fun _ _ q => q) (fun b z => .inl z) (fun b o q n => by rw [upd_ne (show b ≠ a from fun e => n (by rw [e]; exact aF))]; exact q) _ _ _ (fun b m o q => by rw [upd_ne (yna b m)]; exact q) ry
    obtain ⟨g', r', n', s'⟩ := q6.to (Fs (C.pr fun a => C.Pr a ∨ a ∈ gn) A G) (fun b z => .inl z) (fun b m => .inr (.inl (gG b m))) nd ys ws gy ry' lw ny fun b m => by
      rcases sy b m with z | z
      · exact .inr z
      · exact .inl fun w => (hgn b z).1 (List.mem_append_right _ (gG b w))
    have s2 : ∀ b ∈ g', b ∈ g ∨ b ∈ gn := fun b m => by
      rcases s' b m with z | z
      · exact .inl z
      · exact (sy b z).imp (xg b) id
    have E0g : ∀ b ∈ g, C.E0 b = none := fun b m => by
      rcases I.fresh b (List.mem_append_right _ (gG b m)) with z | z
      · exact absurd rfl ((List.nodup_append.mp I.nd).2.2 b (I.pre.subset z) b (gG b m))
      · exact z
    have J := (I.drop i).updP (D := a) (o := .lst ws) (.inr (sb.subset ag)) (E0g a ag)
    have J2 : Sim (C.pr fun b => C.Pr b ∨ b ∈ g') (ρ.set i none) S A (G.set i []) σ (upd H a (.lst ws)) := J.prc fun b z => by
      rcases z with z | z
      · exact .inl (.inl z)
      · rcases s2 b z with w | w
        · exact .inr (sb.subset w)
        · exact .inl (.inr w)
    have K := Sim.put (C := C) (i := i) (x := putP p ys x) (v := v) (g := g') J2 (Rs.mono (fun _ _ q => q) (fun b z => .inl (by
      rcases z with (z | z | z) | z
      · exact .inl z
      · exact .inr (.inl (flatten_set_nil.subset z))
      · exact .inr (.inr (.inl z))
      · rcases s2 b z with w | w
        · exact .inr (.inl (gG b w))
        · exact .inr (.inr (.inr w)))) (fun b o q n => q) _ _ _ (fun b m o q => q) r') n' (fun b m => (s2 b m).elim (E0g b) (h0 b)) (fun b m z => (s2 b m).elim (fun w => (I.prot b (.inl z)).1 (List.mem_append_right _ (gG b w))) fun w => hp b w z)
    rw [List.set_set, set_same e1] at K
    refine ⟨_, K, fun b m => ?_⟩
    rw [List.set_set] at m
    rcases flatten_set_sub m with z | z
    · exact .inl z
    · exact (s2 b z).imp (gG b) id
end
end VL

end
section
set_option Elab.async false
set_option linter.all false
set_option maxRecDepth 100000
/-! VL13: statements that change lists. -/
namespace VL
open PySem PySem.Spec PyProof.Rows L2
def LPost (C : Ct) (ρ : Rho) (A : List Addr) (G : List (List Addr)) (σ : L2.St) (H : Hp) (l : Lo) (S' : Sto) (v : V) (H' : Hp) : Prop :=
  ∃ A' a xs, v = .ref a ∧ Ext A H A' H' ∧ Sim C ρ S' A' G σ H' ∧ l.get ρ S' = some xs ∧ LoA A' σ H' l = some a
def tL (C : Ct) (W : WX) (f : Rho → Mo Lo) : TE := fun σ H Q => ∃ P ρ S A G, (∀ a, C.Pr a → P a) ∧ Sim (C.pr P) ρ S A G σ H ∧ EGood (LPost (C.pr P) ρ A G σ H) (XPost C ρ A G σ H) W σ Q (f ρ S)
def lVar (i : Nat) : Rho → Mo Lo := fun ρ S => match ρ[i]? with
  | some (some (.own _)) => some (.ok (.sl i []) S)
  | some (some (.ref n)) => if n < S.length then some (.ok (.st n) S) else none
  | _ => none
def Lo.sub (ρ : Rho) (S : Sto) (l : Lo) (k : Int) : Option Lo := (l.get ρ S).bind fun xs => (ixN xs.length k).bind fun j => match xs[j]? with
  | some (.own _) => (match l with
    | .sl i p => some (.sl i (p ++ [j]))
    | .st _ => none)
  | some (.ref m) => if m < S.length then some (.st m) else none
  | _ => none
def lIx (fl : Rho → Mo Lo) (f : Rho → Mo SV) : Rho → Mo Lo := fun ρ S => bindM (fl ρ S) fun l S1 => bindM (f ρ S1) fun x S2 => match x with
  | .d (.int k) => (l.sub ρ S2 k).map fun l' => .ok l' S2
  | _ => none
section
variable {X : Cx} {C : Ct} {W : WX} {kd ka kb : Kd} {e a b c : Expr} {es : List Expr} {pos : Pos} {f fa fb fc : Rho → Mo SV} {fl : Rho → Mo Lo} {fs : Rho → Mo (List SV)}
theorem l_var {i : Nat} (h : PE X e (tVar i)) : PE X e (tL C W (lVar i)) := by
  refine pe_imp h fun σ H Q ⟨P, ρ, S, A, G, hP, I, q⟩ => ?_
  unfold lVar at q
  split at q
  · rename_i xs hx
    obtain ⟨v, g, e1, r, sb⟩ := I.slots i _ hx
    cases r with
    | own e l r =>
      exact ⟨_, e1, q _ H ⟨A, _, xs, rfl, Ext.refl, I, by simp only [Lo.get, hx, getP], by simp only [LoA, e1, addrP]⟩⟩
  · rename_i n hx
    obtain ⟨v, g, e1, r, sb⟩ := I.slots i _ hx
    split at q
    · rename_i hn
      cases r with
      | ref hA => exact ⟨_, e1, q _ H ⟨A, _, S[n], rfl, Ext.refl, I, List.getElem?_eq_getElem hn, hA⟩⟩
    · exact q.elim
  · exact q.elim
theorem l_ix (hk : C.K = X.K) (ha : PE X a (tL C W fl)) (hb : PE X b (tV C W kb fb)) (hs : PlainIx b) : PE X (.Subscript a b pos) (tL C W (lIx fl fb)) := by
  refine pe_imp (pe_ix ix_seq ha hb hs) fun σ H Q ⟨P, ρ, S, A, G, hP, I, q⟩ => ⟨P, ρ, S, A, G, hP, I, EGood.step q (fun _ _ _ _ _ _ z => z) fun l S1 q v H1 p => ?_⟩
  obtain ⟨A1, a, xs, rfl, e1, I1, hget, hA⟩ := p
  refine ⟨P, ρ, S1, A1, G, hP, I1, EGood.step q (fun _ _ _ _ _ _ z => z.trans e1) fun x S2 q u H2 p => ?_⟩
  obtain ⟨A2, g2, e2, I2, r2⟩ := p
  split at q
  case h_2 => exact q.elim
  rename_i k
  have I2' : Sim (C.pr P) ρ S2 A2 G σ H2 := I2.pgw
  obtain rfl := r2.int
  cases hsub : l.sub ρ S2 k with
  | none => rw [hsub] at q; exact q.elim
  | some l' =>
  rw [hsub] at q
  have hA2 := LoA.ext I1 e2 hget hA
  unfold Lo.sub at hsub
  simp only [Option.bind_eq_some_iff] at hsub
  obtain ⟨ys, hy, j, hj, hsub⟩ := hsub
  obtain ⟨a', us, gx, q1, q2, q3, q4, q5, q6, q7, q8, q9⟩ := I2'.lget hy
  rw [hA2] at q1
  cases q1
  have hlen : us.length = ys.length := q4.length
  have fin : ∀ w, us[j]? = some w → Q w H2 → rIx X.K (.ref a) (.int k) H2 Q := fun w hw hq => .inl ⟨a, us, k, w, rfl, rfl, .inl (.inl q2), by unfold atI; rw [hlen, hj]; exact hw, hq⟩
  split at hsub
  · rename_i zs hz
    obtain ⟨w, gl, gz, gr, h1, h2, _, _⟩ := RsL.at' q4 hz
    split at hsub
    · rename_i i p
      cases hsub
      cases h2 with
      | @own b _ vs g e l r =>
        refine fin (.ref b) h1 (q _ H2 ⟨A2, b, zs, rfl, e1.trans e2, I2', ?_, ?_⟩)
        · simp only [Lo.get] at hy ⊢
          split at hy
          · exact getP_app hy hz
          · cases hy
        · simp only [LoA] at hA2 ⊢
          split at hA2
          · exact addrP_app hA2 q2 h1
          · cases hA2
    · cases hsub
  · rename_i m hz
    obtain ⟨w, gl, gz, gr, h1, h2, _, _⟩ := RsL.at' q4 hz
    split at hsub
    · rename_i hm
      cases hsub
      cases h2 with
      | ref hA => exact fin _ h1 (q _ H2 ⟨A2, _, S2[m], rfl, e1.trans e2, I2', List.getElem?_eq_getElem hm, hA⟩)
    · cases hsub
  · cases hsub
theorem RsL.setN {K : PySem.W.Frag} {mg : Str → Option Value} {H : Hp} {A : List Addr} {F : Addr → Prop} : ∀ {xs : List SV} {vs : List V} {g : List Addr} {j : Nat} {z : SV}, RsL K mg H A F xs vs g → xs[j]? = some z → ∃ gl gz gr, g = gl ++ (gz ++ gr) ∧ ∀ z' v' gz', Rs K mg H A F z' v' gz' → RsL K mg H A F (xs.set j z') (vs.set j v') (gl ++ (gz' ++ gr))
  | [], _, _, _, _, _, e => by simp at e
  | x :: xs, _, _, j, z, r, e => by
    cases r with
    | cons r1 r2 =>
      rename_i v vs g1 g2
      cases j with
      | zero => exact ⟨[], g1, g2, rfl, fun z' v' gz' r' => show RsL K mg H A F _ _ (gz' ++ g2) from .cons r' r2⟩
      | succ j =>
        obtain ⟨gl, gz, gr, h3, h4⟩ := RsL.setN r2 (by simpa using e)
        refine ⟨g1 ++ gl, gz, gr, by rw [h3, List.append_assoc], fun z' v' gz' r' => ?_⟩
        rw [List.append_assoc]
        exact .cons r1 (h4 z' v' gz' r')
theorem SGood.step2 {α V1 : Type} {ρ : Rho} {A A1 : List Addr} {G : List (List Addr)} {σ : L2.St} {H H1 : Hp} {D : Ends} {post1 : α → Sto → V1 → Hp → Prop} {m : Option (Res α)} {k : α → Sto → Option Fl} {Q1 : V1 → Hp → Prop} (e : Ext A H A1 H1) (q : SGood C W A G H D (bindS ρ m k))
    (h : ∀ x S', SGood C W A G H D (k x S') → ∀ v H', post1 x S' v H' → Q1 v H') : EGood post1 (XPost C ρ A1 G σ H1) W σ Q1 m := by
  cases m with
  | none => exact q
  | some r =>
    cases r with
    | ok x S' => exact h x S' q
    | exc c fs S' => exact fun cls d H' ⟨A', e', I, r⟩ => q A' G σ H' cls d (e.trans e').s I r
/-! ### x[i] = e -/
def sStore (fl : Rho → Mo Lo) (fi f : Rho → Mo SV) : Rho → Sto → Option Fl := fun ρ S => bindS ρ (f ρ S) fun y S1 => bindS ρ (fl ρ S1) fun l S2 => bindS ρ (fi ρ S2) fun k S3 => match k with
  | .d (.int k) => (l.get ρ S3).bind fun xs => (ixN xs.length k).bind fun j => (l.put ρ S3 (xs.set j y)).map fun p => .nx p.1 p.2
  | _ => none
/-- what comes of a list's change -/
theorem lput_ends {A A3 : List Addr} {G G' : List (List Addr)} {H H3 : Hp} {gn : List Addr} {a : Addr} {ws : List V} (e : Ext A H A3 H3) (hg : ∀ b ∈ gn, H b = none) (ha : a ∈ A3 ++ G.flatten) (hG : ∀ b ∈ G'.flatten, b ∈ G.flatten ∨ b ∈ gn) : ExtS A G H A3 G' (upd H3 a (.lst ws)) := by
  refine ⟨e.pre, fun b m => ?_, fun b o q n => ?_, fun b h => ?_⟩
  · rcases List.mem_append.mp m with m | m
    · exact (e.new b m).imp (List.mem_append_left _) id
    · exact (hG b m).imp (List.mem_append_right _) (hg b)
  · have hb : b ≠ a := fun z => by
      subst z
      rcases List.mem_append.mp ha with z | z
      · rcases e.new b z with w | w
        · exact n (List.mem_append_left _ w)
        · rw [q] at w; cases w
      · exact n (List.mem_append_right _ z)
    rw [upd_ne hb]
    exact e.keep b o q fun z => n (List.mem_append_left _ z)
  · by_cases hb : b = a
    · rw [hb, upd_same]; simp
    · rw [upd_ne hb]; exact e.there b h
theorem s_store {o i : Expr} {pos' : Pos} (hl : PE X o (tL C W fl)) (hi : PE X i (tV C W kb fb)) (he : PE X e (tV C W .fe f)) (hs : swapsWithSole [.Subscript o i pos'] e pos.line X.env = pure false := by rfl) (hw : swappedStores [.Subscript o i pos'] e X.env = pure none := by rfl)
    (h1 : (assignEach [.Subscript o i pos'] X.env).map (·.2) = [assign (.Subscript o i pos') X.env] := by rfl)
    (ha : ∀ v, assign (.Subscript o i pos') X.env v = (do
      let ov ← holding [v] (eval o X.env)
      let iv ← holding [v, ov] (eval i X.env)
      standAt pos'
      holding [v, ov, iv] (setItem ov iv v)
      release [v, ov, iv] []) := by intro _; rfl) : PS X (.Assign [.Subscript o i pos'] e pos) (tS C W (sStore fl fb f)) := by
  refine ps_imp (ps_asg he (L2.pg_sub hl hi set_list ha) hs hw h1) fun D σ H ⟨ρ, S, A, G, I, q⟩ => ⟨C.Pr, ρ, S, A, G, fun _ h => h, I, SGood.step q fun y S1 q v H1 p => ?_⟩
  obtain ⟨A1, gn, e1, I1, r1⟩ := p
  have I1 : Sim (C.pr fun b => C.Pr b ∨ b ∈ gn) ρ S1 A1 G σ H1 := I1
  refine ⟨fun b => C.Pr b ∨ b ∈ gn, ρ, S1, A1, G, fun _ h => .inl h, I1, SGood.step2 e1 q fun l S2 q v2 H2 p => ?_⟩
  obtain ⟨A2, a, xs2, rfl, e2, I2, hget, hA⟩ := p
  refine ⟨fun b => C.Pr b ∨ b ∈ gn, ρ, S2, A2, G, fun _ h => .inl h, I2, SGood.step2 (e1.trans e2) q fun k S3 q v3 H3 p => ?_⟩
  obtain ⟨A3, g3, e3, I3, r3⟩ := p
  have I3 : Sim (C.pr fun b => C.Pr b ∨ b ∈ gn) ρ S3 A3 G σ H3 := Sim.pgw (C := C.pr fun b => C.Pr b ∨ b ∈ gn) (kd := kb) I3
  split at q
  case h_2 => exact q.elim
  rename_i k
  obtain rfl := r3.int
  cases hx : l.get ρ S3 with
  | none => rw [hx] at q; exact q.elim
  | some xs =>
  rw [hx] at q
  simp only [Option.bind_some] at q
  cases hj : ixN xs.length k with
  | none => rw [hj] at q; exact q.elim
  | some j =>
  rw [hj] at q
  simp only [Option.bind_some] at q
  cases hput : l.put ρ S3 (xs.set j y) with
  | none => rw [hput] at q; exact q.elim
  | some p =>
  obtain ⟨ρ', S'⟩ := p
  rw [hput] at q
  have hA3 := LoA.ext I2 e3 hget hA
  obtain ⟨a', us, gx, q1, q2, q3, q4, q5, q6, q7, q8, q9⟩ := I3.lget hx
  rw [hA3] at q1
  cases q1
  have hlen : us.length = xs.length := q4.length
  have e13 := e2.trans e3
  have ry : Rk (C.pr C.Pr) .fe gn A3 G H H3 y v := Rk.ext (C := C.pr C.Pr) e13 r1
  obtain ⟨ry, ngn, hgn⟩ := ry
  have hj2 := ixN_seq hj
  have hxj : xs[j]? = some xs[j] := List.getElem?_eq_getElem hj2.2.1
  have nF : ∀ b ∈ gn, ¬ C.Pr b := fun b m z => (I.prot b z).2 (hgn b m).1
  obtain ⟨G', J, sG⟩ := Sim.lput (C := C) (ys := xs.set j y) (ws := us.set j v) I3 ngn (fun b m => I.e0 b (hgn b m).1) nF hx hA3 q2 (by rw [List.length_set]; exact q3) hput (fun gx r n d => by
    obtain ⟨gl, gz, gr, h3, h4⟩ := RsL.setN r hxj
    subst h3
    have n1 := List.nodup_append.mp n
    have n2 := List.nodup_append.mp n1.2.1
    have mgn : ∀ b, (Fs (C.pr fun a => C.Pr a ∨ a ∈ gn) A3 G b) → (Fs (C.pr C.Pr) A3 G b ∨ b ∈ gn) := fun b z => by
      rcases z with z | z | z | z
      · exact .inl (.inl z)
      · exact .inl (.inr (.inl z))
      · exact .inl (.inr (.inr z))
      · exact .inr z
    have rset : RsL C.K C.mg H3 A3 (Fs (C.pr fun a => C.Pr a ∨ a ∈ gn) A3 G) (xs.set j y) (us.set j v) (gl ++ (gn ++ gr)) := by
      exact h4 y v gn (Rs.mono (fun _ _ q => q) (fun b z => .inl (mgn b z)) (fun b o q n => q) _ _ _ (fun b m o q => q) ry)
    refine ⟨_, rset, List.nodup_append.mpr ⟨n1.1, List.nodup_append.mpr ⟨ngn, n2.2.1, fun b m c m' e => ?_⟩, fun b m c m' e => ?_⟩, fun b m => ?_⟩
    · subst e
      exact d b (List.mem_append_right _ (List.mem_append_right _ m')) m
    · subst e
      rcases List.mem_append.mp m' with m' | m'
      · exact d b (List.mem_append_left _ m) m'
      · exact n1.2.2 b m b (List.mem_append_right _ m') rfl
    · rcases List.mem_append.mp m with m | m
      · exact .inl (List.mem_append_left _ m)
      · rcases List.mem_append.mp m with m | m
        · exact .inr m
        · exact .inl (List.mem_append_right _ (List.mem_append_right _ m)))
  refine ⟨a, us, k, j, rfl, rfl, q2, by rw [hlen]; exact hj, ?_⟩
  exact q _ _ _ _ (lput_ends (e1.trans e13) (fun b m => (hgn b m).1) q7 sG) J
/-! ### x.append(e) -/
def sAppend (fl : Rho → Mo Lo) (fs : Rho → Mo (List SV)) : Rho → Sto → Option Fl := fun ρ S => bindS ρ (fl ρ S) fun l S1 => bindS ρ (fs ρ S1) fun ys S2 => match ys with
  | [y] => (l.get ρ S2).bind fun xs => if xs.length < sizeLine then (l.put ρ S2 (xs ++ [y])).map fun p => .nx p.1 p.2 else none
  | _ => none
theorem RsL.lref {K : PySem.W.Frag} {H : Hp} {a : Addr} {us : List V} (h : H a = some (.lst us)) : tyV K "list" (.ref a) H := .inl ⟨rfl, us, .inl (.inl h)⟩
theorem s_append {o e : Expr} {es : List Expr} {apos cpos : Pos} (hl : PE X o (tL C W fl)) (ha : PA X (e :: es) (tVs C W .fe fs)) (hs : swapsWith (.Call (.Attribute o "append" apos) (e :: es) [] cpos) none pos.line X.env = pure false := by rfl)
    (hbase : attributeBase o "append" X.env (eval o X.env) = eval o X.env := by rfl)
    (hfew : ((backTo cpos (starEach (e :: es) X.env)).all (fun x => !x.1) && (backToKw cpos (keywordEach [] X.env)).all (fun x => x.1.isSome)
      && decide ((e :: es).length + ([] : List Keyword).length + (if ([] : List Keyword).isEmpty then 0 else 1) < 30)) = true := by rfl)
    (hline : (apos.endLine == cpos.line) = true := by rfl) (hst : starEach (e :: es) X.env = (false, eval e X.env) :: starEach es X.env := by rfl) (hplain : (backTo cpos (starEach es X.env)).any (·.1) = false := by rfl) :
    PS X (.Expr (.Call (.Attribute o "append" apos) (e :: es) [] cpos) pos) (tS C W (sAppend fl fs)) := by
  refine ps_imp (ps_expr (pe_bm PySem.F.plainAttrs_list PySem.F.slot_list_append PySem.F.type_list_append mt_append hl ha hbase hfew hline hst hplain) hs) fun D σ H ⟨ρ, S, A, G, I, q⟩ => ⟨C.Pr, ρ, S, A, G, fun _ h => h, I, SGood.step q fun l S2 q v2 H2 p => ?_⟩
  obtain ⟨A2, a, xs2, rfl, e2, I2, hget, hA⟩ := p
  obtain ⟨a', us0, gx0, w1, w2, _⟩ := I2.lget hget
  rw [hA] at w1
  cases w1
  refine ⟨RsL.lref w2, C.Pr, ρ, S2, A2, G, fun _ h => h, I2, SGood.step2 e2 q fun ys S3 q v3 H3 p => ?_⟩
  obtain ⟨A3, gn, e3, I3, r3⟩ := p
  have I3 : Sim (C.pr fun b => C.Pr b ∨ b ∈ gn) ρ S3 A3 G σ H3 := I3
  split at q
  case h_2 => exact q.elim
  rename_i y
  cases hx : l.get ρ S3 with
  | none => rw [hx] at q; exact q.elim
  | some xs =>
  rw [hx] at q
  simp only [Option.bind_some] at q
  split at q
  case isFalse => exact q.elim
  rename_i hlt
  cases hput : l.put ρ S3 (xs ++ [y]) with
  | none => rw [hput] at q; exact q.elim
  | some p =>
  obtain ⟨ρ', S'⟩ := p
  rw [hput] at q
  have hA3 := LoA.ext I2 e3 hget hA
  obtain ⟨a', us, gx, q1, q2, q3, q4, q5, q6, q7, q8, q9⟩ := I3.lget hx
  rw [hA3] at q1
  cases q1
  have hlen : us.length = xs.length := q4.length
  obtain ⟨ry, ngn, hgn⟩ := r3
  cases ry with
  | @cons _ _ v _ gn _ ry rn =>
  cases rn
  simp only [List.append_nil] at ngn hgn I3 ry
  have hgn0 : ∀ b ∈ gn, H b = none := fun b m => none_back e2 (hgn b m).1
  have nF : ∀ b ∈ gn, ¬ C.Pr b := fun b m z => (I.prot b z).2 (hgn0 b m)
  obtain ⟨G', J, sG⟩ := Sim.lput (C := C) (ys := xs ++ [y]) (ws := us ++ [v]) I3 ngn (fun b m => I.e0 b (hgn0 b m)) nF hx hA3 q2 (by rw [List.length_append, List.length_singleton]; omega) hput (fun gx r n d => by
    have mgn : ∀ b, (Fs (C.pr fun a => C.Pr a ∨ a ∈ gn) A3 G b) → (Fs (C.pr C.Pr) A3 G b ∨ b ∈ gn) := fun b z => by
      rcases z with z | z | z | z
      · exact .inl (.inl z)
      · exact .inl (.inr (.inl z))
      · exact .inl (.inr (.inr z))
      · exact .inr z
    have ryF : Rs C.K C.mg H3 A3 (Fs (C.pr fun a => C.Pr a ∨ a ∈ gn) A3 G) y v gn := Rs.mono (fun _ _ q => q) (fun b z => .inl (mgn b z)) (fun b o q n => q) _ _ _ (fun b m o q => q) ry
    have r1 : RsL C.K C.mg H3 A3 (Fs (C.pr fun a => C.Pr a ∨ a ∈ gn) A3 G) [y] [v] gn := by
      have := RsL.cons ryF RsL.nil
      rw [List.append_nil] at this
      exact this
    exact ⟨gx ++ gn, RsL.app r r1, List.nodup_append.mpr ⟨n, ngn, fun b m c m' e => d b m (by rw [e]; exact m')⟩, fun b m => List.mem_append.mp m⟩)
  exact ⟨a, us, v, rfl, rfl, q2, by omega, q _ _ _ _ (lput_ends (e2.trans e3) hgn0 q7 sG) J⟩
/-! ### y = x.pop(), x.pop() -/
def popL (fl : Rho → Mo Lo) (k : Rho → Sto → SV → Option Fl) : Rho → Sto → Option Fl := fun ρ S => bindS ρ (fl ρ S) fun l S1 => (l.get ρ S1).bind fun xs => (xs[xs.length - 1]?).bind fun y => if noOwn y then (l.put ρ S1 xs.dropLast).bind fun p => k p.1 p.2 y else none
def sPop (fl : Rho → Mo Lo) (i : Nat) : Rho → Sto → Option Fl := popL fl fun ρ S y => some (.nx (ρ.set i (some y)) S)
def sPopD (fl : Rho → Mo Lo) : Rho → Sto → Option Fl := popL fl fun ρ S _ => some (.nx ρ S)
theorem RsL.dropLast {K : PySem.W.Frag} {mg : Str → Option Value} {H : Hp} {A : List Addr} {F : Addr → Prop} : ∀ {xs : List SV} {vs : List V} {g : List Addr}, RsL K mg H A F xs vs g → ∃ g', RsL K mg H A F xs.dropLast vs.dropLast g' ∧ g'.Sublist g
  | [], _, _, r => by cases r; exact ⟨[], .nil, List.Sublist.refl _⟩
  | [x], _, _, r => by
    cases r with
    | cons r1 r2 => cases r2; exact ⟨[], .nil, List.nil_sublist _⟩
  | x :: y :: xs, _, _, r => by
    cases r with
    | cons r1 r2 =>
      obtain ⟨g', r', s⟩ := RsL.dropLast r2
      cases r2 with
      | cons r3 r4 => exact ⟨_, .cons r1 r', List.Sublist.append_left s _⟩
theorem t_pop {k : Rho → Sto → SV → Option Fl} {D : Ends} {σ : L2.St} {H : Hp} {Q : VK}
    (hQ : ∀ (ρ' : Rho) (S' : Sto) (y : SV) (A' : List Addr) (G' : List (List Addr)) (v : V) (H' : Hp) (A : List Addr) (G : List (List Addr)) (H0 : Hp), SGood C W A G H0 D (k ρ' S' y) → ExtS A G H0 A' G' H' → Sim C ρ' S' A' G' σ H' → Rs C.K C.mg H' A' (Fs C A' G') y v [] → Q v H')
    (h : tS C W (popL fl k) D σ H) : tBM0 C.K "list" rPop (tL C W fl) σ H Q := by
  obtain ⟨ρ, S, A, G, I, q⟩ := h
  refine ⟨C.Pr, ρ, S, A, G, fun _ h => h, I, SGood.step q fun l S2 q v2 H2 p => ?_⟩
  obtain ⟨A2, a, xs, rfl, e2, I2, hx, hA⟩ := p
  have I2 : Sim C ρ S2 A2 G σ H2 := I2
  rw [hx] at q
  simp only [Option.bind_some] at q
  obtain ⟨a', us, gx, q1, q2, q3, q4, q5, q6, q7, q8, q9⟩ := I2.lget hx
  rw [hA] at q1
  cases q1
  have hlen : us.length = xs.length := q4.length
  cases hy : xs[xs.length - 1]? with
  | none => rw [hy] at q; exact q.elim
  | some y =>
  rw [hy] at q
  simp only [Option.bind_some] at q
  split at q
  case isFalse => exact q.elim
  rename_i hno
  cases hput : l.put ρ S2 xs.dropLast with
  | none => rw [hput] at q; exact q.elim
  | some p =>
  obtain ⟨ρ', S'⟩ := p
  rw [hput] at q
  simp only [Option.bind_some] at q
  obtain ⟨v, gl, gz, gr, h1, h2, _, _⟩ := RsL.at' q4 hy
  obtain rfl := h2.noOwn hno
  have I3 : Sim (C.pr fun b => C.Pr b ∨ b ∈ ([] : List Addr)) ρ S2 A2 G σ H2 := I2.prc fun b h => h.elim id fun m => by cases m
  obtain ⟨G', J, sG⟩ := Sim.lput (C := C) (ys := xs.dropLast) (ws := us.dropLast) I3 List.nodup_nil (fun b m => by cases m) (fun b m => by cases m) hx hA q2 (by rw [List.length_dropLast]; omega) hput (fun gx r n d => by
    obtain ⟨g', r', s⟩ := RsL.dropLast r
    exact ⟨g', r', n.sublist s, fun b m => .inl (s.subset m)⟩)
  refine ⟨RsL.lref q2, a, us, v, rfl, rfl, q2, by rw [hlen]; exact h1, ?_⟩
  refine hQ _ _ _ _ _ _ _ A G H q (lput_ends e2 (fun b m => by cases m) q7 sG) J (Rs.mono (fun _ _ q => q) (fun b z => ?_) (fun b o q n => ?_) _ _ _ (fun b m => by cases m) h2)
  · rcases z with z | z | z
    · exact .inl (.inl z)
    · exact .inl (.inr (.inl ((sG b z).elim id fun m => by cases m)))
    · exact .inl (.inr (.inr z))
  · rw [upd_ne (show b ≠ a from fun e => n (by
      subst e
      rcases List.mem_append.mp q7 with z | z
      · exact .inl z
      · exact .inr (.inl z)))]
    exact q
theorem s_pop {i : Nat} {x : Str} {o : Expr} {apos cpos pos' : Pos} (hk : C.K = X.K) (hN : X.N.Nodup) (hi : X.N[i]? = some x) (hx : Loc X.env.scope x) (hl : PE X o (tL C W fl)) (hs : swapsWith (.Call (.Attribute o "pop" apos) [] [] cpos) (some (.Name x pos')) pos.line X.env = pure false := by rfl)
    (hf : X.fn x = true ∨ X.env.scope.names.lookup x = some .local := by first | exact .inl rfl | exact .inr rfl | assumption)
    (hbase : attributeBase o "pop" X.env (eval o X.env) = eval o X.env := by rfl) (hline : (apos.endLine == cpos.line) = true := by rfl) :
    PS X (.Assign [.Name x pos'] (.Call (.Attribute o "pop" apos) [] [] cpos) pos) (tS C W (sPop fl i)) := by
  refine ps_imp (ps_set hN hi hx (pe_bm0 PySem.F.plainAttrs_list PySem.F.slot_list_pop PySem.F.type_list_pop mt_pop hl hbase hline) hs hf) fun D σ H h => ?_
  rw [← hk]
  refine t_pop (k := fun ρ S y => some (.nx (ρ.set i (some y)) S)) (fun ρ' S' y A' G' v H' A G H0 q e J r => ?_) h
  exact q _ _ _ _ e (J.putV r)
theorem s_popD {o : Expr} {apos cpos : Pos} (hk : C.K = X.K) (hl : PE X o (tL C W fl)) (hs : swapsWith (.Call (.Attribute o "pop" apos) [] [] cpos) none pos.line X.env = pure false := by rfl)
    (hbase : attributeBase o "pop" X.env (eval o X.env) = eval o X.env := by rfl) (hline : (apos.endLine == cpos.line) = true := by rfl) :
    PS X (.Expr (.Call (.Attribute o "pop" apos) [] [] cpos) pos) (tS C W (sPopD fl)) := by
  refine ps_imp (ps_expr (pe_bm0 PySem.F.plainAttrs_list PySem.F.slot_list_pop PySem.F.type_list_pop mt_pop hl hbase hline) hs) fun D σ H h => ?_
  rw [← hk]
  exact t_pop (k := fun ρ S y => some (.nx ρ S)) (fun ρ' S' y A' G' v H' A G H0 q e J r => q _ _ _ _ e J) h
end
end VL

end
section
set_option Elab.async false
set_option linter.all false
set_option maxRecDepth 100000
/-! VL14: a law's defs, its end. -/
namespace VL
open PySem PySem.Spec PyProof.Rows L2

/-- no name of a builtin is the module's own -/
structure Fr (mg : Str → Option Value) : Prop where
  len : mg "len" = none
  range : mg "range" = none
  isinstance : mg "isinstance" = none
  int : mg "int" = none
  bool : mg "bool" = none
  str : mg "str" = none
  tuple : mg "tuple" = none
  list : mg "list" = none
  abs : mg "abs" = none
  max : mg "max" = none
  min : mg "min" = none
  all : mg "all" = none
  any : mg "any" = none
  sum : mg "sum" = none
  sorted : mg "sorted" = none
  enumerate : mg "enumerate" = none
  zip : mg "zip" = none
  set : mg "set" = none
  dict : mg "dict" = none
  repr : mg "repr" = none
/-- a constant of the module -/
structure GlobC (K : PySem.W.Frag) (mg : Str → Option Value) (x : Str) (d : PyData) : Prop where
  ex : ∃ u v, mg x = some u ∧ RelV v u ∧ ∀ (H : Hp) (F : Addr → Prop), Dq K H F d v
section
variable {X : Cx} {C : Ct} {W : WX} {kd : Kd} {pos : Pos} {x : Str} {d : PyData}
theorem v_gc (hK : C.K = X.K) (G : GlobC X.K X.mg x d) (hg : Gl X x) (hd : (x == ("__debug__" : Str)) = false := by decide) : PE X (.Name x pos) (tV C W kd (eCon d)) := by
  obtain ⟨u, v, hm, r, q⟩ := G.ex
  exact v_glob hg hm r (by rw [hK]; exact q) hd
theorem v_fnD {P : Program} {w : World} {base : Heap} {k n : Nat} {F : List SV → Mo SV} (hM : C.mg = X.mg) (D : DefOk P w X.K X.mg base k x n F) (hg : Gl X x) (hd : (x == ("__debug__" : Str)) = false := by decide) : PE X (.Name x pos) (tV C W kd (eFn x)) := by
  obtain ⟨f, fd, ps, _, hm, _⟩ := D.ex
  exact v_fn hM hg hm hd
end
section
variable {P : Program} {w : World} {K : PySem.W.Frag} {mg : Str → Option Value} {base : Heap} {x qual : Str} {params : Arguments} {body : List Stmt} {scope : Scope} {f : Addr} {fd : FuncData} {N ps : List Str} {k : Nat} {fb : Rho → Sto → Option Fl}
theorem fn_vl2 (F : FunD K x qual params body scope [] [] f fd) (Sc : FnScope N ps scope) (hl : ps.length ≤ N.length)
    (hb : ∀ (cdv : Value) (A : Around) (outer : List Env) (s : Shared) (H : Hp) (E : XK), Room k (A.deeper (envOfC qual scope s.heap.objs.size f cdv)) → ∀ (E0 : Hp) (A0 : List Addr) (Pr : Addr → Prop),
      PSs (cxOf (L2.CX P w) P w K mg base N qual scope f cdv A outer s H E) body (tS ⟨K, mg, E0, A0, Pr⟩ (fun cls d _ H => E cls d H) fb)) : FnOk P w K mg base (L2.CX P w) (k + 1) f fd ps (spF K mg ps.length (runF N.length fb)) := by
  refine fn_vl F Sc hl fun cdv A outer s H E hr C hK hm => ?_
  obtain ⟨K', mg', E0, A0, Pr⟩ := C
  have hK : K' = K := hK
  have hm : mg' = mg := hm
  subst hK
  subst hm
  exact hb cdv A outer s H E hr E0 A0 Pr
theorem mk_def (F : FunD K x qual params body scope [] [] f fd) (hm : mg x = some (.ref f)) (Sc : FnScope N ps scope) (hl : ps.length ≤ N.length)
    (hbind : ∀ (kV doc pm : Value) (an : Option Addr) (cdv ct : Value) (us : List Value), us.length = ps.length → bindArgs (PySem.W.fnOf x qual params body scope .none kV doc pm an cdv ct) ⟨us, []⟩ = pure (ps.zip us))
    (hb : ∀ (cdv : Value) (A : Around) (outer : List Env) (s : Shared) (H : Hp) (E : XK), Room k (A.deeper (envOfC qual scope s.heap.objs.size f cdv)) → ∀ (E0 : Hp) (A0 : List Addr) (Pr : Addr → Prop),
      PSs (cxOf (L2.CX P w) P w K mg base N qual scope f cdv A outer s H E) body (tS ⟨K, mg, E0, A0, Pr⟩ (fun cls d _ H => E cls d H) fb)) : DefOk P w K mg base (k + 1) x ps.length (runF N.length fb) :=
  ⟨f, fd, ps, fn_vl2 F Sc hl hb, hm, F.kp, F.bindsN hbind⟩
theorem DefOk.mono {j k n : Nat} {Fn : List SV → Mo SV} (D : DefOk P w K mg base j x n Fn) (h : j ≤ k) : DefOk P w K mg base k x n Fn := by
  obtain ⟨f, fd, ps, F, hm, hk, hb⟩ := D.ex
  exact ⟨f, fd, ps, F.mono h, hm, hk, hb⟩
end
/-- the law's promise -/
theorem spF_law {K : PySem.W.Frag} {mg : Str → Option Value} {Fn : List SV → Mo SV} {H : Hp} {a : Addr} {ns : List Int} {S' : Sto} (hl : ns.length ≤ sizeLine) (hO : Only H) (hS : SqL K H a (ns.map V.int)) (h : Fn [.scr ns] [] = some (.ok (.d (.bool true)) S')) :
    spF K mg 1 Fn [.ref a] H (fun v _ => v = .bl true) fun _ _ _ => False := by
  refine ⟨rfl, ⟨K, mg, H, [], fun _ => False⟩, [.scr ns], [], rfl, rfl, rfl, ⟨?_, rfl, List.nodup_nil, (fun b m => by cases m), (fun b m => False.elim m), fun n xs e => by cases n <;> cases e⟩, ?_⟩
  · refine .cons (g := []) (g' := []) ?_ .nil
    have nf : ¬ (a ∈ ([] : List Addr) ∨ False) := fun z => by rcases z with z | z <;> cases z
    rcases hS with hS | hS
    · rcases hS with hS | ⟨o, hS⟩
      · rcases hO a with e | ⟨o, xs, e⟩
        · rw [hS] at e; cases e
        · rw [hS] at e; cases e
      · exact .scr hS nf hl
    · exact .scrK (.inr hS) hl
  · rw [h]
    rintro v H' ⟨A', g, R, r⟩
    obtain ⟨_, r⟩ := r.nil_d
    cases r
    rfl
theorem walk_vl {l : PySem.W.OpenLaw} {n k : Nat} {q : Program} {loose : List Str} {XP : (Str → Option Value) → Heap → Prop} {YP : World → Heap → Prop} {d : DefRec} {x : Str} {Fn : List SV → Mo SV}
    (hn : l.most = some n) (hn2 : n ≤ sizeLine) (hdf : d.params.defaults = []) (hr : Room k callerA)
    (hlaw : ∀ ns : List Int, ns.length ≤ n → (∀ z ∈ ns, Builtin.Int.intBits z ≤ 1048576) → ∃ S, Fn [.scr ns] [] = some (.ok (.d (.bool true)) S))
    (F : ∀ (w : World) (mg : Str → Option Value) (fa : Addr) (h : Heap), YP w h → h.Ns mainGlobals mg → mg d.name = some (.ref fa) →
      ∃ (K : PySem.W.Frag) (fd : FuncData), K.In h ∧ (∀ (s : Shared) (u : Value), BindsTo s fd ⟨[u], []⟩ [(x, u)]) ∧
        ∀ base : Heap, K.In base → base.Ns mainGlobals mg → FnOk l.prog w K mg base (L2.CX l.prog w) k fa fd [x] (spF K mg 1 Fn)) :
    PySem.W.WalkO q loose XP YP l.row.toRowW d [] (fun f vs => PySem.call f vs) := by
  refine Att.attach_callB hn hdf fun w s₀ s₁ mg mb fa o pm cd doc a vs ns G Y ho hd hcd hmg hobj hints hlen hbits hg => ?_
  obtain ⟨K, fd, KX, hb, hF⟩ := F w mg fa _ Y G.T.g hmg
  obtain ⟨S, hS⟩ := hlaw ns hlen hbits
  exact law_call KX G.T.g G.T.b G.T.builtins G.T.nolimit hg hobj hints (Nat.le_trans hlen hn2) hr hF hb (fun H hO hs => spF_law (Nat.le_trans hlen hn2) hO hs hS) fun H e s' z => by
    obtain ⟨_, _, _, _, _, _, _, _, _, _, _, _, z⟩ := z
    exact z
abbrev FnP (K : PySem.W.Frag) (x : Str) (st : Stmt) (f : Addr) (fd : FuncData) : Prop := FunD K x x (defArgs st) (defBody st) (defScope st) [] [] f fd
end VL

end
section
set_option Elab.async false
set_option linter.all false
set_option maxRecDepth 100000
/-! VL15: short names for what a program prints. -/
namespace VL
open PySem PySem.Spec PyProof.Rows L2
section
variable {X : Cx} {C : Ct} {W : WX} {kd ka kb : Kd} {a b c e : Expr} {es : List Expr} {pos : Pos} {f fa fb fc : Rho → Mo SV} {fs : Rho → Mo (List SV)}
theorem u65 {k : Nat} {A : Around} (r : Room k A) : A.units + 65 < cLine := by have := r.un; omega
theorem t_lt (hk : C.K = X.K) (hu : X.A.units + 64 < cLine) (ha : PE X a (tV C W ka fa)) (hb : PE X b (tV C W kb fb)) : PT X (.Compare a [.Lt] [b] pos) (tTs C W (bB (eBin (cB gLt) fa fb))) := t_cmp (op_lt.or (op_ltD hu)) (hk ▸ c_lt) ha hb (nomark _)
theorem t_le (ha : PE X a (tV C W ka fa)) (hb : PE X b (tV C W kb fb)) : PT X (.Compare a [.LtE] [b] pos) (tTs C W (bB (eBin (cB gLe) fa fb))) := t_cmp op_le (c_le (K := C.K)) ha hb (nomark _)
theorem t_gt (ha : PE X a (tV C W ka fa)) (hb : PE X b (tV C W kb fb)) : PT X (.Compare a [.Gt] [b] pos) (tTs C W (bB (eBin (cB gGt) fa fb))) := t_cmp op_gt (c_gt (K := C.K)) ha hb (nomark _)
theorem t_ge (ha : PE X a (tV C W ka fa)) (hb : PE X b (tV C W kb fb)) : PT X (.Compare a [.GtE] [b] pos) (tTs C W (bB (eBin (cB gGe) fa fb))) := t_cmp op_ge (c_ge (K := C.K)) ha hb (nomark _)
theorem t_eq (hk : C.K = X.K) (hu : X.A.units + 64 < cLine) (ha : PE X a (tV C W ka fa)) (hb : PE X b (tV C W kb fb)) : PT X (.Compare a [.Eq] [b] pos) (tTs C W (bB (eBin (cB gEq) fa fb))) := t_cmp (op_eqD hu) (hk ▸ c_eq) ha hb (nomark _)
theorem t_ne (hk : C.K = X.K) (hu : X.A.units + 64 < cLine) (ha : PE X a (tV C W ka fa)) (hb : PE X b (tV C W kb fb)) : PT X (.Compare a [.NotEq] [b] pos) (tTs C W (bB (eBin (cB gNe) fa fb))) := t_cmp (op_neD hu) (hk ▸ c_ne) ha hb (nomark _)
theorem t_isN (ha : PE X a (tV C W ka fa)) (hb : PE X b (tV C W kb fb)) : PT X (.Compare a [.Is] [b] pos) (tTs C W (bB (eBin (cB gIsN) fa fb))) := t_cmp op_isN (c_isN (K := C.K)) ha hb (nomark _)
theorem t_notN (ha : PE X a (tV C W ka fa)) (hb : PE X b (tV C W kb fb)) : PT X (.Compare a [.IsNot] [b] pos) (tTs C W (bB (eBin (cB gNotN) fa fb))) := t_cmp op_notN (c_notN (K := C.K)) ha hb (nomark _)
theorem t_in (hk : C.K = X.K) (hu : X.A.units + 65 < cLine) (ha : PE X a (tV C W ka fa)) (hb : PE X b (tV C W kb fb)) (hm : behindInMarks .In b = false := by rfl) : PT X (.Compare a [.In] [b] pos) (tTs C W (bB (eBin (cB gIn) fa fb))) := t_cmp (op_inD hu) (hk ▸ c_in) ha hb hm
theorem t_notIn (hk : C.K = X.K) (hu : X.A.units + 65 < cLine) (ha : PE X a (tV C W ka fa)) (hb : PE X b (tV C W kb fb)) (hm : behindInMarks .NotIn b = false := by rfl) : PT X (.Compare a [.NotIn] [b] pos) (tTs C W (bB (eBin (cB gNotIn) fa fb))) := t_cmp (op_notInD hu) (hk ▸ c_notIn) ha hb hm
end
section
variable {X : Cx} {C : Ct} {W : WX} {kd ka kb : Kd} {e : Expr} {es : List Expr} {pos p : Pos} {fs : Rho → Mo (List SV)}
theorem boot_tuple' : bootBuiltins "tuple" = some (.type "tuple") := by decide +kernel
theorem boot_list' : bootBuiltins "list" = some (.type "list") := by decide +kernel
theorem boot_int' : bootBuiltins "int" = some (.type "int") := by decide +kernel
theorem boot_bool' : bootBuiltins "bool" = some (.type "bool") := by decide +kernel
theorem boot_str' : bootBuiltins "str" = some (.type "str") := by decide +kernel
theorem boot_len' : bootBuiltins "len" = some (.builtin "len") := by decide +kernel
theorem boot_abs' : bootBuiltins "abs" = some (.builtin "abs") := by decide +kernel
theorem boot_max' : bootBuiltins "max" = some (.builtin "max") := by decide +kernel
theorem boot_min' : bootBuiltins "min" = some (.builtin "min") := by decide +kernel
theorem boot_all' : bootBuiltins "all" = some (.builtin "all") := by decide +kernel
theorem boot_any' : bootBuiltins "any" = some (.builtin "any") := by decide +kernel
theorem boot_sum' : bootBuiltins "sum" = some (.builtin "sum") := by decide +kernel
end
/-- a, b, c = x, y, z -/
def sPar3 (i j l : Nat) (fs : Rho → Mo (List SV)) : Rho → Sto → Option Fl := fun ρ S => bindS ρ (fs ρ S) fun xs S1 => (frzs xs).bind fun ys => match ys with
  | [x, y, z] => some (.nx (((ρ.set i (some x)).set j (some y)).set l (some z)) S1)
  | _ => none
theorem new_notL {C : Ct} {P : Addr → Prop} {ρ : Rho} {S : Sto} {A A1 : List Addr} {G : List (List Addr)} {σ : L2.St} {H H1 : Hp} {g : List Addr} (I : Sim (C.pr P) ρ S A G σ H) {xs : List SV} {vs : List V} (r : RkL (C.pr P) .fe g A1 G H H1 xs vs) : ∀ a ∈ g, ¬ Fs (C.pr P) A1 G a := fun a m z => by
  obtain ⟨h0, _, hA⟩ := r.2.2 a m
  rcases z with z | z | z
  · exact hA z
  · exact I.trk a (List.mem_append_right _ z) h0
  · exact I.prTrk z h0
theorem s_par3 {X : Cx} {C : Ct} {W : WX} {i j l : Nat} {x y z : Str} {a b c : Expr} {px py pz pt pos : Pos} {kt k2 pt2} {fs : Rho → Mo (List SV)} (hc : X.calm = true) (hN : X.N.Nodup) (hi : X.N[i]? = some x) (hj : X.N[j]? = some y) (hl : X.N[l]? = some z) (hij : i ≠ j) (hil : i ≠ l) (hjl : j ≠ l)
    (hx : X.env.scope.names.lookup x = some .local) (hy : X.env.scope.names.lookup y = some .local) (hz : X.env.scope.names.lookup z = some .local) (ha : PA X [a, b, c] (tVs C W .fe fs))
    (hw : swappedStores [.Tuple [.Name x px, .Name y py, .Name z pz] kt pt] (.Tuple [a, b, c] k2 pt2) X.env = pure (some [x, y, z]))
    (hs : swapsWithSole [.Tuple [.Name x px, .Name y py, .Name z pz] kt pt] (.Tuple [a, b, c] k2 pt2) pos.line X.env = pure false := by rfl) :
    PS X (.Assign [.Tuple [.Name x px, .Name y py, .Name z pz] kt pt] (.Tuple [a, b, c] k2 pt2) pos) (tS C W (sPar3 i j l fs)) := by
  refine ps_imp (ps_par3 hc hN hi hj hl hij hil hjl hx hy hz ha hw hs) fun D σ H ⟨ρ, S, A, G, I, q⟩ => ⟨C.Pr, ρ, S, A, G, fun _ h => h, I, SGood.step q fun xs S1 q vs H1 p => ?_⟩
  obtain ⟨A1, g, e1, I1, r⟩ := p
  have I1' : Sim C ρ S1 A1 G σ H1 := Sim.prw (C := C) (P := fun a => C.Pr a ∨ a ∈ g) I1 fun a h => .inl h
  cases hf : frzs xs with
  | none => rw [hf] at q; exact q.elim
  | some ys =>
  rw [hf] at q
  simp only [Option.bind_some] at q
  have ry : RsL C.K C.mg H1 A1 (Fs C A1 G) ys vs [] := RkL.frz (C := C) r (new_notL (P := C.Pr) (S := S) I r) hf
  split at q
  case h_2 => exact q.elim
  rename_i x y z
  have hlen : vs.length = 3 := ry.length
  match vs, hlen with
  | [v1, v2, v3], _ =>
  obtain ⟨_, e1', r1⟩ := RsL.get1 (i := 0) ry rfl
  cases e1'
  obtain ⟨_, e2', r2⟩ := RsL.get1 (i := 1) ry rfl
  cases e2'
  obtain ⟨_, e3', r3⟩ := RsL.get1 (i := 2) ry rfl
  cases e3'
  exact ⟨v1, v2, v3, rfl, q _ _ _ _ e1.s (((I1'.putV r1).putV r2).putV r3)⟩
end VL

end
section
set_option Elab.async false
set_option linter.all false
set_option maxRecDepth 100000
/-! VL16: more short names. -/
namespace VL
open PySem PySem.Spec PyProof.Rows L2
section
variable {X : Cx} {C : Ct} {W : WX} {tg elt iter : Expr} {ifs : List Expr} {scope : Scope} {own : List (Str × Nat)} {pos spos py : Pos} {fi : Rho → Mo (List SV)} {ft : Rho → Mo Bool} {fe : Rho → Mo SV} {tf : TgF} {is : List Nat} {g : TG} {i : Nat} {y : Str}
theorem s_setLc (hy : X.N[i]? = some y) (hyl : X.env.scope.names.lookup y = some .local) (hc : X.calm = true) (hN : X.N.Nodup) (hi : PI X tg iter (tI C W false fi)) (ok : BlkOk X.N X.env.scope scope own) (hg : ∀ (s : Shared) (H : Hp) (Ca : Addr) (cl : List (Str × Addr)) (fp : List Addr), PG (X.blk s H scope (compEnvC scope cl Ca X.env) fp) tg g) (hgo : GOk C tf is g)
    (his : ∀ j ∈ is, j ∈ own.map (·.2)) (ht : ∀ (s : Shared) (H : Hp) (Ca : Addr) (cl : List (Str × Addr)) (fp : List Addr), PTs (X.blk s H scope (compEnvC scope cl Ca X.env) fp) ifs (tTs C WF ft))
    (he : ∀ (s : Shared) (H : Hp) (Ca : Addr) (cl : List (Str × Addr)) (fp : List Addr), PE (X.blk s H scope (compEnvC scope cl Ca X.env) fp) elt (tV C WF .fe fe))
    (hsw : swapsWith (.ListComp elt [⟨tg, iter, ifs, 0⟩] scope pos) (some (.Name y py)) spos.line X.env = pure true := by rfl) (hs : ∀ x, foldedSetIterable iter X.env x = pure x := by intro _; rfl) :
    PS X (.Assign [.Name y py] (.ListComp elt [⟨tg, iter, ifs, 0⟩] scope pos) spos) (tS C W (sSet i (eLc fi tf ft fe (own.map (·.2))))) := ps_imp (ps_setLc hc hN hy hyl hsw hi ok hg ht he hs) (t_setlc (t_lc hgo his))
end
section
variable {P : Program} {w : World} {K : PySem.W.Frag} {mg : Str → Option Value} {base : Heap} {k n : Nat} {l : List (Str × (List SV → Mo SV))} {y : Str} {F : List SV → Mo SV}
theorem hd_nil : ∀ x Fn, ([] : List (Str × (List SV → Mo SV))).lookup x = some Fn → DefOk P w K mg base k x n Fn := fun x Fn h => by cases h
theorem hd_cons (D : DefOk P w K mg base k y n F) (h : ∀ x Fn, l.lookup x = some Fn → DefOk P w K mg base k x n Fn) : ∀ x Fn, ((y, F) :: l).lookup x = some Fn → DefOk P w K mg base k x n Fn := fun x Fn e => by
  rw [List.lookup_cons] at e
  split at e
  · rename_i hx
    cases e
    rw [beq_iff_eq.mp hx]
    exact D
  · exact h x Fn e
/-- classes of exceptions by a table -/
def mtOf (l : List ((Str × Str) × Bool)) (c x : Str) : Option Bool := l.lookup (c, x)
def EmOk (K : PySem.W.Frag) (mg : Str → Option Value) (q : (Str × Str) × Bool) : Prop := ∃ Ca Cx, mg q.1.1 = some (.ref Ca) ∧ mg q.1.2 = some (.ref Cx) ∧ PySem.W.exmOne K (.ref Ca) (.ref Cx) = some q.2
theorem mt_ok : ∀ {l : List ((Str × Str) × Bool)}, (∀ q ∈ l, EmOk K mg q) → MtOk K mg (mtOf l)
  | [], _, c, x, b, Ca, Cx, h, _, _ => by cases h
  | q :: l, hl, c, x, b, Ca, Cx, h, h1, h2 => by
    obtain ⟨⟨c', x'⟩, b'⟩ := q
    unfold mtOf at h
    rw [List.lookup_cons] at h
    split at h
    · rename_i e
      cases h
      have e := beq_iff_eq.mp e
      cases e
      obtain ⟨Ca', Cx', e1, e2, e3⟩ := hl _ List.mem_cons_self
      have e1 : mg c = some (.ref Ca') := e1
      have e2 : mg x = some (.ref Cx') := e2
      rw [h1] at e1
      rw [h2] at e2
      cases e1
      cases e2
      exact e3
    · exact mt_ok (fun q m => hl q (List.mem_cons_of_mem _ m)) c x b Ca Cx h h1 h2
end
section
variable {X : Cx} {C : Ct} {W : WX} {x : Str} {pos : Pos}
theorem s_tryE {mt : Str → Str → Option Bool} {fb fh : Rho → Sto → Option Fl} {body suite : List Stmt} {b₀ : Stmt} {np pos' : Pos} (hK : C.K = X.K) (hM : C.mg = X.mg) (hmt : MtOk X.K X.mg mt) (E : ExcOk X.K X.mg x) (hs : X.stack = X.env :: X.outer) (hf : X.env.frame = some X.env.locals)
    (hg : Gl X x) (tk : Takes X W)
    (hb : ∀ (W : WX) (pn : List (Addr × Obj)) (xe : Value → Shared → Prop), Takes (X.tr pn xe) W → PassesOwn (model X.prog X.w) X.A X.env xe → PSs (X.tr pn xe) body (tS C W fb))
    (hsu : ∀ (a : Addr) (oe : Obj) (pn : List (Addr × Obj)), PSs (X.suite a ((a, oe) :: pn)) (b₀ :: suite) (tS C WF fh)) (hdb : (x == ("__debug__" : Str)) = false := by decide) :
    PS X (.Try body [.ExceptHandler (some (.Name x np)) none (b₀ :: suite) pos'] [] [] pos) (tS C W (sTry mt x fb fh)) := by
  obtain ⟨Ca, hm, _⟩ := E.ex
  exact s_try hK hM hmt hs hf hg hm tk hb hsu hdb
end
/-- a comprehension's block, by a look -/
def blkB (N : List Str) (sc scope : Scope) (own : List (Str × Nat)) : Bool :=
  (match scope.kind with
    | .function => true
    | _ => false) && scope.names.all (fun y => decide (scope.names.lookup y.1 = some y.2)) && own.all (fun p => decide (N[p.2]? = some p.1)) &&
  scope.names.all (fun y => decide (y.2 ≠ .free) || decide (sc.names.lookup y.1 = some .cell) || decide (sc.names.lookup y.1 = some .free)) &&
  scope.names.all fun y => decide (y.2 ≠ .local ∧ y.2 ≠ .cell) || decide (y.1 ∈ own.map (·.1)) || decide (y.1 ∉ N)
theorem blk_of {N : List Str} {sc scope : Scope} {own : List (Str × Nat)} (h : blkB N sc scope own = true) : BlkOk N sc scope own := by
  unfold blkB at h
  simp only [Bool.and_eq_true, List.all_eq_true, Bool.or_eq_true, decide_eq_true_eq] at h
  obtain ⟨⟨⟨⟨h1, h2⟩, h3⟩, h4⟩, h5⟩ := h
  refine ⟨?_, fun y m => h2 y m, fun p m => h3 p m, fun y m e => ?_, fun y m e => ?_⟩
  · split at h1
    · assumption
    · cases h1
  · rcases h4 y m with (z | z) | z
    · exact absurd e z
    · exact .inl z
    · exact .inr z
  · rcases h5 y m with (z | z) | z
    · exact absurd e (fun w => w.elim z.1 z.2)
    · exact .inl z
    · exact .inr z
end VL

end
section
set_option Elab.async false
set_option linter.all false
set_option maxRecDepth 100000
/-! VL17: what the head tells. -/
namespace VL
open PySem PySem.Spec PyProof.Rows L2
mutual
/-- constant data -/
def dqB (K : PySem.W.Frag) : PyData → Value → Bool
  | .none, .none => true
  | .bool b, .bool c => b == c
  | .int i, .int j _ => i == j
  | .str x, .str y _ => decide (x = y)
  | .tuple ds, .ref a => (match K.lookup a with
    | some ⟨.type c, _, .seq its _, _⟩ => decide (c = "tuple") && (decide (its.size ≤ sizeLine) && dqBs K ds its.toList)
    | _ => false)
  | _, _ => false
def dqBs (K : PySem.W.Frag) : List PyData → List Value → Bool
  | [], [] => true
  | d :: ds, u :: us => dqB K d u && dqBs K ds us
  | _, _ => false
end
mutual
theorem dqB_ok {K : PySem.W.Frag} : ∀ (d : PyData) (u : Value), dqB K d u = true → ∃ v, RelV v u ∧ ∀ (H : Hp) (F : Addr → Prop), Dq K H F d v
  | .none, u, h => by
    cases u <;> simp only [dqB, Bool.false_eq_true] at h
    exact ⟨.non, rfl, fun _ _ => .non⟩
  | .bool b, u, h => by
    cases u <;> simp only [dqB, Bool.false_eq_true] at h
    rename_i c
    have h := beq_iff_eq.mp h
    subst h
    exact ⟨.bl b, rfl, fun _ _ => .bl b⟩
  | .int i, u, h => by
    cases u <;> simp only [dqB, Bool.false_eq_true] at h
    rename_i c t
    have h := beq_iff_eq.mp h
    subst h
    exact ⟨.int i, ⟨t, rfl⟩, fun _ _ => .int i⟩
  | .str x, u, h => by
    cases u <;> simp only [dqB, Bool.false_eq_true] at h
    rename_i c t
    have h := of_decide_eq_true h
    subst h
    exact ⟨.str x, ⟨t, rfl⟩, fun _ _ => .str x⟩
  | .tuple ds, u, h => by
    cases u <;> simp only [dqB, Bool.false_eq_true] at h
    rename_i a
    split at h
    · rename_i c od its n sl hl
      obtain ⟨h1, h2⟩ := He.ba h
      obtain ⟨h3, h4⟩ := He.ba h2
      obtain ⟨vs, r, q⟩ := dqBs_ok ds its.toList h4
      have hlen : vs.length = its.size := by rw [r.length]; simp
      refine ⟨.ref a, rfl, fun H F => .ctup (.inr ⟨_, its, n, hl, congrArg Value.type (of_decide_eq_true h1), rfl, of_decide_eq_true h3, r⟩) (by rw [hlen]; exact of_decide_eq_true h3) (q H F)⟩
    · cases h
  | .list _, u, h => by cases u <;> simp [dqB] at h
  | .dict _, u, h => by cases u <;> simp [dqB] at h
theorem dqBs_ok {K : PySem.W.Frag} : ∀ (ds : List PyData) (us : List Value), dqBs K ds us = true → ∃ vs, Vals vs us ∧ ∀ (H : Hp) (F : Addr → Prop), DqL K H F ds vs
  | [], us, h => by
    cases us with
    | nil => exact ⟨[], .nil, fun _ _ => .nil⟩
    | cons _ _ => simp [dqBs] at h
  | d :: ds, us, h => by
    cases us with
    | nil => simp [dqBs] at h
    | cons u us =>
      obtain ⟨h1, h2⟩ := He.ba (by simpa only [dqBs] using h)
      obtain ⟨v, r, q⟩ := dqB_ok d u h1
      obtain ⟨vs, r2, q2⟩ := dqBs_ok ds us h2
      exact ⟨v :: vs, .cons r r2, fun H F => .cons (q H F) (q2 H F)⟩
end
def gcB (K : PySem.W.Frag) (x : Str) (d : PyData) : Bool := match PySem.W.nsIn K mainGlobals x with
  | some (some u) => dqB K d u
  | _ => false
section
variable {K : PySem.W.Frag} {h : Heap} {mg : Str → Option Value}
theorem gc_of (X : K.In h) (G : h.Ns mainGlobals mg) {x : Str} {d : PyData} (e : gcB K x d = true) : GlobC K mg x d := by
  unfold gcB at e
  split at e
  · rename_i u hu
    obtain ⟨v, r, q⟩ := dqB_ok d u e
    exact ⟨u, v, PySem.W.mg_of X G hu, r, q⟩
  · cases e
theorem exc_of (X : K.In h) (G : h.Ns mainGlobals mg) {x : Str} (c1 : (He.Fa.glo x).ok K = true) (c2 : (He.Fa.exc x).ok K = true) : ExcOk K mg x := by
  obtain ⟨a, b, c, d⟩ := He.exc_ok c2
  exact ⟨He.ga K x, He.glo_ok X G c1, a, b, c, d⟩
theorem em_of (X : K.In h) (G : h.Ns mainGlobals mg) {x y : Str} {b : Bool} (c1 : (He.Fa.glo x).ok K = true) (c2 : (He.Fa.glo y).ok K = true) (c3 : (He.Fa.exm x y b).ok K = true) : EmOk K mg ((x, y), b) := ⟨_, _, He.glo_ok X G c1, He.glo_ok X G c2, He.exm_ok c3⟩
def frs : List Str := ["len", "range", "isinstance", "int", "bool", "str", "tuple", "list", "abs", "max", "min", "all", "any", "sum", "sorted", "enumerate", "zip", "set", "dict", "repr"]
theorem fr_of (X : K.In h) (G : h.Ns mainGlobals mg) (c : ∀ x ∈ frs, (He.Fa.free x).ok K = true) : Fr mg := by
  have g : ∀ x ∈ frs, mg x = none := fun x m => He.free_ok X G (c x m)
  exact ⟨g _ (by decide), g _ (by decide), g _ (by decide), g _ (by decide), g _ (by decide), g _ (by decide), g _ (by decide), g _ (by decide), g _ (by decide), g _ (by decide), g _ (by decide), g _ (by decide), g _ (by decide), g _ (by decide), g _ (by decide), g _ (by decide), g _ (by decide), g _ (by decide), g _ (by decide), g _ (by decide)⟩
end
end VL

end
section
set_option Elab.async false
set_option linter.all false
set_option maxRecDepth 100000
/-! VL18: t[::-1] of a tuple, {k: v, ..}[e] of texts, several except clauses. -/
namespace VL
open PySem PySem.Spec PyProof.Rows L2
section
variable {prog : Program} {w : World} {A : Around} {E : Value → Shared → Prop} {s : Shared}
theorem adjust_rev (n : Nat) : Builtin.Slice.sliceAdjust none none (-1) (n : Int) = ((n : Int) - 1, -1) := rfl
theorem places_rev (n : Nat) : Builtin.Slice.slicePlaces ((n : Int) - 1) (-1) (-1) = n := by
  unfold Builtin.Slice.slicePlaces
  have h1 : ¬ ((-1 : Int) > 0) := by omega
  simp only [h1, if_false]
  by_cases h : (n : Int) - 1 > -1
  · rw [if_pos h, show (-(-1 : Int)) = 1 from rfl, Int.ediv_one]
    omega
  · rw [if_neg h]
    omega
theorem pick_rev (xs : Array Value) : ((List.range xs.size).filterMap fun (m : Nat) => xs[(((xs.size : Int) - 1) + (m : Int) * (-1)).toNat]?).toArray = xs.toList.reverse.toArray := by
  have e : (List.range xs.size).filterMap (fun (m : Nat) => xs[(((xs.size : Int) - 1) + (m : Int) * (-1)).toNat]?) = ((List.range xs.size).map fun k => xs.size - 1 - k).filterMap (xs[·]?) := by
    rw [List.filterMap_map]
    have cg : ∀ (l : List Nat) (f g : Nat → Option Value), (∀ k ∈ l, f k = g k) → l.filterMap f = l.filterMap g := by
      intro l f g h
      induction l with
      | nil => rfl
      | cons k l ih => rw [List.filterMap_cons, List.filterMap_cons, h k List.mem_cons_self, ih fun j m => h j (List.mem_cons_of_mem _ m)]
    refine cg _ _ _ fun k hk => ?_
    have hk := List.mem_range.mp hk
    have e : (((xs.size : Int) - 1) + (k : Int) * (-1)).toNat = xs.size - 1 - k := by omega
    show xs[(((xs.size : Int) - 1) + (k : Int) * (-1)).toNat]? = xs[xs.size - 1 - k]?
    rw [e]
  rw [e, PySem.W.krv_range, List.filterMap_reverse, PySem.W.krv_all]
theorem rev_ap {sl : Addr} {vl vu vs : Value} {n : Nat} {Q : Int × Int × Nat → Shared → Prop} (hs : s.heap.IsSliceOf sl vl vu vs) (pl : IsPart vl none) (pu : IsPart vu none) (ps : IsPart vs (some (-1))) (h : Q (((n : Int) - 1), -1, n) s) : wpAny (model prog w) A (Builtin.Slice.sliceApplied (.ref sl) (pure (n : Int))) Q E s := by
  obtain ⟨os, hos, hcs, hds⟩ := id hs
  unfold Builtin.Slice.sliceApplied Builtin.Slice.sliceFields
  refine wpAny_bind (wpAny_bind (wpAny_field hos hds (x := vl) rfl (wpAny_bind (wpAny_field hos hds (x := vu) rfl (wpAny_bind (wpAny_field hos hds (x := vs) rfl (wpAny_pure ?_)))))))
  refine wpAny_bind (HT.slicePart_ ps ?_)
  show wpAny _ _ (if ((-1 : Int) == 0) = true then _ else _) _ _ s
  rw [if_neg (by decide)]
  refine wpAny_bind (HT.slicePart_ pl (wpAny_bind (HT.slicePart_ pu (wpAny_bind (wpAny_pure ?_)))))
  show wpAny _ _ (match Builtin.Slice.sliceAdjust none none (-1) (n : Int) with | (lo, hi) => pure (lo, (-1 : Int), Builtin.Slice.slicePlaces lo hi (-1))) _ _ s
  rw [adjust_rev]
  show wpAny _ _ (pure (((n : Int) - 1), (-1 : Int), Builtin.Slice.slicePlaces ((n : Int) - 1) (-1) (-1))) _ _ s
  rw [places_rev]
  exact wpAny_pure h
theorem getItem_tuple_rev {t sl : Addr} {items : Array Value} {vl vu vs : Value} {Q : Value → Shared → Prop} (ht : IsTup s.heap t items) (hs : s.heap.IsSliceOf sl vl vu vs) (pl : IsPart vl none) (pu : IsPart vu none) (ps : IsPart vs (some (-1)))
    (h : Q (.ref s.heap.objs.size) { s with heap := s.heap.push { cls := .type "tuple", data := .seq items.toList.reverse.toArray } })
    (hsz : items.size ≤ sizeLine) : wpAny (model prog w) A (getItem (.ref t) (.ref sl)) Q E s := by
  have htake : sizeOk (.seq items.toList.reverse.toArray) := by
    show items.toList.reverse.toArray.size ≤ sizeLine
    rw [List.size_toArray, List.length_reverse, Array.length_toList]
    exact hsz
  obtain ⟨os, hos, hcs, hds⟩ := id hs
  have hTs : s.TypeIs (.ref sl) "slice" := ⟨os, hos, hcs⟩
  unfold getItem
  try with_reducible refine wpAny_holding ?_
  first | refine wpAny_bind (wpAny_pure ?_) | skip
  refine wpAny_bind (wpAny_sequenceKey ht.typeIs (by decide) ?_)
  refine wpAny_bind (wpAny_callSpecial?_slot (name := Str.ofString "__getitem__") ht.typeIs PyProof.Rows.slot_tuple_getitem
    (wpAny_call_entry PyProof.Rows.slot_tuple_getitem ht.typeIs entry_tuple_getitem ?_ (args_tuple_getitem _ _)))
  show wpAny _ _ (Builtin.Tuple.tupleItemsOf (.ref t) >>= _) _ _ s
  refine wpAny_bind (tupleItemsOf_ ht ?_)
  refine wpAny_bind (wpAny_typeOf hTs ?_)
  rw [if_pos (by decide)]
  refine wpAny_bind (rev_ap hs pl pu ps ?_)
  have hno : ¬ ((((items.size : Int) - 1) == 0 && (-1 : Int) == 1 && items.size == items.size) = true) := by
    intro q
    rw [Bool.and_eq_true, Bool.and_eq_true] at q
    exact absurd q.1.2 (by decide)
  show wpAny _ _ (if (((items.size : Int) - 1) == 0 && (-1 : Int) == 1 && items.size == items.size) = true then _ else _) _ _ s
  rw [if_neg hno, pick_rev]
  first
    | exact wpAny_bind (m := Builtin.Tuple.tupleExact _) (wpAny_newObj_type (wpAny_pure ⟨_, rfl, wpAny_pure h⟩) htake)
    | exact wpAny_bind (m := Builtin.Tuple.tupleExact _) (wpAny_newObj_type (wpAny_bind (wpAny_pure (wpAny_pure ⟨_, rfl, wpAny_pure h⟩))) htake)
    | exact wpAny_bind (wpAny_bind (m := Builtin.Tuple.tupleExact _) (wpAny_newObj_type (wpAny_pure (wpAny_pure ⟨_, rfl, wpAny_pure h⟩)) htake))
    | exact wpAny_bind (wpAny_bind (m := Builtin.Tuple.tupleExact _) (wpAny_newObj_type (wpAny_pure ⟨_, rfl, wpAny_pure h⟩) htake))
end
section
variable {X : Cx} {C : Ct} {W : WX} {pos : Pos}
/-- x[::-1] of a tuple or a list -/
def tRevA (K : PySem.W.Frag) (te : TE) : TE := fun σ H Q => te σ H fun x H1 => ∃ a xs, x = .ref a ∧ ((SqT K H1 a xs ∧ ∀ p, H1 p = none → Q (.ref p) (upd H1 p (.tup xs.reverse))) ∨ (SqL K H1 a xs ∧ ∀ p, H1 p = none → Q (.ref p) (upd H1 p (.lst xs.reverse))))
theorem pe_revA {e : Expr} {te : TE} {k : Nat} {p1 p2 p3 pos : Pos} (he : PE X e te) : PE X (.Subscript e (.Slice none none (some (.UnaryOp .USub (.Constant (.int 1) k p1) p2)) p3) pos) (tRevA X.K te) := by
  refine ⟨fun pins s σ H Q I h => ?_⟩
  refine Subscript_ (thn (he.run pins s σ H _ I h) fun v s1 ⟨x, H1, I1, r1, q1⟩ => ?_)
  obtain ⟨a, xs, ex, q⟩ := q1
  subst ex
  cases r1
  have hst : PO X (some (.UnaryOp .USub (.Constant (.int 1) k p1) p2)) (tPart (tUn (rU fun i => .int (-i)) (tC (.int 1)))) := po_some (pe_un un_neg pe_int)
  refine wpAny_Slice (thn (po_none.run pins s1 σ H1 (fun o H2 => o = none ∧ H2 = H1) I1 ⟨rfl, rfl⟩) fun vl s2 ⟨l, H2, I2, pl, el, e2⟩ => ?_)
  subst el e2
  refine thn (po_none.run pins s2 σ H2 (fun o H3 => o = none ∧ H3 = H2) I2 ⟨rfl, rfl⟩) fun vu s3 ⟨u, H3, I3, pu, eu, e3⟩ => ?_
  subst eu e3
  refine thn (hst.run pins s3 σ H3 (fun o H4 => o = some (-1) ∧ H4 = H3) I3 ⟨1, rfl, -1, rfl, rfl, rfl⟩) fun vs s4 ⟨o, H4, I4, ps, eo, e4⟩ => ?_
  subst eo e4
  have I5 : Inv X pins σ H4 { s4 with heap := s4.heap.push { cls := .type "slice", data := .fields #[vl, vu, vs] } } := I4.kept (t' := s4.toks) fun b ob q => Heap.get?_push_of_some _ q
  show wpAny (model X.prog X.w) X.A (subscriptTail e (.Slice none none (some (.UnaryOp .USub (.Constant (.int 1) k p1) p2)) p3) (.ref a) (.ref s4.heap.objs.size)) (EP X pins σ Q) X.xe { s4 with heap := s4.heap.push { cls := .type "slice", data := .fields #[vl, vu, vs] } }
  rcases q with ⟨hx, q⟩ | ⟨hx, q⟩
  · obtain ⟨its, r, ht, hz⟩ := I5.tuple hx
    have hlen := r.length
    refine tail_any (ops := [.ref a, .ref s4.heap.objs.size]) ht.typeIs (PyProof.Rows.slot_tuple_getitem.lookup) ?_ (by with_unfolding_all rfl)
    refine getItem_tuple_rev ht (Heap.IsSliceOf.new _ vl vu vs) pl pu ps ?_ (by rw [List.size_toArray]; omega)
    refine ⟨.ref _, _, I5.laid (t' := s4.toks) (o := .tup xs.reverse) (fun b ob q => Heap.get?_push_of_some _ q) (Nat.le_refl _) ?_, rfl, q _ (I5.hok.fresh (Nat.le_refl _))⟩
    exact ⟨by rw [List.length_reverse]; exact hz, _, r.reverse, IsTup.new _ _⟩
  · obtain ⟨its, r, ht, hz⟩ := I5.list hx
    have hlen := r.length
    refine tail_any (ops := [.ref a, .ref s4.heap.objs.size]) ht.isList.typeIs (PySem.slot_list_getitem.lookup) ?_ (by with_unfolding_all rfl)
    refine wpAny_getItem_list_slice ht.isList (Heap.IsSliceOf.new _ vl vu vs) pl pu ps (by decide) ?_ (by rw [List.size_toArray]; omega)
    rw [PySem.W.krv_pick]
    refine ⟨.ref _, _, I5.laid (t' := s4.toks) (o := .lst xs.reverse) (fun b ob q => Heap.get?_push_of_some _ q) (Nat.le_refl _) ?_, rfl, q _ (I5.hok.fresh (Nat.le_refl _))⟩
    exact ⟨by rw [List.length_reverse]; exact hz, _, 0, r.reverse, Heap.get?_push_size _ rfl⟩
theorem DqL.reverse {K : PySem.W.Frag} {H : Hp} {F : Addr → Prop} : ∀ {ds : List PyData} {vs : List V}, DqL K H F ds vs → DqL K H F ds.reverse vs.reverse
  | [], _, h => by cases h; exact .nil
  | d :: ds, _, h => by
    cases h with
    | cons h1 h2 =>
      rw [List.reverse_cons, List.reverse_cons]
      exact DqL.app (DqL.reverse h2) (.cons h1 .nil)
def gRev (_ : Sto) (x : SV) : Option SV := match x with
  | .d (.tuple ds) => some (.d (.tuple ds.reverse))
  | _ => none
def eRev (f : Rho → Mo SV) : Rho → Mo SV := fun ρ S => bindM (f ρ S) fun x S1 => match x with
  | .d (.tuple ds) => some (.ok (.d (.tuple ds.reverse)) S1)
  | _ => none
theorem v_rev (hk : C.K = X.K) {e : Expr} {fa : Rho → Mo SV} {ka kd : Kd} {k : Nat} {p1 p2 p3 : Pos} (ha : PE X e (tV C W ka fa)) : PE X (.Subscript e (.Slice none none (some (.UnaryOp .USub (.Constant (.int 1) k p1) p2)) p3) pos) (tV C W kd (eRev fa)) := by
  refine pe_imp (pe_revA ha) fun σ H Q ⟨P, ρ, S, A, G, hP, I, q⟩ => ⟨P, ρ, S, A, G, hP, I, EGood.step q (fun _ _ _ _ _ _ z => z) fun x S1 q v H1 p__ => ?_⟩
  obtain ⟨A1, g1, P1, e1, hP1, I1, k1, _⟩ := p__.next
  split at q
  · rename_i ds
    obtain ⟨a, vs, rfl, hs, l, r⟩ := k1.tup
    have I2 : Sim (C.pr P) ρ S1 A1 G σ H1 := (show Sim ((C.pr P1).pr P) ρ S1 A1 G σ H1 from Sim.prc I1 hP1)
    refine ⟨a, vs, rfl, .inl ⟨hk ▸ hs, fun p hp => q _ _ ((EPost.tup I2 (DqL.reverse r) (by rw [List.length_reverse]; exact l) hp).trans e1)⟩⟩
  · exact q.elim
/-! ### {k: v, ..}[e] -/
theorem u1 {k : Nat} {A : Around} (r : Room k A) : A.units + 1 < cLine := by have := r.un; omega
def mapAt (l : List (Str × Str)) (s : Str) : Option Str := l.foldl (fun o kv => if s = kv.1 then some kv.2 else o) none
def eMap (l : List (Str × Str)) (f : Rho → Mo SV) : Rho → Mo SV := fun ρ S => bindM (f ρ S) fun x S1 => match x with
  | .d (.str s) => (mapAt l s).map fun t => .ok (.d (.str t)) S1
  | _ => none
theorem tPairs_str {σ : L2.St} : ∀ (l : List (Str × Str)) (H : Hp) (Q : List (V × V) → Hp → Prop), Q (l.map fun kv => (V.str kv.1, V.str kv.2)) H → tPairs (l.map fun kv => (tC (.str kv.1), tC (.str kv.2))) σ H Q
  | [], H, Q, h => h
  | kv :: l, H, Q, h => tPairs_str l H _ h
theorem valV_merge (s : Str) : ∀ (l : List (Str × Str)) (acc : List (Key × V)) (o : Option Str), valV acc (.inr s) = o.map V.str → valV (mergeK acc (l.map fun kv => ((.inr kv.1 : Key), V.str kv.2))) (.inr s) = (l.foldl (fun o kv => if s = kv.1 then some kv.2 else o) o).map V.str
  | [], acc, o, h => h
  | kv :: l, acc, o, h => by
    refine valV_merge s l (putK acc (.inr kv.1) (.str kv.2)) _ ?_
    rw [valV_put]
    by_cases e : s = kv.1
    · simp [e]
    · have e2 : ¬ kv.1 = s := fun z => e z.symm
      simp [e, e2, h]
theorem v_map (l : List (Str × Str)) {keys : List (Option Expr)} {values : List Expr} {i : Expr} {f : Rho → Mo SV} {kd : Kd} {p2 : Pos} (hu : X.A.units + 1 < cLine) (h : PPs X p2 keys values (l.map fun kv => (tC (.str kv.1), tC (.str kv.2))))
    (hall : keys.all (·.isSome) = true) (hl : keys.length = values.length) (h0 : keys ≠ []) (h15 : keys.length ≤ 15) (hl15 : l.length ≤ 15) (ha : PE X i (tV C W .be f)) (hs : NoSl i) :
    PE X (.Subscript (.Dict keys values p2) i pos) (tV C W kd (eMap l f)) := by
  refine pe_imp (pe_dget hu (pe_disp h hall hl h0 h15) ha hs) fun σ H Q ⟨P, ρ, S, A, G, hP, I, q⟩ => fun p hp => tPairs_str l _ _ ⟨upd_same .., l.map fun kv => ((.inr kv.1 : Key), V.str kv.2), by rw [List.map_map]; rfl, by rw [List.length_map]; exact hl15, ?_⟩
  rw [upd_upd]
  have I1 := Sim.newP (o := .dK (mergeK [] (l.map fun kv => ((.inr kv.1 : Key), V.str kv.2)))) I hp
  refine ⟨fun a => P a ∨ a = p, ρ, S, A, G, fun a z => .inl (hP a z), I1, EGood.step q (fun _ _ _ _ _ _ z => z.trans (Ext.upd hp)) fun x S1 q v H1 p__ => ?_⟩
  obtain ⟨A1, g1, P1, e1, hP1, I2, k1, _⟩ := p__.next
  split at q
  · rename_i s
    have hv := k1.str
    subst hv
    cases hm : mapAt l s with
    | none => rw [hm] at q; exact q.elim
    | some t =>
      rw [hm] at q
      have np : p ∉ A := fun z => (I.fsTrk (.inl z)) hp
      have hH : H1 p = some (.dK (mergeK [] (l.map fun kv => ((.inr kv.1 : Key), V.str kv.2)))) := e1.keep p _ (upd_same ..) np
      have hg : DGet H1 p (.str s) (some (.str t)) := by
        have := DGet.k (k := .inr s) hH
        rw [valV_merge s l [] none rfl] at this
        rw [show (l.foldl (fun o kv => if s = kv.1 then some kv.2 else o) none) = some t from hm] at this
        exact this
      have I3 : Sim (C.pr P) ρ S1 A1 G σ H1 := (show Sim ((C.pr P1).pr P) ρ S1 A1 G σ H1 from Sim.prc I2 fun a z => hP1 a (.inl z))
      exact ⟨p, .str t, rfl, hg, q _ _ ((EPost.same I3 (Rk.dat (.str _))).trans ((Ext.upd hp).trans e1))⟩
  · exact q.elim
/-! ### several except clauses -/
abbrev SFn := Rho → Sto → Option Fl
def exM (mt : Str → Str → Option Bool) : List (Str × SFn) → Str → List (Str × SV) → Rho → Sto → Option Fl
  | [], c, fs, ρ, S => some (.exc c fs ρ S)
  | (x, h) :: r, c, fs, ρ, S => match mt c x with
    | some true => noX (h ρ S)
    | some false => exM mt r c fs ρ S
    | none => none
def sTryM (mt : Str → Str → Option Bool) (l : List (Str × SFn)) (b : SFn) : SFn := fun ρ S => match b ρ S with
  | some (.exc c fs ρ1 S1) => exM mt l c fs ρ1 S1
  | r => r
inductive HdM (X : Cx) (C : Ct) : List ExceptHandler → List (Str × SFn) → Prop
  | nil : HdM X C [] []
  | cons {x : Str} {fh : SFn} {b₀ : Stmt} {suite : List Stmt} {np pos' : Pos} {hds : List ExceptHandler} {l : List (Str × SFn)} (E : ExcOk X.K X.mg x) (hg : Gl X x)
      (hsu : ∀ (a : Addr) (oe : Obj) (pn : List (Addr × Obj)), PSs (X.suite a ((a, oe) :: pn)) (b₀ :: suite) (tS C WF fh)) (r : HdM X C hds l) (hdb : (x == ("__debug__" : Str)) = false := by decide) :
      HdM X C (.ExceptHandler (some (.Name x np)) none (b₀ :: suite) pos' :: hds) ((x, fh) :: l)
theorem HdM.ok {mt : Str → Str → Option Bool} (hM : C.mg = X.mg) (hmt : MtOk X.K X.mg mt) {hds : List ExceptHandler} {l : List (Str × SFn)} (h : HdM X C hds l) :
    ∃ l', HdsOk X hds l' ∧ ∀ (D : Ends) (A : List Addr) (G : List (List Addr)) (H : Hp) (c : Str) (fs : List (Str × SV)) (ρ : Rho) (S : Sto), SGood C W A G H D (exM mt l c fs ρ S) → SGood C (wMany X.K W D l') A G H D (some (.exc c fs ρ S)) := by
  induction h with
  | nil => exact ⟨[], .nil, fun D A G H c fs ρ S q => q⟩
  | @cons x fh b₀ suite np pos' hds l E hg hsu r hdb ih =>
    obtain ⟨l', hl, ih⟩ := ih
    obtain ⟨Cx, hx, _⟩ := E.ex
    refine ⟨(.ref Cx, fun _ _ _ => tS C WF fh) :: l', .cons ⟨hg, hdb, .inl hx⟩ (fun a oe cls d pn _ _ => hsu a oe pn) hl, fun D A G H c fs ρ S q => ?_⟩
    unfold exM at q
    rintro A' G' σ' H' cls d ex J ⟨Ca, hc, rfl, hfs⟩
    cases hmc : mt c x with
    | none => rw [hmc] at q; exact q.elim
    | some k =>
      rw [hmc] at q
      refine ⟨k, hmt c x k Ca Cx hmc (by rw [← hM]; exact hc) hx, fun e a _ => ?_, fun e => ?_⟩
      · subst e
        exact ⟨ρ, S, A', G', J, SGood.ext ex (SGood.noX q)⟩
      · subst e
        exact ih D A G H c fs ρ S q A' G' σ' H' (.ref Ca) d ex J ⟨Ca, hc, rfl, hfs⟩
theorem s_tryM {mt : Str → Str → Option Bool} {fb : SFn} {body : List Stmt} {h₀ : ExceptHandler} {hds : List ExceptHandler} {l : List (Str × SFn)} (hM : C.mg = X.mg) (hmt : MtOk X.K X.mg mt) (hd : HdM X C (h₀ :: hds) l) (hs : X.stack = X.env :: X.outer) (hf : X.env.frame = some X.env.locals)
    (tk : Takes X W)
    (hb : ∀ (W : WX) (pn : List (Addr × Obj)) (xe : Value → Shared → Prop), Takes (X.tr pn xe) W → PassesOwn (model X.prog X.w) X.A X.env xe → PSs (X.tr pn xe) body (tS C W fb)) :
    PS X (.Try body (h₀ :: hds) [] [] pos) (tS C W (sTryM mt l fb)) := by
  obtain ⟨l', hl, hw⟩ := hd.ok (W := W) hM hmt
  refine ps_imp (ps_try_many (tb := fun W => tS C W fb) hs hf tk hb hl) fun D σ H ⟨ρ, S, A, G, I, q⟩ => ⟨ρ, S, A, G, I, ?_⟩
  unfold sTryM at q
  cases hr : fb ρ S with
  | none => rw [hr] at q; exact q
  | some r =>
    rw [hr] at q
    cases r with
    | nx ρ' S' => exact q
    | bk ρ' S' => exact q
    | ct ρ' S' => exact q
    | rt z S' => exact q
    | exc c fs ρ' S' => exact hw D A G H c fs ρ' S' q
end
end VL

end
section
set_option Elab.async false
set_option linter.all false
set_option maxRecDepth 100000
/-! VL19: tuple * int; x in a tuple of flat items. -/
namespace VL
open PySem PySem.Spec PyProof.Rows L2
section
variable {X : Cx} {C : Ct} {W : WX} {kd ka kb : Kd} {a b : Expr} {pos : Pos} {fa fb : Rho → Mo SV}
/-! ### tuple * int -/
def gMulA (S : Sto) (x y : SV) : Option SV := match x, y with
  | .d (.tuple ds), .d (.int k) => if decide (ds ≠ []) && decide (2 ≤ k ∧ k ≤ 1000) && decide (ds.length ≤ 1000) then some (.d (.tuple (List.replicate k.toNat ds).flatten)) else none
  | x, y => gMul S x y
theorem DqL.rep {K : PySem.W.Frag} {H : Hp} {F : Addr → Prop} {ds : List PyData} {vs : List V} (r : DqL K H F ds vs) : ∀ n : Nat, DqL K H F (List.replicate n ds).flatten (List.replicate n vs).flatten
  | 0 => .nil
  | n + 1 => by
    rw [List.replicate_succ, List.replicate_succ, List.flatten_cons, List.flatten_cons]
    exact r.app (DqL.rep r n)
theorem sizeL : 1000000 ≤ sizeLine := by rw [sizeLine_eq]; omega
theorem ok_mulA {K : PySem.W.Frag} : OpOk K ka kb kd gMulA (fun x y H Q => rRepT K x y H Q ∨ (rI IntMulOk (fun i j => .int (i * j))) x y H Q ∨ rRep x y H Q) := (fun C ρ S A G σ H0 H1 H x y z v u gx gy Q hK I rx ry h q => by
  unfold gMulA at h
  split at h
  · rename_i ds k
    split at h
    · rename_i hc
      cases h
      simp only [Bool.and_eq_true, decide_eq_true_eq] at hc
      obtain ⟨⟨h0, h2, h3⟩, h4⟩ := hc
      obtain ⟨a, vs, rfl, hs, l, r⟩ := rx.tup
      have hl := r.length
      refine .inl ⟨a, k, vs, rfl, ry.int, (by rw [← hK]; exact hs), fun e => h0 (by rw [e] at hl; exact List.length_eq_zero_iff.mp hl.symm), h2, h3, by rw [hl]; exact h4, fun p hp => q _ _ (EPost.tup I (r.rep k.toNat) ?_ hp)⟩
      simp only [List.length_flatten, List.map_replicate, List.sum_replicate_nat]
      refine Nat.le_trans (Nat.mul_le_mul (show k.toNat ≤ 1000 by omega) (show vs.length ≤ 1000 by omega)) sizeL
    · cases h
  · unfold gMul at h
    split at h
    · rename_i i j _
      split at h
      · rename_i hm
        cases h
        exact .inr (.inl ⟨i, j, rx.int, ry.int, mulOk.ok hm, q _ H (EPost.same I (Rk.dat (.int _)))⟩)
      · cases h
    · rename_i k _ _
      simp only [Option.bind_eq_some_iff] at h
      obtain ⟨xs, hx, h⟩ := h
      split at h
      · rename_i hc
        cases h
        simp only [Bool.and_eq_true, decide_eq_true_eq] at hc
        obtain ⟨a, vs, ga, rfl, ha, l1, r1⟩ := rx.lst I hx
        have hl := r1.len
        refine .inr (.inr ⟨a, k, vs, rfl, ry.int, ha, (smI_lt hc.1.2).1, (smI_lt hc.1.2).2, by rw [hl]; exact hc.2, fun p hp => q _ _ ?_⟩)
        obtain ⟨r1, n1⟩ := r1
        obtain rfl := r1.noOwn hc.1.1
        refine EPost.lst (g := []) (H1 := H) I ⟨r1.rep k.toNat, fun a m => by cases m⟩ ?_ ?_ hp
        · rw [List.all_flatten]
          simp only [List.all_eq_true, List.mem_replicate]
          rintro l ⟨_, rfl⟩
          intro y hy
          exact List.all_eq_true.mp hc.1.1 y hy
        · simp only [List.length_flatten, List.map_replicate, List.sum_replicate_nat]
          rw [Nat.mul_comm, hl]
          exact hc.2
      · cases h
    · cases h)
theorem v_mulA (hk : C.K = X.K) (ha : PE X a (tV C W ka fa)) (hb : PE X b (tV C W kb fb)) : PE X (.BinOp a .Mult b pos) (tV C W kd (eBin gMulA fa fb)) := v_op (op_repT.or (op_mulI.or op_rep)) (hk ▸ ok_mulA) ha hb
/-! ### x in (a, b, ..) -/
def flatD : PyData → Option V
  | .none => some .non
  | .bool b => some (.bl b)
  | .int i => some (.int i)
  | .str s => some (.str s)
  | _ => none
def flatDs : List PyData → Option (List V)
  | [] => some []
  | d :: ds => (flatD d).bind fun v => (flatDs ds).map (v :: ·)
theorem flatD_ok {K : PySem.W.Frag} {H : Hp} {F : Addr → Prop} {d : PyData} {v w : V} (r : Dq K H F d v) (h : flatD d = some w) : v = w ∧ flatV w = true := by
  cases r <;> simp [flatD] at h <;> subst h <;> exact ⟨rfl, rfl⟩
theorem flatDs_ok {K : PySem.W.Frag} {H : Hp} {F : Addr → Prop} : ∀ {ds : List PyData} {vs ws : List V}, DqL K H F ds vs → flatDs ds = some ws → vs = ws ∧ ws.all flatV = true
  | [], _, _, r, h => by cases r; cases h; exact ⟨rfl, rfl⟩
  | d :: ds, _, _, r, h => by
    cases r with
    | cons r1 r2 =>
      simp only [flatDs, Option.bind_eq_some_iff, Option.map_eq_some_iff] at h
      obtain ⟨v, h1, ws, h2, rfl⟩ := h
      obtain ⟨rfl, f1⟩ := flatD_ok r1 h1
      obtain ⟨rfl, f2⟩ := flatDs_ok r2 h2
      exact ⟨rfl, by rw [List.all_cons, f1, f2]; rfl⟩
def inT (neg : Bool) (x y : SV) : Option Bool := match x, y with
  | .d d, .d (.tuple ds) => (flatD d).bind fun v => (flatDs ds).map fun vs => xor neg (inV v vs)
  | _, _ => none
def gInT (_ : Sto) (x y : SV) : Option Bool := inT false x y
def gNotInT (_ : Sto) (x y : SV) : Option Bool := inT true x y
theorem c_inN (neg : Bool) {K : PySem.W.Frag} : CmpOk K ka kb (fun _ x y => inT neg x y) (rIn K neg) := (fun C ρ S A G σ H0 H1 H x y b v u gx gy Q hK I rx ry h q => by
  subst hK
  have h : inT neg x y = some b := h
  unfold inT at h
  split at h
  · rename_i d ds
    simp only [Option.bind_eq_some_iff, Option.map_eq_some_iff] at h
    obtain ⟨v', h1, vs', h2, rfl⟩ := h
    obtain ⟨a, vs, rfl, hs, l, r⟩ := ry.tup
    obtain ⟨rfl, f1⟩ := flatD_ok rx.undat h1
    obtain ⟨rfl, f2⟩ := flatDs_ok r h2
    exact ⟨a, vs, rfl, .inr hs, f1, f2, by cases neg <;> simpa using q⟩
  · cases h)
theorem v_inT (hk : C.K = X.K) (ha : PE X a (tV C W ka fa)) (hb : PE X b (tV C W kb fb)) (hm : behindInMarks .In b = false) : PE X (.Compare a [.In] [b] pos) (tV C W kd (eBin (cB gInT) fa fb)) := v_cmpB op_in_seq (hk ▸ c_inN false) ha hb hm
theorem v_notInT (hk : C.K = X.K) (ha : PE X a (tV C W ka fa)) (hb : PE X b (tV C W kb fb)) (hm : behindInMarks .NotIn b = false) : PE X (.Compare a [.NotIn] [b] pos) (tV C W kd (eBin (cB gNotInT) fa fb)) := v_cmpB op_notIn_seq (hk ▸ c_inN true) ha hb hm
theorem t_inT (hk : C.K = X.K) (ha : PE X a (tV C W ka fa)) (hb : PE X b (tV C W kb fb)) (hm : behindInMarks .In b = false) : PT X (.Compare a [.In] [b] pos) (tTs C W (bB (eBin (cB gInT) fa fb))) := t_cmp op_in_seq (hk ▸ c_inN false) ha hb hm
theorem t_notInT (hk : C.K = X.K) (ha : PE X a (tV C W ka fa)) (hb : PE X b (tV C W kb fb)) (hm : behindInMarks .NotIn b = false) : PT X (.Compare a [.NotIn] [b] pos) (tTs C W (bB (eBin (cB gNotInT) fa fb))) := t_cmp op_notIn_seq (hk ▸ c_inN true) ha hb hm
end
end VL

end
section
set_option Elab.async false
set_option linter.all false
set_option maxRecDepth 100000
/-! VL20: x *= e, x += e of ints; 1 << e; e.bit_length(). -/
namespace VL
open PySem PySem.Spec PyProof.Rows L2
section
variable {X : Cx} {C : Ct} {W : WX} {kd ka kb : Kd} {a b e : Expr} {pos : Pos} {f fa fb : Rho → Mo SV} {i : Nat} {x : Str}
/-- x op= e where both are ints -/
def sAug (i : Nat) (g : Int → Int → Option Int) (f : Rho → Mo SV) : Rho → Sto → Option Fl := fun ρ S => match ρ[i]? with
  | some (some (.d (.int a))) => bindS ρ (f ρ S) fun y S1 => match y with
    | .d (.int b) => (g a b).map fun c => .nx (ρ.set i (some (.d (.int c)))) S1
    | _ => none
  | _ => none
theorem iop_mulI : OpR X (inplaceOp .Mult) (rI IntMulOk fun i j => .int (i * j)) := opI fun _ _ _ _ _ _ _ hc q => imul_int q hc
theorem s_augI {op : Operator} {g : Int → Int → Option Int} {r : R2} {pos' : Pos} (hN : X.N.Nodup) (hi : X.N[i]? = some x) (hx : Loc X.env.scope x) (he : PE X e (tV C W .be f)) (ho : OpR X (inplaceOp op) r)
    (hr : ∀ (p q c : Int) (H : Hp) (Q : VK), g p q = some c → Q (.int c) H → r (.int p) (.int q) H Q) (hf : X.fn x = true ∨ X.env.scope.names.lookup x = some .local := by first | exact .inl rfl | exact .inr rfl | assumption) :
    PS X (.AugAssign (.Name x pos') op e pos) (tS C W (sAug i g f)) := by
  refine ps_imp (ps_aug (ti := r) hN hi hx he ho hf) fun D σ H ⟨ρ, S, A, G, I, q⟩ => ?_
  unfold sAug at q
  split at q
  · rename_i p hρ
    obtain ⟨v, g0, hv, hs, _⟩ := I.slots i _ hρ
    cases hs with
    | d hd =>
      cases hd
      refine ⟨.int p, hv, C.Pr, ρ, S, A, G, fun _ h => h, I, SGood.step q fun y S' q v' H' p' => ?_⟩
      obtain ⟨A', g', P1, e1, hP1, I1, k1, _⟩ := (show EPost (C.pr C.Pr) .be ρ A G σ H y S' v' H' from p').next
      split at q
      · rename_i b
        obtain rfl := k1.int
        cases hg : g p b with
        | none => rw [hg] at q; exact q.elim
        | some c =>
          rw [hg] at q
          refine hr p b c H' _ hg ?_
          have J : Sim C ρ S' A' G σ H' := (show Sim ((C.pr P1).pr C.Pr) ρ S' A' G σ H' from Sim.prc I1 hP1)
          exact q _ _ _ _ (put_ext (g := []) e1 fun a m => by cases m) (Sim.put (g := []) (Sim.prc J fun a z => z.elim id fun z => by cases z) (.d (.int c)) (by simp) (fun a m => by cases m) (fun a m => by cases m))
      · exact q.elim
  · exact q.elim
def gMulI (p q : Int) : Option Int := if mulOk p q then some (p * q) else none
def gAddI (p q : Int) : Option Int := some (p + q)
def gSubI (p q : Int) : Option Int := some (p - q)
theorem s_augMul {pos' : Pos} (hN : X.N.Nodup) (hi : X.N[i]? = some x) (hx : Loc X.env.scope x) (he : PE X e (tV C W .be f)) (hf : X.fn x = true ∨ X.env.scope.names.lookup x = some .local := by first | exact .inl rfl | exact .inr rfl | assumption) :
    PS X (.AugAssign (.Name x pos') .Mult e pos) (tS C W (sAug i gMulI f)) := s_augI hN hi hx he iop_mulI (fun p q c H Q hg hq => by
  unfold gMulI at hg
  split at hg
  · rename_i hm
    cases hg
    exact ⟨p, q, rfl, rfl, mulOk.ok hm, hq⟩
  · cases hg) hf
theorem s_augAdd {pos' : Pos} (hN : X.N.Nodup) (hi : X.N[i]? = some x) (hx : Loc X.env.scope x) (he : PE X e (tV C W .be f)) (hf : X.fn x = true ∨ X.env.scope.names.lookup x = some .local := by first | exact .inl rfl | exact .inr rfl | assumption) :
    PS X (.AugAssign (.Name x pos') .Add e pos) (tS C W (sAug i gAddI f)) := s_augI hN hi hx he iop_add (fun p q c H Q hg hq => by
  cases hg
  exact ⟨p, q, rfl, rfl, hq⟩) hf
theorem s_augSub {pos' : Pos} (hN : X.N.Nodup) (hi : X.N[i]? = some x) (hx : Loc X.env.scope x) (he : PE X e (tV C W .be f)) (hf : X.fn x = true ∨ X.env.scope.names.lookup x = some .local := by first | exact .inl rfl | exact .inr rfl | assumption) :
    PS X (.AugAssign (.Name x pos') .Sub e pos) (tS C W (sAug i gSubI f)) := s_augI hN hi hx he iop_sub (fun p q c H Q hg hq => by
  cases hg
  exact ⟨p, q, rfl, rfl, hq⟩) hf
/-! ### 1 << e, e.bit_length() -/
def gShl (_ : Sto) (x y : SV) : Option SV := match x, y with
  | .d (.int p), .d (.int q) => if decide (0 ≤ q) && decide (q.natAbs + Builtin.Int.intBits p < 134217728) then some (.d (.int (p * 2 ^ q.toNat))) else none
  | _, _ => none
theorem v_shl (ha : PE X a (tV C W ka fa)) (hb : PE X b (tV C W kb fb)) : PE X (.BinOp a .LShift b pos) (tV C W kd (eBin gShl fa fb)) := v_op op_shlW (fun C ρ S A G σ H0 H1 H x y z v u gx gy Q hK I rx ry h q => by
  unfold gShl at h
  split at h
  · rename_i p k
    split at h
    · rename_i hc
      cases h
      simp only [Bool.and_eq_true, decide_eq_true_eq] at hc
      exact ⟨p, k, rx.int, ry.int, ⟨hc.1, by have := hc.2; unfold CShl at *; omega⟩, q _ H (EPost.same I (Rk.dat (.int _)))⟩
    · cases h
  · cases h) ha hb
def eBits (f : Rho → Mo SV) : Rho → Mo SV := fun ρ S => bindM (f ρ S) fun x S1 => match x with
  | .d (.int p) => some (.ok (.d (.int (Builtin.Int.intBits p : Nat))) S1)
  | _ => none
theorem v_bits {apos : Pos} (ha : PE X a (tV C W ka fa)) (hbase : attributeBase a "bit_length" X.env (eval a X.env) = eval a X.env := by rfl) (hline : (apos.endLine == pos.line) = true := by rfl) :
    PE X (.Call (.Attribute a "bit_length" apos) [] [] pos) (tV C W kd (eBits fa)) := by
  refine pe_imp (pe_bits ha hbase hline) fun σ H Q ⟨P, ρ, S, A, G, hP, I, q⟩ => ⟨P, ρ, S, A, G, hP, I, EGood.step q (fun _ _ _ _ _ _ z => z) fun x S1 q v H1 p__ => ?_⟩
  obtain ⟨A1, g1, P1, e1, hP1, I1, k1, _⟩ := p__.next
  split at q
  · rename_i p
    have I2 : Sim (C.pr P) ρ S1 A1 G σ H1 := (show Sim ((C.pr P1).pr P) ρ S1 A1 G σ H1 from Sim.prc I1 hP1)
    exact ⟨p, k1.int, q _ _ ((EPost.same I2 (Rk.dat (.int _))).trans e1)⟩
  · exact q.elim
end
end VL

end
section
set_option Elab.async false
set_option linter.all false
set_option maxRecDepth 100000
/-! VL21: order of deep data, sorted, zip, enumerate, list(range), repr of bools. -/
namespace VL
open PySem PySem.Spec PyProof.Rows L2
section
variable {X : Cx} {C : Ct} {W : WX} {kd ka kb : Kd} {e a b c : Expr} {pos : Pos} {f fa fb fc : Rho → Mo SV}
/-! ### <= of alike data -/
def rLeD (K : PySem.W.Frag) : R2 := fun x y H Q => ∃ d e, Dp K H x d ∧ Dp K H y e ∧ PySem.W.alike d e = true ∧ d ≠ .none ∧ SeqAt.shaped d = true ∧ Q (.bl (!PySem.W.dataLt e d)) H
theorem op_leD (hu : X.A.units + 64 < cLine) : OpR X (compareOp .LtE) (rLeD X.K) := by
  intro pins s σ H x y v u Q I rx ry h
  obtain ⟨d, e, hd, he, al, nn, sd, q⟩ := h
  obtain ⟨as, r1⟩ := Dp.reads I d x v hd rx
  obtain ⟨bs, r2⟩ := Dp.reads I e y u he ry
  exact PySem.W.rcLe_alike d e X.A s v u as bs r1 r2 al nn (SeqAt.room_of_shaped sd hu) _ _ _ _ ⟨.bl _, H, I, rfl, q⟩
def gLeD (_ : Sto) (x y : SV) : Option Bool :=
  match x, y with
  | .d (.int i), .d (.int j) => some (decide (i ≤ j))
  | .d (.tuple xs), .d (.tuple ys) => if PySem.W.alike (.tuple xs) (.tuple ys) && SeqAt.shaped (.tuple xs) then some (!PySem.W.dataLt (.tuple ys) (.tuple xs)) else none
  | _, _ => none
theorem c_leD {K : PySem.W.Frag} : CmpOk K ka kb gLeD (fun x y H Q => rI0 (fun i j => .bl (decide (i ≤ j))) x y H Q ∨ rLeD K x y H Q) := (fun C ρ S A G σ H0 H1 H x y b v u gx gy Q hK I rx ry h q => by
  subst hK
  unfold gLeD at h
  split at h
  · rename_i i j
    cases h
    exact .inl ⟨i, j, rx.int, ry.int, q⟩
  · split at h
    · rename_i hc
      cases h
      simp only [Bool.and_eq_true] at hc
      exact .inr ⟨_, _, Dq.dp _ _ rx.undat, Dq.dp _ _ ry.undat, hc.1, (by intro z; cases z), hc.2, q⟩
    · cases h
  · cases h)
theorem v_leD (hk : C.K = X.K) (hu : X.A.units + 64 < cLine) (ha : PE X a (tV C W ka fa)) (hb : PE X b (tV C W kb fb)) : PE X (.Compare a [.LtE] [b] pos) (tV C W kd (eBin (cB gLeD) fa fb)) := v_cmpB (op_le.or (op_leD hu)) (hk ▸ c_leD) ha hb (nomark _)
end
/-! ### sorted of alike data -/
def sortD (ds : List PyData) : List PyData := ds.mergeSort (PySem.W.dataLe false id)
def isTup1 : PyData → Bool
  | .tuple (_ :: _) => true
  | _ => false
def isPlain : PyData → Bool
  | .int _ => true
  | .str _ => true
  | .bool _ => true
  | _ => false
def sortOk (ds : List PyData) : Bool := (ds.all fun d => ds.all fun e => PySem.W.alike d e) && ds.all (fun d => SeqAt.shaped d) && (ds.all isTup1 || ds.all isPlain) && decide (ds.length ≤ sizeLine)
theorem sortable_of {ds : List PyData} (h : (ds.all isTup1 || ds.all isPlain) = true) : PySem.W.Sortable ds := by
  rcases Bool.or_eq_true_iff.mp h with h | h
  · refine .inl fun d m => ?_
    have := List.all_eq_true.mp h d m
    unfold isTup1 at this
    split at this
    · exact ⟨_, _, rfl⟩
    · cases this
  · refine .inr fun d m => ?_
    have := List.all_eq_true.mp h d m
    cases d <;> first | cases this | skip
    all_goals (refine ⟨?_, fun xs => ?_⟩ <;> intro z <;> cases z)
def rSortD (K : PySem.W.Frag) : List V → Hp → VK → Prop := fun vs H Q => ∃ (a : Addr) (xs : List V) (ds : List PyData) (R : V → PyData → Prop), vs = [V.ref a] ∧ SqL K H a xs ∧ DpAll K H xs ds ∧ PySem.W.EachIs R xs ds ∧ sortOk ds = true ∧
  ∀ ys p, PySem.W.EachIs R ys (sortD ds) → H p = none → Q (.ref p) (upd H p (.lst ys))
section
variable {X : Cx}
theorem each_vals {R : V → PyData → Prop} : ∀ {xs : List V} {us : List Value} {ds : List PyData}, Vals xs us → PySem.W.EachIs R xs ds → PySem.W.EachIs (fun v d => ∃ x, RelV x v ∧ R x d) us ds
  | _, _, _, .nil, .nil => .nil
  | _, _, _, .cons r t, .cons h k => .cons ⟨_, r, h⟩ (each_vals t k)
theorem vals_each {R : V → PyData → Prop} : ∀ {us : List Value} {ds : List PyData}, PySem.W.EachIs (fun v d => ∃ x, RelV x v ∧ R x d) us ds → ∃ xs, Vals xs us ∧ PySem.W.EachIs R xs ds
  | _, _, .nil => ⟨[], .nil, .nil⟩
  | _, _, .cons ⟨x, r, h⟩ t => by
    obtain ⟨xs, r2, h2⟩ := vals_each t
    exact ⟨x :: xs, .cons r r2, .cons h h2⟩
theorem cr_sortD (hu : X.A.units + 66 < cLine) : CallR X (.builtin "sorted") (rSortD X.K) := by
  intro pins s σ H vs us Q I r h
  obtain ⟨a, xs, ds, R, rfl, hs, hd, he, ok, q⟩ := h
  unfold sortOk at ok
  simp only [Bool.and_eq_true] at ok
  obtain ⟨⟨⟨al, sh⟩, so⟩, le⟩ := ok
  have le := of_decide_eq_true le
  obtain ⟨its, rv, hl, hz⟩ := I.list hs
  rw [Vals.ref1 r]
  obtain ⟨as, ra⟩ := Dp.readsAll I ds xs its hd rv
  have er := PySem.W.readsAll_each (h := s.heap) id (vs := its) (bs := ds) (as := as) (by rw [List.map_id]; exact ra)
  refine PySem.W.sorted_data (enc := id) hl.isList (each_vals rv he) er (by
    rw [List.map_id]
    intro d hd' e he'
    exact List.all_eq_true.mp (List.all_eq_true.mp al d hd') e he') (by rw [List.map_id]; exact sortable_of so) le (fun d m => by
    have h1 := List.all_eq_true.mp sh d m
    have h2 : (d.canLay0 && decide (d.depth ≤ 64)) = true := h1
    rw [Bool.and_eq_true] at h2
    have := of_decide_eq_true h2.2
    show X.A.units + 2 + d.depth < cLine
    omega) fun out hlen eo => ?_
  obtain ⟨ys, ry, ey⟩ := vals_each eo
  obtain ⟨ep, he'⟩ := PyProof.Rows.sortedAll_at s.heap its out.toArray
  have hlen2 : ys.length ≤ sizeLine := by rw [ry.length, hlen]; exact le
  exact ⟨.ref _, upd H (s.heap.objs.size + 1) (.lst ys), I.laid (t' := s.toks) (fun _ _ => PyProof.Rows.sortedAll_old) (Nat.le_succ _) ⟨hlen2, out, ep, ry, he'⟩, rfl, q ys _ ey (I.hok.fresh (Nat.le_succ _))⟩
def gSorted (S : Sto) (xs : List SV) : Option SV :=
  match xs with
  | [x] => (lst? S x).bind fun ys => (allD ys).bind fun ds => if sortOk ds then some (.own ((sortD ds).map SV.d)) else none
  | _ => none
theorem dqL_each {K : PySem.W.Frag} {H : Hp} {F : Addr → Prop} : ∀ {ds : List PyData} {vs : List V}, DqL K H F ds vs → PySem.W.EachIs (fun v d => Dq K H F d v) vs ds
  | [], _, h => by cases h; exact .nil
  | d :: ds, _, h => by
    cases h with
    | cons h1 h2 => exact .cons h1 (dqL_each h2)
theorem each_dqL {K : PySem.W.Frag} {H : Hp} {F : Addr → Prop} : ∀ {ds : List PyData} {vs : List V}, PySem.W.EachIs (fun v d => Dq K H F d v) vs ds → DqL K H F ds vs
  | _, _, .nil => .nil
  | _, _, .cons h t => .cons h (each_dqL t)
theorem sortD_length (ds : List PyData) : (sortD ds).length = ds.length := List.length_mergeSort ds
theorem noOwn_ds (ds : List PyData) : (ds.map SV.d).all noOwn = true := List.all_eq_true.mpr fun x m => by
  obtain ⟨d, _, rfl⟩ := List.mem_map.mp m
  rfl
theorem ok_sorted {K : PySem.W.Frag} : CalOk K ka kd gSorted (rSortD K) := by
  intro C ρ S A G σ H0 H xs z vs gx Q hK I r h q
  subst hK
  unfold gSorted at h
  split at h
  · simp only [Option.bind_eq_some_iff] at h
    obtain ⟨ys, hy, ds, hd, h⟩ := h
    split at h
    · rename_i hn
      cases h
      obtain ⟨v, rfl, r1⟩ := r.one
      obtain ⟨a, vs, ga, rfl, hs, l, r2⟩ := r1.lst I hy
      have rd := r2.undat hd
      refine ⟨a, vs, ds, _, rfl, .of hs, DqL.dp _ _ rd, dqL_each rd, hn, fun ys p ey hp => q _ _ (EPost.lst (H1 := H) I (RkL.dats (H := H) (each_dqL ey)) (noOwn_ds _) ?_ hp)⟩
      have e1 := (each_dqL ey).length
      rw [e1, sortD_length, ← rd.length]
      exact l
    · cases h
  · cases h
end
end VL

end
section
set_option Elab.async false
set_option linter.all false
set_option maxRecDepth 100000
/-! VL22: zip, enumerate, list(range), repr of bools. -/
namespace VL
open PySem PySem.Spec PyProof.Rows L2
def zipL (ds es : List PyData) : List SV := (ds.zip es).map fun p => .d (.tuple [p.1, p.2])
def enumL (ds : List PyData) : List SV := ds.zipIdx.map fun p => .d (.tuple [.int (p.2 : Nat), p.1])
theorem allD_at : ∀ {xs : List SV} {ds : List PyData} {i : Nat} {d : PyData}, allD xs = some ds → ds[i]? = some d → xs[i]? = some (.d d)
  | [], ds, i, d, h, e => by cases h; simp at e
  | .d x :: xs, ds, i, d, h, e => by
    simp only [allD, Option.map_eq_some_iff] at h
    obtain ⟨r, h, rfl⟩ := h
    cases i with
    | zero => simpa using e
    | succ i => simpa using allD_at h (by simpa using e)
  | .ref _ :: _, _, _, _, h, _ => by cases h
  | .fn _ :: _, _, _, _, h, _ => by cases h
  | .scr _ :: _, _, _, _, h, _ => by cases h
  | .own _ :: _, _, _, _, h, _ => by cases h
theorem allD_len : ∀ {xs : List SV} {ds : List PyData}, allD xs = some ds → xs.length = ds.length
  | [], ds, h => by cases h; rfl
  | .d x :: xs, ds, h => by
    simp only [allD, Option.map_eq_some_iff] at h
    obtain ⟨r, h, rfl⟩ := h
    simp [allD_len h]
  | .ref _ :: _, _, h => by cases h
  | .fn _ :: _, _, h => by cases h
  | .scr _ :: _, _, h => by cases h
  | .own _ :: _, _, h => by cases h
theorem zipL_at {ds es : List PyData} {i : Nat} {x : SV} (h : (zipL ds es)[i]? = some x) : ∃ d e, ds[i]? = some d ∧ es[i]? = some e ∧ x = .d (.tuple [d, e]) := by
  unfold zipL at h
  rw [List.getElem?_map, Option.map_eq_some_iff] at h
  obtain ⟨p, hp, rfl⟩ := h
  obtain ⟨h1, h2⟩ := List.getElem?_zip_eq_some.mp hp
  exact ⟨_, _, h1, h2, rfl⟩
theorem enumL_at {ds : List PyData} {i : Nat} {x : SV} (h : (enumL ds)[i]? = some x) : ∃ d, ds[i]? = some d ∧ x = .d (.tuple [.int (i : Nat), d]) := by
  unfold enumL at h
  rw [List.getElem?_map, Option.map_eq_some_iff] at h
  obtain ⟨p, hp, rfl⟩ := h
  rw [List.getElem?_zipIdx] at hp
  simp only [Option.map_eq_some_iff] at hp
  obtain ⟨d, hd, rfl⟩ := hp
  exact ⟨d, hd, by simp⟩
section
variable {C : Ct} {A A2 : List Addr} {G G2 : List (List Addr)} {H H2 : Hp} {P2 : Addr → Prop} {x y : SV} {v u : V} {xs ys : List SV} {vs us : List V} {ds es : List PyData} {full : Bool} {a b : Addr}
/-- a new pair -/
theorem pair_new {F : Addr → Prop} {K : PySem.W.Frag} {d e : PyData} {v u : V} {T : Addr} (ht : ∀ a, F a → H2 a ≠ none) (hT : H2 T = none) (hd : Dq K H2 F d v) (he : Dq K H2 F e u) : Dq K (upd H2 T (.tup [v, u])) F (.tuple [d, e]) (.ref T) := by
  have mo : ∀ {d : PyData} {v : V}, Dq K H2 F d v → Dq K (upd H2 T (.tup [v, u])) F d v := fun {d v} h => Dq.mono (fun a z => .inl z) (fun a o q n => by
    rw [upd_ne (fun z => by subst z; rw [hT] at q; cases q)]
    exact q) _ _ h
  have mo2 : ∀ {d : PyData} {w x : V}, Dq K H2 F d w → Dq K (upd H2 T (.tup [x, u])) F d w := fun {d w x} h => Dq.mono (fun a z => .inl z) (fun a o q n => by
    rw [upd_ne (fun z => by subst z; rw [hT] at q; cases q)]
    exact q) _ _ h
  refine .tup (if_pos rfl) (fun z => ht T z hT) (by show 2 ≤ sizeLine; rw [sizeLine_eq]; omega) (.cons (mo2 hd) (.cons (mo2 he) .nil))
theorem wk_zipL (w1 : Wk C full A G (Itl C.K a) xs H) (w2 : Wk C full A G (Itl C.K b) ys H) (dx : allD xs = some ds) (dy : allD ys = some es) : Wk C full A G (Itz C.K a b) (zipL ds es) H := by
  refine ⟨fun P2 A2 G2 H2 hP e hk ht i x hx => ?_, fun A2 G2 H2 e hk i hi => ?_⟩
  · obtain ⟨d, e', hd, he, rfl⟩ := zipL_at hx
    obtain ⟨⟨vs, v, s1, hv⟩, y1⟩ := w1.go P2 A2 G2 H2 hP e hk ht i _ (allD_at dx hd)
    obtain ⟨⟨us, u, s2, hu⟩, y2⟩ := w2.go P2 A2 G2 H2 hP e hk ht i _ (allD_at dy he)
    refine ⟨⟨vs, us, v, u, s1, s2, hv, hu⟩, fun w H3 ⟨T, p, q, e1, e2, e3, e4, e5⟩ => ?_⟩
    subst e1
    subst e3
    have r1 := (y1 p H2 ⟨rfl, e4⟩).2
    have r2 := (y2 q H2 ⟨rfl, e5⟩).2
    exact ⟨.inr ⟨T, _, e2, rfl⟩, .d (pair_new ht e2 r1.nil_d.2 r2.nil_d.2)⟩
  · obtain ⟨vs, s1, h1⟩ := w1.stop A2 G2 H2 e hk (max i xs.length) (by omega)
    obtain ⟨us, s2, h2⟩ := w2.stop A2 G2 H2 e hk (max i ys.length) (by omega)
    have l1 := allD_len dx
    have l2 := allD_len dy
    have hl : (zipL ds es).length = min ds.length es.length := by simp [zipL]
    rw [hl] at hi
    by_cases z : ds.length ≤ i
    · obtain ⟨vs', s1', h1'⟩ := w1.stop A2 G2 H2 e hk i (by omega)
      exact ⟨vs', us, s1', s2, .inl h1'⟩
    · obtain ⟨us', s2', h2'⟩ := w2.stop A2 G2 H2 e hk i (by omega)
      exact ⟨vs, us', s1, s2', .inr h2'⟩
theorem wk_zipT (w1 : Wk C full A G (Itt C.K a) xs H) (w2 : Wk C full A G (Itt C.K b) ys H) (dx : allD xs = some ds) (dy : allD ys = some es) : Wk C full A G (RZ.ItzT C.K a b) (zipL ds es) H := by
  refine ⟨fun P2 A2 G2 H2 hP e hk ht i x hx => ?_, fun A2 G2 H2 e hk i hi => ?_⟩
  · obtain ⟨d, e', hd, he, rfl⟩ := zipL_at hx
    obtain ⟨⟨vs, v, s1, hv⟩, y1⟩ := w1.go P2 A2 G2 H2 hP e hk ht i _ (allD_at dx hd)
    obtain ⟨⟨us, u, s2, hu⟩, y2⟩ := w2.go P2 A2 G2 H2 hP e hk ht i _ (allD_at dy he)
    refine ⟨⟨vs, us, v, u, s1, s2, hv, hu⟩, fun w H3 ⟨T, p, q, e1, e2, e3, e4, e5⟩ => ?_⟩
    subst e1
    subst e3
    have r1 := (y1 p H2 ⟨rfl, e4⟩).2
    have r2 := (y2 q H2 ⟨rfl, e5⟩).2
    exact ⟨.inr ⟨T, _, e2, rfl⟩, .d (pair_new ht e2 r1.nil_d.2 r2.nil_d.2)⟩
  · obtain ⟨vs, s1, h1⟩ := w1.stop A2 G2 H2 e hk (max i xs.length) (by omega)
    obtain ⟨us, s2, h2⟩ := w2.stop A2 G2 H2 e hk (max i ys.length) (by omega)
    have l1 := allD_len dx
    have l2 := allD_len dy
    have hl : (zipL ds es).length = min ds.length es.length := by simp [zipL]
    rw [hl] at hi
    by_cases z : ds.length ≤ i
    · obtain ⟨vs', s1', h1'⟩ := w1.stop A2 G2 H2 e hk i (by omega)
      exact ⟨vs', us, s1', s2, .inl h1'⟩
    · obtain ⟨us', s2', h2'⟩ := w2.stop A2 G2 H2 e hk i (by omega)
      exact ⟨vs, us', s1, s2', .inr h2'⟩
theorem wk_enum (w1 : Wk C full A G (Itl C.K a) xs H) (dx : allD xs = some ds) : Wk C full A G (Ite C.K a) (enumL ds) H := by
  refine ⟨fun P2 A2 G2 H2 hP e hk ht i x hx => ?_, fun A2 G2 H2 e hk i hi => ?_⟩
  · obtain ⟨d, hd, rfl⟩ := enumL_at hx
    obtain ⟨⟨vs, v, s1, hv⟩, y1⟩ := w1.go P2 A2 G2 H2 hP e hk ht i _ (allD_at dx hd)
    refine ⟨⟨vs, v, s1, hv⟩, fun w H3 ⟨T, p, e1, e2, e3, e4⟩ => ?_⟩
    subst e1
    subst e3
    have r1 := (y1 p H2 ⟨rfl, e4⟩).2
    exact ⟨.inr ⟨T, _, e2, rfl⟩, .d (pair_new ht e2 (.int _) r1.nil_d.2)⟩
  · have l1 := allD_len dx
    obtain ⟨vs', s1', h1'⟩ := w1.stop A2 G2 H2 e hk i (by simp [enumL] at hi; omega)
    exact ⟨vs', s1', h1'⟩
end
section
variable {X : Cx} {C : Ct} {W : WX} {kd ka kb : Kd} {tg e a b c : Expr} {es : List Expr} {pos : Pos} {f fa fb : Rho → Mo SV} {fs : Rho → Mo (List SV)}
theorem Rk.walkT {P : Addr → Prop} {ρ : Rho} {S : Sto} {g A : List Addr} {G : List (List Addr)} {σ : L2.St} {H0 H : Hp} {ds : List PyData} {v : V} {full : Bool} (I : Sim (C.pr P) ρ S A G σ H) (r : Rk (C.pr P) ka g A G H0 H (.d (.tuple ds)) v) :
    ∃ a, v = .ref a ∧ (∃ ys, SqT C.K H a ys) ∧ Wk (C.pr P) full A G (Itt C.K a) (ds.map SV.d) H := by
  obtain ⟨r1, h1⟩ := r.asBe
  cases r1 with
  | d r1 =>
    cases r1 with
    | tup e n l q => exact ⟨_, rfl, ⟨_, .of e⟩, wk_tup (RsL.ofD q) fun A2 G2 H2 e2 hk => .of (fs_kept e2 _ _ e n)⟩
    | ctup e l q => exact ⟨_, rfl, ⟨_, SqT.const e H⟩, wk_tup (RsL.ofD q) fun A2 G2 H2 e2 hk => SqT.const e H2⟩
/-- a list of data, not shared -/
def plainL : SV → Option (List PyData)
  | .d (.list ds) => some ds
  | .own xs => allD xs
  | _ => none
theorem Rk.walkL {P : Addr → Prop} {ρ : Rho} {S : Sto} {g A : List Addr} {G : List (List Addr)} {σ : L2.St} {H0 H : Hp} {x : SV} {ds : List PyData} {v : V} (I : Sim (C.pr P) ρ S A G σ H) (r : Rk (C.pr P) ka g A G H0 H x v) (h : plainL x = some ds) :
    ∃ a, v = .ref a ∧ (∃ ys, SqL C.K H a ys) ∧ Wk (C.pr P) false A G (Itl C.K a) (ds.map SV.d) H := by
  obtain ⟨r1, h1⟩ := r.asBe
  cases r1 with
  | d r1 =>
    cases r1 with
    | lst e n l q => cases h; exact ⟨_, rfl, ⟨_, .of e⟩, wk_lst (RsL.ofD q) fun A2 G2 H2 e2 hk => .of (fs_kept e2 _ _ e n)⟩
    | _ => cases h
  | own e l q =>
    obtain ⟨q', rfl⟩ := RsL.toD q h
    exact ⟨_, rfl, ⟨_, .of e⟩, wk_lst (RsL.ofD q') fun A2 G2 H2 e2 hk => .of (hk rfl _ _ e (h1 _ List.mem_cons_self).1)⟩
  | _ => cases h
def iZip2 (fs : Rho → Mo (List SV)) : Rho → Mo (List SV) := fun ρ S => bindM (fs ρ S) fun xs S1 => match xs with
  | [.d (.tuple ds), .d (.tuple es)] => some (.ok (zipL ds es) S1)
  | [x, y] => (plainL x).bind fun ds => (plainL y).map fun es => .ok (zipL ds es) S1
  | _ => none
theorem i_zip (hk : C.K = X.K) {p tpos : Pos} {elts : List Expr} {kk : Nat} (hg : Gl X "zip") (hm : X.mg "zip" = none) (ha : PA X [a, b] (tVs C W .be fs)) (hs : starEach [a, b] X.env = (false, eval a X.env) :: starEach [b] X.env := by rfl) (hpl : (backTo pos (starEach [b] X.env)).any (·.1) = false := by rfl) :
    PI X (.Tuple elts kk tpos) (.Call (.Name "zip" p) [a, b] [] pos) (tI C W false (iZip2 fs)) := by
  refine pi_imp (RZ.pi_zipA hg hm ha hs hpl) fun σ H R ⟨P, ρ, S, A, G, hP, I, q⟩ => ⟨P, ρ, S, A, G, hP, I, EGood.step q (fun _ _ _ _ _ _ z => z) fun xs S1 q vs H1 p => ?_⟩
  obtain ⟨A1, g1, e1, J1, k1⟩ := p
  split at q
  · rename_i ds es
    obtain ⟨v, u, ga, gb, rfl, r1, r2⟩ := k1.two
    obtain ⟨a1, rfl, ⟨y1, s1⟩, w1⟩ := r1.walkT (full := false) J1
    obtain ⟨a2, rfl, ⟨y2, s2⟩, w2⟩ := r2.walkT (full := false) J1
    have w := wk_zipT w1 w2 (allD_map ds) (allD_map es)
    refine ⟨a1, a2, y1, y2, rfl, .inr ⟨hk ▸ s1, hk ▸ s2, ?_⟩⟩
    rw [← hk]
    exact q _ _ ⟨A1, e1, J1, w⟩
  · rename_i x y _
    cases ex : plainL x with
    | none => rw [ex] at q; exact q.elim
    | some ds =>
      rw [ex] at q
      cases ey : plainL y with
      | none => rw [ey] at q; exact q.elim
      | some es =>
        rw [ey] at q
        simp only [Option.bind_some, Option.map_some] at q
        obtain ⟨v, u, ga, gb, rfl, r1, r2⟩ := k1.two
        obtain ⟨a1, rfl, ⟨y1, s1⟩, w1⟩ := r1.walkL J1 ex
        obtain ⟨a2, rfl, ⟨y2, s2⟩, w2⟩ := r2.walkL J1 ey
        have w := wk_zipL w1 w2 (allD_map ds) (allD_map es)
        refine ⟨a1, a2, y1, y2, rfl, .inl ⟨hk ▸ s1, hk ▸ s2, ?_⟩⟩
        rw [← hk]
        exact q _ _ ⟨A1, e1, J1, w⟩
  · exact q.elim
def iEnum1 (fs : Rho → Mo (List SV)) : Rho → Mo (List SV) := fun ρ S => bindM (fs ρ S) fun xs S1 => match xs with
  | [x] => (plainL x).map fun ds => .ok (enumL ds) S1
  | _ => none
theorem i_enum (hk : C.K = X.K) {p tpos : Pos} {elts : List Expr} {kk : Nat} (hg : Gl X "enumerate") (hm : X.mg "enumerate" = none) (ha : PA X [a] (tVs C W .be fs)) (hs : starEach [a] X.env = [(false, eval a X.env)] := by rfl) :
    PI X (.Tuple elts kk tpos) (.Call (.Name "enumerate" p) [a] [] pos) (tI C W false (iEnum1 fs)) := by
  refine pi_imp (pi_enum hg hm ha hs) fun σ H R ⟨P, ρ, S, A, G, hP, I, q⟩ => ⟨P, ρ, S, A, G, hP, I, EGood.step q (fun _ _ _ _ _ _ z => z) fun xs S1 q vs H1 p => ?_⟩
  obtain ⟨A1, g1, e1, J1, k1⟩ := p
  split at q
  · rename_i x
    cases ex : plainL x with
    | none => rw [ex] at q; exact q.elim
    | some ds =>
      rw [ex] at q
      obtain ⟨v, rfl, r1⟩ := k1.one
      obtain ⟨a1, rfl, ⟨y1, s1⟩, w1⟩ := r1.walkL J1 ex
      refine ⟨a1, y1, rfl, hk ▸ s1, ?_⟩
      rw [← hk]
      exact q _ _ ⟨A1, e1, J1, wk_enum w1 (allD_map ds)⟩
  · exact q.elim
/-! ### list(range(..)) -/
def rgD (lo : Int) (n : Nat) : List PyData := (List.range n).map fun k => .int (lo + (k : Nat))
def eLrg1 (f : Rho → Mo SV) : Rho → Mo SV := fun ρ S => bindM (f ρ S) fun x S1 => match x with
  | .d (.int j) => if j.natAbs ≤ 16777216 then some (.ok (.own ((rgD 0 j.toNat).map SV.d)) S1) else none
  | _ => none
def eLrg2 (fa fb : Rho → Mo SV) : Rho → Mo SV := fun ρ S => bindM (fa ρ S) fun x S1 => bindM (fb ρ S1) fun y S2 => match x, y with
  | .d (.int i), .d (.int j) => if i.natAbs + j.natAbs ≤ 16777216 then some (.ok (.own ((rgD i (j - i).toNat).map SV.d)) S2) else none
  | _, _ => none
theorem rg_dq {K : PySem.W.Frag} {H : Hp} {F : Addr → Prop} (a b : Int) : DqL K H F (rgD a (b - a).toNat) (rgV a b) := by
  unfold rgD rgV
  generalize (List.range (b - a).toNat) = l
  induction l with
  | nil => exact .nil
  | cons k l ih => exact .cons (.int _) ih
theorem v_lrg1 (hc : X.calm = true) (hk : C.K = X.K) {p p2 pos2 : Pos} (hg : Gl X "list") (hm : X.mg "list" = none) (hg2 : Gl X "range") (hm2 : X.mg "range" = none) (ha : PE X a (tV C W ka fa))
    (na : starEach [a] X.env = (false, eval a X.env) :: starEach [] X.env := by rfl) (na2 : starEach [.Call (.Name "range" p2) [a] [] pos2] X.env = (false, eval (.Call (.Name "range" p2) [a] [] pos2) X.env) :: starEach [] X.env := by rfl) :
    PE X (.Call (.Name "list" p) [.Call (.Name "range" p2) [a] [] pos2] [] pos) (tV C W kd (eLrg1 fa)) := by
  refine pe_imp (pe_listRg hc hg hm (prg_1 hg2 hm2 ha na) na2) fun σ H Q ⟨P, ρ, S, A, G, hP, I, q⟩ => ⟨P, ρ, S, A, G, hP, I, EGood.step q (fun _ _ _ _ _ _ z => z) fun x S1 q v H1 p__ => ?_⟩
  obtain ⟨A1, g1, P1, e1, hP1, I1, k1, _⟩ := p__.next
  split at q
  · rename_i j
    split at q
    · rename_i hj
      have I2 : Sim (C.pr P) ρ S1 A1 G σ H1 := (show Sim ((C.pr P1).pr P) ρ S1 A1 G σ H1 from Sim.prc I1 hP1)
      refine ⟨j, k1.int, ⟨by omega, by omega, by omega, by omega, by omega⟩, fun l hl => ?_⟩
      have rg := rg_dq (K := C.K) (H := H1) (F := Fs (C.pr P) A1 G) 0 j
      rw [show (j - 0).toNat = j.toNat by rw [Int.sub_zero]] at rg
      refine q _ _ ((EPost.lst (kd := kd) (H1 := H1) I2 (RkL.dats rg) (noOwn_ds _) ?_ hl).trans e1)
      rw [rgV_length, sizeLine_eq]
      omega
    · exact q.elim
  · exact q.elim
/-! ### repr of a truth value -/
def gReprB (_ : Sto) (xs : List SV) : Option SV := match xs with
  | [.d (.bool b)] => some (.d (.str (if b then "True" else "False")))
  | _ => none
theorem call_repr_bool : CallR X (.builtin "repr") (fun xs H Q => ∃ b, xs = [.bl b] ∧ Q (.str (if b then "True" else "False")) H) := by
  intro pins s σ H xs us Q I r h
  obtain ⟨b, rfl, q⟩ := h
  obtain ⟨u, rfl, ru⟩ := vals1 r
  obtain rfl : u = Value.bool b := ru
  exact PySem.P.repr_of_bool ⟨.str _, H, I.tok _, ⟨_, rfl⟩, q⟩
theorem ok_reprB {K : PySem.W.Frag} : CalOk K ka kd gReprB (fun xs H Q => ∃ b, xs = [.bl b] ∧ Q (.str (if b then "True" else "False")) H) := by
  intro C ρ S A G σ H0 H xs z vs gx Q hK I r h q
  unfold gReprB at h
  split at h
  · cases h
    obtain ⟨v, rfl, r1⟩ := r.one
    exact ⟨_, by rw [r1.bl], q _ H (EPost.same I (Rk.dat (.str _)))⟩
  · cases h
end
end VL

end
section
set_option Elab.async false
set_option linter.all false
set_option maxRecDepth 100000
/-! VL23: dicts of one's own, their keys ints: {}, d.setdefault(k, []).append(v), sorted(d), d[k]. -/
namespace VL
open PySem PySem.Spec PyProof.Rows L2
def posK : List Int → Int → Option Nat
  | [], _ => none
  | a :: ks, k => if a = k then some 0 else (posK ks k).map (· + 1)
abbrev kvz (ks : List Int) (vs : List V) : List (Key × V) := (ks.map Sum.inl).zip vs
theorem posK_lt : ∀ {ks : List Int} {k : Int} {p : Nat}, posK ks k = some p → p < ks.length
  | [], _, _, h => by cases h
  | a :: ks, k, p, h => by
    unfold posK at h
    split at h
    · cases h; simp
    · simp only [Option.map_eq_some_iff] at h
      obtain ⟨r, h, rfl⟩ := h
      have := posK_lt h
      simp
      omega
theorem valV_kvz : ∀ {ks : List Int} {vs : List V} {k : Int}, vs.length = ks.length → valV (kvz ks vs) (.inl k) = (posK ks k).bind (vs[·]?)
  | [], vs, k, h => by cases vs <;> rfl
  | a :: ks, [], k, h => by simp at h
  | a :: ks, v :: vs, k, h => by
    have ih := valV_kvz (ks := ks) (vs := vs) (k := k) (by simpa using h)
    unfold valV at ih ⊢
    show ((((Sum.inl a : Key), v) :: kvz ks vs).find? fun kv => decide (kv.1 = .inl k)).map (·.2) = _
    unfold posK
    by_cases e : a = k
    · subst e
      simp
    · rw [List.find?_cons_of_neg (by simpa using e), ih, if_neg e]
      cases posK ks k <;> simp
theorem posK_none : ∀ {ks : List Int} {vs : List V} {k : Int}, posK ks k = none → (kvz ks vs).any (fun kv => decide (kv.1 = .inl k)) = false
  | [], vs, k, _ => by cases vs <;> rfl
  | a :: ks, [], k, _ => rfl
  | a :: ks, v :: vs, k, h => by
    unfold posK at h
    split at h
    · cases h
    · rename_i e
      simp only [Option.map_eq_none_iff] at h
      show ((((Sum.inl a : Key), v) :: kvz ks vs).any fun kv => decide (kv.1 = .inl k)) = false
      rw [List.any_cons, posK_none h, Bool.or_false]
      exact decide_eq_false (by simpa using e)
theorem kvz_snoc {ks : List Int} {vs : List V} {k : Int} {v : V} (h : vs.length = ks.length) (hn : posK ks k = none) : putK (kvz ks vs) (.inl k) v = kvz (ks ++ [k]) (vs ++ [v]) := by
  unfold putK
  rw [posK_none hn]
  simp only [Bool.false_eq_true, if_false]
  unfold kvz
  rw [List.map_append, List.zip_append (by simp [h])]
  rfl
section
variable {X : Cx} {C : Ct} {W : WX} {kd ka kb : Kd} {a b : Expr} {pos : Pos} {fa fb : Rho → Mo SV} {ρ : Rho} {S : Sto} {A : List Addr} {G : List (List Addr)} {σ : L2.St} {H H0 : Hp}
def eDic0 : Rho → Mo SV := fun _ S => some (.ok (.dic [] []) S)
theorem EPost.dic0 {p : Addr} (I : Sim C ρ S A G σ H) (h : H p = none) : EPost C kd ρ A G σ H (.dic [] []) S (.ref p) (upd H p (.dK [])) := by
  refine EPost.be ⟨A, [p], Ext.upd h, ?_, ⟨.dic (ks := []) (vs := []) (g := []) upd_same rfl (by rw [sizeLine_eq]; exact Nat.zero_le _) .nil, by simp, fun a m => ?_⟩⟩
  · have J := Sim.newP (o := .dK []) I h
    exact (show Sim ((C.pr fun a => C.Pr a ∨ a = p).pr fun a => C.Pr a ∨ a ∈ [p]) ρ S A G σ _ from Sim.prc J fun a z => by
      rcases z with z | z
      · exact .inl z
      · exact .inr (by simpa using z))
  · obtain rfl : a = p := by simpa using m
    exact ⟨h, by rw [upd_same]; simp, fun z => I.trk _ (List.mem_append_left _ z) h⟩
theorem v_dic0 : PE X (.Dict [] [] pos) (tV C W kd eDic0) :=
  pe_imp pe_dnewK fun σ H Q ⟨P, ρ, S, A, G, hP, I, q⟩ => fun p hp => q _ _ (EPost.dic0 I hp)
/-! sorted(d) -/
def intSort (ks : List Int) : List Int := ks.mergeSort fun a b => decide (a ≤ b)
def gSortDic (_ : Sto) (xs : List SV) : Option SV := match xs with
  | [.dic ks _] => if ks.length < 64 then some (.own ((intSort ks).map fun k => .d (.int k))) else none
  | _ => none
theorem intSort_one {ks ys : List Int} (h : ys.Perm ks) (s : ys.Pairwise (· ≤ ·)) : ys = intSort ks := by
  have p : (intSort ks).Perm ks := List.mergeSort_perm ks _
  have q : (intSort ks).Pairwise (· ≤ ·) := by
    have := List.pairwise_mergeSort (le := fun a b : Int => decide (a ≤ b)) (fun a b c h1 h2 => by
      have h1 := of_decide_eq_true h1
      have h2 := of_decide_eq_true h2
      exact decide_eq_true (Int.le_trans h1 h2)) (fun a b => by
      rcases Int.le_total a b with z | z
      · simp [z]
      · simp [z]) ks
    exact this.imp fun h => of_decide_eq_true h
  exact List.Perm.eq_of_pairwise (fun a b _ _ h1 h2 => Int.le_antisymm h1 h2) s q (h.trans p.symm)
theorem dqL_ints {F : Addr → Prop} (ns : List Int) : DqL C.K H F (ns.map PyData.int) (ns.map V.int) := DqL.ofInts ns
abbrev rSortDic : List V → Hp → VK → Prop := fun xs H Q => ∃ (a : Addr) (kvs : List (Key × V)) (ks : List Int), xs = [.ref a] ∧ Rd H a (.dK kvs) ∧ kvs.map (·.1) = ks.map Sum.inl ∧ ks.length < 64 ∧
    ∀ (ys : List Int) (p : Addr), ys.Perm ks → ys.Pairwise (· ≤ ·) → H p = none → Q (.ref p) (upd H p (.lst (ys.map V.int)))
theorem ok_sortDic {K : PySem.W.Frag} : CalOk K ka kd gSortDic rSortDic := by
  intro C ρ S A G σ H0 H xs z vs gx Q hK I r h q
  subst hK
  unfold gSortDic at h
  split at h
  · rename_i ks xs
    split at h
    · rename_i hl
      cases h
      obtain ⟨v, rfl, r1⟩ := r.one
      obtain ⟨r1, hg⟩ := r1.asBe
      cases r1 with
      | dic e kl l r =>
        refine ⟨_, _, ks, rfl, .inl e, List.map_fst_zip (by simp [kl]), hl, fun ys p hp hs hn => ?_⟩
        obtain rfl := intSort_one hp hs
        have rd := RkL.dats (C := C) (kd := .be) (A := A) (G := G) (H := H) (dqL_ints (C := C) (H := H) (F := Fs C A G) (intSort ks))
        rw [List.map_map] at rd
        refine q _ _ (EPost.lst (H1 := H) I rd (List.all_eq_true.mpr fun x m => ?_) ?_ hn)
        · obtain ⟨d, _, rfl⟩ := List.mem_map.mp m
          rfl
        · have := hp.length_eq
          rw [List.length_map, sizeLine_eq]
          omega
    · cases h
  · cases h
/-! d[k] -/
def gIxDic (_ : Sto) (x y : SV) : Option SV := match x, y with
  | .dic ks xs, .d (.int k) => (posK ks k).bind (xs[·]?)
  | _, _ => none
theorem ok_ixDic {K : PySem.W.Frag} : OpOk K ka kb .be gIxDic (fun x y H Q => ∃ a v, x = .ref a ∧ DGet H a y (some v) ∧ Q v H) := by
  intro C ρ S A G σ H0 H1 H x y z v u gx gy Q hK I rx ry h q
  subst hK
  unfold gIxDic at h
  split at h
  · rename_i ks xs k
    simp only [Option.bind_eq_some_iff] at h
    obtain ⟨p, hp, hz⟩ := h
    obtain rfl := ry.int
    obtain ⟨r1, hg⟩ := rx.asBe
    cases r1 with
    | @dic a _ _ vs g e kl l r =>
      have rk : RkL C .be g A G H H xs vs := ⟨r, fun a m => hg a (List.mem_cons_of_mem _ m)⟩
      obtain ⟨w, gz, h1, rz⟩ := rk.get hz
      have e2 : valV (kvz ks vs) (.inl k) = some w := by
        rw [valV_kvz kl, hp]
        exact h1
      have dg := DGet.k (k := .inl k) e
      rw [e2] at dg
      exact ⟨_, w, rfl, dg, q _ H ⟨A, gz, Ext.refl, I, rz⟩⟩
  · cases h
theorem v_ixDic (hk : C.K = X.K) (hu : X.A.units + 1 < cLine) (ha : PE X a (tV C W ka fa)) (hb : PE X b (tV C W kb fb)) (hs : NoSl b) : PE X (.Subscript a b pos) (tV C W .be (eBin gIxDic fa fb)) := pe_imp (pe_dget hu ha hb hs) (tV_two (hk ▸ ok_ixDic (K := X.K)))
/-! d.setdefault(k, []).append(v), d, k, v slots -/
def sGrp (i j k : Nat) : Rho → Sto → Option Fl := fun ρ S => match ρ[i]?, ρ[j]?, ρ[k]? with
  | some (some (.dic ks xs)), some (some (.d (.int n))), some (some (.d v)) => if ks.length < sizeLine then (match posK ks n with
    | some p => (match xs[p]? with
      | some (.own ys) => if ys.length < sizeLine then some (.nx (ρ.set i (some (.dic ks (xs.set p (.own (ys ++ [.d v])))))) S) else none
      | _ => none)
    | none => some (.nx (ρ.set i (some (.dic (ks ++ [n]) (xs ++ [.own [.d v]])))) S)) else none
  | _, _, _ => none
/-- slot i's own are let go, something is put into the heap, and they come back -/
theorem Sim.backD {i : Nat} {x : SV} {v : V} {g g0 : List Addr} {H' : Hp} {P : Addr → Prop} (e1 : σ[i]? = some (some v)) (I : Sim (C.pr P) (ρ.set i none) S A (G.set i []) σ H') (hg : ∀ a ∈ g, P a) (hP : ∀ a, C.Pr a → P a)
    (r : Rs C.K C.mg H' A (fun a => Fs C A (G.set i []) a ∨ a ∈ g) x v g) (nd : g.Nodup) (h0 : ∀ a ∈ g, C.E0 a = none) (hp : ∀ a ∈ g, ¬ C.Pr a) : Sim C (ρ.set i (some x)) S A (G.set i g) σ H' := by
  have J : Sim (C.pr fun a => C.Pr a ∨ a ∈ g) (ρ.set i none) S A (G.set i []) σ H' := (show Sim ((C.pr P).pr fun a => C.Pr a ∨ a ∈ g) _ _ _ _ _ _ from Sim.prc I fun a z => z.elim (hP a) (hg a))
  have K := Sim.put (C := C) (i := i) J r nd h0 hp
  rw [List.set_set, List.set_set, set_same e1] at K
  exact K
theorem s_grp {i j k : Nat} {od on ov : Expr} {kl : Pos} {a1 c1 a2 c2 : Pos} (hd : PE X od (tVar i)) (hn : PE X on (tVar j)) (ha : PA X [ov] (tCons (tVar k) tNil)) (m : M2 X od "setdefault" a1 on (.List [] kl) c1)
    (hs : swapsWith (.Call (.Attribute (.Call (.Attribute od "setdefault" a1) [on, .List [] kl] [] c1) "append" a2) [ov] [] c2) none pos.line X.env = pure false := by rfl)
    (hbase : attributeBase (.Call (.Attribute od "setdefault" a1) [on, .List [] kl] [] c1) "append" X.env (eval (.Call (.Attribute od "setdefault" a1) [on, .List [] kl] [] c1) X.env) = eval (.Call (.Attribute od "setdefault" a1) [on, .List [] kl] [] c1) X.env := by rfl)
    (hfew : ((backTo c2 (starEach [ov] X.env)).all (fun x => !x.1) && (backToKw c2 (keywordEach [] X.env)).all (fun x => x.1.isSome)
      && decide (([ov] : List Expr).length + ([] : List Keyword).length + (if ([] : List Keyword).isEmpty then 0 else 1) < 30)) = true := by rfl)
    (hline : (a2.endLine == c2.line) = true := by rfl) (hst : starEach [ov] X.env = (false, eval ov X.env) :: starEach [] X.env := by rfl) (hplain : (backTo c2 (starEach [] X.env)).any (·.1) = false := by rfl) :
    PS X (.Expr (.Call (.Attribute (.Call (.Attribute od "setdefault" a1) [on, .List [] kl] [] c1) "append" a2) [ov] [] c2) pos) (tS C W (sGrp i j k)) := by
  refine ps_imp (ps_expr (pe_bm PySem.F.plainAttrs_list PySem.F.slot_list_append PySem.F.type_list_append mt_append (pe_dsetd hd hn (pe_lst pa_nil) m) ha hbase hfew hline hst hplain) hs) fun D σ H ⟨ρ, S, A, G, I, q⟩ => ?_
  unfold sGrp at q
  split at q
  case h_2 => exact q.elim
  rename_i ks xs n d hi hj hk
  split at q
  case isFalse => exact q.elim
  rename_i hks
  obtain ⟨v, g, e1, r, sb⟩ := I.slots i _ hi
  obtain ⟨v2, g2, e2, r2, _⟩ := I.slots j _ hj
  obtain ⟨v3, g3, e3, r3, _⟩ := I.slots k _ hk
  have dn := r2.nil_d.2
  obtain rfl : v2 = .int n := by cases dn; rfl
  have dd := r3.nil_d.2
  have gG : ∀ b ∈ g, b ∈ G.flatten := fun b m => getD_mem (sb.subset m)
  have nd : g.Nodup := by
    have n := (List.nodup_append.mp I.nd).2.1
    cases hG : G[i]? with
    | none => rw [hG] at sb; rw [List.sublist_nil.mp sb]; exact List.nodup_nil
    | some l => rw [hG] at sb; exact ((List.pairwise_flatten.mp n).1 l (List.mem_of_getElem? hG)).sublist sb
  have E0g : ∀ b ∈ g, C.E0 b = none := fun b m => by
    rcases I.fresh b (List.mem_append_right _ (gG b m)) with z | z
    · exact absurd rfl ((List.nodup_append.mp I.nd).2.2 b (I.pre.subset z) b (gG b m))
    · exact z
  have npg : ∀ b ∈ g, ¬ C.Pr b := fun b m z => (I.prot b z).1 (List.mem_append_right _ (gG b m))
  have trg : ∀ b ∈ g, H b ≠ none := fun b m => I.trk b (List.mem_append_right _ (gG b m))
  cases r with
  | @dic a0 _ _ vs g1 e kl' l r =>
  have a0g : a0 ∈ a0 :: g1 := List.mem_cons_self
  refine ⟨.ref a0, e1, a0, rfl, .inl ⟨_, .inl e⟩, .int n, e2, by rw [sizeLine_eq]; exact Nat.zero_le _, fun p0 hp0 => ?_⟩
  have ne0 : ∀ b ∈ a0 :: g1, b ≠ p0 := fun b m z => trg b m (by rw [z]; exact hp0)
  have J1 : Sim (C.pr fun b => (C.Pr b ∨ b ∈ G[i]?.getD []) ∨ b = p0) (ρ.set i none) S A (G.set i []) σ (upd H p0 (.lst [])) := Sim.newP (C := C.pr fun b => C.Pr b ∨ b ∈ G[i]?.getD []) (I.drop i) hp0
  have hF : ∀ b, Fs C A (G.set i []) b → Fs C A G b := fun b z => by
    rcases z with z | z | z
    · exact .inl z
    · exact .inr (.inl (flatten_set_nil.subset z))
    · exact .inr (.inr z)
  have e' : upd H p0 (.lst []) a0 = some (.dK (kvz ks vs)) := by rw [upd_ne (ne0 a0 a0g)]; exact e
  have hp0F : ¬ Fs C A G p0 := fun z => by
    rcases z with z | z | z
    · exact I.trk p0 (List.mem_append_left _ z) hp0
    · exact I.trk p0 (List.mem_append_right _ z) hp0
    · exact (I.prot p0 z).2 hp0
  have hlk : (kvz ks vs).length < sizeLine ∨ True := .inr trivial
  have kvl : (kvz ks vs).length = ks.length := by simp [kvz, kl']
  have ext : ∀ (g' : List Addr) (H' : Hp), (∀ b ∈ g', b ∈ a0 :: g1 ∨ b = p0) → (∀ b o, H b = some o → b ∉ a0 :: g1 → H' b = some o) → (∀ b, H b ≠ none → H' b ≠ none) → ExtS A G H A (G.set i g') H' := fun g' H' hg hk ht => by
    refine ⟨List.prefix_refl _, fun b m => ?_, fun b o q n => hk b o q fun z => n (List.mem_append_right _ (gG b z)), ht⟩
    rcases List.mem_append.mp m with m | m
    · exact .inl (List.mem_append_left _ m)
    · rcases flatten_set_sub m with z | z
      · exact .inl (List.mem_append_right _ z)
      · rcases hg b z with z | z
        · exact .inl (List.mem_append_right _ (gG b z))
        · exact .inr (by rw [z]; exact hp0)
  have putok : ∀ (g' : List Addr) (x : SV) (H' : Hp), (∀ b ∈ g', b ∈ a0 :: g1 ∨ b = p0) → g'.Nodup → Sim (C.pr fun b => (C.Pr b ∨ b ∈ G[i]?.getD []) ∨ b = p0) (ρ.set i none) S A (G.set i []) σ H' →
      Rs C.K C.mg H' A (fun a => Fs C A (G.set i []) a ∨ a ∈ g') x (.ref a0) g' → Sim C (ρ.set i (some x)) S A (G.set i g') σ H' := fun g' x H' hg hn J r' => by
    refine Sim.backD (g0 := []) e1 J (fun b m => ?_) (fun b z => .inl (.inl z)) r' hn (fun b m => ?_) (fun b m => ?_)
    · rcases hg b m with z | z
      · exact .inl (.inr (sb.subset z))
      · exact .inr z
    · rcases hg b m with z | z
      · exact E0g b z
      · exact z ▸ I.e0 p0 hp0
    · rcases hg b m with z | z
      · exact npg b z
      · exact fun w => hp0F (.inr (.inr (z ▸ w)))
  refine ⟨kvz ks vs, .inl n, e', rfl, ?_, fun w hw => ?_, fun hw => ?_⟩
  · rw [kvl]; exact hks
  · rw [valV_kvz kl'] at hw
    cases hp : posK ks n with
    | none => rw [hp] at hw; cases hw
    | some p =>
      rw [hp] at hw q
      simp only [Option.bind_some] at hw
      simp only at q
      split at q
      case h_2 => exact q.elim
      rename_i ys hy
      split at q
      case isFalse => exact q.elim
      rename_i hlt
      obtain ⟨w', gl, gz, gr, h1, h2, h3, h4⟩ := RsL.at' r hy
      rw [h1] at hw
      cases hw
      cases h2 with
      | @own b _ us gy eb lb rb =>
      subst h3
      have bg : b ∈ a0 :: (gl ++ (b :: gy ++ gr)) := List.mem_cons_of_mem _ (List.mem_append_right _ (List.mem_append_left _ List.mem_cons_self))
      have hb0 : b ≠ p0 := ne0 b bg
      have eb' : upd H p0 (.lst []) b = some (.lst us) := by rw [upd_ne hb0]; exact eb
      have hlen : us.length = ys.length := rb.length
      refine ⟨.inl ⟨rfl, us, .inl (.inl eb')⟩, v3, e3, b, us, v3, rfl, rfl, eb', by omega, ?_⟩
      refine q A (G.set i (a0 :: (gl ++ (b :: gy ++ gr)))) σ _ (ext _ _ (fun c m => .inl m) (fun c o h n => ?_) fun c h => ?_) (putok _ _ _ (fun c m => .inl m) nd ?_ ?_)
      · rw [upd_ne (show c ≠ b from fun z => n (by rw [z]; exact bg)), upd_ne (show c ≠ p0 from fun z => by rw [z, hp0] at h; cases h)]
        exact h
      · by_cases z : c = b
        · rw [z, upd_same]; simp
        · rw [upd_ne z, upd_ne (show c ≠ p0 from fun z => h (by rw [z]; exact hp0))]
          exact h
      · exact Sim.updP (C := C) J1 (.inl (.inr (sb.subset bg))) (E0g b bg)
      · have nd1 := (List.nodup_cons.mp nd).2
        have n1 := List.nodup_append.mp nd1
        have n2 := List.nodup_append.mp n1.2.1
        have bF : Fs C A G b := .inr (.inl (gG b bg))
        have hF2 : ∀ c, (Fs C A (G.set i []) c ∨ c ∈ a0 :: (gl ++ (b :: gy ++ gr))) → Fs C A G c ∨ H c = none := fun c z => by
          rcases z with z | z
          · exact .inl (hF c z)
          · exact .inl (.inr (.inl (gG c z)))
        have hH2 : ∀ c o, H c = some o → c ≠ b → upd (upd H p0 (.lst [])) b (.lst (us ++ [v3])) c = some o := fun c o h n => by
          rw [upd_ne n, upd_ne (show c ≠ p0 from fun z => by rw [z, hp0] at h; cases h)]
          exact h
        have hH3 : ∀ c o, H c = some o → ¬ Fs C A G c → upd (upd H p0 (.lst [])) b (.lst (us ++ [v3])) c = some o := fun c o h n => hH2 c o h fun z => n (z ▸ bF)
        have a0b : a0 ≠ b := fun z => (List.nodup_cons.mp nd).1 (by rw [z]; exact List.mem_append_right _ (List.mem_append_left _ List.mem_cons_self))
        have ry : RsL C.K C.mg (upd (upd H p0 (.lst [])) b (.lst (us ++ [v3]))) A (fun c => Fs C A (G.set i []) c ∨ c ∈ a0 :: (gl ++ (b :: gy ++ gr))) (ys ++ [.d d]) (us ++ [v3]) gy := by
          have := RsL.app (RsL.mono (fun _ _ q => q) hF2 hH3 _ _ _ (fun c m o h => hH2 c o h fun z => (List.nodup_cons.mp n2.1).1 (z ▸ m)) rb) (RsL.cons (.d (Dq.mono hF2 hH3 _ _ dd)) RsL.nil)
          simpa using this
        refine .dic (hH2 _ _ e a0b) kl' l (h4 _ _ hF2 hH3 (fun c m o h => hH2 c o h fun z => ?_) _ (b :: gy) (.own upd_same (by rw [List.length_append, List.length_singleton]; omega) ry))
        subst z
        rcases List.mem_append.mp m with m | m
        · exact n1.2.2 c m c (List.mem_append_left _ List.mem_cons_self) rfl
        · exact n2.2.2 c List.mem_cons_self c m rfl
  · have hp : posK ks n = none := by
      rw [valV_kvz kl'] at hw
      cases hp : posK ks n with
      | none => rfl
      | some p =>
        rw [hp] at hw
        have := posK_lt hp
        rw [← kl'] at this
        simp [this] at hw
    rw [hp] at q
    simp only at q
    have a0p : a0 ≠ p0 := ne0 a0 a0g
    have hF2 : ∀ c, (Fs C A (G.set i []) c ∨ c ∈ a0 :: (g1 ++ [p0])) → Fs C A G c ∨ H c = none := fun c z => by
      rcases z with z | z
      · exact .inl (hF c z)
      · rcases List.mem_cons.mp z with z | z
        · exact .inl (.inr (.inl (gG c (by rw [z]; exact a0g))))
        · rcases List.mem_append.mp z with z | z
          · exact .inl (.inr (.inl (gG c (List.mem_cons_of_mem _ z))))
          · obtain rfl : c = p0 := by simpa using z
            exact .inr hp0
    have aF : Fs C A G a0 := .inr (.inl (gG a0 a0g))
    have hH2 : ∀ c o, H c = some o → c ≠ a0 → upd (upd (upd H p0 (.lst [])) a0 (.dK (putK (kvz ks vs) (.inl n) (.ref p0)))) p0 (.lst ([] ++ [v3])) c = some o := fun c o h n => by
      have np : c ≠ p0 := fun z => by rw [z, hp0] at h; cases h
      rw [upd_ne np, upd_ne n, upd_ne np]
      exact h
    have hH3 : ∀ c o, H c = some o → ¬ Fs C A G c → upd (upd (upd H p0 (.lst [])) a0 (.dK (putK (kvz ks vs) (.inl n) (.ref p0)))) p0 (.lst ([] ++ [v3])) c = some o := fun c o h n => hH2 c o h fun z => n (z ▸ aF)
    have mg : ∀ c ∈ a0 :: (g1 ++ [p0]), c ∈ a0 :: g1 ∨ c = p0 := fun c m => by
      rcases List.mem_cons.mp m with z | z
      · exact .inl (by rw [z]; exact a0g)
      · rcases List.mem_append.mp z with z | z
        · exact .inl (List.mem_cons_of_mem _ z)
        · exact .inr (by simpa using z)
    refine ⟨.inl ⟨rfl, [], .inl (.inl (by rw [upd_ne (Ne.symm a0p), upd_same]))⟩, v3, e3, p0, [], v3, rfl, rfl, by rw [upd_ne (Ne.symm a0p), upd_same], by rw [sizeLine_eq]; decide, ?_⟩
    refine q A (G.set i (a0 :: (g1 ++ [p0]))) σ _ (ext _ _ mg (fun c o h n => hH2 c o h fun z => n (by rw [z]; exact a0g)) fun c h => ?_) (putok _ _ _ mg ?_ ?_ ?_)
    · by_cases z : c = a0
      · rw [z, upd_ne a0p, upd_same]; simp
      · have np : c ≠ p0 := fun z => h (by rw [z]; exact hp0)
        rw [upd_ne np, upd_ne z, upd_ne np]
        exact h
    · refine List.nodup_cons.mpr ⟨fun m => ?_, List.nodup_append.mpr ⟨(List.nodup_cons.mp nd).2, by simp, fun c m c' m' z => ?_⟩⟩
      · rcases List.mem_append.mp m with m | m
        · exact (List.nodup_cons.mp nd).1 m
        · exact a0p (by simpa using m)
      · obtain rfl : c' = p0 := by simpa using m'
        exact ne0 c (List.mem_cons_of_mem _ m) z
    · exact Sim.updP (C := C) (Sim.updP (C := C) J1 (.inl (.inr (sb.subset a0g))) (E0g a0 a0g)) (.inr rfl) (I.e0 p0 hp0)
    · have r1 := RsL.mono (K := C.K) (mg := C.mg) (A := A) (A' := A) (fun _ _ q => q) hF2 hH3 _ _ _ (fun c m o h => hH2 c o h fun z => (List.nodup_cons.mp nd).1 (z ▸ m)) r
      have r2 : RsL C.K C.mg (upd (upd (upd H p0 (.lst [])) a0 (.dK (putK (kvz ks vs) (.inl n) (.ref p0)))) p0 (.lst ([] ++ [v3]))) A (fun c => Fs C A (G.set i []) c ∨ c ∈ a0 :: (g1 ++ [p0])) [.d d] [v3] [] := RsL.cons (g := []) (g' := []) (.d (Dq.mono hF2 hH3 _ _ dd)) RsL.nil
      have r3 := RsL.app r1 (RsL.cons (.own upd_same (by rw [sizeLine_eq]; show 1 ≤ 16777216; decide) r2) RsL.nil)
      refine .dic (vs := vs ++ [.ref p0]) ?_ (by simp [kl']) (by rw [List.length_append, List.length_singleton]; omega) (by simpa using r3)
      rw [upd_ne a0p, upd_same, kvz_snoc kl' hp]
end
end VL

end
section
set_option Elab.async false
set_option linter.all false
set_option maxRecDepth 100000
/-! VL24: defs that call themselves, enumerate in a loop, unpacking a list, tests. -/
namespace VL
open PySem PySem.Spec PyProof.Rows L2
theorem boot_sorted' : bootBuiltins "sorted" = some (.builtin "sorted") := by decide +kernel
theorem boot_repr' : bootBuiltins "repr" = some (.builtin "repr") := by decide +kernel
theorem u66 {k : Nat} {A : Around} (r : Room k A) : A.units + 66 < cLine := by have := r.un; omega
section
variable {X : Cx} {C : Ct} {W : WX} {kd ka kb : Kd} {tg e a b c : Expr} {es : List Expr} {pos : Pos} {f fa fb : Rho → Mo SV} {fs : Rho → Mo (List SV)}
theorem t_leD (hk : C.K = X.K) (hu : X.A.units + 64 < cLine) (ha : PE X a (tV C W ka fa)) (hb : PE X b (tV C W kb fb)) : PT X (.Compare a [.LtE] [b] pos) (tTs C W (bB (eBin (cB gLeD) fa fb))) := t_cmp (op_le.or (op_leD hu)) (hk ▸ c_leD) ha hb (nomark _)
theorem Rk.walkF {P : Addr → Prop} {ρ : Rho} {S : Sto} {g A : List Addr} {G : List (List Addr)} {σ : L2.St} {H0 H : Hp} {x : SV} {ds : List PyData} {v : V} (I : Sim (C.pr P) ρ S A G σ H) (r : Rk (C.pr P) ka g A G H0 H x v) (h : plainL x = some ds) (hg : ∀ a ∈ g, a ∉ G.flatten) :
    ∃ a, v = .ref a ∧ (∃ ys, SqL C.K H a ys) ∧ Wk (C.pr P) true A G (Itl C.K a) (ds.map SV.d) H := by
  obtain ⟨r1, h1⟩ := r.asBe
  cases r1 with
  | d r1 =>
    cases r1 with
    | lst e n l q => cases h; exact ⟨_, rfl, ⟨_, .of e⟩, wk_lst (RsL.ofD q) fun A2 G2 H2 e2 hk => .of (fs_kept e2 _ _ e n)⟩
    | _ => cases h
  | own e l q =>
    obtain ⟨q', rfl⟩ := RsL.toD q h
    exact ⟨_, rfl, ⟨_, .of e⟩, wk_lst (RsL.ofD q') fun A2 G2 H2 e2 hk => .of (e2.keep _ _ e fun m => (List.mem_append.mp m).elim (fun m => (h1 _ List.mem_cons_self).1 m) (fun m => hg _ List.mem_cons_self m))⟩
  | _ => cases h
theorem i_enumF (hk : C.K = X.K) {p tpos : Pos} {elts : List Expr} {kk : Nat} (hg : Gl X "enumerate") (hm : X.mg "enumerate" = none) (ha : PA X [a] (tVs C W .fe fs)) (hs : starEach [a] X.env = [(false, eval a X.env)] := by rfl) :
    PI X (.Tuple elts kk tpos) (.Call (.Name "enumerate" p) [a] [] pos) (tI C W true (iEnum1 fs)) := by
  refine pi_imp (pi_enum hg hm ha hs) fun σ H R ⟨P, ρ, S, A, G, hP, I, q⟩ => ⟨P, ρ, S, A, G, hP, I, EGood.step q (fun _ _ _ _ _ _ z => z) fun xs S1 q vs H1 p => ?_⟩
  obtain ⟨A1, g1, e1, J1, k1⟩ := p
  split at q
  · rename_i x
    cases ex : plainL x with
    | none => rw [ex] at q; exact q.elim
    | some ds =>
      rw [ex] at q
      obtain ⟨v, rfl, r1⟩ := k1.one
      obtain ⟨a1, rfl, ⟨y1, s1⟩, w1⟩ := r1.walkF J1.pgw ex (fun a m z => (J1.prot a (.inr m)).1 (List.mem_append_right _ z))
      refine ⟨a1, y1, rfl, hk ▸ s1, ?_⟩
      rw [← hk]
      exact q _ _ ⟨A1, e1, J1.pgw, wk_enum w1 (allD_map ds)⟩
  · exact q.elim
end
/-! unpacking a list -/
def gTl (n : Nat) (u : List SV → Rho → Option Rho) : TgF := fun x ρ => match x with
  | .d (.list ds) => if ds.length = n then u (ds.map .d) ρ else none
  | _ => none
theorem g_tl {C : Ct} {n : Nat} {u : List SV → Rho → Option Rho} {is : List Nat} {ug : TGs} (h : GsOk C u is ug) : GOk C (gTl n u) is (gLst C.K n ug) := by
  intro P ρ ρ' S A G σ H x v Q I r e q
  unfold gTl at e
  split at e
  · rename_i ds
    split at e
    · rename_i hl
      obtain ⟨_, d⟩ := r.nil_d
      cases d with
      | lst e' _ _ hd => exact ⟨_, _, rfl, .of e', hd.length.trans hl, h P ρ ρ' S A G σ H _ _ _ I (RsL.ofD hd) e q⟩
    · cases e
  · cases e
/-! a def that calls itself -/
section
variable {P : Program} {w : World} {K : PySem.W.Frag} {mg : Str → Option Value} {base : Heap} {x qual : Str} {params : Arguments} {body : List Stmt} {scope : Scope} {f : Addr} {fd : FuncData} {N ps : List Str} {k : Nat}
theorem pss_none {X : Cx} {C : Ct} {W : WX} {body : List Stmt} : PSs X body (tS C W fun _ _ => none) := ⟨fun pins s σ H D I h => by
  obtain ⟨ρ, S, A, G, J, q⟩ := h
  exact q.elim⟩
theorem mk_def0 (F : FunD K x qual params body scope [] [] f fd) (hm : mg x = some (.ref f)) (Sc : FnScope N ps scope) (hl : ps.length ≤ N.length)
    (hbind : ∀ (kV doc pm : Value) (an : Option Addr) (cdv ct : Value) (us : List Value), us.length = ps.length → bindArgs (PySem.W.fnOf x qual params body scope .none kV doc pm an cdv ct) ⟨us, []⟩ = pure (ps.zip us)) : DefOk P w K mg base (k + 1) x ps.length (runF N.length fun _ _ => none) :=
  mk_def (k := k) (fb := fun _ _ => none) F hm Sc hl hbind fun _ _ _ _ _ _ _ _ _ _ => pss_none
end
/-! a slot's list becomes a shared one -/
section
variable {C : Ct} {ρ : Rho} {S : Sto} {A : List Addr} {G : List (List Addr)} {σ : L2.St} {H : Hp}
theorem Sim.share {i : Nat} {zs ys : List SV} (I : Sim C ρ S A G σ H) (hi : ρ[i]? = some (some (.own zs))) (hf : frzs zs = some ys) :
    ∃ a, Sim C (ρ.set i (some (.ref S.length))) (S ++ [ys]) (A ++ [a]) (G.set i []) σ H ∧ ExtS A G H (A ++ [a]) (G.set i []) H := by
  obtain ⟨v, g, e1, r, sb⟩ := I.slots i _ hi
  cases r with
  | @own a _ us g e l r =>
  have J := I.drop i
  have aG : a ∈ G[i]?.getD [] := sb.subset List.mem_cons_self
  have aF : a ∈ G.flatten := getD_mem aG
  have hp := J.prot a (.inr aG)
  have ndg : (a :: g).Nodup := by
    have n := (List.nodup_append.mp I.nd).2.1
    cases hG : G[i]? with
    | none => rw [hG] at sb; cases List.sublist_nil.mp sb
    | some l => rw [hG] at sb; exact ((List.pairwise_flatten.mp n).1 l (List.mem_of_getElem? hG)).sublist sb
  have hF : ∀ b, Fs C (A ++ [a]) (G.set i []) b → Fs (C.pr fun b => C.Pr b ∨ b ∈ G[i]?.getD []) A (G.set i []) b ∨ H b = none := fun b z => by
    rcases z with z | z | z
    · rcases List.mem_append.mp z with z | z
      · exact .inl (.inl z)
      · obtain rfl : b = a := by simpa using z
        exact .inl (.inr (.inr (.inr aG)))
    · exact .inl (.inr (.inl z))
    · exact .inl (.inr (.inr (.inl z)))
  have hA : ∀ (n : Nat) b, A[n]? = some b → (A ++ [a])[n]? = some b := fun n b h => by
    rw [List.getElem?_append_left (List.getElem?_eq_some_iff.mp h).1]
    exact h
  refine ⟨a, ⟨I.pre.trans (List.prefix_append _ _), by simp [I.lr], by simp [I.lg], by simp [I.ls], ?_, fun b m => ?_, fun b q => ⟨fun m => ?_, (I.prot b q).2⟩, fun j x hj => ?_, fun n xs hn => ?_, I.frame, fun b m => ?_, I.a0⟩, ⟨List.prefix_append _ _, fun b m => .inl ?_, fun b o h n => h, fun b h => h⟩⟩
  · have : ((A ++ [a]) ++ (G.set i []).flatten).Perm (a :: (A ++ (G.set i []).flatten)) := by
      rw [List.append_assoc]
      exact List.perm_middle
    exact this.nodup_iff.mpr (List.nodup_cons.mpr ⟨hp.1, J.nd⟩)
  · rcases List.mem_append.mp m with m | m
    · rcases List.mem_append.mp m with m | m
      · exact J.trk b (List.mem_append_left _ m)
      · obtain rfl : b = a := by simpa using m
        exact hp.2
    · exact J.trk b (List.mem_append_right _ m)
  · rcases List.mem_append.mp m with m | m
    · rcases List.mem_append.mp m with m | m
      · exact (I.prot b q).1 (List.mem_append_left _ m)
      · obtain rfl : b = a := by simpa using m
        exact (I.prot b q).1 (List.mem_append_right _ aF)
    · exact (I.prot b q).1 (List.mem_append_right _ (flatten_set_nil.subset m))
  · by_cases hji : j = i
    · subst hji
      have hlt : j < ρ.length := (List.getElem?_eq_some_iff.mp hi).1
      rw [List.getElem?_set_self hlt] at hj
      cases hj
      refine ⟨.ref a, [], e1, .ref ?_, List.nil_sublist _⟩
      rw [I.ls, List.getElem?_append_right (Nat.le_refl _)]
      simp
    · rw [List.getElem?_set_ne (Ne.symm hji)] at hj
      obtain ⟨v', g', h1, h2, h3⟩ := J.slots j x (by rw [List.getElem?_set_ne (Ne.symm hji)]; exact hj)
      exact ⟨v', g', h1, Rs.mono hA hF (fun b o q n => q) _ _ _ (fun b m o q => q) h2, h3⟩
  · by_cases hl : n < S.length
    · rw [List.getElem?_append_left hl] at hn
      obtain ⟨b, vs, q1, q2, q3, q4⟩ := J.sto n xs hn
      exact ⟨b, vs, hA _ _ q1, q2, q3, RsL.mono hA hF (fun b o q n => q) _ _ _ (fun b m o q => q) q4⟩
    · rw [List.getElem?_append_right (by omega)] at hn
      have hz : n - S.length = 0 := by
        have := (List.getElem?_eq_some_iff.mp hn).1
        simp at this
        omega
      rw [hz] at hn
      cases hn
      refine ⟨a, us, ?_, e, l, RsL.frzF (F := Fs C (A ++ [a]) (G.set i [])) (F1 := fun b => Fs C A G b ∨ b ∈ A ++ [a]) hA (fun b z => ?_) (RsL.mono (fun _ _ q => q) (fun b z => ?_) (fun b o q n => q) _ _ _ (fun b m o q => q) r) (fun b m z => ?_) hf⟩
      · rw [show n = A.length by rw [← I.ls]; omega, List.getElem?_append_right (Nat.le_refl _)]
        simp
      · rcases z with z | z | z
        · exact .inr z
        · exact .inl (.inr (.inl (flatten_set_nil.subset z)))
        · exact .inl (.inr (.inr z))
      · rcases z with z | z
        · exact .inl z
        · rcases List.mem_append.mp z with z | z
          · exact .inl (.inl z)
          · obtain rfl : b = a := by simpa using z
            exact .inl (.inr (.inl aF))
      · have bG : b ∈ G[i]?.getD [] := sb.subset (List.mem_cons_of_mem _ m)
        have hb := J.prot b (.inr bG)
        rcases z with z | z | z
        · rcases List.mem_append.mp z with z | z
          · exact hb.1 (List.mem_append_left _ z)
          · obtain rfl : b = a := by simpa using z
            exact (List.nodup_cons.mp ndg).1 m
        · exact hb.1 (List.mem_append_right _ z)
        · exact (I.prot b z).1 (List.mem_append_right _ (getD_mem bG))
  · rcases List.mem_append.mp m with m | m
    · rcases List.mem_append.mp m with m | m
      · exact I.fresh b (List.mem_append_left _ m)
      · obtain rfl : b = a := by simpa using m
        exact I.fresh b (List.mem_append_right _ aF)
    · exact I.fresh b (List.mem_append_right _ (flatten_set_nil.subset m))
  · rcases List.mem_append.mp m with m | m
    · rcases List.mem_append.mp m with m | m
      · exact List.mem_append_left _ m
      · obtain rfl : b = a := by simpa using m
        exact List.mem_append_right _ aF
    · exact List.mem_append_right _ (flatten_set_nil.subset m)
theorem t_ghA {W : WX} {s : Rho → Sto → Option Fl} {i : Nat} (D : Ends) (σ : L2.St) (H : Hp) (h : tS C W (ghA i s) D σ H) : tS C W s D σ H := by
  obtain ⟨ρ, S, A, G, I, q⟩ := h
  unfold ghA at q
  split at q
  · rename_i zs hz
    cases hf : frzs zs with
    | none => rw [hf] at q; exact q.elim
    | some ys =>
      rw [hf] at q
      obtain ⟨a, J, e⟩ := I.share hz hf
      exact ⟨_, _, _, _, J, q.ext e⟩
  · exact q.elim
theorem ss_ghA {X : Cx} {W : WX} {sts : List Stmt} {s : Rho → Sto → Option Fl} {i : Nat} (h : PSs X sts (tS C W s)) : PSs X sts (tS C W (ghA i s)) := pss_imp h t_ghA
end
end VL

end
section
set_option Elab.async false
set_option linter.all false
set_option maxRecDepth 100000
/-! VL25: sorted of a tuple, len of a dict, list.index of data. -/
namespace VL
open PySem PySem.Spec PyProof.Rows L2
/-! ### sorted of a tuple -/
section
open PySem.W
variable {prog : Program} {w : World} {A : Around} {E : Value → Shared → Prop} {s : Shared}
/-- collect of a tuple, the heap told -/
theorem collect_at {Q : List Value → Shared → Prop} {it : Addr} {T : String} {o : Obj} {items : Array Value} {n : Nat} (hT : T = "list" ∨ T = "tuple") (ho : s.heap.get? it = some o) (hc : o.cls = .type T) (hd : o.data = .seq items n)
    (hQ : Q items.toList { s with heap := (s.heap.push (seqObj "list" #[] 0)).update s.heap.objs.size (Obj.mapSeq (· ++ items)) }) (hsz : items.size ≤ sizeLine) : wpAny (model prog w) A (collect (.ref it)) Q E s := by
  have hS : (s.heap.push (seqObj "list" #[] 0)).get? s.heap.objs.size = some (seqObj "list" #[] 0) := Heap.get?_push_size _ rfl
  have hS2 := Heap.get?_update_self (Obj.mapSeq (· ++ items)) hS rfl
  unfold collect
  refine wpAny_bind (wpAny_runValue (codeAny_builtin F.entry_proto_collect ?_))
  rw [Around.under_plainId F.plain_proto_collect _]
  show wpAny _ A.in1 (newList [] >>= fun l => again (.builtin "list.__iadd__" ⟨[l, .ref it], []⟩)) _ _ s
  refine wpAny_bind (wpAny_newObj_type (wpAny_pure ⟨plainId_quiet F.plain_list_iadd _, codeAny_builtin F.entry_list_iadd ?_⟩))
  rw [Around.under_plainId F.plain_list_iadd _]
  show wpAny _ A.in1 (Builtin.List.listExtendWith (.ref s.heap.objs.size) (.ref it) (.ref s.heap.objs.size)) _ _ { s with heap := s.heap.push (seqObj "list" #[] 0) }
  have out : wpAny (model prog w) A (do
      let o ← load s.heap.objs.size
      match o.data with
      | .seq xs _ => pure xs.toList
      | _ => unsupported "internal:collect") Q E { s with heap := (s.heap.push (seqObj "list" #[] 0)).update s.heap.objs.size (Obj.mapSeq (· ++ items)) } := by
    refine wpAny_bind (wpAny_load hS2 (wpAny_pure ?_))
    show Q ((#[] : Array Value) ++ items).toList _
    rw [show ((#[] : Array Value) ++ items).toList = items.toList by simp]
    exact hQ
  refine wpAny_mono (wpAny_extend_seq (hsz := hsz) (A := A) (R := fun r s' => r = .ok (.ret (.ref s.heap.objs.size)) ∧ s' = { s with heap := (s.heap.push (seqObj "list" #[] 0)).update s.heap.objs.size (Obj.mapSeq (· ++ items)) })
    (s := { s with heap := s.heap.push (seqObj "list" #[] 0) }) _ it _ 0 hT hS (Heap.get?_push_of_some _ ho) hc hd ⟨rfl, rfl⟩) (fun fin s' h => ?_) fun e s' h => absurd h.1 (by simp)
  cases fin with
  | done f =>
    obtain ⟨e, rfl⟩ := h
    cases e
    exact out
  | again c' => exact ⟨h.1, codeAny_mono h.2 fun r s2 hr => by obtain ⟨rfl, rfl⟩ := hr; exact out⟩
theorem sorted_tup {T : String} {l : Addr} {o : Obj} {n : Nat} {vs : List Value} {ds : List PyData} {Q : Value → Shared → Prop} (hT : T = "list" ∨ T = "tuple") (ho : s.heap.get? l = some o) (hc : o.cls = .type T) (hd : o.data = .seq vs.toArray n) {R : Value → PyData → Prop}
    (e : EachIs R vs ds) (er : EachIs (fun v b => ∃ as, Reads s.heap v b as) vs ds) (hal : AllAlike ds) (hk : Sortable ds) (hL : ds.length ≤ sizeLine) (hu : ∀ b, b ∈ ds → A.units + 2 + b.depth < cLine)
    (h : ∀ out, out.length = ds.length → EachIs R out (ds.mergeSort (dataLe false id)) → Q (.ref (s.heap.objs.size + 1)) { s with heap := sortedAll s.heap vs (List.toArray out) }) :
    wpAny (model prog w) A (call (.builtin "sorted") [.ref l]) Q E s := by
  have hlen : vs.length = ds.length := e.length
  have hLv : vs.length ≤ sizeLine := by rw [hlen]; exact hL
  refine call_function_entry_kw kind_sorted plain_sorted entry_sorted (args_sorted1 _) ?_
  unfold Builtin.«sorted»
  refine wpAny_bind (m := checkCount "sorted" 1 1 _) (wpAny_pure ?_)
  refine wpAny_bind (collect_at hT ho hc hd ?_ (by simpa using hLv))
  rw [show vs.toArray.toList = vs by simp]
  refine wpAny_bind (wpAny_newList ?_ hLv)
  have hsz : ((s.heap.push (seqObj "list" #[] 0)).update s.heap.objs.size (Obj.mapSeq (· ++ vs.toArray))).objs.size = s.heap.objs.size + 1 := by
    rw [Heap.size_update, size_push']
  show wpAny _ _ _ _ _ { s with heap := copyHeap s.heap vs }
  rw [hsz]
  have er' : EachIs (fun v b => ∃ as, Reads (sortingHeap (copyHeap s.heap vs) (s.heap.objs.size + 1) vs) v (id b) as) vs ds := er.mono fun _ _ ⟨as, r⟩ => ⟨as, PyProof.Rows.Reads.keeps (fun _ _ => sorting_copy_old) r⟩
  refine wpAny_bind (wpAny_holding (wpAny_call_entry_kw slot_list_sort ⟨_, copyHeap_at s.heap vs, rfl⟩ entry_list_sort ?body (args_list_sort _)))
  case body =>
    have S := SortsAt.data (prog := prog) (w := w) (A := A.in1.in1) (s := { s with heap := sortingHeap (copyHeap s.heap vs) (s.heap.objs.size + 1) vs }) er' hal hk hu
    refine wpAny_mono (list_sort_vals (P := fun f s' => f = .done (.ret .none) ∧ Q (.ref (s.heap.objs.size + 1)) s') (s := { s with heap := copyHeap s.heap vs }) (copyHeap_at s.heap vs) S hLv ⟨rfl, ?_⟩) (fun f s' hf => ?_) fun _ _ e => e
    · refine h (sortVals (dataKind (sortingHeap (copyHeap s.heap vs) (s.heap.objs.size + 1) vs) ds) false vs vs) (by rw [sortVals_length false rfl]; exact hlen) ?_
      have := sortVals_data (R := R) (enc := id) false e er' (by rw [List.map_id]; exact hal)
      rw [List.map_id] at this
      exact this
    · obtain ⟨rfl, hq⟩ := hf
      exact ⟨_, rfl, wpAny_pure ⟨_, rfl, hq⟩⟩
end
def rSortDT (K : PySem.W.Frag) : List V → Hp → VK → Prop := fun vs H Q => ∃ (a : Addr) (xs : List V) (ds : List PyData) (R : V → PyData → Prop), vs = [V.ref a] ∧ SqT K H a xs ∧ DpAll K H xs ds ∧ PySem.W.EachIs R xs ds ∧ sortOk ds = true ∧
  ∀ ys p, PySem.W.EachIs R ys (sortD ds) → H p = none → Q (.ref p) (upd H p (.lst ys))
section
variable {X : Cx} {C : Ct} {W : WX} {kd ka kb : Kd} {e a b c o : Expr} {es : List Expr} {pos : Pos} {f fa fb fo : Rho → Mo SV} {fs : Rho → Mo (List SV)}
theorem cr_sortDT (hu : X.A.units + 66 < cLine) : CallR X (.builtin "sorted") (rSortDT X.K) := by
  intro pins s σ H vs us Q I r h
  obtain ⟨a, xs, ds, R, rfl, hs, hd, he, ok, q⟩ := h
  unfold sortOk at ok
  simp only [Bool.and_eq_true] at ok
  obtain ⟨⟨⟨al, sh⟩, so⟩, le⟩ := ok
  have le := of_decide_eq_true le
  obtain ⟨its, rv, ⟨o, ho, hc, n, hdt⟩, hz⟩ := I.tuple hs
  rw [Vals.ref1 r]
  obtain ⟨as, ra⟩ := Dp.readsAll I ds xs its hd rv
  have er := PySem.W.readsAll_each (h := s.heap) id (vs := its) (bs := ds) (as := as) (by rw [List.map_id]; exact ra)
  refine sorted_tup (.inr rfl) ho hc hdt (each_vals rv he) er (fun d hd' e he' => List.all_eq_true.mp (List.all_eq_true.mp al d hd') e he') (sortable_of so) le (fun d m => by
    have h1 := List.all_eq_true.mp sh d m
    have h2 : (d.canLay0 && decide (d.depth ≤ 64)) = true := h1
    rw [Bool.and_eq_true] at h2
    have := of_decide_eq_true h2.2
    show X.A.units + 2 + d.depth < cLine
    omega) fun out hlen eo => ?_
  obtain ⟨ys, ry, ey⟩ := vals_each eo
  obtain ⟨ep, he'⟩ := PyProof.Rows.sortedAll_at s.heap its out.toArray
  have hlen2 : ys.length ≤ sizeLine := by rw [ry.length, hlen]; exact le
  exact ⟨.ref _, upd H (s.heap.objs.size + 1) (.lst ys), I.laid (t' := s.toks) (fun _ _ => PyProof.Rows.sortedAll_old) (Nat.le_succ _) ⟨hlen2, out, ep, ry, he'⟩, rfl, q ys _ ey (I.hok.fresh (Nat.le_succ _))⟩
def gSortedT (S : Sto) (xs : List SV) : Option SV :=
  match xs with
  | [.d (.tuple ds)] => if sortOk ds then some (.own ((sortD ds).map SV.d)) else none
  | _ => none
theorem ok_sortedT {K : PySem.W.Frag} : CalOk K ka kd gSortedT (rSortDT K) := by
  intro C ρ S A G σ H0 H xs z vs gx Q hK I r h q
  subst hK
  unfold gSortedT at h
  split at h
  · rename_i ds
    split at h
    · rename_i hn
      cases h
      obtain ⟨v, rfl, r1⟩ := r.one
      have hl : ds.length ≤ sizeLine := by
        unfold sortOk at hn
        simp only [Bool.and_eq_true] at hn
        exact of_decide_eq_true hn.2
      have fin : ∀ {a : Addr} {vs : List V}, SqT C.K H a vs → DqL C.K H (Fs C A G) ds vs → rSortDT C.K [V.ref a] H Q := fun {a vs} hs rd =>
        ⟨a, vs, ds, _, rfl, hs, DqL.dp _ _ rd, dqL_each rd, hn, fun ys p ey hp => q _ _ (EPost.lst (H1 := H) I (RkL.dats (H := H) (each_dqL ey)) (noOwn_ds _) (by
          have e1 := (each_dqL ey).length
          rw [e1, sortD_length]
          exact hl) hp)⟩
      have d := r1.undat
      cases d with
      | tup e n l rd => exact fin (.inl (.inl e)) rd
      | ctup e l rd => exact fin (SqT.const e H) rd
    · cases h
  · cases h
/-! ### len of a dict -/
def gLenD (S : Sto) (xs : List SV) : Option SV :=
  match xs with
  | [.dic ks _] => some (.d (.int ks.length))
  | _ => none
theorem ok_lenD {K : PySem.W.Frag} : CalOk K ka kd gLenD (fun xs H Q => ∃ a kvs, xs = [V.ref a] ∧ H a = some (.dK kvs) ∧ Q (.int kvs.length) H) := by
  intro C ρ S A G σ H0 H xs z vs gx Q hK I r h q
  subst hK
  unfold gLenD at h
  split at h
  · cases h
    obtain ⟨v, rfl, r1⟩ := r.one
    obtain ⟨r1, hg⟩ := r1.asBe
    cases r1 with
    | dic e kl l r =>
      refine ⟨_, _, rfl, e, ?_⟩
      rw [List.length_zip, List.length_map, kl, Nat.min_self]
      exact q _ H (EPost.same I (Rk.dat (.int _)))
  · cases h
/-! ### l.index(x) -/
def idxD : List PyData → PyData → Option Nat
  | [], _ => none
  | z :: ds, d => if PyData.eqv z d then some 0 else (idxD ds d).map (· + 1)
theorem idxD_is : ∀ {ds : List PyData} {d : PyData} {j : Nat}, idxD ds d = some j → ∃ z, ds[j]? = some z ∧ PyData.eqv z d = true ∧ ∀ (m : Nat) (z' : PyData), m < j → ds[m]? = some z' → PyData.eqv z' d = false
  | [], _, _, h => by cases h
  | z :: ds, d, j, h => by
    unfold idxD at h
    split at h
    · rename_i e
      cases h
      exact ⟨z, rfl, e, fun m _ hm => absurd hm (Nat.not_lt_zero _)⟩
    · rename_i e
      simp only [Option.map_eq_some_iff] at h
      obtain ⟨i, hi, rfl⟩ := h
      obtain ⟨y, h1, h2, h3⟩ := idxD_is hi
      refine ⟨y, by simpa using h1, h2, fun m z' hm hz => ?_⟩
      cases m with
      | zero =>
        simp only [List.getElem?_cons_zero, Option.some.injEq] at hz
        subst hz
        exact Bool.eq_false_iff.mpr e
      | succ m => exact h3 m z' (by omega) (by simpa using hz)
def gIdx (S : Sto) (x y : SV) : Option SV := match y with
  | .d d => (lst? S x).bind fun ys => (allD ys).bind fun ds => if SeqAt.shaped (.list ds) && SeqAt.shaped d then (idxD ds d).map fun (j : Nat) => .d (.int (j : Int)) else none
  | _ => none
def eIdx (fa fb : Rho → Mo SV) : Rho → Mo SV := fun ρ S => bindM (fa ρ S) fun x S1 => if (lst? S1 x).isSome then bindM (fb ρ S1) fun y S2 => (gIdx S2 x y).map fun z => .ok z S2 else none
theorem ok_idx {K : PySem.W.Frag} : OpOk K ka kb kd gIdx (fun x y H Q => rIndexD K x [y] H Q) := by
  intro C ρ S A G σ H0 H1 H x y z v u gx gy Q hK I rx ry h q
  subst hK
  unfold gIdx at h
  split at h
  · rename_i d
    simp only [Option.bind_eq_some_iff] at h
    obtain ⟨ys, hy, ds, hd, h⟩ := h
    split at h
    · rename_i hs
      rw [Bool.and_eq_true] at hs
      simp only [Option.map_eq_some_iff] at h
      obtain ⟨j, hj, rfl⟩ := h
      obtain ⟨z, h1, h2, h3⟩ := idxD_is hj
      obtain ⟨a, vs, ga, rfl, hl, l, r2⟩ := rx.lst I hy
      have rd := r2.undat hd
      exact ⟨a, u, d, ds, j, z, rfl, rfl, .lst (.of hl) (DqL.dp _ _ rd), Dq.dp _ _ ry.undat, hs.1, hs.2, h1, h2, h3, q _ H (EPost.same I (Rk.dat (.int _)))⟩
    · cases h
  · cases h
theorem v_index {ap cp : Pos} (hk : C.K = X.K) (hu : X.A.units + 65 < cLine) (ho : PE X o (tV C W ka fo)) (hb : PE X e (tV C W kb fb))
    (hbase : attributeBase o "index" X.env (eval o X.env) = eval o X.env := by rfl)
    (hfew : ((backTo cp (starEach [e] X.env)).all (fun x => !x.1) && (backToKw cp (keywordEach [] X.env)).all (fun x => x.1.isSome)
      && decide (([e] : List Expr).length + ([] : List Keyword).length + (if ([] : List Keyword).isEmpty then 0 else 1) < 30)) = true := by rfl)
    (hline : (ap.endLine == cp.line) = true := by rfl) (hs : starEach [e] X.env = (false, eval e X.env) :: starEach [] X.env := by rfl) (hplain : (backTo cp (starEach [] X.env)).any (·.1) = false := by rfl) :
    PE X (.Call (.Attribute o "index" ap) [e] [] cp) (tV C W kd (eIdx fo fb)) := by
  refine pe_imp (pe_bm PySem.F.plainAttrs_list PySem.F.slot_list_index PySem.F.type_list_index (mt_indexD hu) ho (pa_cons hb (pa_nil) hs) hbase hfew hline hs hplain) fun σ H Q ⟨P, ρ, S, A, G, hP, I, q⟩ => ?_
  refine ⟨P, ρ, S, A, G, hP, I, EGood.step q (fun _ _ _ _ _ _ z => z) fun x S1 q v H1 p => ?_⟩
  obtain ⟨A1, g1, P1, e1, hP1, I1, k1, _⟩ := p.next
  split at q
  case isFalse => exact q.elim
  rename_i hx
  obtain ⟨ys, hy⟩ := Option.isSome_iff_exists.mp hx
  refine ⟨?_, P1, ρ, S1, A1, G, fun a z => hP1 a (hP a z), I1, EGood.step q (fun _ _ _ _ _ _ z => z.trans e1) fun y S2 q u H2 p => ?_⟩
  · obtain ⟨a, vs, ga, rfl, hl, l, r2⟩ := k1.lst (show Sim (C.pr P) ρ S1 A1 G σ H1 from (show Sim ((C.pr P1).pr P) ρ S1 A1 G σ H1 from Sim.prc I1 hP1)) hy
    exact .inl ⟨rfl, vs, .inl (.inl hl)⟩
  · obtain ⟨A2, g2, e2, I2, k2⟩ := p
    cases eg : gIdx S2 x y with
    | none => rw [eg] at q; exact q.elim
    | some z =>
      rw [eg] at q
      have I2' : Sim (C.pr P) ρ S2 A2 G σ H2 := (show Sim ((C.pr P1).pr P) ρ S2 A2 G σ H2 from Sim.prc I2.pgw hP1)
      have := ok_idx (K := X.K) (C.pr P) ρ S2 A2 G σ H H1 H2 x y z v u g1 g2 Q hk I2' (k1.ext e2) (k2.prw hP1) eg fun w H' p => q w H' (p.trans (e1.trans e2))
      exact this
end
end VL

end
section
set_option Elab.async false
set_option linter.all false
set_option maxRecDepth 100000
/-! VL26: t = [d.setdefault(x, len(d)) for x in xs], d an empty dict of one's own. -/
namespace VL
open PySem PySem.Spec PyProof.Rows L2
abbrev vrng (n : Nat) : List V := (List.range n).map fun (j : Nat) => V.int (j : Int)
/-- the numbers of things as they come: the keys so far, the numbers so far -/
def sdL : List SV → List Int → List Int → Option (List Int × List Int)
  | [], ks, acc => some (ks, acc)
  | .d (.int n) :: r, ks, acc => if acc.length < sizeLine ∧ ks.length < sizeLine then (match posK ks n with
    | some p => sdL r ks (acc ++ [(p : Int)])
    | none => sdL r (ks ++ [n]) (acc ++ [(ks.length : Int)])) else none
  | _ :: _, _, _ => none
def sSetd (i m v : Nat) (fi : Rho → Mo (List SV)) : Rho → Sto → Option Fl := fun ρ S => bindS ρ (fi ρ S) fun xs S1 => match ρ[i]?, ρ[v]? with
  | some (some (.dic [] [])), some _ => (match sdL xs [] [] with
    | some (ks, acc) => some (.nx ((ρ.set i (some (.dic ks ((List.range ks.length).map fun (j : Nat) => SV.d (.int (j : Int)))))).set m (some (.own (acc.map fun z => SV.d (.int z))))) S1)
    | none => none)
  | _, _ => none
abbrev rLenDic : List V → Hp → VK → Prop := fun xs H Q => ∃ a kvs, xs = [V.ref a] ∧ H a = some (.dK kvs) ∧ Q (.int kvs.length) H
theorem vrng_len (n : Nat) : (vrng n).length = n := by simp
theorem kvz_len (ks : List Int) : (kvz ks (vrng ks.length)).length = ks.length := by simp [kvz]
theorem rsl_ints {K : PySem.W.Frag} {mg : Str → Option Value} {H : Hp} {A : List Addr} {F : Addr → Prop} (ns : List Int) : RsL K mg H A F (ns.map fun z => SV.d (.int z)) (ns.map V.int) [] := by
  have := RsL.ofD (A := A) (mg := mg) (DqL.ofInts (C := ⟨K, mg, H, A, F⟩) (H := H) (F := F) ns)
  rw [List.map_map] at this
  exact this
section
variable {X : Cx} {C : Ct} {W : WX} {P : Addr → Prop} {ρ : Rho} {S : Sto} {A : List Addr} {G : List (List Addr)} {σ : L2.St} {H : Hp} {fi : Rho → Mo (List SV)}
theorem t_setd {i m v : Nat} (hiv : i ≠ v) : ∀ D σ H, tS C W (sSetd i m v fi) D σ H →
    tAsg (tLc (tI C W true fi) (gName v) tYes (tDSetd (tVar i) (tVar v) (tCB rLenDic (tCons (tVar i) tNil))) [v]) (gName m) D σ H := by
  intro D σ H ⟨ρ, S, A, G, I, q⟩
  refine ⟨C.Pr, ρ, S, A, G, fun _ h => h, I, SGood.step q fun xs S1 q J H1 p => ?_⟩
  obtain ⟨A1, e1, I1, wk⟩ := p
  have I1 : Sim C ρ S1 A1 G σ H1 := I1
  split at q
  case h_2 => exact q.elim
  rename_i w0 hi hv0
  cases hs : sdL xs [] [] with
  | none => rw [hs] at q; exact q.elim
  | some r =>
  obtain ⟨ks2, acc2⟩ := r
  rw [hs] at q
  simp only at q
  obtain ⟨v0, g, e0, r0, sb⟩ := I1.slots i _ hi
  cases r0 with
  | @dic a0 _ _ vs0 g1 e kl l r =>
  cases r
  have ha0 : a0 ∈ G[i]?.getD [] := sb.subset List.mem_cons_self
  have aG : a0 ∈ G.flatten := getD_mem ha0
  have a0t : H1 a0 ≠ none := I1.trk a0 (List.mem_append_right _ aG)
  have E0a : C.E0 a0 = none := by
    rcases I1.fresh a0 (List.mem_append_right _ aG) with z | z
    · exact absurd rfl ((List.nodup_append.mp I1.nd).2.2 a0 (I1.pre.subset z) a0 aG)
    · exact z
  have npa : ¬ C.Pr a0 := fun z => (I1.prot a0 z).1 (List.mem_append_right _ aG)
  have e : H1 a0 = some (.dK []) := e
  intro L hL
  have hLa : a0 ≠ L := fun z => a0t (by rw [z]; exact hL)
  have E0L : C.E0 L = none := I1.e0 L hL
  have J1 : Sim (C.pr fun b => (C.Pr b ∨ b ∈ G[i]?.getD []) ∨ b = L) (ρ.set i none) S1 A1 (G.set i []) σ (upd H1 L (.lst [])) := Sim.newP (C := C.pr fun b => C.Pr b ∨ b ∈ G[i]?.getD []) (I1.drop i) hL
  have hlv : σ[i]? = some (some (V.ref a0)) := e0
  refine ⟨fun t n H' => n = xs.length - t ∧ ∃ ks acc, t ≤ xs.length ∧ sdL (xs.drop t) ks acc = some (ks2, acc2) ∧ Sim (C.pr fun b => (C.Pr b ∨ b ∈ G[i]?.getD []) ∨ b = L) (ρ.set i none) S1 A1 (G.set i []) σ H' ∧
    H' a0 = some (.dK (kvz ks (vrng ks.length))) ∧ H' L = some (.lst (acc.map V.int)) ∧ acc.length ≤ sizeLine ∧ ks.length ≤ sizeLine ∧ (∀ b o, H1 b = some o → b ≠ a0 → H' b = some o),
    ⟨xs.length - 0, rfl, [], [], Nat.zero_le _, by rw [List.drop_zero]; exact hs, J1, by rw [upd_ne hLa]; exact e, upd_same, Nat.zero_le _, Nat.zero_le _, fun b o h n => by rw [upd_ne (ne_of_none h hL)]; exact h⟩, ?_⟩
  rintro t n H' ⟨rfl, ks, acc, ht, hc, Is, hA, hLl, hl1, hl2, hk⟩
  have there : ∀ b, H1 b ≠ none → H' b ≠ none := fun b h => by
    by_cases z : b = a0
    · rw [z, hA]; simp
    · cases hb : H1 b with
      | none => exact absurd hb h
      | some o => rw [hk b o hb z]; simp
  have ex : ExtS A1 G H1 A1 G H' := ⟨List.prefix_refl _, fun b m => .inl m, fun b o h n => hk b o h fun z => n (by rw [z]; exact List.mem_append_right _ aG), there⟩
  by_cases hlt : t < xs.length
  · have hx : xs[t]? = some xs[t] := List.getElem?_eq_getElem hlt
    obtain ⟨jgo, jy⟩ := wk.go C.Pr A1 G H' (fun b z => .inl z) ex (fun z => by cases z) (fun b z => there b (I1.fsTrk z)) t _ hx
    rw [List.drop_eq_getElem_cons hlt] at hc
    refine .inr ⟨jgo, fun H2 => ∃ ks acc, t + 1 ≤ xs.length ∧ sdL (xs.drop (t + 1)) ks acc = some (ks2, acc2) ∧ Sim (C.pr fun b => (C.Pr b ∨ b ∈ G[i]?.getD []) ∨ b = L) (ρ.set i none) S1 A1 (G.set i []) σ H2 ∧
      H2 a0 = some (.dK (kvz ks (vrng ks.length))) ∧ H2 L = some (.lst (acc.map V.int)) ∧ acc.length ≤ sizeLine ∧ ks.length ≤ sizeLine ∧ (∀ b o, H1 b = some o → b ≠ a0 → H2 b = some o), fun H2 h => ⟨xs.length - (t + 1), by omega, rfl, h⟩, fun y H3 hy => ?_⟩
    obtain ⟨hn, rx⟩ := jy y H3 hy
    generalize xs[t] = x at hc rx
    obtain ⟨nn, rfl⟩ : ∃ nn, x = .d (.int nn) := by
      unfold sdL at hc
      split at hc
      · rename_i hz; cases hz
      · rename_i hz; cases hz; exact ⟨_, rfl⟩
      · cases hc
    rw [sdL] at hc
    split at hc
    case isFalse => cases hc
    rename_i hsz
    have dn := rx.nil_d.2
    obtain rfl : y = .int nn := by cases dn; rfl
    have hA3 : H3 a0 = some (.dK (kvz ks (vrng ks.length))) := by
      rcases hn with rfl | ⟨p, o, hp, rfl⟩
      · exact hA
      · rw [upd_ne (ne_of_none hA hp)]; exact hA
    have hL3 : H3 L = some (.lst (acc.map V.int)) := by
      rcases hn with rfl | ⟨p, o, hp, rfl⟩
      · exact hLl
      · rw [upd_ne (ne_of_none hLl hp)]; exact hLl
    have hk3 : ∀ b o, H1 b = some o → b ≠ a0 → H3 b = some o := fun b o h z => by
      have := hk b o h z
      rcases hn with rfl | ⟨p, o', hp, rfl⟩
      · exact this
      · rw [upd_ne (ne_of_none this hp)]; exact this
    have I3 : Sim (C.pr fun b => (C.Pr b ∨ b ∈ G[i]?.getD []) ∨ b = L) (ρ.set i none) S1 A1 (G.set i []) σ H3 := by
      rcases hn with rfl | ⟨p, o, hp, rfl⟩
      · exact Is
      · exact Is.new hp
    have hLn : ∀ b o, H1 b = some o → b ≠ L := fun b o h => ne_of_none h hL
    refine ⟨?_, ?_⟩
    · show L2.wipe (((L2.wipe σ [v]).set v (some (.int nn)))) [v] = L2.wipe σ [v]
      show (((σ.set v none).set v (some (.int nn)))).set v none = σ.set v none
      rw [List.set_set, List.set_set]
    show tDSetd (tVar i) (tVar v) (tCB rLenDic (tCons (tVar i) tNil)) ((σ.set v none).set v (some (V.int nn))) H3 _
    rw [List.set_set]
    have si : (σ.set v (some (V.int nn)))[i]? = some (some (.ref a0)) := by rw [List.getElem?_set_ne (Ne.symm hiv)]; exact hlv
    have sv : (σ.set v (some (V.int nn)))[v]? = some (some (.int nn)) := by
      have h1 := (List.getElem?_eq_some_iff.mp hv0).1
      rw [List.getElem?_set_self (by rw [← I1.lr]; exact h1)]
    refine ⟨.ref a0, si, a0, rfl, .inl ⟨_, .inl hA3⟩, .int nn, sv, .ref a0, si, a0, _, rfl, hA3, kvz ks (vrng ks.length), .inl nn, hA3, rfl, by rw [kvz_len]; exact hsz.2, fun w hw => ?_, fun hw => ?_⟩
    · rw [valV_kvz (vrng_len _)] at hw
      cases hp : posK ks nn with
      | none => rw [hp] at hw; cases hw
      | some p =>
        rw [hp] at hw hc
        simp only [Option.bind_some] at hw
        have hpl := posK_lt hp
        obtain rfl : w = .int p := by
          simp [hpl] at hw
          exact hw.symm
        refine ⟨acc.map V.int, hL3, by rw [List.length_map]; exact hsz.1, ks, acc ++ [(p : Int)], hlt, hc, Sim.updP I3 (.inr rfl) E0L, by rw [upd_ne hLa]; exact hA3, by rw [upd_same, List.map_append]; rfl, by rw [List.length_append]; exact hsz.1, hl2, fun b o h z => by rw [upd_ne (hLn b o h)]; exact hk3 b o h z⟩
    · rw [valV_kvz (vrng_len _)] at hw
      have hp : posK ks nn = none := by
        cases hp : posK ks nn with
        | none => rfl
        | some p =>
          have hpl := posK_lt hp
          rw [hp] at hw
          simp [hpl] at hw
      rw [hp] at hc
      rw [kvz_len]
      refine ⟨acc.map V.int, by rw [upd_ne (Ne.symm hLa)]; exact hL3, by rw [List.length_map]; exact hsz.1, ks ++ [nn], acc ++ [(ks.length : Int)], hlt, hc, Sim.updP (Sim.updP I3 (.inl (.inr ha0)) E0a) (.inr rfl) E0L, ?_, by rw [upd_same, List.map_append]; rfl, by rw [List.length_append]; exact hsz.1, by rw [List.length_append]; exact hsz.2, fun b o h z => by rw [upd_ne (hLn b o h), upd_ne z]; exact hk3 b o h z⟩
      rw [upd_ne hLa, upd_same, kvz_snoc (vrng_len _) hp]
      congr 3
      unfold vrng
      rw [List.length_append, List.length_singleton, List.range_succ, List.map_append]
      rfl
  · have hie : t = xs.length := by omega
    rw [List.drop_eq_nil_of_le (by omega)] at hc
    cases hc
    refine .inl ⟨wk.stop A1 G H' ex (fun z => by cases z) t (by omega), ?_⟩
    show D.nx (σ.set m (some (.ref L))) H'
    have rk : Rs C.K C.mg H' A1 (fun b => Fs (C.pr fun b => C.Pr b ∨ b ∈ [L]) A1 (G.set i []) b ∨ b ∈ [a0]) (.dic ks2 ((List.range ks2.length).map fun (j : Nat) => SV.d (.int (j : Int)))) (.ref a0) [a0] := by
      have := rsl_ints (K := C.K) (mg := C.mg) (H := H') (A := A1) (F := fun b => Fs (C.pr fun b => C.Pr b ∨ b ∈ [L]) A1 (G.set i []) b ∨ b ∈ [a0]) ((List.range ks2.length).map fun (j : Nat) => (j : Int))
      rw [List.map_map, List.map_map] at this
      exact .dic hA (vrng_len _) (by rw [vrng_len]; exact hl2) this
    have K1 : Sim (C.pr fun b => C.Pr b ∨ b ∈ [L]) (ρ.set i (some (.dic ks2 ((List.range ks2.length).map fun (j : Nat) => SV.d (.int (j : Int)))))) S1 A1 (G.set i [a0]) σ H' :=
      Sim.backD (C := C.pr fun b => C.Pr b ∨ b ∈ [L]) (g0 := []) (P := fun b => (C.Pr b ∨ b ∈ G[i]?.getD []) ∨ b = L) e0 Is (fun b z => by
        obtain rfl : b = a0 := by simpa using z
        exact .inl (.inr ha0)) (fun b z => by
        rcases z with z | z
        · exact .inl (.inl z)
        · exact .inr (by simpa using z)) rk (by simp) (fun b z => by
        obtain rfl : b = a0 := by simpa using z
        exact E0a) (fun b z w => by
        obtain rfl : b = a0 := by simpa using z
        rcases w with w | w
        · exact npa w
        · exact hLa (by simpa using w))
    have K2 := Sim.put (C := C) (i := m) (g := [L]) (x := .own (acc2.map fun z => SV.d (.int z))) (v := .ref L) K1 (.own hLl (by rw [List.length_map]; exact hl1) (rsl_ints acc2)) (by simp) (fun b z => by
        obtain rfl : b = L := by simpa using z
        exact E0L) (fun b z w => by
        obtain rfl : b = L := by simpa using z
        exact (I1.prot b w).2 hL)
    refine q A1 _ _ H' ⟨e1.pre, fun b z => ?_, fun b o h n => ?_, fun b h => there b (e1.there b h)⟩ K2
    · rcases List.mem_append.mp z with z | z
      · exact (e1.new b z).imp (List.mem_append_left _) id
      · rcases flatten_set_sub z with z | z
        · rcases flatten_set_sub z with z | z
          · exact .inl (List.mem_append_right _ z)
          · obtain rfl : b = a0 := by simpa using z
            exact .inl (List.mem_append_right _ aG)
        · obtain rfl : b = L := by simpa using z
          exact .inr (none_back e1 hL)
    · exact hk b o (e1.keep b o h fun z => n (List.mem_append_left _ z)) fun z => n (by rw [z]; exact List.mem_append_right _ aG)
/-- t = [d.setdefault(x, len(d)) for x in xs] -/
theorem s_setd {i m v : Nat} {y : Str} {py pos spos a1 c1 : Pos} {tg iter od on ln : Expr} {scope : Scope} {own : List (Str × Nat)} (hiv : i ≠ v) (how : own.map (·.2) = [v]) (hy : X.N[m]? = some y) (hyl : X.env.scope.names.lookup y = some .local) (hc : X.calm = true) (hN : X.N.Nodup) (hi : PI X tg iter (tI C W true fi)) (ok : BlkOk X.N X.env.scope scope own)
    (hg : ∀ (s : Shared) (H : Hp) (Ca : Addr) (cl : List (Str × Addr)) (fp : List Addr), PG (X.blk s H scope (compEnvC scope cl Ca X.env) fp) tg (gName v))
    (hd : ∀ (s : Shared) (H : Hp) (Ca : Addr) (cl : List (Str × Addr)) (fp : List Addr), PE (X.blk s H scope (compEnvC scope cl Ca X.env) fp) od (tVar i))
    (hn : ∀ (s : Shared) (H : Hp) (Ca : Addr) (cl : List (Str × Addr)) (fp : List Addr), PE (X.blk s H scope (compEnvC scope cl Ca X.env) fp) on (tVar v))
    (hl : ∀ (s : Shared) (H : Hp) (Ca : Addr) (cl : List (Str × Addr)) (fp : List Addr), PE (X.blk s H scope (compEnvC scope cl Ca X.env) fp) ln (tCB rLenDic (tCons (tVar i) tNil)))
    (hm : ∀ (s : Shared) (H : Hp) (Ca : Addr) (cl : List (Str × Addr)) (fp : List Addr), M2 (X.blk s H scope (compEnvC scope cl Ca X.env) fp) od "setdefault" a1 on ln c1)
    (hsw : swapsWith (.ListComp (.Call (.Attribute od "setdefault" a1) [on, ln] [] c1) [⟨tg, iter, [], 0⟩] scope pos) (some (.Name y py)) spos.line X.env = pure true := by rfl) (hs : ∀ x, foldedSetIterable iter X.env x = pure x := by intro _; rfl) :
    PS X (.Assign [.Name y py] (.ListComp (.Call (.Attribute od "setdefault" a1) [on, ln] [] c1) [⟨tg, iter, [], 0⟩] scope pos) spos) (tS C W (sSetd i m v fi)) := by
  have h := ps_setLc hc hN hy hyl hsw hi ok hg (fun _ _ _ _ _ => pts_nil) (fun s H Ca cl fp => pe_dsetd (hd s H Ca cl fp) (hn s H Ca cl fp) (hl s H Ca cl fp) (hm s H Ca cl fp)) hs
  rw [how] at h
  exact ps_imp h (t_setd hiv)
end
end VL

end
section
set_option Elab.async false
set_option linter.all false
set_option maxRecDepth 100000
/-! VL27: division of ints of any size (the import of _pylong is not seen by anybody); the hook that looks at the statics, too. -/
namespace VL
open PySem PySem.Spec PyProof.Rows L2

def nsNo (K : PySem.W.Frag) (a : Addr) (x : Str) : Bool := match PySem.W.nsIn K a x with
  | some none => true
  | _ => false
theorem nsNo_eq {K : PySem.W.Frag} {a : Addr} {x : Str} (e : nsNo K a x = true) : PySem.W.nsIn K a x = some none := by
  unfold nsNo at e
  split at e
  · assumption
  · cases e
theorem ns_no {K : PySem.W.Frag} {h : Heap} {a : Addr} {m : Str → Option Value} {x : Str} (X : K.In h) (G : h.Ns a m) (e : PySem.W.nsIn K a x = some none) : m x = none := by
  obtain ⟨o, es, ep, g1, g2, _, g3⟩ := G
  cases q : K.lookup a with
  | none => simp [PySem.W.nsIn, q] at e
  | some u =>
    have r := (X _ _ q).symm.trans g1
    obtain ⟨c, d, dt, sl⟩ := u
    cases r
    cases g2
    have z : nsFind es x = none := by
      simp only [PySem.W.nsIn, q] at e
      cases y : es.toList.find? (fun z => z.key.isStr x) with
      | some w => rw [y] at e; cases e
      | none =>
        have := Array.find?_toList (p := fun z : DictEntry => z.key.isStr x) (xs := es)
        rw [y] at this
        simp only [nsFind, findBy]
        rw [← this]
        rfl
    exact (g3 x).symm.trans z
/-- a namespace's keys are words -/
def strKeys (K : PySem.W.Frag) (a : Addr) : Bool := match K.lookup a with
  | some ⟨_, _, .dict es _, _⟩ => es.toList.all fun e => match e.key with
    | .str _ _ => true
    | _ => false
  | _ => false
theorem strKeys_ns {K : PySem.W.Frag} {h : Heap} {a : Addr} (X : K.In h) (e : strKeys K a = true) : ∃ m, h.Ns a m := by
  cases q : K.lookup a with
  | none => simp [strKeys, q] at e
  | some u =>
    obtain ⟨c, d, dt, sl⟩ := u
    cases dt with
    | dict es ep =>
      simp only [strKeys, q, List.all_eq_true] at e
      refine ⟨nsFind es, _, es, ep, X _ _ q, rfl, fun z m => ?_, fun _ => rfl⟩
      have := e z (Array.mem_toList_iff.mpr m)
      split at this
      · rename_i n t k
        exact ⟨n, t, k⟩
      · cases this
    | _ => simp [strKeys, q] at e
def bltB (K : PySem.W.Frag) : Bool := match PySem.W.nsIn K mainGlobals "__builtins__" with
  | some (some (.ref b)) => (match K.lookup b with
    | some ob => (match ob.cls with
      | .type n => n == "module"
      | _ => false) && ob.dict == some builtinsNs
    | none => false)
  | _ => false
def seerB (K : PySem.W.Frag) : Bool := nsNo K cStatics "sys.audit-hooks" && nsNo K cStatics "sys.dict" && strKeys K sysModules && nsNo K sysModules "_pylong" && bltB K
structure SeerP (P : Program) (K : PySem.W.Frag) : Prop where
  ok : seerB K = true
  tree : P.given.tree = none
theorem noSeer_of {K : PySem.W.Frag} {mg : Str → Option Value} {base : Heap} (M : Mod K mg base) (e : seerB K = true) : base.NoSeer := by
  simp only [seerB, Bool.and_eq_true] at e
  obtain ⟨⟨⟨⟨e1, e2⟩, e3⟩, e4⟩, e5⟩ := e
  obtain ⟨mc, c1, c2⟩ := M.nolimit
  obtain ⟨mm, c3⟩ := strKeys_ns M.kin e3
  refine ⟨⟨mc, c1, ns_no M.kin c1 (nsNo_eq e1), ns_no M.kin c1 (nsNo_eq e2)⟩, ⟨mm, c3, ns_no M.kin c3 (nsNo_eq e4)⟩, M.blt, ?_⟩
  unfold bltB at e5
  split at e5
  · rename_i b hb
    split at e5
    · rename_i ob ho
      obtain ⟨e6, e7⟩ := Bool.and_eq_true_iff.mp e5
      split at e6
      · rename_i n hn
        exact ⟨mg, b, ob, M.glob, PySem.W.mg_of M.kin M.glob hb, M.kin _ _ ho, by rw [hn, beq_iff_eq.mp e6], beq_iff_eq.mp e7⟩
      · cases e6
    · cases e5
  · cases e5
section
variable {X : Cx} {C : Ct} {W : WX} {kd ka kb : Kd} {a b : Expr} {pos : Pos} {fa fb : Rho → Mo SV}
/-- the code of a def runs, with room for the import -/
structure PyRoom (X : Cx) : Prop where
  seer : SeerP X.prog X.K
  stk : X.stack = X.env :: X.outer
  gen : X.env.scope.isGenerator = false
  co : X.env.scope.isCoroutine = false
  dp : X.A.depth + 100 < recursionLimit
theorem pyroom {P : Program} {w : World} {K : PySem.W.Frag} {mg : Str → Option Value} {base : Heap} {N : List Str} {qual : Str} {scope : Scope} {f : Addr} {cd : Value} {A : Around} {outer : List Env} {s : Shared} {H : Hp} {E : XK} {k : Nat}
    (sr : SeerP P K) (hr : Room k (A.deeper (envOfC qual scope s.heap.objs.size f cd))) (hk : 32 ≤ k) (hg : scope.isGenerator = false) (hc : scope.isCoroutine = false) : PyRoom (cxOf (L2.CX P w) P w K mg base N qual scope f cd A outer s H E) :=
  ⟨sr, rfl, hg, hc, by have := hr.dp; show (A.deeper (envOfC qual scope s.heap.objs.size f cd)).depth + 100 < _; omega⟩
theorem op_fdivS (r : PyRoom X) : OpR X (binaryOp .FloorDiv) (rI (fun i j => j ≠ 0) fun i j => .int (i.fdiv j)) := by
  intro pins s σ H x y v u Q I rx ry h
  obtain ⟨i, j, rfl, rfl, hc, q⟩ := h
  obtain ⟨t, rfl⟩ := rx
  obtain ⟨t', rfl⟩ := ry
  have hs : SeerAt (model X.prog X.w) X.A s.heap := SeerAt.of ((noSeer_of I.mod r.seer.ok).keeps I.bk) r.seer.tree (I.ok.frames.trans (by rw [r.stk])) r.gen r.co I.ok.blt I.ok.glob
  exact floordiv_int hc ⟨.int (i.fdiv j), H, I.tok _, ⟨_, rfl⟩, q⟩ (.inr (PylongRoom.of I.nolimit (by have := r.dp; show X.A.depth + 100 < _; omega) hs))
def gFdivS (_ : Sto) (x y : SV) : Option SV :=
  match x, y with
  | .d (.int i), .d (.int j) => if j ≠ 0 then some (.d (.int (i.fdiv j))) else none
  | _, _ => none
theorem v_fdivS (r : PyRoom X) (ha : PE X a (tV C W ka fa)) (hb : PE X b (tV C W kb fb)) : PE X (.BinOp a .FloorDiv b pos) (tV C W kd (eBin gFdivS fa fb)) := v_op (op_fdivS r) (fun C ρ S A G σ H0 H1 H x y z v u gx gy Q hK I rx ry h q => by
  unfold gFdivS at h
  split at h
  · rename_i i j
    split at h
    · rename_i hm
      cases h
      exact ⟨i, j, rx.int, ry.int, hm, q _ H (EPost.same I (Rk.dat (.int _)))⟩
    · cases h
  · cases h) ha hb
end
@[simp] theorem gFdivS_i (S : Sto) (i j : Int) : gFdivS S (.d (.int i)) (.d (.int j)) = if j ≠ 0 then some (.d (.int (i.fdiv j))) else none := rfl
/-! ### the hook -/
def asY (g : Addr → Option Obj) (n : Nat) : List Addr := He.asD g n ++ [cStatics, sysModules]
def obsY (n : Nat) (fa : List He.Fa) (fn : List He.DefD) (ex : PySem.W.Frag → Bool) (g : Addr → Option Obj) : He.AlX := (He.obsT fa fn [] (He.frT g (asY g n)), ex (He.frT g (asY g n)))
def hookY (n : Nat) (fa : List He.Fa) (fn : List He.DefD) (ex : PySem.W.Frag → Bool) : PySem.W.Hook where
  α := He.AlX
  obs := fun s => obsY n fa fn ex s.heap.get?
  val := fun w => He.valX fn [] w
  says := fun w h => ∃ K : PySem.W.Frag, K.In h ∧ He.SaysX fa fn [] [] ex w h K
  of := fun _ _ e => ⟨_, He.frT_in, ⟨congrArg Prod.fst e, congrArg Prod.snd e, fun _ m => (nomatch m), fun _ m => (nomatch m), fun _ m => (nomatch m)⟩⟩
  keeps := fun _ _ _ z k => by
    obtain ⟨K, hK, c⟩ := z
    exact ⟨K, hK.keeps k, c.t, c.more, c.hd, c.out, fun _ m => (nomatch m)⟩
theorem obsY_eq {n : Nat} {fa : List He.Fa} {fn : List He.DefD} {ex : PySem.W.Frag → Bool} {g : Addr → Option Obj} {s : Shared} (h : ∀ a, g a = s.heap.get? a) : obsY n fa fn ex g = (hookY n fa fn ex).obs s := by
  obtain rfl : g = s.heap.get? := funext h
  rfl
end VL

end
section
set_option Elab.async false
set_option linter.all false
set_option maxRecDepth 100000
set_option maxHeartbeats 4000000
/-! VL28: a tuple once, or not at all. -/
namespace VL
open PySem PySem.Spec PyProof.Rows L2
theorem tupOnce (l : Addr) (its : Array Value) (n : Nat) (dd : Option Addr) (sl : Array (Option Value)) (x : Int) (u : Tok) (c0 : (decide (x < -(2 ^ 63)) || decide (x ≥ 2 ^ 63)) = false) (c1 : (its.isEmpty || x == 1) = true) :
    Meets (Builtin.«tuple.__mul__» ⟨[.ref l, .int x u], []⟩) (fun _ R s => s.heap.get? l = some { cls := .type "tuple", dict := dd, data := .seq its n, slots := sl } ∧ R (.ok (.ret (.ref l))) s) :=
  .of_wp fun prog w A R s h => by
    obtain ⟨hp, g, d, tk, os⟩ := s
    obtain ⟨hl, h⟩ := h
    have f1 := AutoSeq1.idx_int
    wp_walk using wpAny_loadPart' hl
    refine wpAny_ite_false (decide_eq_false (by rw [c0]; decide)) ?_
    wp_walk using wpAny_loadPart' hl
    repeat (first
      | (refine wpAny_ite_true (decide_eq_true c1) ?_; wp_walk using wpAny_loadPart' hl))
    exact ⟨_, rfl, h⟩
theorem tupNone (l : Addr) (its : Array Value) (n : Nat) (dd : Option Addr) (sl : Array (Option Value)) (x : Int) (u : Tok) (c0 : (decide (x < -(2 ^ 63)) || decide (x ≥ 2 ^ 63)) = false) (c1 : (its.isEmpty || x == 1) = false) (c2 : (decide (x ≤ 0) || its.isEmpty) = true) :
    Meets (Builtin.«tuple.__mul__» ⟨[.ref l, .int x u], []⟩) (fun _ R s => s.heap.get? l = some { cls := .type "tuple", dict := dd, data := .seq its n, slots := sl } ∧ R (.ok (.ret (.ref s.heap.objs.size))) { s with heap := s.heap.push { cls := .type "tuple", data := .seq #[] }, toks := s.toks }) :=
  .of_wp fun prog w A R s h => by
    obtain ⟨hp, g, d, tk, os⟩ := s
    obtain ⟨hl, h⟩ := h
    have f1 := AutoSeq1.idx_int
    wp_walk using wpAny_loadPart' hl
    refine wpAny_ite_false (decide_eq_false (by rw [c0]; decide)) ?_
    wp_walk using wpAny_loadPart' hl
    repeat (first
      | (refine wpAny_ite_false (decide_eq_false (by rw [c1]; decide)) ?_; wp_walk using wpAny_loadPart' hl)
      | (refine wpAny_ite_true (decide_eq_true c2) ?_; wp_walk using wpAny_loadPart' hl))
    exact ⟨_, rfl, h⟩
/-- the same tuple: an empty one, or once -/
def rRepS (K : PySem.W.Frag) : R2 := fun x y H Q => ∃ l k xs, x = .ref l ∧ y = .int k ∧ SqT K H l xs ∧ k.natAbs < 1000000 ∧ (xs = [] ∨ k = 1) ∧ Q (.ref l) H
def rRepN (K : PySem.W.Frag) : R2 := fun x y H Q => ∃ l k xs, x = .ref l ∧ y = .int k ∧ SqT K H l xs ∧ xs ≠ [] ∧ k.natAbs < 1000000 ∧ k ≤ 0 ∧ ∀ p, H p = none → Q (.ref p) (upd H p (.tup []))
section
variable {X : Cx}
theorem bounds63 {k : Int} (h : k.natAbs < 1000000) : (decide (k < -(2 ^ 63)) || decide (k ≥ 2 ^ 63)) = false := by
  rw [decide_eq_false (by omega), decide_eq_false (by omega), Bool.or_self]
theorem op_repS : OpR X (binaryOp .Mult) (rRepS X.K) := by
  intro pins s σ H x y v u Q I rx ry h
  obtain ⟨l, k, xs, rfl, rfl, hT, hk, hc, q⟩ := h
  have rx0 := rx
  cases rx
  obtain ⟨t, rfl⟩ := ry
  obtain ⟨its, r, ⟨⟨cls, dd, data, sl⟩, ho, hcl, n, hd⟩, hs⟩ := I.tuple hT
  simp only at hcl hd
  subst hcl hd
  have c1 : (its.toArray.isEmpty || k == 1) = true := by
    rcases hc with rfl | rfl
    · cases r
      rfl
    · simp
  refine wpAny_binaryOp_repeat_ref (T := "tuple") (U := "int") (by decide) ⟨_, ho, rfl⟩ (fun z => typeIs_int z k t) noFill_tuple_mul F.fills_int_mul F.slot_int_rmul repeat_tuple F.slot_int_index.lookup ?_
  refine call_meets F.slot_int_rmul (typeIs_int s k t) F.entry_int_rmul (F.args_int_rmul_2 _ _) (int_rmul_tuple k t l its.toArray n dd sl) ⟨ho, rfl, ⟨_, ho, rfl⟩, ?_⟩
  exact call_meets F.slot_tuple_mul ⟨_, ho, rfl⟩ F.entry_tuple_mul (F.args_tuple_mul_2 _ _) (tupOnce l its.toArray n dd sl k t (bounds63 hk) c1) ⟨ho, _, _, I, rx0, q⟩
theorem op_repN : OpR X (binaryOp .Mult) (rRepN X.K) := by
  intro pins s σ H x y v u Q I rx ry h
  obtain ⟨l, k, xs, rfl, rfl, hT, hne, hk, h0, q⟩ := h
  cases rx
  obtain ⟨t, rfl⟩ := ry
  obtain ⟨its, r, ⟨⟨cls, dd, data, sl⟩, ho, hcl, n, hd⟩, hs⟩ := I.tuple hT
  simp only at hcl hd
  subst hcl hd
  have e : its.toArray.isEmpty = false := by
    cases r with
    | nil => exact absurd rfl hne
    | cons _ _ => rfl
  have c1 : (its.toArray.isEmpty || k == 1) = false := by
    rw [e, Bool.false_or, beq_eq_false_iff_ne]
    omega
  have c2 : (decide (k ≤ 0) || its.toArray.isEmpty) = true := by rw [decide_eq_true h0, Bool.true_or]
  refine wpAny_binaryOp_repeat_ref (T := "tuple") (U := "int") (by decide) ⟨_, ho, rfl⟩ (fun z => typeIs_int z k t) noFill_tuple_mul F.fills_int_mul F.slot_int_rmul repeat_tuple F.slot_int_index.lookup ?_
  refine call_meets F.slot_int_rmul (typeIs_int s k t) F.entry_int_rmul (F.args_int_rmul_2 _ _) (int_rmul_tuple k t l its.toArray n dd sl) ⟨ho, rfl, ⟨_, ho, rfl⟩, ?_⟩
  refine call_meets F.slot_tuple_mul ⟨_, ho, rfl⟩ F.entry_tuple_mul (F.args_tuple_mul_2 _ _) (tupNone l its.toArray n dd sl k t (bounds63 hk) c1 c2) ⟨ho, ?_⟩
  refine ⟨.ref s.heap.objs.size, _, I.laid (t' := s.toks) (o := .tup []) (fun b ob z => Heap.get?_push_of_some _ z) (Nat.le_refl _) ?_, rfl, q _ (I.hok.fresh (Nat.le_refl _))⟩
  exact ⟨Nat.zero_le _, _, .nil, IsTup.new _ _⟩
end
def gMulT (S : Sto) (x y : SV) : Option SV := match x, y with
  | .d (.tuple ds), .d (.int k) => if ds = [] ∨ k = 1 then (if k.natAbs < 1000000 then some (.d (.tuple ds)) else none) else if k ≤ 0 then (if k.natAbs < 1000000 then some (.d (.tuple [])) else none) else gMulA S x y
  | x, y => gMulA S x y
section
variable {X : Cx} {C : Ct} {W : WX} {kd ka kb : Kd} {a b : Expr} {pos : Pos} {fa fb : Rho → Mo SV}
theorem ok_mulT {K : PySem.W.Frag} : OpOk K ka kb kd gMulT (fun x y H Q => rRepS K x y H Q ∨ rRepN K x y H Q ∨ rRepT K x y H Q ∨ (rI IntMulOk (fun i j => .int (i * j))) x y H Q ∨ rRep x y H Q) := by
  intro C ρ S A G σ H0 H1 H x y z v u gx gy Q hK I rx ry h q
  have old : gMulA S x y = some z → _ := fun e => ok_mulA C ρ S A G σ H0 H1 H x y z v u gx gy Q hK I rx ry e q
  unfold gMulT at h
  split at h
  · rename_i ds k
    split at h
    · rename_i hc
      split at h
      · rename_i hk
        cases h
        obtain ⟨a, vs, rfl, hs, l, r⟩ := rx.tup
        refine .inl ⟨a, k, vs, rfl, ry.int, (by rw [← hK]; exact hs), hk, ?_, q _ H (EPost.same I (Rk.fe_of rx rfl))⟩
        rcases hc with rfl | rfl
        · cases r
          exact .inl rfl
        · exact .inr rfl
      · cases h
    · rename_i hc
      split at h
      · rename_i hk
        split at h
        · rename_i hb
          cases h
          obtain ⟨a, vs, rfl, hs, l, r⟩ := rx.tup
          refine .inr (.inl ⟨a, k, vs, rfl, ry.int, (by rw [← hK]; exact hs), fun e => hc (.inl ?_), hb, hk, fun p hp => q _ _ (EPost.tup I .nil (Nat.zero_le _) hp)⟩)
          have := r.length
          rw [e] at this
          exact List.length_eq_zero_iff.mp this.symm
        · cases h
      · exact .inr (.inr (old h))
  · exact .inr (.inr (old h))
theorem v_mulT (hk : C.K = X.K) (ha : PE X a (tV C W ka fa)) (hb : PE X b (tV C W kb fb)) : PE X (.BinOp a .Mult b pos) (tV C W kd (eBin gMulT fa fb)) := v_op (op_repS.or (op_repN.or (op_repT.or (op_mulI.or op_rep)))) (hk ▸ ok_mulT) ha hb
end
section
variable (S : Sto) (i j : Int)
@[simp] theorem gMulT_i : gMulT S (.d (.int i)) (.d (.int j)) = if mulOk i j then some (.d (.int (i * j))) else none := rfl
theorem gMulT_t (d : PyData) (k : Nat) (h : k ≤ 1000) : gMulT S (.d (.tuple [d])) (.d (.int (k : Int))) = some (.d (.tuple (List.replicate k d))) := by
  have h1 : ((k : Int)).natAbs < 1000000 := by omega
  match k with
  | 0 => rfl
  | 1 => rfl
  | k + 2 =>
    have a1 : ¬ ([d] = [] ∨ (((k + 2 : Nat) : Nat) : Int) = 1) := by
      rintro (z | z)
      · cases z
      · omega
    have a2 : ¬ (((k + 2 : Nat) : Nat) : Int) ≤ 0 := by omega
    have a3 : (decide ([d] ≠ []) && decide (2 ≤ (((k + 2 : Nat) : Nat) : Int) ∧ (((k + 2 : Nat) : Nat) : Int) ≤ 1000) && decide ([d].length ≤ 1000)) = true := by
      rw [decide_eq_true (by simp), decide_eq_true (by omega), decide_eq_true (by simp)]
      rfl
    unfold gMulT gMulA
    simp only []
    rw [if_neg a1, if_neg a2, if_pos a3]
    have a4 : (((k + 2 : Nat) : Nat) : Int).toNat = k + 2 := by omega
    rw [a4]
    congr 3
    generalize k + 2 = n
    induction n with
    | zero => rfl
    | succ n ih => simp [List.replicate_succ, ih]
end
end VL

end
section
set_option Elab.async false
set_option linter.all false
set_option maxRecDepth 100000
/-! VL29: x[i], y[j] = a, b of data. -/
namespace VL
open PySem PySem.Spec PyProof.Rows L2
def stD (fl : Rho → Mo Lo) (fi : Rho → Mo SV) (d : PyData) : Rho → Sto → Option (Rho × Sto) := fun ρ S => match fl ρ S with
  | some (.ok l S1) => (match fi ρ S1 with
    | some (.ok (.d (.int k)) S2) => (l.get ρ S2).bind fun xs => (ixN xs.length k).bind fun j => l.put ρ S2 (xs.set j (.d d))
    | _ => none)
  | _ => none
def sSwp (fl1 : Rho → Mo Lo) (fi1 : Rho → Mo SV) (fl2 : Rho → Mo Lo) (fi2 f : Rho → Mo SV) : Rho → Sto → Option Fl := fun ρ S => bindS ρ (f ρ S) fun x S1 => match x with
  | .d (.tuple [a, b]) => (stD fl1 fi1 a ρ S1).bind fun p => (stD fl2 fi2 b p.1 p.2).map fun p => .nx p.1 p.2
  | _ => none
section
variable {X : Cx} {C : Ct} {W : WX} {kd kb kb2 : Kd} {e : Expr} {pos : Pos} {f fb fb2 : Rho → Mo SV} {fl fl2 : Rho → Mo Lo}
theorem storeD {to ti : TE} {ρ ρ' : Rho} {S S' : Sto} {A : List Addr} {G : List (List Addr)} {σ : L2.St} {H : Hp} {d : PyData} {v : V} {Q : L2.St → Hp → Prop} (hto : to = tL C W fl) (hti : ti = tV C W kb fb) (I : Sim C ρ S A G σ H) (ry : Dq C.K H (Fs C A G) d v) (h : stD fl fb d ρ S = some (ρ', S'))
    (hq : ∀ A' G' H', Sim C ρ' S' A' G' σ H' → ExtS A G H A' G' H' → Q σ H') : L2.gSub to ti rSetL v σ H Q := by
  subst hto hti
  unfold stD at h
  cases h1 : fl ρ S with
  | none => rw [h1] at h; cases h
  | some r1 =>
  cases r1 with
  | exc _ _ _ => rw [h1] at h; cases h
  | ok l S1 =>
  rw [h1] at h
  simp only at h
  cases h2 : fb ρ S1 with
  | none => rw [h2] at h; cases h
  | some r2 =>
  cases r2 with
  | exc _ _ _ => rw [h2] at h; cases h
  | ok x S2 =>
  rw [h2] at h
  have hx : ∃ k, x = .d (.int k) := by
    cases x with
    | d y => cases y with
      | int k => exact ⟨k, rfl⟩
      | _ => cases h
    | _ => cases h
  obtain ⟨k, rfl⟩ := hx
  simp only [Option.bind_eq_some_iff] at h
  obtain ⟨xs, hget, j, hj, hput⟩ := h
  refine ⟨C.Pr, ρ, S, A, G, fun _ z => z, I, ?_⟩
  rw [h1]
  intro v2 H2 p
  obtain ⟨A2, a, xs2, rfl, e2, I2, hget2, hA⟩ := p
  refine ⟨C.Pr, ρ, S1, A2, G, fun _ z => z, I2, ?_⟩
  rw [h2]
  intro v3 H3 p
  obtain ⟨A3, g3, e3, I3, r3⟩ := p
  have I3 : Sim C ρ S2 A3 G σ H3 := Sim.pgw (C := C) (kd := kb) I3
  obtain rfl := r3.int
  have hA3 := LoA.ext I2 e3 hget2 hA
  obtain ⟨a', us, gx, q1, q2, q3, q4, q5, q6, q7, q8, q9⟩ := I3.lget hget
  rw [hA3] at q1
  cases q1
  have hlen : us.length = xs.length := q4.length
  have e13 := e2.trans e3
  have ry3 : Rk C .fe [] A3 G H H3 (.d d) v := Rk.ext (C := C) e13 ⟨.d (Dq.mono (fun a z => .inl (z.elim id (fun m => by cases m))) (fun a o q n => q) _ _ ry), List.nodup_nil, fun b m => by cases m⟩
  obtain ⟨ry3, _, _⟩ := ry3
  have hj2 := ixN_seq hj
  have hxj : xs[j]? = some xs[j] := List.getElem?_eq_getElem hj2.2.1
  have I3' : Sim (C.pr fun b => C.Pr b ∨ b ∈ ([] : List Addr)) ρ S2 A3 G σ H3 := by
    have : (fun b => C.Pr b ∨ b ∈ ([] : List Addr)) = C.Pr := by funext b; simp
    rw [this]
    exact I3
  obtain ⟨G', J, sG⟩ := Sim.lput (C := C) (gn := []) (ys := xs.set j (.d d)) (ws := us.set j v) I3' List.nodup_nil (fun b m => by cases m) (fun b m => by cases m) hget hA3 q2 (by rw [List.length_set]; exact q3) hput (fun gx r n _ => by
    obtain ⟨gl, gz, gr, h3, h4⟩ := RsL.setN r hxj
    subst h3
    have n1 := List.nodup_append.mp n
    have n2 := List.nodup_append.mp n1.2.1
    have rset := h4 (.d d) v [] (Rs.mono (fun _ _ q => q) (fun b z => .inl (by
      rcases z with z | z | z | z
      · exact .inl (.inl z)
      · exact .inl (.inr (.inl z))
      · exact .inl (.inr (.inr z))
      · cases z)) (fun b o q n => q) _ _ _ (fun b m o q => q) ry3)
    rw [List.nil_append] at rset
    refine ⟨_, rset, List.nodup_append.mpr ⟨n1.1, n2.2.1, fun b m c m' e => ?_⟩, fun b m => ?_⟩
    · subst e
      exact n1.2.2 b m b (List.mem_append_right _ m') rfl
    · rcases List.mem_append.mp m with m | m
      · exact .inl (List.mem_append_left _ m)
      · exact .inl (List.mem_append_right _ (List.mem_append_right _ m)))
  refine ⟨a, us, k, j, rfl, rfl, q2, by rw [hlen]; exact hj, ?_⟩
  exact hq _ _ _ J (lput_ends (A := A) (G := G) (gn := []) e13 (fun b m => by cases m) q7 sG)
theorem dq_extS {A A' : List Addr} {G G' : List (List Addr)} {H H' : Hp} {d : PyData} {v : V} (x : ExtS A G H A' G' H') (h : Dq C.K H (Fs C A G) d v) : Dq C.K H' (Fs C A' G') d v := by
  refine Dq.mono (fun a z => ?_) (fun a o q n => x.keep a o q fun m => n ?_) _ _ h
  · rcases z with z | z | z
    · rcases x.new a (List.mem_append_left _ z) with w | w
      · rcases List.mem_append.mp w with w | w
        · exact .inl (.inl w)
        · exact .inl (.inr (.inl w))
      · exact .inr w
    · rcases x.new a (List.mem_append_right _ z) with w | w
      · rcases List.mem_append.mp w with w | w
        · exact .inl (.inl w)
        · exact .inl (.inr (.inl w))
      · exact .inr w
    · exact .inl (.inr (.inr z))
  · rcases List.mem_append.mp m with m | m
    · exact .inl m
    · exact .inr (.inl m)
theorem s_swp {o i o2 i2 : Expr} {kt : Nat} {p1 p2 pt : Pos} (hC : X.calm = true) (hk : C.K = X.K) (hl : PE X o (tL C W fl)) (hi : PE X i (tV C W kb fb)) (hl2 : PE X o2 (tL C W fl2)) (hi2 : PE X i2 (tV C W kb2 fb2)) (he : PE X e (tV C W .fe f))
    (hs : swapsWithSole [.Tuple [.Subscript o i p1, .Subscript o2 i2 p2] kt pt] e pos.line X.env = pure false := by rfl) (hw : swappedStores [.Tuple [.Subscript o i p1, .Subscript o2 i2 p2] kt pt] e X.env = pure none := by rfl)
    (h1 : (assignEach [.Tuple [.Subscript o i p1, .Subscript o2 i2 p2] kt pt] X.env).map (·.2) = [assign (.Tuple [.Subscript o i p1, .Subscript o2 i2 p2] kt pt) X.env] := by rfl)
    (hn : (assignEach [.Subscript o i p1, .Subscript o2 i2 p2] X.env).length = 2 := by rfl) (hst : (assignEach [.Subscript o i p1, .Subscript o2 i2 p2] X.env).findIdx? (·.1) = none := by rfl)
    (hz1 : (assignEach [.Subscript o i p1, .Subscript o2 i2 p2] X.env).map (·.2) = assign (.Subscript o i p1) X.env :: (assignEach [.Subscript o2 i2 p2] X.env).map (·.2) := by rfl)
    (hz2 : (assignEach [.Subscript o2 i2 p2] X.env).map (·.2) = assign (.Subscript o2 i2 p2) X.env :: (assignEach [] X.env).map (·.2) := by rfl)
    (ha : ∀ v, assign (.Subscript o i p1) X.env v = (do
      let ov ← holding [v] (eval o X.env)
      let iv ← holding [v, ov] (eval i X.env)
      standAt p1
      holding [v, ov, iv] (setItem ov iv v)
      release [v, ov, iv] []) := by intro _; rfl)
    (ha2 : ∀ v, assign (.Subscript o2 i2 p2) X.env v = (do
      let ov ← holding [v] (eval o2 X.env)
      let iv ← holding [v, ov] (eval i2 X.env)
      standAt p2
      holding [v, ov, iv] (setItem ov iv v)
      release [v, ov, iv] []) := by intro _; rfl) :
    PS X (.Assign [.Tuple [.Subscript o i p1, .Subscript o2 i2 p2] kt pt] e pos) (tS C W (sSwp fl fb fl2 fb2 f)) := by
  refine ps_imp (ps_asg he (L2.pg_tup hC (pgs_cons (L2.pg_sub hl hi set_list ha) (pgs_cons (L2.pg_sub hl2 hi2 set_list ha2) pgs_nil hz2) hz1) hn hst) hs hw h1) fun D σ H ⟨ρ, S, A, G, I, q⟩ => ⟨C.Pr, ρ, S, A, G, fun _ h => h, I, SGood.step q fun y S1 q v H1 p => ?_⟩
  obtain ⟨A1, gn, e1, I1, r1⟩ := p
  have hy : ∃ d1 d2, y = .d (.tuple [d1, d2]) := by
    match y, q with
    | .d (.tuple [a, b]), _ => exact ⟨a, b, rfl⟩
  obtain ⟨d1, d2, rfl⟩ := hy
  simp only at q
  have J1 : Sim C ρ S1 A1 G σ H1 := Sim.pgw (C := C) (kd := .fe) I1
  obtain ⟨r1, _, _⟩ := r1
  obtain ⟨rfl, r1⟩ := r1.nil_d
  have r1 : Dq C.K H1 (Fs C A1 G) (.tuple [d1, d2]) v := Dq.mono (fun a z => .inl (.inl z)) (fun a o q n => q) _ _ r1
  obtain ⟨a, vs, rfl, hsq, hlen, rl⟩ : ∃ a vs, v = .ref a ∧ SqT C.K H1 a vs ∧ vs.length = 2 ∧ DqL C.K H1 (Fs C A1 G) [d1, d2] vs := by
    cases r1 with
    | tup r n l q => exact ⟨_, _, rfl, .inl (.inl r), by rw [q.length]; rfl, q⟩
    | ctup r l q => exact ⟨_, _, rfl, SqT.const r H1, by rw [q.length]; rfl, q⟩
  obtain ⟨v1, v2, rfl, q1, q2⟩ : ∃ v1 v2, vs = [v1, v2] ∧ Dq C.K H1 (Fs C A1 G) d1 v1 ∧ Dq C.K H1 (Fs C A1 G) d2 v2 := by
    cases rl with
    | cons q1 rl =>
      cases rl with
      | cons q2 rl =>
        cases rl
        exact ⟨_, _, rfl, q1, q2⟩
  refine ⟨a, _, rfl, hk ▸ hsq, hlen, v1, [v2], rfl, ?_⟩
  cases hA : stD fl fb d1 ρ S1 with
  | none => rw [hA] at q; exact q.elim
  | some p =>
  obtain ⟨ρ2, S2⟩ := p
  rw [hA] at q
  simp only [Option.bind_some] at q
  cases hB : stD fl2 fb2 d2 ρ2 S2 with
  | none => rw [hB] at q; exact q.elim
  | some p =>
  obtain ⟨ρ3, S3⟩ := p
  rw [hB] at q
  refine storeD rfl rfl J1 q1 hA fun A2 G2 H2 J2 x2 => ⟨v2, [], rfl, ?_⟩
  refine storeD rfl rfl J2 (dq_extS x2 q2) hB fun A3 G3 H3 J3 x3 => ⟨rfl, ?_⟩
  exact q A3 G3 σ H3 ((e1.s).trans (x2.trans x3)) J3
end
end VL

end
section
set_option Elab.async false
set_option linter.all false
set_option maxRecDepth 100000
/-! VL30: len(set(..)) of ints; zip in a for. -/
namespace VL
open PySem PySem.Spec PyProof.Rows L2
def ddS (o : List Int) (x : Int) : List Int := if o.contains x then o else o ++ [x]
/-- each once, as first met -/
def ddI (ns : List Int) : List Int := ns.foldl ddS []
theorem firstMet_dd (ns : List Int) : PyProof.Rows.firstMet (fun i => ns.getD i 0) ns.length = ddI ns := by
  unfold PyProof.Rows.firstMet ddI
  have e : (List.range ns.length).map (fun i => ns.getD i 0) = ns := by
    refine List.ext_getElem (by simp) fun i h1 h2 => ?_
    simp [List.getD, h2]
  rw [e]
  have : PyProof.Rows.step_dedup = ddS := by
    funext o x
    unfold PyProof.Rows.step_dedup ddS
    have : (o.any (· == x)) = o.contains x := by
      induction o with
      | nil => rfl
      | cons a o ih => rw [List.any_cons, List.contains_cons, ih, Bool.beq_comm]
    rw [this]
  rw [this]
theorem ddS_nodup {o : List Int} {x : Int} (h : o.Nodup) : (ddS o x).Nodup := by
  unfold ddS
  split
  · exact h
  · rename_i n
    rw [List.nodup_append]
    refine ⟨h, by simp, fun a ha b hb => ?_⟩
    obtain rfl : b = x := by simpa using hb
    intro e
    rw [e] at ha
    exact n (List.contains_iff_mem.mpr ha)
theorem ddF : ∀ (l o : List Int), o.Nodup → (l.foldl ddS o).Nodup ∧ ∀ k, k ∈ l.foldl ddS o ↔ k ∈ o ∨ k ∈ l
  | [], o, h => ⟨h, fun k => by simp⟩
  | x :: l, o, h => by
    obtain ⟨h1, h2⟩ := ddF l (ddS o x) (ddS_nodup h)
    refine ⟨h1, fun k => ?_⟩
    rw [List.foldl_cons, h2 k]
    unfold ddS
    split
    · rename_i hc
      rw [List.contains_iff_mem] at hc
      constructor
      · rintro (z | z)
        · exact .inl z
        · exact .inr (List.mem_cons_of_mem _ z)
      · rintro (z | z)
        · exact .inl z
        · rcases List.mem_cons.mp z with rfl | z
          · exact .inl hc
          · exact .inr z
    · simp only [List.mem_append, List.mem_cons, List.not_mem_nil, or_false, or_assoc]
theorem ddI_nodup (ns : List Int) : (ddI ns).Nodup := (ddF ns [] List.nodup_nil).1
theorem ddI_mem (ns : List Int) (k : Int) : k ∈ ddI ns ↔ k ∈ ns := by
  have := (ddF ns [] List.nodup_nil).2 k
  unfold ddI
  simpa using this
/-- what set counts -/
def ints1 (S : Sto) : SV → Option (List Int)
  | .d (.tuple ds) => ints? (ds.map .d)
  | x => (lst? S x).bind ints?
def gLenSet (S : Sto) (x : SV) : Option SV := (ints1 S x).bind fun ns => if ns.length < 1000 then some (.d (.int (ddI ns).length)) else none
def rLenSet (K : PySem.W.Frag) : V → Hp → VK → Prop := fun x H Q => ∃ (l : Addr) (ns : List Int), x = V.ref l ∧ (SqL K H l (ns.map V.int) ∨ SqT K H l (ns.map V.int)) ∧ ns.length < 1000 ∧ Q (.int (ddI ns).length) H
section
variable {X : Cx} {C : Ct} {W : WX} {kd ka kb : Kd} {a b : Expr} {fa fb : Rho → Mo SV} {fs : Rho → Mo (List SV)}
theorem pe_lenSet {ta : TE} {p p2 q pos : Pos} (hc : X.calm = true) (hg : Gl X "len") (hm : X.mg "len" = none) (hg2 : Gl X "set") (hm2 : X.mg "set" = none) (ha : PE X a ta)
    (na : starEach [a] X.env = (false, eval a X.env) :: starEach [] X.env := by rfl) : PE X (.Call (.Name "len" p) [.Call (.Name "set" p2) [a] [] q] [] pos) (tUn (rLenSet X.K) ta) := by
  refine ⟨fun pins s σ H Q I h => ?_⟩
  refine Call_ (ld_blt I hg hm PySem.boot_len (PyProof.Rows.callWith_builtin1 (PyProof.Rows.args_cons ?_ rfl) rfl rfl))
  refine Call_ (ld_blt I hg2 hm2 PyProof.Rows.boot_set (PyProof.Rows.callWith_type1 (PyProof.Rows.args_cons (thn (ha.run pins s σ H _ I h) fun v s1 ⟨x, H1, I1, r1, q1⟩ => PyProof.Rows.args_nil ?_) na) na rfl))
  obtain ⟨l, ns, rfl, hq, hl, q1⟩ := q1
  cases r1
  rcases hq with hq | hq
  · obtain ⟨its, r, pl, hz⟩ := I1.list hq
    have hsz : its.toArray.size = ns.length := by rw [List.size_toArray, ← r.length, List.length_map]
    refine call_set_list (I1.ok.hd hc) pl.isList (ns := ns) (by simpa using r.ints) (by rw [hsz]; unfold scanBound; omega) fun h' tk hS hk => PyProof.Rows.args_nil ?_
    rw [hsz, firstMet_dd] at hS
    obtain ⟨o, es, ep, t, ho, hex, hd, _, _, _, hf, hn⟩ := hS
    have hdl : (ddI ns).length < 1000 := by
      have := PyProof.Rows.firstMet_length_le (fun i => ns.getD i 0) ns.length
      rw [firstMet_dd] at this
      omega
    have I2 : Inv X pins σ H1 { s1 with heap := h', toks := tk } := I1.kept fun b o e => hk b o (Heap.lt_size e) e
    exact call_len_set ho hex hd hf (by rw [hn]; omega) ⟨.int (ddI ns).length, H1, I2.tok _, ⟨_, by rw [hn]⟩, q1⟩
  · obtain ⟨its, r, pl, hz⟩ := I1.tuple hq
    refine call_set_tupI ns (I1.ok.hd hc) pl (by simpa using r.ints) (by unfold scanBound; omega) fun h' tk c hS hcl hk => PyProof.Rows.args_nil ?_
    obtain ⟨o, es, ep, t, ho, hex, hd, hg, hnd, hmem, hsb, hf, hn, _⟩ := hS
    have I2 : Inv X pins σ H1 { s1 with heap := h', toks := tk } := I1.kept fun b o e => hk b o e
    have hlen : es.size = (ddI ns).length := by
      have p : (es.toList.map keyOf).Perm (ddI ns) := (List.perm_ext_iff_of_nodup hnd (ddI_nodup ns)).mpr fun k => by
        rw [ddI_mem, ← hmem k]
        simp
      have := p.length_eq
      rw [List.length_map, Array.length_toList] at this
      exact this
    exact call_len_set ho hex hd hf (by unfold scanBound at hsb; omega) ⟨.int (ddI ns).length, H1, I2.tok _, ⟨_, by rw [hlen]⟩, q1⟩
theorem ok_lenSet {K : PySem.W.Frag} : UnOk K ka kd gLenSet (rLenSet K) := by
  intro C ρ S A G σ H0 H x z v gx Q hK I r h q
  subst hK
  unfold gLenSet at h
  simp only [Option.bind_eq_some_iff] at h
  obtain ⟨ns, hns, h⟩ := h
  split at h
  · rename_i hl
    cases h
    have key : (∃ ds, x = .d (.tuple ds) ∧ ints? (ds.map .d) = some ns) ∨ ∃ ys, lst? S x = some ys ∧ ints? ys = some ns := by
      unfold ints1 at hns
      split at hns
      · exact .inl ⟨_, rfl, hns⟩
      · simp only [Option.bind_eq_some_iff] at hns
        exact .inr hns
    rcases key with ⟨ds, rfl, hi⟩ | ⟨ys, hy, hi⟩
    · obtain ⟨a, vs, rfl, hs, l, r2⟩ := r.tup
      have e : vs = ns.map V.int := (RsL.ofD (A := []) (mg := fun _ => none) r2).ints hi
      subst e
      exact ⟨a, ns, rfl, .inr hs, hl, q _ H (EPost.same I (Rk.dat (.int _)))⟩
    · obtain ⟨a, vs, ga, rfl, hs, l, r2⟩ := r.lst I hy
      have e : vs = ns.map V.int := r2.1.ints hi
      subst e
      exact ⟨a, ns, rfl, .inl (.of hs), hl, q _ H (EPost.same I (Rk.dat (.int _)))⟩
  · cases h
theorem v_lenSet {p p2 q pos : Pos} (hk : C.K = X.K) (hc : X.calm = true) (hg : Gl X "len") (hm : X.mg "len" = none) (hg2 : Gl X "set") (hm2 : X.mg "set" = none) (ha : PE X a (tV C W ka fa))
    (na : starEach [a] X.env = (false, eval a X.env) :: starEach [] X.env := by rfl) : PE X (.Call (.Name "len" p) [.Call (.Name "set" p2) [a] [] q] [] pos) (tV C W kd (eUn gLenSet fa)) := pe_imp (pe_lenSet hc hg hm hg2 hm2 ha na) (tV_one (hk ▸ ok_lenSet))
/-! zip of data, in a for -/
def iZipF (fs : Rho → Mo (List SV)) : Rho → Mo (List SV) := fun ρ S => bindM (fs ρ S) fun xs S1 => match xs with
  | [.d (.tuple ds), .d (.tuple es)] => some (.ok (zipL ds es) S1)
  | [.d (.list ds), .d (.list es)] => some (.ok (zipL ds es) S1)
  | _ => none
theorem Rk.lnil {P : Addr → Prop} {g A : List Addr} {G : List (List Addr)} {H0 H : Hp} {ds : List PyData} {v : V} (r : Rk (C.pr P) .be g A G H0 H (.d (.list ds)) v) : g = [] := by
  obtain ⟨r1, _⟩ := r
  exact r1.nil_d.1
theorem i_zipF (hk : C.K = X.K) {p tpos pos : Pos} {elts : List Expr} {kk : Nat} (hg : Gl X "zip") (hm : X.mg "zip" = none) (ha : PA X [a, b] (tVs C W .be fs)) (hs : starEach [a, b] X.env = (false, eval a X.env) :: starEach [b] X.env := by rfl) (hpl : (backTo pos (starEach [b] X.env)).any (·.1) = false := by rfl) :
    PI X (.Tuple elts kk tpos) (.Call (.Name "zip" p) [a, b] [] pos) (tI C W true (iZipF fs)) := by
  refine pi_imp (RZ.pi_zipA hg hm ha hs hpl) fun σ H R ⟨P, ρ, S, A, G, hP, I, q⟩ => ⟨P, ρ, S, A, G, hP, I, EGood.step q (fun _ _ _ _ _ _ z => z) fun xs S1 q vs H1 p => ?_⟩
  obtain ⟨A1, g1, e1, J1, k1⟩ := p
  split at q
  · rename_i ds es
    obtain ⟨v, u, ga, gb, rfl, r1, r2⟩ := k1.two
    obtain ⟨a1, rfl, ⟨y1, s1⟩, w1⟩ := r1.walkT (full := true) J1
    obtain ⟨a2, rfl, ⟨y2, s2⟩, w2⟩ := r2.walkT (full := true) J1
    refine ⟨a1, a2, y1, y2, rfl, .inr ⟨hk ▸ s1, hk ▸ s2, ?_⟩⟩
    rw [← hk]
    exact q _ _ ⟨A1, e1, J1, wk_zipT w1 w2 (allD_map ds) (allD_map es)⟩
  · rename_i ds es
    obtain ⟨v, u, ga, gb, rfl, r1, r2⟩ := k1.two
    obtain ⟨a1, rfl, ⟨y1, s1⟩, w1⟩ := r1.walkF J1 (ds := ds) rfl (fun a m => by rw [r1.lnil] at m; cases m)
    obtain ⟨a2, rfl, ⟨y2, s2⟩, w2⟩ := r2.walkF J1 (ds := es) rfl (fun a m => by rw [r2.lnil] at m; cases m)
    refine ⟨a1, a2, y1, y2, rfl, .inl ⟨hk ▸ s1, hk ▸ s2, ?_⟩⟩
    rw [← hk]
    exact q _ _ ⟨A1, e1, J1, wk_zipL w1 w2 (allD_map ds) (allD_map es)⟩
  · exact q.elim
end
end VL

end
section
set_option Elab.async false
set_option linter.all false
set_option maxRecDepth 100000
/-! VL31: l.count(x), the items data. -/
namespace VL
open PySem PySem.Spec PyProof.Rows L2
def rCountD (K : PySem.W.Frag) : V → List V → Hp → VK → Prop := fun x xs H Q => ∃ (a : Addr) (y : V) (d : PyData) (ds : List PyData), x = V.ref a ∧ xs = [y] ∧ Dp K H (V.ref a) (.list ds) ∧ Dp K H y d ∧
  SeqAt.shaped (.list ds) = true ∧ SeqAt.shaped d = true ∧ Q (.int (ds.countP fun z => PyData.eqv z d)) H
section
variable {X : Cx}
theorem mt_countD (hu : X.A.units + 65 < cLine) : MtR X "list.count" (rCountD X.K) := by
  intro pins s σ H x xs v us Q I rx rxs h
  obtain ⟨a, y, d, ds, rfl, rfl, hl, hy, sl, sd, q⟩ := h
  cases rx
  cases rxs with
  | cons ry rt =>
    rename_i uy ut
    cases rt
    obtain ⟨bs, r1⟩ := Dp.reads I d y uy hy ry
    have hxs : PyData.canLayAll0 ds = true := SeqAt.canLay_of_shaped sl
    have hroom : X.A.units + 1 + min (PyData.depthAll ds) d.depth < cLine := room_in_shaped sd hu
    cases hl with
    | lst hs ha =>
      obtain ⟨its, rv, ⟨⟨cls, dd, data, sls⟩, n, ho, hc, hdn, hdt⟩, hlen⟩ := I.list hs
      simp only at hc hdt
      subst hc hdt
      obtain ⟨as, h4⟩ := Dp.readsAll I ds _ its ha rv
      have hmap : its.map (SeqAt.readOf s.heap) = ds := SeqAt.readsAll_map ds its as hxs h4
      refine call_meets PySem.F.slot_list_count ⟨_, ho, rfl⟩ PySem.F.entry_list_count (PySem.F.args_list_count_2 _ _)
        (SeqAt.list_countAt a its.toArray n dd sls uy (fun u => PyData.eqv (SeqAt.readOf s.heap u) d)) ⟨ho, SeqAt.items_eqAt (vs := its.toArray) (show ReadsAll s.heap its.toArray.toList ds as from h4) r1 hxs (SeqAt.canLay_of_shaped sd) hroom, ?_⟩
      have ec : its.toArray.toList.countP (fun u => PyData.eqv (SeqAt.readOf s.heap u) d) = ds.countP fun z => PyData.eqv z d := by
        show its.countP _ = _
        rw [← hmap, List.countP_map]
        rfl
      refine ⟨.int (ds.countP fun z => PyData.eqv z d : Nat), H, I.tok _, ⟨s.toks, ?_⟩, q⟩
      show Value.int ((its.toArray.toList.countP (fun u => PyData.eqv (SeqAt.readOf s.heap u) d) : Nat) : Int) s.toks = _
      rw [ec]
end
section
variable {X : Cx} {C : Ct} {W : WX} {kd ka kb : Kd} {o e : Expr} {fo fb : Rho → Mo SV}
def gCnt (S : Sto) (x y : SV) : Option SV := match y with
  | .d d => (lst? S x).bind fun ys => (allD ys).bind fun ds => if SeqAt.shaped (.list ds) && SeqAt.shaped d then some (.d (.int (ds.countP fun z => PyData.eqv z d : Nat))) else none
  | _ => none
def eCnt (fa fb : Rho → Mo SV) : Rho → Mo SV := fun ρ S => bindM (fa ρ S) fun x S1 => if (lst? S1 x).isSome then bindM (fb ρ S1) fun y S2 => (gCnt S2 x y).map fun z => .ok z S2 else none
theorem ok_cnt {K : PySem.W.Frag} : OpOk K ka kb kd gCnt (fun x y H Q => rCountD K x [y] H Q) := by
  intro C ρ S A G σ H0 H1 H x y z v u gx gy Q hK I rx ry h q
  subst hK
  unfold gCnt at h
  split at h
  · rename_i d
    simp only [Option.bind_eq_some_iff] at h
    obtain ⟨ys, hy, ds, hd, h⟩ := h
    split at h
    · rename_i hs
      rw [Bool.and_eq_true] at hs
      cases h
      obtain ⟨a, vs, ga, rfl, hl, l, r2⟩ := rx.lst I hy
      have rd := r2.undat hd
      exact ⟨a, u, d, ds, rfl, rfl, .lst (.of hl) (DqL.dp _ _ rd), Dq.dp _ _ ry.undat, hs.1, hs.2, q _ H (EPost.same I (Rk.dat (.int _)))⟩
    · cases h
  · cases h
theorem v_count {ap cp : Pos} (hk : C.K = X.K) (hu : X.A.units + 65 < cLine) (ho : PE X o (tV C W ka fo)) (hb : PE X e (tV C W kb fb))
    (hbase : attributeBase o "count" X.env (eval o X.env) = eval o X.env := by rfl)
    (hfew : ((backTo cp (starEach [e] X.env)).all (fun x => !x.1) && (backToKw cp (keywordEach [] X.env)).all (fun x => x.1.isSome)
      && decide (([e] : List Expr).length + ([] : List Keyword).length + (if ([] : List Keyword).isEmpty then 0 else 1) < 30)) = true := by rfl)
    (hline : (ap.endLine == cp.line) = true := by rfl) (hs : starEach [e] X.env = (false, eval e X.env) :: starEach [] X.env := by rfl) (hplain : (backTo cp (starEach [] X.env)).any (·.1) = false := by rfl) :
    PE X (.Call (.Attribute o "count" ap) [e] [] cp) (tV C W kd (eCnt fo fb)) := by
  refine pe_imp (pe_bm PySem.F.plainAttrs_list PySem.F.slot_list_count PySem.F.type_list_count (mt_countD hu) ho (pa_cons hb (pa_nil) hs) hbase hfew hline hs hplain) fun σ H Q ⟨P, ρ, S, A, G, hP, I, q⟩ => ?_
  refine ⟨P, ρ, S, A, G, hP, I, EGood.step q (fun _ _ _ _ _ _ z => z) fun x S1 q v H1 p => ?_⟩
  obtain ⟨A1, g1, P1, e1, hP1, I1, k1, _⟩ := p.next
  split at q
  case isFalse => exact q.elim
  rename_i hx
  obtain ⟨ys, hy⟩ := Option.isSome_iff_exists.mp hx
  refine ⟨?_, P1, ρ, S1, A1, G, fun a z => hP1 a (hP a z), I1, EGood.step q (fun _ _ _ _ _ _ z => z.trans e1) fun y S2 q u H2 p => ?_⟩
  · obtain ⟨a, vs, ga, rfl, hl, l, r2⟩ := k1.lst (show Sim (C.pr P) ρ S1 A1 G σ H1 from (show Sim ((C.pr P1).pr P) ρ S1 A1 G σ H1 from Sim.prc I1 hP1)) hy
    exact .inl ⟨rfl, vs, .inl (.inl hl)⟩
  · obtain ⟨A2, g2, e2, I2, k2⟩ := p
    cases eg : gCnt S2 x y with
    | none => rw [eg] at q; exact q.elim
    | some z =>
      rw [eg] at q
      have I2' : Sim (C.pr P) ρ S2 A2 G σ H2 := (show Sim ((C.pr P1).pr P) ρ S2 A2 G σ H2 from Sim.prc I2.pgw hP1)
      have := ok_cnt (K := X.K) (C.pr P) ρ S2 A2 G σ H H1 H2 x y z v u g1 g2 Q hk I2' (k1.ext e2) (k2.prw hP1) eg fun w H' p => q w H' (p.trans (e1.trans e2))
      exact this
end
end VL

end
section
set_option Elab.async false
set_option linter.all false
set_option maxRecDepth 100000
/-! VM1: what the value functions are at values: for simp. -/
namespace VL
open PySem PySem.Spec PyProof.Rows L2
section
variable {α β : Type} (i j k n : Nat) (ρ : Rho) (S : Sto) (f f' g : Rho → Mo SV) (fs gs : Rho → Mo (List SV)) (b c : Rho → Mo Bool) (s t : Rho → Sto → Option Fl) (op : Sto → SV → SV → Option SV) (o1 : Sto → SV → Option SV) (cm cm' : Sto → SV → SV → Option Bool) (cl : Sto → List SV → Option SV)
@[simp] theorem a_eVar : eVar i ρ S = match ρ[i]? with
  | some (some x) => some (.ok x S)
  | _ => none := rfl
@[simp] theorem a_eVarV : eVarV i ρ S = match ρ[i]? with
  | some (some x) => if noOwn x then some (.ok x S) else none
  | _ => none := rfl
@[simp] theorem a_eCon (d : PyData) : eCon d ρ S = some (.ok (.d d) S) := rfl
@[simp] theorem a_eFn (x : Str) : eFn x ρ S = some (.ok (.fn x) S) := rfl
@[simp] theorem a_eBin : eBin op f f' ρ S = bindM (f ρ S) fun x S1 => bindM (f' ρ S1) fun y S2 => (op S2 x y).map fun z => .ok z S2 := rfl
@[simp] theorem a_eUn : eUn o1 f ρ S = bindM (f ρ S) fun x S1 => (o1 S1 x).map fun z => .ok z S1 := rfl
@[simp] theorem a_aNil : aNil ρ S = some (.ok [] S) := rfl
@[simp] theorem a_aCons : aCons f fs ρ S = bindM (f ρ S) fun x S1 => bindM (fs ρ S1) fun xs S2 => some (.ok (x :: xs) S2) := rfl
@[simp] theorem a_eCal : eCal cl fs ρ S = bindM (fs ρ S) fun xs S1 => (cl S1 xs).map fun z => .ok z S1 := rfl
@[simp] theorem a_eTup : eTup fs ρ S = bindM (fs ρ S) fun xs S1 => if xs.length ≤ sizeLine then (datOs xs).map fun ds => .ok (.d (.tuple ds)) S1 else none := rfl
@[simp] theorem a_eLst : eLst fs ρ S = bindM (fs ρ S) fun xs S1 => if xs.length ≤ sizeLine then some (.ok (.own xs) S1) else none := rfl
@[simp] theorem a_eCall (F : List SV → Mo SV) (bs : List Bool) : eCall n F bs fs ρ S = bindM (fs ρ S) fun xs S1 => if xs.length = n then (cvt bs xs S1).bind fun p => F p.1 p.2 else none := rfl
@[simp] theorem a_eNot : eNot f ρ S = bindM (f ρ S) fun x S1 => match x with
  | .d (.bool b) => some (.ok (.d (.bool !b)) S1)
  | _ => none := rfl
@[simp] theorem a_bVal : bVal f ρ S = bindM (f ρ S) fun x S1 => (truth S1 x).map fun b => .ok b S1 := rfl
@[simp] theorem a_bAnd : bAnd b c ρ S = bindM (b ρ S) fun k S1 => if k then c ρ S1 else some (.ok false S1) := rfl
@[simp] theorem a_bOr : bOr b c ρ S = bindM (b ρ S) fun k S1 => if k then some (.ok true S1) else c ρ S1 := rfl
@[simp] theorem a_bNot : bNot b ρ S = bindM (b ρ S) fun k S1 => some (.ok (!k) S1) := rfl
@[simp] theorem a_bB : bB f ρ S = bindM (f ρ S) fun x S1 => match x with
  | .d (.bool b) => some (.ok b S1)
  | _ => none := rfl
@[simp] theorem a_sNil : sNil ρ S = some (.nx ρ S) := rfl
@[simp] theorem a_sSeq : sSeq s t ρ S = match s ρ S with
  | some (.nx ρ' S') => t ρ' S'
  | r => r := rfl
@[simp] theorem a_sSet : sSet i f ρ S = bindS ρ (f ρ S) fun x S1 => some (.nx (ρ.set i (some x)) S1) := rfl
@[simp] theorem a_sAsg (tf : TgF) : sAsg tf f ρ S = bindS ρ (f ρ S) fun x S1 => (frz x).bind fun y => (tf y ρ).map fun ρ' => .nx ρ' S1 := rfl
@[simp] theorem a_sPar : sPar i j fs ρ S = bindS ρ (fs ρ S) fun xs S1 => match xs with
  | [x, y] => some (.nx ((ρ.set i (some x)).set j (some y)) S1)
  | _ => none := rfl
@[simp] theorem a_sPar3 : sPar3 i j k fs ρ S = bindS ρ (fs ρ S) fun xs S1 => (frzs xs).bind fun ys => match ys with
  | [x, y, z] => some (.nx (((ρ.set i (some x)).set j (some y)).set k (some z)) S1)
  | _ => none := rfl
@[simp] theorem a_sRet : sRet f ρ S = bindS ρ (f ρ S) fun x S1 => some (.rt x S1) := rfl
@[simp] theorem a_sRetV : sRetV i ρ S = match ρ[i]? with
  | some (some x) => some (.rt x S)
  | _ => none := rfl
@[simp] theorem a_sRetN : sRetN ρ S = some (.rt (.d .none) S) := rfl
@[simp] theorem a_sIf : sIf b s t ρ S = bindS ρ (b ρ S) fun k S1 => if k then s ρ S1 else t ρ S1 := rfl
@[simp] theorem a_sRaise (x : Str) : sRaise x ρ S = some (.exc x [] ρ S) := rfl
@[simp] theorem a_sDrop : sDrop f ρ S = bindS ρ (f ρ S) fun _ S1 => some (.nx ρ S1) := rfl
@[simp] theorem a_sFor (it : Rho → Mo (List SV)) (tf : TgF) : sFor it tf s ρ S = bindS ρ (it ρ S) fun xs S1 => forL tf s xs ρ S1 := rfl
end
@[simp] theorem a_gNm (i : Nat) (x : SV) (ρ : Rho) : gNm i x ρ = if noOwn x then some (ρ.set i (some x)) else none := rfl
@[simp] theorem noOwn_d (d : PyData) : noOwn (.d d) = true := rfl
@[simp] theorem noOwn_ref (n : Nat) : noOwn (.ref n) = true := rfl
@[simp] theorem noOwn_fn (x : Str) : noOwn (.fn x) = true := rfl
@[simp] theorem noOwn_scr (ns : List Int) : noOwn (.scr ns) = true := rfl
@[simp] theorem noOwn_own (xs : List SV) : noOwn (.own xs) = false := rfl
@[simp] theorem frz_d (d : PyData) : frz (.d d) = some (.d d) := rfl
@[simp] theorem frz_ref (n : Nat) : frz (.ref n) = some (.ref n) := rfl
@[simp] theorem frz_fn (x : Str) : frz (.fn x) = some (.fn x) := rfl
@[simp] theorem frz_scr (ns : List Int) : frz (.scr ns) = some (.scr ns) := rfl
@[simp] theorem datO_d (d : PyData) : datO (.d d) = some d := by simp [datO]
@[simp] theorem datOs_nil : datOs [] = some [] := by simp [datOs]
@[simp] theorem datOs_cons (x : SV) (xs : List SV) : datOs (x :: xs) = (datO x).bind fun d => (datOs xs).map (d :: ·) := by simp [datOs]
@[simp] theorem frzs_nil : frzs [] = some [] := rfl
@[simp] theorem frzs_cons (x : SV) (xs : List SV) : frzs (x :: xs) = (frz x).bind fun y => (frzs xs).map (y :: ·) := rfl
@[simp] theorem cvt_nil (bs : List Bool) (S : Sto) : cvt bs [] S = some ([], S) := by cases bs <;> rfl
@[simp] theorem cvt_0 (x : SV) (xs : List SV) (S : Sto) : cvt [] (x :: xs) S = (frz x).bind fun y => (cvt [] xs S).map fun p => (y :: p.1, p.2) := rfl
@[simp] theorem cvt_f (bs : List Bool) (x : SV) (xs : List SV) (S : Sto) : cvt (false :: bs) (x :: xs) S = (frz x).bind fun y => (cvt bs xs S).map fun p => (y :: p.1, p.2) := rfl
@[simp] theorem cvt_t (bs : List Bool) (zs xs : List SV) (S : Sto) : cvt (true :: bs) (.own zs :: xs) S = (frzs zs).bind fun ys => (cvt bs xs (S ++ [ys])).map fun p => (.ref S.length :: p.1, p.2) := rfl
section
variable (S : Sto) (i j : Int) (a b : Bool)
@[simp] theorem gAdd_i : gAdd S (.d (.int i)) (.d (.int j)) = some (.d (.int (i + j))) := rfl
@[simp] theorem gSub_i : gSub S (.d (.int i)) (.d (.int j)) = some (.d (.int (i - j))) := rfl
@[simp] theorem gMul_i : gMul S (.d (.int i)) (.d (.int j)) = if mulOk i j then some (.d (.int (i * j))) else none := rfl
@[simp] theorem gMulA_i : gMulA S (.d (.int i)) (.d (.int j)) = if mulOk i j then some (.d (.int (i * j))) else none := rfl
@[simp] theorem gFdiv_i : gFdiv S (.d (.int i)) (.d (.int j)) = if divOk i j then some (.d (.int (i.fdiv j))) else none := rfl
@[simp] theorem gMod_i : gMod S (.d (.int i)) (.d (.int j)) = if j ≠ 0 then some (.d (.int (i.fmod j))) else none := rfl
@[simp] theorem gNeg_i : gNeg S (.d (.int i)) = some (.d (.int (-i))) := rfl
@[simp] theorem gLt_i : gLt S (.d (.int i)) (.d (.int j)) = some (decide (i < j)) := rfl
@[simp] theorem gLe_i : gLe S (.d (.int i)) (.d (.int j)) = some (decide (i ≤ j)) := rfl
@[simp] theorem gGt_i : gGt S (.d (.int i)) (.d (.int j)) = some (decide (j < i)) := rfl
@[simp] theorem gGe_i : gGe S (.d (.int i)) (.d (.int j)) = some (decide (j ≤ i)) := rfl
theorem sh_int : SeqAt.shaped (.int i) = true := by
  unfold SeqAt.shaped PyData.canLay0
  simp [PyData.depth]
@[simp] theorem dat_d (d : PyData) : dat? S (.d d) = some d := rfl
@[simp] theorem gAbs_i : gAbs S [.d (.int i)] = some (.d (.int (if i < 0 then -i else i))) := rfl
@[simp] theorem gMax2_i : gMax2 S [.d (.int i), .d (.int j)] = some (.d (.int (if j > i then j else i))) := rfl
@[simp] theorem gMin2_i : gMin2 S [.d (.int i), .d (.int j)] = some (.d (.int (if j < i then j else i))) := rfl
@[simp] theorem gInt_i : gInt S [.d (.int i)] = some (.d (.int i)) := rfl
@[simp] theorem gInt_b : gInt S [.d (.bool a)] = some (.d (.int (if a then 1 else 0))) := rfl
@[simp] theorem truth_b : truth S (.d (.bool a)) = some a := rfl
@[simp] theorem truth_i : truth S (.d (.int i)) = some (i != 0) := rfl
@[simp] theorem truth_n : truth S (.d .none) = some false := rfl
@[simp] theorem isNone_n : isNone (.d .none) = true := rfl
@[simp] theorem isNone_t (ds : List PyData) : isNone (.d (.tuple ds)) = false := rfl
@[simp] theorem seq_t (ds : List PyData) : seq? S (.d (.tuple ds)) = some (ds.map .d) := rfl
@[simp] theorem seq_l (ds : List PyData) : seq? S (.d (.list ds)) = some (ds.map .d) := rfl
@[simp] theorem seq_s (ns : List Int) : seq? S (.scr ns) = some (ns.map fun n => .d (.int n)) := rfl
@[simp] theorem seq_o (xs : List SV) : seq? S (.own xs) = some xs := rfl
@[simp] theorem seq_r (n : Nat) : seq? S (.ref n) = S[n]? := rfl
@[simp] theorem gIxB_i (x : SV) : gIxB S x (.d (.int i)) = (seq? S x).bind fun xs => atI xs i := rfl
end
end VL

end
section
set_option Elab.async false
set_option linter.all false
set_option maxRecDepth 100000
/-! VM2: equality; loops. -/
namespace VL
open PySem PySem.Spec PyProof.Rows L2
theorem shaped_def (d : PyData) : SeqAt.shaped d = (d.canLay0 && decide (d.depth ≤ 64)) := rfl
/-- plain data: ints and so on, tuples and lists of such -/
@[simp] theorem sh_i (i : Int) : SeqAt.shaped (.int i) = true := by
  rw [shaped_def]; simp [PyData.canLay0, PyData.depth]
@[simp] theorem sh_b (i : Bool) : SeqAt.shaped (.bool i) = true := by
  rw [shaped_def]; simp [PyData.canLay0, PyData.depth]
@[simp] theorem sh_n : SeqAt.shaped .none = true := by
  rw [shaped_def]; simp [PyData.canLay0, PyData.depth]
@[simp] theorem eqv_i (i j : Int) : PyData.eqv (.int i) (.int j) = (i == j) := by simp [PyData.eqv]
@[simp] theorem eqv_b (i j : Bool) : PyData.eqv (.bool i) (.bool j) = (i == j) := by simp [PyData.eqv]
@[simp] theorem gEq_i (S : Sto) (i j : Int) : gEq S (.d (.int i)) (.d (.int j)) = some (i == j) := by simp [gEq]
@[simp] theorem gNe_i (S : Sto) (i j : Int) : gNe S (.d (.int i)) (.d (.int j)) = some (!(i == j)) := by simp [gNe]
/-! ### while -/
theorem whileF_stop {c : Rho → Mo Bool} {b : Rho → Sto → Option Fl} {n : Nat} {ρ : Rho} {S S1 : Sto} (h : c ρ S = some (.ok false S1)) : whileF c b (n + 1) ρ S = some (.nx ρ S1) := by
  unfold whileF; rw [h]; rfl
theorem whileF_go {c : Rho → Mo Bool} {b : Rho → Sto → Option Fl} {n : Nat} {ρ ρ2 : Rho} {S S1 S2 : Sto} (h : c ρ S = some (.ok true S1)) (hb : b ρ S1 = some (.nx ρ2 S2)) : whileF c b (n + 1) ρ S = whileF c b n ρ2 S2 := by
  conv => lhs; unfold whileF
  rw [h]
  simp [hb]
theorem while_stop {c : Rho → Mo Bool} {b : Rho → Sto → Option Fl} {ρ : Rho} {S S1 : Sto} (h : c ρ S = some (.ok false S1)) : sWhile c b ρ S = some (.nx ρ S1) := sWhile_of (n := 1) (whileF_stop h)
theorem while_go {c : Rho → Mo Bool} {b : Rho → Sto → Option Fl} {ρ ρ2 : Rho} {S S1 S2 : Sto} {r : Fl} (h : c ρ S = some (.ok true S1)) (hb : b ρ S1 = some (.nx ρ2 S2)) (q : sWhile c b ρ2 S2 = some r) : sWhile c b ρ S = some r := by
  obtain ⟨n, hn⟩ := sWhile_some q
  exact sWhile_of (n := n + 1) ((whileF_go h hb).trans hn)
end VL

end
section
set_option Elab.async false
set_option linter.all false
set_option maxRecDepth 100000
/-! VM3: for, comprehensions, isinstance, equality of tuples. -/
namespace VL
open PySem PySem.Spec PyProof.Rows L2
/-- a for that leaves the store as it is: it goes on, or hands back at the first hit -/
theorem forL_find {t : TgF} {body : Rho → Sto → Option Fl} {S : Sto} (I : Rho → Prop) (hit : SV → Option SV) : ∀ (xs : List SV), (∀ x ∈ xs, ∀ ρ, I ρ → ∃ ρ', t x ρ = some ρ' ∧ ((∃ v, hit x = some v ∧ body ρ' S = some (.rt v S)) ∨ (hit x = none ∧ ∃ ρ2, I ρ2 ∧ body ρ' S = some (.nx ρ2 S)))) → ∀ ρ, I ρ →
    (∃ v, xs.findSome? hit = some v ∧ forL t body xs ρ S = some (.rt v S)) ∨ (xs.findSome? hit = none ∧ ∃ ρ2, I ρ2 ∧ forL t body xs ρ S = some (.nx ρ2 S))
  | [], _, ρ, h => .inr ⟨rfl, ρ, h, rfl⟩
  | x :: xs, hx, ρ, h => by
    obtain ⟨ρ', ht, q⟩ := hx x List.mem_cons_self ρ h
    rcases q with ⟨v, hv, hb⟩ | ⟨hn, ρ2, h2, hb⟩
    · refine .inl ⟨v, by simp [List.findSome?, hv], ?_⟩
      unfold forL
      simp [ht, hb]
    · rcases forL_find I hit xs (fun y m => hx y (List.mem_cons_of_mem _ m)) ρ2 h2 with ⟨v, hv, hf⟩ | ⟨hv, ρ3, h3, hf⟩
      · refine .inl ⟨v, by simp [List.findSome?, hn, hv], ?_⟩
        unfold forL
        simp [ht, hb, hf]
      · refine .inr ⟨by simp [List.findSome?, hn, hv], ρ3, h3, ?_⟩
        unfold forL
        simp [ht, hb, hf]
/-- a for that goes through, the state changing as told -/
theorem forL_step {t : TgF} {body : Rho → Sto → Option Fl} (I : Nat → Rho → Sto → Prop) (xs : List SV) (h : ∀ (i : Nat) x, xs[i]? = some x → ∀ ρ S, I i ρ S → ∃ ρ', t x ρ = some ρ' ∧ ∃ ρ2 S2, I (i + 1) ρ2 S2 ∧ (body ρ' S = some (.nx ρ2 S2) ∨ body ρ' S = some (.ct ρ2 S2))) : ∀ ρ S, I 0 ρ S → ∃ ρ2 S2, I xs.length ρ2 S2 ∧ forL t body xs ρ S = some (.nx ρ2 S2) := by
  suffices H : ∀ (ys : List SV) (k : Nat), (∀ (i : Nat) x, ys[i]? = some x → xs[k + i]? = some x) → k + ys.length = xs.length → ∀ ρ S, I k ρ S → ∃ ρ2 S2, I xs.length ρ2 S2 ∧ forL t body ys ρ S = some (.nx ρ2 S2) by
    exact H xs 0 (fun i x e => by rwa [Nat.zero_add]) (by omega)
  intro ys
  induction ys with
  | nil => intro k _ hl ρ S hI; exact ⟨ρ, S, by rw [← hl]; exact hI, rfl⟩
  | cons y ys ih =>
    intro k hk hl ρ S hI
    obtain ⟨ρ', ht, ρ2, S2, h2, hb⟩ := h k y (hk 0 y rfl) ρ S hI
    obtain ⟨ρ3, S3, h3, hf⟩ := ih (k + 1) (fun i x e => by have := hk (i + 1) x (by simpa using e); rwa [show k + (i + 1) = k + 1 + i by omega] at this) (by simp at hl; omega) ρ2 S2 h2
    refine ⟨ρ3, S3, h3, ?_⟩
    unfold forL
    rcases hb with hb | hb <;> simp [ht, hb, hf]
theorem compL_ok {tf : TgF} {tst : Rho → Mo Bool} {elt : Rho → Mo SV} {ρ : Rho} {S : Sto} (k : SV → Option SV) : ∀ (xs acc : List SV), (∀ x ∈ xs, ∃ ρ', tf x ρ = some ρ' ∧ ((∃ y, k x = some y ∧ tst ρ' S = some (.ok true S) ∧ elt ρ' S = some (.ok y S)) ∨ (k x = none ∧ tst ρ' S = some (.ok false S)))) → acc.length + xs.length ≤ sizeLine →
    compL tf tst elt ρ xs acc S = some (.ok (acc ++ xs.filterMap k) S)
  | [], acc, _, _ => by simp [compL]
  | x :: xs, acc, h, hl => by
    obtain ⟨ρ', ht, q⟩ := h x List.mem_cons_self
    rw [List.length_cons] at hl
    rcases q with ⟨y, hy, h1, h2⟩ | ⟨hn, h1⟩
    · have ih := compL_ok k xs (acc ++ [y]) (fun z m => h z (List.mem_cons_of_mem _ m)) (by simp; omega)
      unfold compL
      simp only [ht, h1, h2]
      rw [if_pos (by omega), ih]
      simp [List.filterMap_cons, hy]
    · have ih := compL_ok k xs acc (fun z m => h z (List.mem_cons_of_mem _ m)) (by omega)
      unfold compL
      simp only [ht, h1]
      rw [ih]
      simp [List.filterMap_cons, hn]
/-- without a test -/
theorem eLc_map {it : Rho → Mo (List SV)} {tf : TgF} {elt : Rho → Mo SV} {vs : List Nat} {ρ : Rho} {S : Sto} {xs : List SV} (g : SV → SV) (hi : it ρ S = some (.ok xs S)) (h : ∀ x ∈ xs, ∃ ρ', tf x (wipeR ρ vs) = some ρ' ∧ elt ρ' S = some (.ok (g x) S)) (hl : xs.length ≤ sizeLine) :
    eLc it tf bYes elt vs ρ S = some (.ok (.own (xs.map g)) S) := by
  unfold eLc
  rw [hi]
  have := compL_ok (tf := tf) (tst := bYes) (elt := elt) (ρ := wipeR ρ vs) (S := S) (fun x => some (g x)) xs [] (fun x m => by
    obtain ⟨ρ', h1, h2⟩ := h x m
    exact ⟨ρ', h1, .inl ⟨_, rfl, rfl, h2⟩⟩) (by simpa using hl)
  simp only [bindM_ok, this]
  simp
@[simp] theorem a_eIsi1 (f : Rho → Mo SV) (cs : List String) (ρ : Rho) (S : Sto) : eIsi1 f cs ρ S = bindM (f ρ S) fun x S1 => if refOk S1 x then (tyOf x).map fun t => .ok (.d (.bool (cs.any (isB t)))) S1 else none := rfl
@[simp] theorem refOk_d (S : Sto) (d : PyData) : refOk S (.d d) = true := rfl
@[simp] theorem tyOf_n : tyOf (.d .none) = some "NoneType" := rfl
@[simp] theorem tyOf_b (b : Bool) : tyOf (.d (.bool b)) = some "bool" := rfl
@[simp] theorem tyOf_i (i : Int) : tyOf (.d (.int i)) = some "int" := rfl
@[simp] theorem tyOf_s (i : Str) : tyOf (.d (.str i)) = some "str" := rfl
@[simp] theorem tyOf_l (i : List PyData) : tyOf (.d (.list i)) = some "list" := rfl
@[simp] theorem tyOf_t (i : List PyData) : tyOf (.d (.tuple i)) = some "tuple" := rfl
@[simp] theorem tyOf_o (i : List SV) : tyOf (.own i) = some "list" := rfl
@[simp] theorem gLen_t (S : Sto) (ds : List PyData) : gLen S [.d (.tuple ds)] = some (.d (.int ds.length)) := by simp [gLen]
@[simp] theorem gLen_l (S : Sto) (ds : List PyData) : gLen S [.d (.list ds)] = some (.d (.int ds.length)) := by simp [gLen]
@[simp] theorem gLen_o (S : Sto) (ds : List SV) : gLen S [.own ds] = some (.d (.int ds.length)) := by simp [gLen]
@[simp] theorem gLen_s (S : Sto) (ds : List Int) : gLen S [.scr ds] = some (.d (.int ds.length)) := by simp [gLen]
@[simp] theorem isNone_i (i : Int) : isNone (.d (.int i)) = false := rfl
@[simp] theorem a_iSeq (f : Rho → Mo SV) (ρ : Rho) (S : Sto) : iSeq f ρ S = bindM (f ρ S) fun x S1 => if isRef x then none else (seq? S1 x).bind fun xs => if xs.all noOwn then some (.ok xs S1) else none := rfl
@[simp] theorem isRef_d (d : PyData) : isRef (.d d) = false := rfl
@[simp] theorem isRef_o (d : List SV) : isRef (.own d) = false := rfl
@[simp] theorem isRef_s (d : List Int) : isRef (.scr d) = false := rfl
@[simp] theorem a_iRng1 (fs : Rho → Mo (List SV)) (ρ : Rho) (S : Sto) : iRng1 fs ρ S = bindM (fs ρ S) fun xs S1 => match xs with
  | [.d (.int j)] => if inR j then some (.ok (rangeL 0 j.toNat) S1) else none
  | _ => none := rfl
@[simp] theorem a_iRng2 (fs : Rho → Mo (List SV)) (ρ : Rho) (S : Sto) : iRng2 fs ρ S = bindM (fs ρ S) fun xs S1 => match xs with
  | [.d (.int i), .d (.int j)] => if inR i && inR j then some (.ok (rangeL i (j - i).toNat) S1) else none
  | _ => none := rfl
@[simp] theorem allNo_map (ds : List PyData) : (ds.map SV.d).all noOwn = true := by simp [noOwn]
theorem inR_of {i : Int} (h : -1000000 ≤ i ∧ i ≤ 1000000) : inR i = true := by
  unfold inR
  rw [decide_eq_true_eq]
  omega
theorem mem_rangeL {lo : Int} {n : Nat} {x : SV} (h : x ∈ rangeL lo n) : ∃ k : Nat, k < n ∧ x = .d (.int (lo + k)) := by
  unfold rangeL at h
  obtain ⟨k, hk, rfl⟩ := List.mem_map.mp h
  exact ⟨k, List.mem_range.mp hk, rfl⟩
@[simp] theorem rangeL_length (lo : Int) (n : Nat) : (rangeL lo n).length = n := by simp [rangeL]
theorem canTuple (ds : List PyData) : (PyData.tuple ds).canLay0 = PyData.canLayAll0 ds := by simp [PyData.canLay0]
@[simp] theorem sh_p (a b : Int) : SeqAt.shaped (.tuple [.int a, .int b]) = true := by
  rw [shaped_def]; simp [PyData.canLay0, PyData.canLayAll0, PyData.depth, PyData.depthAll]
@[simp] theorem sh_3 (a b c : Int) : SeqAt.shaped (.tuple [.int a, .int b, .int c]) = true := by
  rw [shaped_def]; simp [PyData.canLay0, PyData.canLayAll0, PyData.depth, PyData.depthAll]
@[simp] theorem sh_4 (a b c d : Int) : SeqAt.shaped (.tuple [.int a, .int b, .int c, .int d]) = true := by
  rw [shaped_def]; simp [PyData.canLay0, PyData.canLayAll0, PyData.depth, PyData.depthAll]
@[simp] theorem eqv_p (a b c d : Int) : PyData.eqv (.tuple [.int a, .int b]) (.tuple [.int c, .int d]) = (a == c && b == d) := by simp [PyData.eqv, PyData.eqvAll]
end VL

end
section
set_option Elab.async false
set_option linter.all false
set_option maxRecDepth 100000
set_option maxHeartbeats 0
/-! printed by gen.py for law_k03_fractions_and_equations: each def's value function, and that the def keeps it -/
namespace G
open PySem PySem.Spec PyProof.Rows L2 VL
abbrev prog : Program := PySem.Challenge.pw_currentwebs_k03_fractions_and_equations
def top (i : Nat) : Stmt := prog.main.body.getD i (.Pass ⟨0, 0, 0, 0⟩)
def mt : Str → Str → Option Bool := mtOf [(("BadValue", "BadValue"), true), (("BadValue", "NoSuch"), false), (("NoSuch", "BadValue"), false), (("NoSuch", "NoSuch"), true)]
section
variable {P : Program} {w : World} {K : PySem.W.Frag} {mg : Str → Option Value} {base : Heap} {f : Addr} {fd : FuncData}
/-! ### common -/
noncomputable def f_common : Rho → Sto → Option Fl :=
  (sSeq
  (sWhile (bB (eBin (cB gNe) (eVar 1) (eCon (.int 0))))
  (sPar 0 1 (aCons (eVarV 1) (aCons (eBin gMod (eVar 0) (eVar 1)) aNil))))
  (sRet (eCal gAbs (aCons (eVar 0) aNil))))
noncomputable def F_common : List SV → Mo SV := runF 2 f_common
theorem sc_common : FnScope ["p", "q"] ["p", "q"] (defScope (top 7)) := ⟨rfl, rfl, rfl, by decide +kernel, rfl, by decide +kernel, by decide +kernel⟩
theorem ok_common (F : VL.FnP K "common" (top 7) f fd) (hm : mg "common" = some (.ref f)) (fr : Fr mg) : DefOk P w K mg base 33 "common" 2 F_common :=
  mk_def (k := 32) (fb := f_common) F hm sc_common (by decide) (fun _ _ _ _ _ _ us hl => match us, hl with | [_, _], _ => rfl) fun cdv A outer s H E hr E0 A0 Pr =>
  (ss_cons (s_while (passes_of rfl) (t_ne (ka := .be) (kb := .be) rfl hr.units (v_var (pv 1)) v_int)
  (ss_one (s_par (i := 0) (j := 1) rfl sc_common.nd rfl rfl (by decide) rfl rfl (a_cons (v_varV (pv 1)) (a_cons (v_mod (ka := .be) (kb := .be) (v_var (pv 0)) (v_var (pv 1))) a_nil)) (by rfl))))
  (ss_one (s_ret (v_calB (ka := .be) call_abs ok_abs rfl fr.abs boot_abs' (a_cons (v_var (pv 0)) a_nil)))))
/-! ### sign -/
noncomputable def f_sign : Rho → Sto → Option Fl :=
  (sRet (eBin gSub (eCal gInt (aCons (eBin (cB gGt) (eBin gIxB (eVar 0) (eCon (.int 0))) (eCon (.int 0))) aNil)) (eCal gInt (aCons (eBin (cB gLt) (eBin gIxB (eVar 0) (eCon (.int 0))) (eCon (.int 0))) aNil))))
noncomputable def F_sign : List SV → Mo SV := runF 1 f_sign
theorem sc_sign : FnScope ["x"] ["x"] (defScope (top 13)) := ⟨rfl, rfl, rfl, by decide +kernel, rfl, by decide +kernel, by decide +kernel⟩
theorem ok_sign (F : VL.FnP K "sign" (top 13) f fd) (hm : mg "sign" = some (.ref f)) (fr : Fr mg) : DefOk P w K mg base 33 "sign" 1 F_sign :=
  mk_def (k := 32) (fb := f_sign) F hm sc_sign (by decide) (fun _ _ _ _ _ _ us hl => match us, hl with | [_], _ => rfl) fun cdv A outer s H E hr E0 A0 Pr =>
  (ss_one (s_ret (v_sub (ka := .be) (kb := .be) (v_calT (ka := .be) call_int1 ok_int rfl fr.int boot_int' (a_cons (v_gt (ka := .be) (kb := .be) (v_ixB (ka := .be) (kb := .be) rfl (v_var (pv 0)) v_int (fun _ _ => rfl)) v_int) a_nil)) (v_calT (ka := .be) call_int1 ok_int rfl fr.int boot_int' (a_cons (v_lt (ka := .be) (kb := .be) rfl hr.units (v_ixB (ka := .be) (kb := .be) rfl (v_var (pv 0)) v_int (fun _ _ => rfl)) v_int) a_nil)))))
/-! ### less -/
noncomputable def f_less : Rho → Sto → Option Fl :=
  (sRet (eBin (cB gLt) (eBin gMulT (eBin gIxB (eVar 0) (eCon (.int 0))) (eBin gIxB (eVar 1) (eCon (.int 1)))) (eBin gMulT (eBin gIxB (eVar 1) (eCon (.int 0))) (eBin gIxB (eVar 0) (eCon (.int 1))))))
noncomputable def F_less : List SV → Mo SV := runF 2 f_less
theorem sc_less : FnScope ["x", "y"] ["x", "y"] (defScope (top 14)) := ⟨rfl, rfl, rfl, by decide +kernel, rfl, by decide +kernel, by decide +kernel⟩
theorem ok_less (F : VL.FnP K "less" (top 14) f fd) (hm : mg "less" = some (.ref f)) (fr : Fr mg) : DefOk P w K mg base 33 "less" 2 F_less :=
  mk_def (k := 32) (fb := f_less) F hm sc_less (by decide) (fun _ _ _ _ _ _ us hl => match us, hl with | [_, _], _ => rfl) fun cdv A outer s H E hr E0 A0 Pr =>
  (ss_one (s_ret (v_lt (ka := .be) (kb := .be) rfl hr.units (v_mulT (hk := rfl) (ka := .be) (kb := .be) (v_ixB (ka := .be) (kb := .be) rfl (v_var (pv 0)) v_int (fun _ _ => rfl)) (v_ixB (ka := .be) (kb := .be) rfl (v_var (pv 1)) v_int (fun _ _ => rfl))) (v_mulT (hk := rfl) (ka := .be) (kb := .be) (v_ixB (ka := .be) (kb := .be) rfl (v_var (pv 1)) v_int (fun _ _ => rfl)) (v_ixB (ka := .be) (kb := .be) rfl (v_var (pv 0)) v_int (fun _ _ => rfl))))))
/-! ### _law_bag -/
noncomputable def f__law_bag : Rho → Sto → Option Fl :=
  (sSeq
  (sSet 2 (eCon (.int 0)))
  (sSeq
  (sIf (bB (eBin (cB gLt) (eVar 1) (eCal gLen (aCons (eVar 0) aNil))))
  (sSet 2 (eCal gInt (aCons (eBin gIxB (eVar 0) (eVar 1)) aNil)))
  sNil)
  (sRet (eLst (aCons (eCon (.int 0)) (aCons (eBin gAdd (eCon (.int 2063)) (eBin gMulT (eCon (.int 48611)) (eVar 1))) (aCons (eCon (.int 0)) (aCons (eVarV 2) aNil))))))))
noncomputable def F__law_bag : List SV → Mo SV := runF 3 f__law_bag
theorem sc__law_bag : FnScope ["script", "k", "cell"] ["script", "k"] (defScope (top 22)) := ⟨rfl, rfl, rfl, by decide +kernel, rfl, by decide +kernel, by decide +kernel⟩
theorem ok__law_bag (F : VL.FnP K "_law_bag" (top 22) f fd) (hm : mg "_law_bag" = some (.ref f)) (fr : Fr mg) : DefOk P w K mg base 33 "_law_bag" 2 F__law_bag :=
  mk_def (k := 32) (fb := f__law_bag) F hm sc__law_bag (by decide) (fun _ _ _ _ _ _ us hl => match us, hl with | [_, _], _ => rfl) fun cdv A outer s H E hr E0 A0 Pr =>
  (ss_cons (s_set (i := 2) sc__law_bag.nd rfl (by first | exact Or.inl rfl | exact Or.inr rfl) v_int)
  (ss_cons (s_if (t_lt (ka := .be) (kb := .be) rfl hr.units (v_var (pv 1)) (v_calB (ka := .be) call_len ok_len rfl fr.len boot_len' (a_cons (v_var (pv 0)) a_nil)))
  (ss_one (s_set (i := 2) sc__law_bag.nd rfl (by first | exact Or.inl rfl | exact Or.inr rfl) (v_calT (ka := .be) call_int1 ok_int rfl fr.int boot_int' (a_cons (v_ixB (ka := .be) (kb := .be) rfl (v_var (pv 0)) (v_var (pv 1)) (fun _ _ => rfl)) a_nil))))
  ss_nil)
  (ss_one (s_ret (v_lst (a_cons v_int (a_cons (v_add (hk := rfl) (ka := .be) (kb := .be) v_int (v_mulT (hk := rfl) (ka := .be) (kb := .be) v_int (v_var (pv 1)))) (a_cons v_int (a_cons (v_varV (pv 2)) a_nil)))))))))
/-! ### _law_draw -/
noncomputable def f__law_draw : Rho → Sto → Option Fl :=
  (sSeq
  (sIf (bB (eBin (cB gLt) (eVar 1) (eCon (.int 1))))
  (sRet (eCon (.int 0)))
  sNil)
  (sSeq
  (sIf (bB (eBin (cB gEq) (eBin gIxB (eVar 0) (eCon (.int 0))) (eCon (.int 0))))
  (sSeq
  (sStore (lVar 0) (eCon (.int 2)) (eBin gAdd (eBin gIxB (eVar 0) (eCon (.int 2))) (eCon (.int 1))))
  (sSeq
  (sSet 2 (eBin gMod (eCal gInt (aCons (eBin gAdd (eBin gAdd (eBin gAdd (eBin gMulT (eBin gIxB (eVar 0) (eCon (.int 1))) (eCon (.int 48271))) (eBin gMulT (eBin gIxB (eVar 0) (eCon (.int 3))) (eCon (.int 69621)))) (eBin gMulT (eBin gIxB (eVar 0) (eCon (.int 2))) (eCon (.int 16807)))) (eCon (.int 11))) aNil)) (eCon (.int 2147483647))))
  (sSeq
  (sStore (lVar 0) (eCon (.int 0)) (eBin gAdd (eBin gMulT (eVar 2) (eCon (.int 2147483629))) (eBin gMod (eCal gInt (aCons (eBin gAdd (eBin gMulT (eVar 2) (eVar 2)) (eBin gIxB (eVar 0) (eCon (.int 3)))) aNil)) (eCon (.int 2147483629)))))
  (sSeq
  (sIf (bAnd (bB (eBin (cB gEq) (eBin gIxB (eVar 0) (eCon (.int 2))) (eCon (.int 1)))) (bB (eBin (cB gGe) (eBin gIxB (eVar 0) (eCon (.int 3))) (eBin gPow (eCon (.int 10)) (eCon (.int 18))))))
  (sStore (lVar 0) (eCon (.int 0)) (eBin gIx (eVar 0) (eCon (.int 3))))
  sNil)
  (sStore (lVar 0) (eCon (.int 1)) (eVarV 2))))))
  sNil)
  (sSeq
  (sSet 3 (eBin gIx (eVar 0) (eCon (.int 0))))
  (sSeq
  (sStore (lVar 0) (eCon (.int 0)) (eBin gFdivS (eVar 3) (eVar 1)))
  (sRet (eBin gMod (eCal gInt (aCons (eVar 3) aNil)) (eVar 1)))))))
noncomputable def F__law_draw : List SV → Mo SV := runF 4 f__law_draw
theorem sc__law_draw : FnScope ["bag", "many", "seed", "rest"] ["bag", "many"] (defScope (top 23)) := ⟨rfl, rfl, rfl, by decide +kernel, rfl, by decide +kernel, by decide +kernel⟩
theorem ok__law_draw (F : VL.FnP K "_law_draw" (top 23) f fd) (hm : mg "_law_draw" = some (.ref f)) (fr : Fr mg) (sr : SeerP P K) : DefOk P w K mg base 33 "_law_draw" 2 F__law_draw :=
  mk_def (k := 32) (fb := f__law_draw) F hm sc__law_draw (by decide) (fun _ _ _ _ _ _ us hl => match us, hl with | [_, _], _ => rfl) fun cdv A outer s H E hr E0 A0 Pr =>
  (ss_cons (s_if (t_lt (ka := .be) (kb := .be) rfl hr.units (v_var (pv 1)) v_int)
  (ss_one (s_ret v_int))
  ss_nil)
  (ss_cons (s_if (t_eq (ka := .be) (kb := .be) rfl hr.units (v_ixB (ka := .be) (kb := .be) rfl (v_var (pv 0)) v_int (fun _ _ => rfl)) v_int)
  (ss_cons (s_store (kb := .be) (l_var (pv 0)) v_int (v_add (hk := rfl) (ka := .be) (kb := .be) (v_ixB (ka := .be) (kb := .be) rfl (v_var (pv 0)) v_int (fun _ _ => rfl)) v_int))
  (ss_cons (s_set (i := 2) sc__law_draw.nd rfl (by first | exact Or.inl rfl | exact Or.inr rfl) (v_mod (ka := .be) (kb := .be) (v_calT (ka := .be) call_int1 ok_int rfl fr.int boot_int' (a_cons (v_add (hk := rfl) (ka := .be) (kb := .be) (v_add (hk := rfl) (ka := .be) (kb := .be) (v_add (hk := rfl) (ka := .be) (kb := .be) (v_mulT (hk := rfl) (ka := .be) (kb := .be) (v_ixB (ka := .be) (kb := .be) rfl (v_var (pv 0)) v_int (fun _ _ => rfl)) v_int) (v_mulT (hk := rfl) (ka := .be) (kb := .be) (v_ixB (ka := .be) (kb := .be) rfl (v_var (pv 0)) v_int (fun _ _ => rfl)) v_int)) (v_mulT (hk := rfl) (ka := .be) (kb := .be) (v_ixB (ka := .be) (kb := .be) rfl (v_var (pv 0)) v_int (fun _ _ => rfl)) v_int)) v_int) a_nil)) v_int))
  (ss_cons (s_store (kb := .be) (l_var (pv 0)) v_int (v_add (hk := rfl) (ka := .be) (kb := .be) (v_mulT (hk := rfl) (ka := .be) (kb := .be) (v_var (pv 2)) v_int) (v_mod (ka := .be) (kb := .be) (v_calT (ka := .be) call_int1 ok_int rfl fr.int boot_int' (a_cons (v_add (hk := rfl) (ka := .be) (kb := .be) (v_mulT (hk := rfl) (ka := .be) (kb := .be) (v_var (pv 2)) (v_var (pv 2))) (v_ixB (ka := .be) (kb := .be) rfl (v_var (pv 0)) v_int (fun _ _ => rfl))) a_nil)) v_int)))
  (ss_cons (s_if (PW.pt (b_and (t_eq (ka := .be) (kb := .be) rfl hr.units (v_ixB (ka := .be) (kb := .be) rfl (v_var (pv 0)) v_int (fun _ _ => rfl)) v_int) (b_and1 (t_ge (ka := .be) (kb := .be) (v_ixB (ka := .be) (kb := .be) rfl (v_var (pv 0)) v_int (fun _ _ => rfl)) (v_pow (ka := .be) (kb := .be) v_int v_int)))))
  (ss_one (s_store (kb := .be) (l_var (pv 0)) v_int (v_ix (ka := .be) (kb := .be) rfl (v_var (pv 0)) v_int (fun _ _ => rfl))))
  ss_nil)
  (ss_one (s_store (kb := .be) (l_var (pv 0)) v_int (v_varV (pv 2))))))))
  ss_nil)
  (ss_cons (s_set (i := 3) sc__law_draw.nd rfl (by first | exact Or.inl rfl | exact Or.inr rfl) (v_ix (ka := .be) (kb := .be) rfl (v_var (pv 0)) v_int (fun _ _ => rfl)))
  (ss_cons (s_store (kb := .be) (l_var (pv 0)) v_int (v_fdivS (pyroom sr hr (by decide) rfl rfl) (ka := .be) (kb := .be) (v_var (pv 3)) (v_var (pv 1))))
  (ss_one (s_ret (v_mod (ka := .be) (kb := .be) (v_calT (ka := .be) call_int1 ok_int rfl fr.int boot_int' (a_cons (v_var (pv 3)) a_nil)) (v_var (pv 1)))))))))
/-! ### _law_gcd -/
noncomputable def f__law_gcd : Rho → Sto → Option Fl :=
  (sSeq
  (sWhile (bB (eBin (cB gNe) (eVar 1) (eCon (.int 0))))
  (sPar 0 1 (aCons (eVarV 1) (aCons (eBin gSub (eVar 0) (eBin gMulT (eBin gFdivS (eVar 0) (eVar 1)) (eVar 1))) aNil))))
  (sRet (eCal gAbs (aCons (eVar 0) aNil))))
noncomputable def F__law_gcd : List SV → Mo SV := runF 2 f__law_gcd
theorem sc__law_gcd : FnScope ["p", "q"] ["p", "q"] (defScope (top 25)) := ⟨rfl, rfl, rfl, by decide +kernel, rfl, by decide +kernel, by decide +kernel⟩
theorem ok__law_gcd (F : VL.FnP K "_law_gcd" (top 25) f fd) (hm : mg "_law_gcd" = some (.ref f)) (fr : Fr mg) (sr : SeerP P K) : DefOk P w K mg base 33 "_law_gcd" 2 F__law_gcd :=
  mk_def (k := 32) (fb := f__law_gcd) F hm sc__law_gcd (by decide) (fun _ _ _ _ _ _ us hl => match us, hl with | [_, _], _ => rfl) fun cdv A outer s H E hr E0 A0 Pr =>
  (ss_cons (s_while (passes_of rfl) (t_ne (ka := .be) (kb := .be) rfl hr.units (v_var (pv 1)) v_int)
  (ss_one (s_par (i := 0) (j := 1) rfl sc__law_gcd.nd rfl rfl (by decide) rfl rfl (a_cons (v_varV (pv 1)) (a_cons (v_sub (ka := .be) (kb := .be) (v_var (pv 0)) (v_mulT (hk := rfl) (ka := .be) (kb := .be) (v_fdivS (pyroom sr hr (by decide) rfl rfl) (ka := .be) (kb := .be) (v_var (pv 0)) (v_var (pv 1))) (v_var (pv 1)))) a_nil)) (by rfl))))
  (ss_one (s_ret (v_calB (ka := .be) call_abs ok_abs rfl fr.abs boot_abs' (a_cons (v_var (pv 0)) a_nil)))))
/-! ### _law_orders -/
noncomputable def f__law_orders : Rho → Sto → Option Fl :=
  (sSeq
  (sSet 1 (eLst (aCons (eLst aNil) aNil)))
  (sSeq
  (sFor (iRng1 (aCons (eVar 0) aNil)) (gNm 2)
  (sSeq
  (sSet 3 (eLst aNil))
  (sSeq
  (ghF [1] (sFor (iSeq (eVarV 1)) (gNm 4)
  (sSet 3 (eBin gAdd (eVar 3) (eLc (iRng1 (aCons (eVar 0) aNil)) (gNm 5) (bB (eBin (cB gNotIn) (eVar 5) (eVar 4))) (eFrz (eBin gAdd (eVar 4) (eLst (aCons (eVarV 5) aNil)))) [5])))))
  (ghF [3] (sSet 1 (eVarV 3))))))
  (sRetV 1)))
noncomputable def F__law_orders : List SV → Mo SV := runF 6 f__law_orders
theorem sc__law_orders : FnScope ["n", "found", "turn", "longer", "row", "j"] ["n"] (defScope (top 36)) := ⟨rfl, rfl, rfl, by decide +kernel, rfl, by decide +kernel, by decide +kernel⟩
theorem ok__law_orders (F : VL.FnP K "_law_orders" (top 36) f fd) (hm : mg "_law_orders" = some (.ref f)) (fr : Fr mg) : DefOk P w K mg base 33 "_law_orders" 1 F__law_orders :=
  mk_def (k := 32) (fb := f__law_orders) F hm sc__law_orders (by decide) (fun _ _ _ _ _ _ us hl => match us, hl with | [_], _ => rfl) fun cdv A outer s H E hr E0 A0 Pr =>
  (ss_cons (s_set (i := 1) sc__law_orders.nd rfl (by first | exact Or.inl rfl | exact Or.inr rfl) (v_lst (a_cons (v_lst a_nil) a_nil)))
  (ss_cons (s_for (passes_of rfl) rfl (i_rng1 rfl fr.range (a_cons (v_var (pv 0)) a_nil)) (pg_name sc__law_orders.nd rfl (by first | exact Or.inl rfl | exact Or.inr rfl)) g_nm
  (ss_cons (s_set (i := 3) sc__law_orders.nd rfl (by first | exact Or.inl rfl | exact Or.inr rfl) (v_lst a_nil))
  (ss_cons (s_ghF [1] (s_for (passes_of rfl) rfl (i_seqF rfl (v_varV (pv 1))) (pg_name sc__law_orders.nd rfl (by first | exact Or.inl rfl | exact Or.inr rfl)) g_nm
  (ss_one (s_set (i := 3) sc__law_orders.nd rfl (by first | exact Or.inl rfl | exact Or.inr rfl) (v_add (hk := rfl) (ka := .be) (kb := .be) (v_var (pv 3)) (v_lc (own := [("j", 5)]) rfl sc__law_orders.nd (i_rng1 rfl fr.range (a_cons (v_var (pv 0)) a_nil)) (blk_of (by rfl)) (fun _ _ _ _ _ => (pg_name sc__law_orders.nd rfl (by first | exact Or.inl rfl | exact Or.inr rfl))) g_nm (by decide) (fun _ _ _ _ _ => (ts_one (t_notIn (ka := .be) (kb := .be) rfl (u65 hr) (v_var (pv 5)) (v_var (pv 4)) (by rfl)))) (fun _ _ _ _ _ => (v_frz (v_add (hk := rfl) (ka := .be) (kb := .be) (v_var (pv 4)) (v_lst (a_cons (v_varV (pv 5)) a_nil)))))))))))
  (ss_one (s_ghF [3] (s_set (i := 1) sc__law_orders.nd rfl (by first | exact Or.inl rfl | exact Or.inr rfl) (v_varV (pv 3))))))))
  (ss_one (s_retV (pv 1)))))
/-! ### fraction -/
noncomputable def f_fraction : Rho → Sto → Option Fl :=
  (sSeq
  (sIf (bB (eBin (cB gEq) (eVar 1) (eCon (.int 0))))
  (sRaise "BadValue")
  sNil)
  (sSeq
  (sIf (bB (eBin (cB gLt) (eVar 1) (eCon (.int 0))))
  (sPar 0 1 (aCons (eUn gNeg (eVar 0)) (aCons (eUn gNeg (eVar 1)) aNil)))
  sNil)
  (sSeq
  (sSet 2 (eCall 2 F_common [] (aCons (eVarV 0) (aCons (eVarV 1) aNil))))
  (sRet (eTup (aCons (eBin gFdivS (eVar 0) (eVar 2)) (aCons (eBin gFdivS (eVar 1) (eVar 2)) aNil)))))))
noncomputable def F_fraction : List SV → Mo SV := runF 3 f_fraction
theorem sc_fraction : FnScope ["p", "q", "divisor"] ["p", "q"] (defScope (top 8)) := ⟨rfl, rfl, rfl, by decide +kernel, rfl, by decide +kernel, by decide +kernel⟩
theorem ok_fraction (F : VL.FnP K "fraction" (top 8) f fd) (hm : mg "fraction" = some (.ref f)) (fr : Fr mg) (d_common : DefOk P w K mg base 33 "common" 2 F_common) (e_BadValue : ExcOk K mg "BadValue") (sr : SeerP P K) : DefOk P w K mg base 34 "fraction" 2 F_fraction :=
  mk_def (k := 33) (fb := f_fraction) F hm sc_fraction (by decide) (fun _ _ _ _ _ _ us hl => match us, hl with | [_, _], _ => rfl) fun cdv A outer s H E hr E0 A0 Pr =>
  (ss_cons (s_if (t_eq (ka := .be) (kb := .be) rfl hr.units (v_var (pv 1)) v_int)
  (ss_one (s_raise rfl e_BadValue rfl (takes_of rfl rfl rfl rfl) rfl))
  ss_nil)
  (ss_cons (s_if (t_lt (ka := .be) (kb := .be) rfl hr.units (v_var (pv 1)) v_int)
  (ss_one (s_par (i := 0) (j := 1) rfl sc_fraction.nd rfl rfl (by decide) rfl rfl (a_cons (v_neg (ka := .be) (v_var (pv 0))) (a_cons (v_neg (ka := .be) (v_var (pv 1))) a_nil)) (by rfl)))
  ss_nil)
  (ss_cons (s_set (i := 2) sc_fraction.nd rfl (by first | exact Or.inl rfl | exact Or.inr rfl) (v_call (bs := []) (d_common.mono (k := 33) (by decide)) rfl rfl hr rfl (takes_of rfl rfl rfl rfl) (a_cons (v_varV (pv 0)) (a_cons (v_varV (pv 1)) a_nil))))
  (ss_one (s_ret (v_tup (a_cons (v_fdivS (pyroom sr hr (by decide) rfl rfl) (ka := .be) (kb := .be) (v_var (pv 0)) (v_var (pv 2))) (a_cons (v_fdivS (pyroom sr hr (by decide) rfl rfl) (ka := .be) (kb := .be) (v_var (pv 1)) (v_var (pv 2))) a_nil))))))))
/-! ### _law_f -/
noncomputable def f__law_f : Rho → Sto → Option Fl :=
  (sSeq
  (sIf (bB (eBin (cB gLt) (eVar 1) (eCon (.int 0))))
  (sPar 0 1 (aCons (eUn gNeg (eVar 0)) (aCons (eUn gNeg (eVar 1)) aNil)))
  sNil)
  (sSeq
  (sSet 2 (eCall 2 F__law_gcd [] (aCons (eVarV 0) (aCons (eVarV 1) aNil))))
  (sRet (eTup (aCons (eBin gFdivS (eVar 0) (eVar 2)) (aCons (eBin gFdivS (eVar 1) (eVar 2)) aNil))))))
noncomputable def F__law_f : List SV → Mo SV := runF 3 f__law_f
theorem sc__law_f : FnScope ["p", "q", "g"] ["p", "q"] (defScope (top 26)) := ⟨rfl, rfl, rfl, by decide +kernel, rfl, by decide +kernel, by decide +kernel⟩
theorem ok__law_f (F : VL.FnP K "_law_f" (top 26) f fd) (hm : mg "_law_f" = some (.ref f)) (fr : Fr mg) (d__law_gcd : DefOk P w K mg base 33 "_law_gcd" 2 F__law_gcd) (sr : SeerP P K) : DefOk P w K mg base 34 "_law_f" 2 F__law_f :=
  mk_def (k := 33) (fb := f__law_f) F hm sc__law_f (by decide) (fun _ _ _ _ _ _ us hl => match us, hl with | [_, _], _ => rfl) fun cdv A outer s H E hr E0 A0 Pr =>
  (ss_cons (s_if (t_lt (ka := .be) (kb := .be) rfl hr.units (v_var (pv 1)) v_int)
  (ss_one (s_par (i := 0) (j := 1) rfl sc__law_f.nd rfl rfl (by decide) rfl rfl (a_cons (v_neg (ka := .be) (v_var (pv 0))) (a_cons (v_neg (ka := .be) (v_var (pv 1))) a_nil)) (by rfl)))
  ss_nil)
  (ss_cons (s_set (i := 2) sc__law_f.nd rfl (by first | exact Or.inl rfl | exact Or.inr rfl) (v_call (bs := []) (d__law_gcd.mono (k := 33) (by decide)) rfl rfl hr rfl (takes_of rfl rfl rfl rfl) (a_cons (v_varV (pv 0)) (a_cons (v_varV (pv 1)) a_nil))))
  (ss_one (s_ret (v_tup (a_cons (v_fdivS (pyroom sr hr (by decide) rfl rfl) (ka := .be) (kb := .be) (v_var (pv 0)) (v_var (pv 2))) (a_cons (v_fdivS (pyroom sr hr (by decide) rfl rfl) (ka := .be) (kb := .be) (v_var (pv 1)) (v_var (pv 2))) a_nil)))))))
/-! ### plus -/
noncomputable def f_plus : Rho → Sto → Option Fl :=
  (sRet (eCall 2 F_fraction [] (aCons (eBin gAdd (eBin gMulT (eBin gIxB (eVar 0) (eCon (.int 0))) (eBin gIxB (eVar 1) (eCon (.int 1)))) (eBin gMulT (eBin gIxB (eVar 1) (eCon (.int 0))) (eBin gIxB (eVar 0) (eCon (.int 1))))) (aCons (eBin gMulT (eBin gIxB (eVar 0) (eCon (.int 1))) (eBin gIxB (eVar 1) (eCon (.int 1)))) aNil))))
noncomputable def F_plus : List SV → Mo SV := runF 2 f_plus
theorem sc_plus : FnScope ["x", "y"] ["x", "y"] (defScope (top 9)) := ⟨rfl, rfl, rfl, by decide +kernel, rfl, by decide +kernel, by decide +kernel⟩
theorem ok_plus (F : VL.FnP K "plus" (top 9) f fd) (hm : mg "plus" = some (.ref f)) (fr : Fr mg) (d_fraction : DefOk P w K mg base 34 "fraction" 2 F_fraction) : DefOk P w K mg base 35 "plus" 2 F_plus :=
  mk_def (k := 34) (fb := f_plus) F hm sc_plus (by decide) (fun _ _ _ _ _ _ us hl => match us, hl with | [_, _], _ => rfl) fun cdv A outer s H E hr E0 A0 Pr =>
  (ss_one (s_ret (v_call (bs := []) (d_fraction.mono (k := 34) (by decide)) rfl rfl hr rfl (takes_of rfl rfl rfl rfl) (a_cons (v_add (hk := rfl) (ka := .be) (kb := .be) (v_mulT (hk := rfl) (ka := .be) (kb := .be) (v_ixB (ka := .be) (kb := .be) rfl (v_var (pv 0)) v_int (fun _ _ => rfl)) (v_ixB (ka := .be) (kb := .be) rfl (v_var (pv 1)) v_int (fun _ _ => rfl))) (v_mulT (hk := rfl) (ka := .be) (kb := .be) (v_ixB (ka := .be) (kb := .be) rfl (v_var (pv 1)) v_int (fun _ _ => rfl)) (v_ixB (ka := .be) (kb := .be) rfl (v_var (pv 0)) v_int (fun _ _ => rfl)))) (a_cons (v_mulT (hk := rfl) (ka := .be) (kb := .be) (v_ixB (ka := .be) (kb := .be) rfl (v_var (pv 0)) v_int (fun _ _ => rfl)) (v_ixB (ka := .be) (kb := .be) rfl (v_var (pv 1)) v_int (fun _ _ => rfl))) a_nil)))))
/-! ### minus -/
noncomputable def f_minus : Rho → Sto → Option Fl :=
  (sRet (eCall 2 F_fraction [] (aCons (eBin gSub (eBin gMulT (eBin gIxB (eVar 0) (eCon (.int 0))) (eBin gIxB (eVar 1) (eCon (.int 1)))) (eBin gMulT (eBin gIxB (eVar 1) (eCon (.int 0))) (eBin gIxB (eVar 0) (eCon (.int 1))))) (aCons (eBin gMulT (eBin gIxB (eVar 0) (eCon (.int 1))) (eBin gIxB (eVar 1) (eCon (.int 1)))) aNil))))
noncomputable def F_minus : List SV → Mo SV := runF 2 f_minus
theorem sc_minus : FnScope ["x", "y"] ["x", "y"] (defScope (top 10)) := ⟨rfl, rfl, rfl, by decide +kernel, rfl, by decide +kernel, by decide +kernel⟩
theorem ok_minus (F : VL.FnP K "minus" (top 10) f fd) (hm : mg "minus" = some (.ref f)) (fr : Fr mg) (d_fraction : DefOk P w K mg base 34 "fraction" 2 F_fraction) : DefOk P w K mg base 35 "minus" 2 F_minus :=
  mk_def (k := 34) (fb := f_minus) F hm sc_minus (by decide) (fun _ _ _ _ _ _ us hl => match us, hl with | [_, _], _ => rfl) fun cdv A outer s H E hr E0 A0 Pr =>
  (ss_one (s_ret (v_call (bs := []) (d_fraction.mono (k := 34) (by decide)) rfl rfl hr rfl (takes_of rfl rfl rfl rfl) (a_cons (v_sub (ka := .be) (kb := .be) (v_mulT (hk := rfl) (ka := .be) (kb := .be) (v_ixB (ka := .be) (kb := .be) rfl (v_var (pv 0)) v_int (fun _ _ => rfl)) (v_ixB (ka := .be) (kb := .be) rfl (v_var (pv 1)) v_int (fun _ _ => rfl))) (v_mulT (hk := rfl) (ka := .be) (kb := .be) (v_ixB (ka := .be) (kb := .be) rfl (v_var (pv 1)) v_int (fun _ _ => rfl)) (v_ixB (ka := .be) (kb := .be) rfl (v_var (pv 0)) v_int (fun _ _ => rfl)))) (a_cons (v_mulT (hk := rfl) (ka := .be) (kb := .be) (v_ixB (ka := .be) (kb := .be) rfl (v_var (pv 0)) v_int (fun _ _ => rfl)) (v_ixB (ka := .be) (kb := .be) rfl (v_var (pv 1)) v_int (fun _ _ => rfl))) a_nil)))))
/-! ### times -/
noncomputable def f_times : Rho → Sto → Option Fl :=
  (sRet (eCall 2 F_fraction [] (aCons (eBin gMulT (eBin gIxB (eVar 0) (eCon (.int 0))) (eBin gIxB (eVar 1) (eCon (.int 0)))) (aCons (eBin gMulT (eBin gIxB (eVar 0) (eCon (.int 1))) (eBin gIxB (eVar 1) (eCon (.int 1)))) aNil))))
noncomputable def F_times : List SV → Mo SV := runF 2 f_times
theorem sc_times : FnScope ["x", "y"] ["x", "y"] (defScope (top 11)) := ⟨rfl, rfl, rfl, by decide +kernel, rfl, by decide +kernel, by decide +kernel⟩
theorem ok_times (F : VL.FnP K "times" (top 11) f fd) (hm : mg "times" = some (.ref f)) (fr : Fr mg) (d_fraction : DefOk P w K mg base 34 "fraction" 2 F_fraction) : DefOk P w K mg base 35 "times" 2 F_times :=
  mk_def (k := 34) (fb := f_times) F hm sc_times (by decide) (fun _ _ _ _ _ _ us hl => match us, hl with | [_, _], _ => rfl) fun cdv A outer s H E hr E0 A0 Pr =>
  (ss_one (s_ret (v_call (bs := []) (d_fraction.mono (k := 34) (by decide)) rfl rfl hr rfl (takes_of rfl rfl rfl rfl) (a_cons (v_mulT (hk := rfl) (ka := .be) (kb := .be) (v_ixB (ka := .be) (kb := .be) rfl (v_var (pv 0)) v_int (fun _ _ => rfl)) (v_ixB (ka := .be) (kb := .be) rfl (v_var (pv 1)) v_int (fun _ _ => rfl))) (a_cons (v_mulT (hk := rfl) (ka := .be) (kb := .be) (v_ixB (ka := .be) (kb := .be) rfl (v_var (pv 0)) v_int (fun _ _ => rfl)) (v_ixB (ka := .be) (kb := .be) rfl (v_var (pv 1)) v_int (fun _ _ => rfl))) a_nil)))))
/-! ### over -/
noncomputable def f_over : Rho → Sto → Option Fl :=
  (sRet (eCall 2 F_fraction [] (aCons (eBin gMulT (eBin gIxB (eVar 0) (eCon (.int 0))) (eBin gIxB (eVar 1) (eCon (.int 1)))) (aCons (eBin gMulT (eBin gIxB (eVar 0) (eCon (.int 1))) (eBin gIxB (eVar 1) (eCon (.int 0)))) aNil))))
noncomputable def F_over : List SV → Mo SV := runF 2 f_over
theorem sc_over : FnScope ["x", "y"] ["x", "y"] (defScope (top 12)) := ⟨rfl, rfl, rfl, by decide +kernel, rfl, by decide +kernel, by decide +kernel⟩
theorem ok_over (F : VL.FnP K "over" (top 12) f fd) (hm : mg "over" = some (.ref f)) (fr : Fr mg) (d_fraction : DefOk P w K mg base 34 "fraction" 2 F_fraction) : DefOk P w K mg base 35 "over" 2 F_over :=
  mk_def (k := 34) (fb := f_over) F hm sc_over (by decide) (fun _ _ _ _ _ _ us hl => match us, hl with | [_, _], _ => rfl) fun cdv A outer s H E hr E0 A0 Pr =>
  (ss_one (s_ret (v_call (bs := []) (d_fraction.mono (k := 34) (by decide)) rfl rfl hr rfl (takes_of rfl rfl rfl rfl) (a_cons (v_mulT (hk := rfl) (ka := .be) (kb := .be) (v_ixB (ka := .be) (kb := .be) rfl (v_var (pv 0)) v_int (fun _ _ => rfl)) (v_ixB (ka := .be) (kb := .be) rfl (v_var (pv 1)) v_int (fun _ _ => rfl))) (a_cons (v_mulT (hk := rfl) (ka := .be) (kb := .be) (v_ixB (ka := .be) (kb := .be) rfl (v_var (pv 0)) v_int (fun _ _ => rfl)) (v_ixB (ka := .be) (kb := .be) rfl (v_var (pv 1)) v_int (fun _ _ => rfl))) a_nil)))))
/-! ### _law_add -/
noncomputable def f__law_add : Rho → Sto → Option Fl :=
  (sRet (eCall 2 F__law_f [] (aCons (eBin gAdd (eBin gMulT (eBin gIxB (eVar 0) (eCon (.int 0))) (eBin gIxB (eVar 1) (eCon (.int 1)))) (eBin gMulT (eBin gIxB (eVar 1) (eCon (.int 0))) (eBin gIxB (eVar 0) (eCon (.int 1))))) (aCons (eBin gMulT (eBin gIxB (eVar 0) (eCon (.int 1))) (eBin gIxB (eVar 1) (eCon (.int 1)))) aNil))))
noncomputable def F__law_add : List SV → Mo SV := runF 2 f__law_add
theorem sc__law_add : FnScope ["x", "y"] ["x", "y"] (defScope (top 27)) := ⟨rfl, rfl, rfl, by decide +kernel, rfl, by decide +kernel, by decide +kernel⟩
theorem ok__law_add (F : VL.FnP K "_law_add" (top 27) f fd) (hm : mg "_law_add" = some (.ref f)) (fr : Fr mg) (d__law_f : DefOk P w K mg base 34 "_law_f" 2 F__law_f) : DefOk P w K mg base 35 "_law_add" 2 F__law_add :=
  mk_def (k := 34) (fb := f__law_add) F hm sc__law_add (by decide) (fun _ _ _ _ _ _ us hl => match us, hl with | [_, _], _ => rfl) fun cdv A outer s H E hr E0 A0 Pr =>
  (ss_one (s_ret (v_call (bs := []) (d__law_f.mono (k := 34) (by decide)) rfl rfl hr rfl (takes_of rfl rfl rfl rfl) (a_cons (v_add (hk := rfl) (ka := .be) (kb := .be) (v_mulT (hk := rfl) (ka := .be) (kb := .be) (v_ixB (ka := .be) (kb := .be) rfl (v_var (pv 0)) v_int (fun _ _ => rfl)) (v_ixB (ka := .be) (kb := .be) rfl (v_var (pv 1)) v_int (fun _ _ => rfl))) (v_mulT (hk := rfl) (ka := .be) (kb := .be) (v_ixB (ka := .be) (kb := .be) rfl (v_var (pv 1)) v_int (fun _ _ => rfl)) (v_ixB (ka := .be) (kb := .be) rfl (v_var (pv 0)) v_int (fun _ _ => rfl)))) (a_cons (v_mulT (hk := rfl) (ka := .be) (kb := .be) (v_ixB (ka := .be) (kb := .be) rfl (v_var (pv 0)) v_int (fun _ _ => rfl)) (v_ixB (ka := .be) (kb := .be) rfl (v_var (pv 1)) v_int (fun _ _ => rfl))) a_nil)))))
/-! ### _law_sub -/
noncomputable def f__law_sub : Rho → Sto → Option Fl :=
  (sRet (eCall 2 F__law_f [] (aCons (eBin gSub (eBin gMulT (eBin gIxB (eVar 0) (eCon (.int 0))) (eBin gIxB (eVar 1) (eCon (.int 1)))) (eBin gMulT (eBin gIxB (eVar 1) (eCon (.int 0))) (eBin gIxB (eVar 0) (eCon (.int 1))))) (aCons (eBin gMulT (eBin gIxB (eVar 0) (eCon (.int 1))) (eBin gIxB (eVar 1) (eCon (.int 1)))) aNil))))
noncomputable def F__law_sub : List SV → Mo SV := runF 2 f__law_sub
theorem sc__law_sub : FnScope ["x", "y"] ["x", "y"] (defScope (top 28)) := ⟨rfl, rfl, rfl, by decide +kernel, rfl, by decide +kernel, by decide +kernel⟩
theorem ok__law_sub (F : VL.FnP K "_law_sub" (top 28) f fd) (hm : mg "_law_sub" = some (.ref f)) (fr : Fr mg) (d__law_f : DefOk P w K mg base 34 "_law_f" 2 F__law_f) : DefOk P w K mg base 35 "_law_sub" 2 F__law_sub :=
  mk_def (k := 34) (fb := f__law_sub) F hm sc__law_sub (by decide) (fun _ _ _ _ _ _ us hl => match us, hl with | [_, _], _ => rfl) fun cdv A outer s H E hr E0 A0 Pr =>
  (ss_one (s_ret (v_call (bs := []) (d__law_f.mono (k := 34) (by decide)) rfl rfl hr rfl (takes_of rfl rfl rfl rfl) (a_cons (v_sub (ka := .be) (kb := .be) (v_mulT (hk := rfl) (ka := .be) (kb := .be) (v_ixB (ka := .be) (kb := .be) rfl (v_var (pv 0)) v_int (fun _ _ => rfl)) (v_ixB (ka := .be) (kb := .be) rfl (v_var (pv 1)) v_int (fun _ _ => rfl))) (v_mulT (hk := rfl) (ka := .be) (kb := .be) (v_ixB (ka := .be) (kb := .be) rfl (v_var (pv 1)) v_int (fun _ _ => rfl)) (v_ixB (ka := .be) (kb := .be) rfl (v_var (pv 0)) v_int (fun _ _ => rfl)))) (a_cons (v_mulT (hk := rfl) (ka := .be) (kb := .be) (v_ixB (ka := .be) (kb := .be) rfl (v_var (pv 0)) v_int (fun _ _ => rfl)) (v_ixB (ka := .be) (kb := .be) rfl (v_var (pv 1)) v_int (fun _ _ => rfl))) a_nil)))))
/-! ### _law_mul -/
noncomputable def f__law_mul : Rho → Sto → Option Fl :=
  (sRet (eCall 2 F__law_f [] (aCons (eBin gMulT (eBin gIxB (eVar 0) (eCon (.int 0))) (eBin gIxB (eVar 1) (eCon (.int 0)))) (aCons (eBin gMulT (eBin gIxB (eVar 0) (eCon (.int 1))) (eBin gIxB (eVar 1) (eCon (.int 1)))) aNil))))
noncomputable def F__law_mul : List SV → Mo SV := runF 2 f__law_mul
theorem sc__law_mul : FnScope ["x", "y"] ["x", "y"] (defScope (top 29)) := ⟨rfl, rfl, rfl, by decide +kernel, rfl, by decide +kernel, by decide +kernel⟩
theorem ok__law_mul (F : VL.FnP K "_law_mul" (top 29) f fd) (hm : mg "_law_mul" = some (.ref f)) (fr : Fr mg) (d__law_f : DefOk P w K mg base 34 "_law_f" 2 F__law_f) : DefOk P w K mg base 35 "_law_mul" 2 F__law_mul :=
  mk_def (k := 34) (fb := f__law_mul) F hm sc__law_mul (by decide) (fun _ _ _ _ _ _ us hl => match us, hl with | [_, _], _ => rfl) fun cdv A outer s H E hr E0 A0 Pr =>
  (ss_one (s_ret (v_call (bs := []) (d__law_f.mono (k := 34) (by decide)) rfl rfl hr rfl (takes_of rfl rfl rfl rfl) (a_cons (v_mulT (hk := rfl) (ka := .be) (kb := .be) (v_ixB (ka := .be) (kb := .be) rfl (v_var (pv 0)) v_int (fun _ _ => rfl)) (v_ixB (ka := .be) (kb := .be) rfl (v_var (pv 1)) v_int (fun _ _ => rfl))) (a_cons (v_mulT (hk := rfl) (ka := .be) (kb := .be) (v_ixB (ka := .be) (kb := .be) rfl (v_var (pv 0)) v_int (fun _ _ => rfl)) (v_ixB (ka := .be) (kb := .be) rfl (v_var (pv 1)) v_int (fun _ _ => rfl))) a_nil)))))
/-! ### _law_div -/
noncomputable def f__law_div : Rho → Sto → Option Fl :=
  (sRet (eCall 2 F__law_f [] (aCons (eBin gMulT (eBin gIxB (eVar 0) (eCon (.int 0))) (eBin gIxB (eVar 1) (eCon (.int 1)))) (aCons (eBin gMulT (eBin gIxB (eVar 0) (eCon (.int 1))) (eBin gIxB (eVar 1) (eCon (.int 0)))) aNil))))
noncomputable def F__law_div : List SV → Mo SV := runF 2 f__law_div
theorem sc__law_div : FnScope ["x", "y"] ["x", "y"] (defScope (top 30)) := ⟨rfl, rfl, rfl, by decide +kernel, rfl, by decide +kernel, by decide +kernel⟩
theorem ok__law_div (F : VL.FnP K "_law_div" (top 30) f fd) (hm : mg "_law_div" = some (.ref f)) (fr : Fr mg) (d__law_f : DefOk P w K mg base 34 "_law_f" 2 F__law_f) : DefOk P w K mg base 35 "_law_div" 2 F__law_div :=
  mk_def (k := 34) (fb := f__law_div) F hm sc__law_div (by decide) (fun _ _ _ _ _ _ us hl => match us, hl with | [_, _], _ => rfl) fun cdv A outer s H E hr E0 A0 Pr =>
  (ss_one (s_ret (v_call (bs := []) (d__law_f.mono (k := 34) (by decide)) rfl rfl hr rfl (takes_of rfl rfl rfl rfl) (a_cons (v_mulT (hk := rfl) (ka := .be) (kb := .be) (v_ixB (ka := .be) (kb := .be) rfl (v_var (pv 0)) v_int (fun _ _ => rfl)) (v_ixB (ka := .be) (kb := .be) rfl (v_var (pv 1)) v_int (fun _ _ => rfl))) (a_cons (v_mulT (hk := rfl) (ka := .be) (kb := .be) (v_ixB (ka := .be) (kb := .be) rfl (v_var (pv 0)) v_int (fun _ _ => rfl)) (v_ixB (ka := .be) (kb := .be) rfl (v_var (pv 1)) v_int (fun _ _ => rfl))) a_nil)))))
/-! ### _law_frac -/
noncomputable def f__law_frac : Rho → Sto → Option Fl :=
  (sRet (eCall 2 F__law_f [] (aCons (eBin gSub (eCall 2 F__law_draw [] (aCons (eVarV 0) (aCons (eCon (.int 21)) aNil))) (eCon (.int 10))) (aCons (eBin gAdd (eCon (.int 1)) (eCall 2 F__law_draw [] (aCons (eVarV 0) (aCons (eCon (.int 5)) aNil)))) aNil))))
noncomputable def F__law_frac : List SV → Mo SV := runF 1 f__law_frac
theorem sc__law_frac : FnScope ["bag"] ["bag"] (defScope (top 33)) := ⟨rfl, rfl, rfl, by decide +kernel, rfl, by decide +kernel, by decide +kernel⟩
theorem ok__law_frac (F : VL.FnP K "_law_frac" (top 33) f fd) (hm : mg "_law_frac" = some (.ref f)) (fr : Fr mg) (d__law_draw : DefOk P w K mg base 33 "_law_draw" 2 F__law_draw) (d__law_f : DefOk P w K mg base 34 "_law_f" 2 F__law_f) : DefOk P w K mg base 35 "_law_frac" 1 F__law_frac :=
  mk_def (k := 34) (fb := f__law_frac) F hm sc__law_frac (by decide) (fun _ _ _ _ _ _ us hl => match us, hl with | [_], _ => rfl) fun cdv A outer s H E hr E0 A0 Pr =>
  (ss_one (s_ret (v_call (bs := []) (d__law_f.mono (k := 34) (by decide)) rfl rfl hr rfl (takes_of rfl rfl rfl rfl) (a_cons (v_sub (ka := .be) (kb := .be) (v_call (bs := []) (d__law_draw.mono (k := 34) (by decide)) rfl rfl hr rfl (takes_of rfl rfl rfl rfl) (a_cons (v_varV (pv 0)) (a_cons v_int a_nil))) v_int) (a_cons (v_add (hk := rfl) (ka := .be) (kb := .be) v_int (v_call (bs := []) (d__law_draw.mono (k := 34) (by decide)) rfl rfl hr rfl (takes_of rfl rfl rfl rfl) (a_cons (v_varV (pv 0)) (a_cons v_int a_nil)))) a_nil)))))
/-! ### total -/
noncomputable def f_total : Rho → Sto → Option Fl :=
  (sSeq
  (sSet 1 (eCon (.tuple [.int 0, .int 1])))
  (sSeq
  (sFor (iSeq (eVarV 0)) (gNm 2)
  (sSet 1 (eCall 2 F_plus [] (aCons (eVarV 1) (aCons (eVarV 2) aNil)))))
  (sRetV 1)))
noncomputable def F_total : List SV → Mo SV := runF 3 f_total
theorem sc_total : FnScope ["xs", "found", "x"] ["xs"] (defScope (top 15)) := ⟨rfl, rfl, rfl, by decide +kernel, rfl, by decide +kernel, by decide +kernel⟩
theorem ok_total (F : VL.FnP K "total" (top 15) f fd) (hm : mg "total" = some (.ref f)) (fr : Fr mg) (d_plus : DefOk P w K mg base 35 "plus" 2 F_plus) (g_NOTHING : GlobC K mg "NOTHING" (.tuple [.int 0, .int 1])) : DefOk P w K mg base 36 "total" 1 F_total :=
  mk_def (k := 35) (fb := f_total) F hm sc_total (by decide) (fun _ _ _ _ _ _ us hl => match us, hl with | [_], _ => rfl) fun cdv A outer s H E hr E0 A0 Pr =>
  (ss_cons (s_set (i := 1) sc_total.nd rfl (by first | exact Or.inl rfl | exact Or.inr rfl) (v_gc rfl g_NOTHING rfl))
  (ss_cons (s_for (passes_of rfl) rfl (i_seqF rfl (v_varV (pv 0))) (pg_name sc_total.nd rfl (by first | exact Or.inl rfl | exact Or.inr rfl)) g_nm
  (ss_one (s_set (i := 1) sc_total.nd rfl (by first | exact Or.inl rfl | exact Or.inr rfl) (v_call (bs := []) (d_plus.mono (k := 35) (by decide)) rfl rfl hr rfl (takes_of rfl rfl rfl rfl) (a_cons (v_varV (pv 1)) (a_cons (v_varV (pv 2)) a_nil))))))
  (ss_one (s_retV (pv 1)))))
/-! ### reduced -/
noncomputable def f_reduced : Rho → Sto → Option Fl :=
  (sSeq
  (sSet 0 (eLc (iSeq (eVar 0)) (gNm 9) bYes (eFrz (eCal gList (aCons (eVar 9) aNil))) [9]))
  (sSeq
  (sSet 2 (eLst aNil))
  (sSeq
  (sFor (iRng1 (aCons (eVar 1) aNil)) (gNm 3)
  (sSeq
  (sSet 4 (eCal gLen (aCons (eVar 2) aNil)))
  (sSeq
  (sSet 5 (eCon (.none)))
  (sSeq
  (sFor (iRng2 (aCons (eVar 4) (aCons (eCal gLen (aCons (eVar 0) aNil)) aNil))) (gNm 6)
  (sIf (bAnd (bB (eBin (cB gIsN) (eVar 5) (eCon (.none)))) (bB (eBin (cB gNe) (eBin gIxB (eBin gIxB (eBin gIxB (eVar 0) (eVar 6)) (eVar 3)) (eCon (.int 0))) (eCon (.int 0)))))
  (sSet 5 (eVarV 6))
  sNil))
  (sIf (bB (eBin (cB gNotN) (eVar 5) (eCon (.none))))
  (sSeq
  (sSwp (lVar 0) (eVar 4) (lVar 0) (eVar 5) (eTup (aCons (eBin gIx (eVar 0) (eVar 5)) (aCons (eBin gIx (eVar 0) (eVar 4)) aNil))))
  (sSeq
  (sSet 7 (eBin gIx (eBin gIxB (eVar 0) (eVar 4)) (eVar 3)))
  (sSeq
  (sStore (lVar 0) (eVar 4) (eFrz (eLc (iSeq (eBin gIxB (eVar 0) (eVar 4))) (gNm 10) bYes (eCall 2 F_over [] (aCons (eVarV 10) (aCons (eVarV 7) aNil))) [10])))
  (sSeq
  (sFor (iRng1 (aCons (eCal gLen (aCons (eVar 0) aNil)) aNil)) (gNm 6)
  (sSeq
  (sSet 8 (eBin gIx (eBin gIxB (eVar 0) (eVar 6)) (eVar 3)))
  (sIf (bAnd (bB (eBin (cB gNe) (eVar 6) (eVar 4))) (bB (eBin (cB gNe) (eBin gIxB (eVar 8) (eCon (.int 0))) (eCon (.int 0)))))
  (sStore (lVar 0) (eVar 6) (eFrz (eLc (iZip2 (aCons (eBin gIxB (eVar 0) (eVar 6)) (aCons (eBin gIxB (eVar 0) (eVar 4)) aNil))) (gTp 2 (gsCons (gNm 10) (gsCons (gNm 11) gsNil))) bYes (eCall 2 F_minus [] (aCons (eVarV 10) (aCons (eCall 2 F_times [] (aCons (eVarV 8) (aCons (eVarV 11) aNil))) aNil))) [10, 11])))
  sNil)))
  (sAppend (lVar 2) (aCons (eVarV 3) aNil))))))
  sNil)))))
  (ghF [0, 2] (sRet (eTup (aCons (eVarV 0) (aCons (eVarV 2) aNil))))))))
noncomputable def F_reduced : List SV → Mo SV := runF 12 f_reduced
theorem sc_reduced : FnScope ["rows", "columns", "places", "column", "top", "found", "number", "lead", "factor", "row", "x", "y"] ["rows", "columns"] (defScope (top 17)) := ⟨rfl, rfl, rfl, by decide +kernel, rfl, by decide +kernel, by decide +kernel⟩
theorem ok_reduced (F : VL.FnP K "reduced" (top 17) f fd) (hm : mg "reduced" = some (.ref f)) (fr : Fr mg) (d_minus : DefOk P w K mg base 35 "minus" 2 F_minus) (d_times : DefOk P w K mg base 35 "times" 2 F_times) (d_over : DefOk P w K mg base 35 "over" 2 F_over) : DefOk P w K mg base 36 "reduced" 2 F_reduced :=
  mk_def (k := 35) (fb := f_reduced) F hm sc_reduced (by decide) (fun _ _ _ _ _ _ us hl => match us, hl with | [_, _], _ => rfl) fun cdv A outer s H E hr E0 A0 Pr =>
  (ss_cons (s_setLc (own := [("row", 9)]) (i := 0) rfl rfl rfl sc_reduced.nd (i_seq (ka := .be) rfl (v_var (pv 0))) (blk_of (by rfl)) (fun _ _ _ _ _ => (pg_name sc_reduced.nd rfl (by first | exact Or.inl rfl | exact Or.inr rfl))) g_nm (by decide) (fun _ _ _ _ _ => ts_nil) (fun _ _ _ _ _ => (v_frz (v_calT (ka := .be) call_list_of ok_list rfl fr.list boot_list' (a_cons (v_var (pv 9)) a_nil)))))
  (ss_cons (s_set (i := 2) sc_reduced.nd rfl (by first | exact Or.inl rfl | exact Or.inr rfl) (v_lst a_nil))
  (ss_cons (s_for (passes_of rfl) rfl (i_rng1 rfl fr.range (a_cons (v_var (pv 1)) a_nil)) (pg_name sc_reduced.nd rfl (by first | exact Or.inl rfl | exact Or.inr rfl)) g_nm
  (ss_cons (s_set (i := 4) sc_reduced.nd rfl (by first | exact Or.inl rfl | exact Or.inr rfl) (v_calB (ka := .be) call_len ok_len rfl fr.len boot_len' (a_cons (v_var (pv 2)) a_nil)))
  (ss_cons (s_set (i := 5) sc_reduced.nd rfl (by first | exact Or.inl rfl | exact Or.inr rfl) v_non)
  (ss_cons (s_for (passes_of rfl) rfl (i_rng2 rfl fr.range (a_cons (v_var (pv 4)) (a_cons (v_calB (ka := .be) call_len ok_len rfl fr.len boot_len' (a_cons (v_var (pv 0)) a_nil)) a_nil))) (pg_name sc_reduced.nd rfl (by first | exact Or.inl rfl | exact Or.inr rfl)) g_nm
  (ss_one (s_if (PW.pt (b_and (t_isN (ka := .be) (kb := .be) (v_var (pv 5)) v_non) (b_and1 (t_ne (ka := .be) (kb := .be) rfl hr.units (v_ixB (ka := .be) (kb := .be) rfl (v_ixB (ka := .be) (kb := .be) rfl (v_ixB (ka := .be) (kb := .be) rfl (v_var (pv 0)) (v_var (pv 6)) (fun _ _ => rfl)) (v_var (pv 3)) (fun _ _ => rfl)) v_int (fun _ _ => rfl)) v_int))))
  (ss_one (s_set (i := 5) sc_reduced.nd rfl (by first | exact Or.inl rfl | exact Or.inr rfl) (v_varV (pv 6))))
  ss_nil)))
  (ss_one (s_if (t_notN (ka := .be) (kb := .be) (v_var (pv 5)) v_non)
  (ss_cons (s_swp (kb := .be) (kb2 := .be) rfl rfl (l_var (pv 0)) (v_var (pv 4)) (l_var (pv 0)) (v_var (pv 5)) (v_tup (a_cons (v_ix (ka := .be) (kb := .be) rfl (v_var (pv 0)) (v_var (pv 5)) (fun _ _ => rfl)) (a_cons (v_ix (ka := .be) (kb := .be) rfl (v_var (pv 0)) (v_var (pv 4)) (fun _ _ => rfl)) a_nil))))
  (ss_cons (s_set (i := 7) sc_reduced.nd rfl (by first | exact Or.inl rfl | exact Or.inr rfl) (v_ix (ka := .be) (kb := .be) rfl (v_ixB (ka := .be) (kb := .be) rfl (v_var (pv 0)) (v_var (pv 4)) (fun _ _ => rfl)) (v_var (pv 3)) (fun _ _ => rfl)))
  (ss_cons (s_store (kb := .be) (l_var (pv 0)) (v_var (pv 4)) (v_frz (v_lc (own := [("x", 10)]) rfl sc_reduced.nd (i_seq (ka := .be) rfl (v_ixB (ka := .be) (kb := .be) rfl (v_var (pv 0)) (v_var (pv 4)) (fun _ _ => rfl))) (blk_of (by rfl)) (fun _ _ _ _ _ => (pg_name sc_reduced.nd rfl (by first | exact Or.inl rfl | exact Or.inr rfl))) g_nm (by decide) (fun _ _ _ _ _ => ts_nil) (fun _ _ _ _ _ => (v_call (bs := []) (d_over.mono (k := 35) (by decide)) rfl rfl hr rfl VL.takes0 (a_cons (v_varV (pv 10)) (a_cons (v_varV (pv 7)) a_nil)))))))
  (ss_cons (s_for (passes_of rfl) rfl (i_rng1 rfl fr.range (a_cons (v_calB (ka := .be) call_len ok_len rfl fr.len boot_len' (a_cons (v_var (pv 0)) a_nil)) a_nil)) (pg_name sc_reduced.nd rfl (by first | exact Or.inl rfl | exact Or.inr rfl)) g_nm
  (ss_cons (s_set (i := 8) sc_reduced.nd rfl (by first | exact Or.inl rfl | exact Or.inr rfl) (v_ix (ka := .be) (kb := .be) rfl (v_ixB (ka := .be) (kb := .be) rfl (v_var (pv 0)) (v_var (pv 6)) (fun _ _ => rfl)) (v_var (pv 3)) (fun _ _ => rfl)))
  (ss_one (s_if (PW.pt (b_and (t_ne (ka := .be) (kb := .be) rfl hr.units (v_var (pv 6)) (v_var (pv 4))) (b_and1 (t_ne (ka := .be) (kb := .be) rfl hr.units (v_ixB (ka := .be) (kb := .be) rfl (v_var (pv 8)) v_int (fun _ _ => rfl)) v_int))))
  (ss_one (s_store (kb := .be) (l_var (pv 0)) (v_var (pv 6)) (v_frz (v_lc (own := [("x", 10), ("y", 11)]) rfl sc_reduced.nd (i_zip rfl rfl fr.zip (a_cons (v_ixB (ka := .be) (kb := .be) rfl (v_var (pv 0)) (v_var (pv 6)) (fun _ _ => rfl)) (a_cons (v_ixB (ka := .be) (kb := .be) rfl (v_var (pv 0)) (v_var (pv 4)) (fun _ _ => rfl)) a_nil))) (blk_of (by rfl)) (fun _ _ _ _ _ => (L2.pg_tup rfl (pgs_cons (pg_name sc_reduced.nd rfl (by first | exact Or.inl rfl | exact Or.inr rfl)) (pgs_cons (pg_name sc_reduced.nd rfl (by first | exact Or.inl rfl | exact Or.inr rfl)) pgs_nil)))) (g_tp (gs_cons g_nm (gs_cons g_nm gs_nil))) (by decide) (fun _ _ _ _ _ => ts_nil) (fun _ _ _ _ _ => (v_call (bs := []) (d_minus.mono (k := 35) (by decide)) rfl rfl hr rfl VL.takes0 (a_cons (v_varV (pv 10)) (a_cons (v_call (bs := []) (d_times.mono (k := 35) (by decide)) rfl rfl hr rfl VL.takes0 (a_cons (v_varV (pv 8)) (a_cons (v_varV (pv 11)) a_nil))) a_nil))))))))
  ss_nil))))
  (ss_one (s_append (l_var (pv 2)) (a_cons (v_varV (pv 3)) a_nil)))))))
  ss_nil))))))
  (ss_one (s_ghF [0, 2] (s_ret (v_tup (a_cons (v_varV (pv 0)) (a_cons (v_varV (pv 2)) a_nil)))))))))
/-! ### determinant -/
noncomputable def f_determinant : Rho → Sto → Option Fl :=
  (sSeq
  (sSet 0 (eLc (iSeq (eVar 0)) (gNm 6) bYes (eFrz (eCal gList (aCons (eVar 6) aNil))) [6]))
  (sSeq
  (sSet 1 (eCon (.tuple [.int 1, .int 1])))
  (sSeq
  (sFor (iRng1 (aCons (eCal gLen (aCons (eVar 0) aNil)) aNil)) (gNm 2)
  (sSeq
  (sSet 3 (eCon (.none)))
  (sSeq
  (sFor (iRng2 (aCons (eVar 2) (aCons (eCal gLen (aCons (eVar 0) aNil)) aNil))) (gNm 4)
  (sIf (bAnd (bB (eBin (cB gIsN) (eVar 3) (eCon (.none)))) (bB (eBin (cB gNe) (eBin gIxB (eBin gIxB (eBin gIxB (eVar 0) (eVar 4)) (eVar 2)) (eCon (.int 0))) (eCon (.int 0)))))
  (sSet 3 (eVarV 4))
  sNil))
  (sSeq
  (sIf (bB (eBin (cB gIsN) (eVar 3) (eCon (.none))))
  (sRet (eCon (.tuple [.int 0, .int 1])))
  sNil)
  (sSeq
  (sIf (bB (eBin (cB gNe) (eVar 3) (eVar 2)))
  (sSeq
  (sSwp (lVar 0) (eVar 2) (lVar 0) (eVar 3) (eTup (aCons (eBin gIx (eVar 0) (eVar 3)) (aCons (eBin gIx (eVar 0) (eVar 2)) aNil))))
  (sSet 1 (eCall 2 F_fraction [] (aCons (eUn gNeg (eBin gIxB (eVar 1) (eCon (.int 0)))) (aCons (eBin gIx (eVar 1) (eCon (.int 1))) aNil)))))
  sNil)
  (sSeq
  (sSet 1 (eCall 2 F_times [] (aCons (eVarV 1) (aCons (eBin gIx (eBin gIxB (eVar 0) (eVar 2)) (eVar 2)) aNil))))
  (sFor (iRng2 (aCons (eBin gAdd (eVar 2) (eCon (.int 1))) (aCons (eCal gLen (aCons (eVar 0) aNil)) aNil))) (gNm 4)
  (sSeq
  (sSet 5 (eCall 2 F_over [] (aCons (eBin gIx (eBin gIxB (eVar 0) (eVar 4)) (eVar 2)) (aCons (eBin gIx (eBin gIxB (eVar 0) (eVar 2)) (eVar 2)) aNil))))
  (sIf (bB (eBin (cB gNe) (eBin gIxB (eVar 5) (eCon (.int 0))) (eCon (.int 0))))
  (sStore (lVar 0) (eVar 4) (eFrz (eLc (iZip2 (aCons (eBin gIxB (eVar 0) (eVar 4)) (aCons (eBin gIxB (eVar 0) (eVar 2)) aNil))) (gTp 2 (gsCons (gNm 7) (gsCons (gNm 8) gsNil))) bYes (eCall 2 F_minus [] (aCons (eVarV 7) (aCons (eCall 2 F_times [] (aCons (eVarV 5) (aCons (eVarV 8) aNil))) aNil))) [7, 8])))
  sNil)))))))))
  (sRetV 1))))
noncomputable def F_determinant : List SV → Mo SV := runF 9 f_determinant
theorem sc_determinant : FnScope ["rows", "found", "column", "lead", "number", "factor", "row", "x", "y"] ["rows"] (defScope (top 20)) := ⟨rfl, rfl, rfl, by decide +kernel, rfl, by decide +kernel, by decide +kernel⟩
theorem ok_determinant (F : VL.FnP K "determinant" (top 20) f fd) (hm : mg "determinant" = some (.ref f)) (fr : Fr mg) (d_fraction : DefOk P w K mg base 34 "fraction" 2 F_fraction) (d_minus : DefOk P w K mg base 35 "minus" 2 F_minus) (d_times : DefOk P w K mg base 35 "times" 2 F_times) (d_over : DefOk P w K mg base 35 "over" 2 F_over) (g_NOTHING : GlobC K mg "NOTHING" (.tuple [.int 0, .int 1])) (g_ONE : GlobC K mg "ONE" (.tuple [.int 1, .int 1])) : DefOk P w K mg base 36 "determinant" 1 F_determinant :=
  mk_def (k := 35) (fb := f_determinant) F hm sc_determinant (by decide) (fun _ _ _ _ _ _ us hl => match us, hl with | [_], _ => rfl) fun cdv A outer s H E hr E0 A0 Pr =>
  (ss_cons (s_setLc (own := [("row", 6)]) (i := 0) rfl rfl rfl sc_determinant.nd (i_seq (ka := .be) rfl (v_var (pv 0))) (blk_of (by rfl)) (fun _ _ _ _ _ => (pg_name sc_determinant.nd rfl (by first | exact Or.inl rfl | exact Or.inr rfl))) g_nm (by decide) (fun _ _ _ _ _ => ts_nil) (fun _ _ _ _ _ => (v_frz (v_calT (ka := .be) call_list_of ok_list rfl fr.list boot_list' (a_cons (v_var (pv 6)) a_nil)))))
  (ss_cons (s_set (i := 1) sc_determinant.nd rfl (by first | exact Or.inl rfl | exact Or.inr rfl) (v_gc rfl g_ONE rfl))
  (ss_cons (s_for (passes_of rfl) rfl (i_rng1 rfl fr.range (a_cons (v_calB (ka := .be) call_len ok_len rfl fr.len boot_len' (a_cons (v_var (pv 0)) a_nil)) a_nil)) (pg_name sc_determinant.nd rfl (by first | exact Or.inl rfl | exact Or.inr rfl)) g_nm
  (ss_cons (s_set (i := 3) sc_determinant.nd rfl (by first | exact Or.inl rfl | exact Or.inr rfl) v_non)
  (ss_cons (s_for (passes_of rfl) rfl (i_rng2 rfl fr.range (a_cons (v_var (pv 2)) (a_cons (v_calB (ka := .be) call_len ok_len rfl fr.len boot_len' (a_cons (v_var (pv 0)) a_nil)) a_nil))) (pg_name sc_determinant.nd rfl (by first | exact Or.inl rfl | exact Or.inr rfl)) g_nm
  (ss_one (s_if (PW.pt (b_and (t_isN (ka := .be) (kb := .be) (v_var (pv 3)) v_non) (b_and1 (t_ne (ka := .be) (kb := .be) rfl hr.units (v_ixB (ka := .be) (kb := .be) rfl (v_ixB (ka := .be) (kb := .be) rfl (v_ixB (ka := .be) (kb := .be) rfl (v_var (pv 0)) (v_var (pv 4)) (fun _ _ => rfl)) (v_var (pv 2)) (fun _ _ => rfl)) v_int (fun _ _ => rfl)) v_int))))
  (ss_one (s_set (i := 3) sc_determinant.nd rfl (by first | exact Or.inl rfl | exact Or.inr rfl) (v_varV (pv 4))))
  ss_nil)))
  (ss_cons (s_if (t_isN (ka := .be) (kb := .be) (v_var (pv 3)) v_non)
  (ss_one (s_ret (v_gc rfl g_NOTHING rfl)))
  ss_nil)
  (ss_cons (s_if (t_ne (ka := .be) (kb := .be) rfl hr.units (v_var (pv 3)) (v_var (pv 2)))
  (ss_cons (s_swp (kb := .be) (kb2 := .be) rfl rfl (l_var (pv 0)) (v_var (pv 2)) (l_var (pv 0)) (v_var (pv 3)) (v_tup (a_cons (v_ix (ka := .be) (kb := .be) rfl (v_var (pv 0)) (v_var (pv 3)) (fun _ _ => rfl)) (a_cons (v_ix (ka := .be) (kb := .be) rfl (v_var (pv 0)) (v_var (pv 2)) (fun _ _ => rfl)) a_nil))))
  (ss_one (s_set (i := 1) sc_determinant.nd rfl (by first | exact Or.inl rfl | exact Or.inr rfl) (v_call (bs := []) (d_fraction.mono (k := 35) (by decide)) rfl rfl hr rfl (takes_of rfl rfl rfl rfl) (a_cons (v_neg (ka := .be) (v_ixB (ka := .be) (kb := .be) rfl (v_var (pv 1)) v_int (fun _ _ => rfl))) (a_cons (v_ix (ka := .be) (kb := .be) rfl (v_var (pv 1)) v_int (fun _ _ => rfl)) a_nil))))))
  ss_nil)
  (ss_cons (s_set (i := 1) sc_determinant.nd rfl (by first | exact Or.inl rfl | exact Or.inr rfl) (v_call (bs := []) (d_times.mono (k := 35) (by decide)) rfl rfl hr rfl (takes_of rfl rfl rfl rfl) (a_cons (v_varV (pv 1)) (a_cons (v_ix (ka := .be) (kb := .be) rfl (v_ixB (ka := .be) (kb := .be) rfl (v_var (pv 0)) (v_var (pv 2)) (fun _ _ => rfl)) (v_var (pv 2)) (fun _ _ => rfl)) a_nil))))
  (ss_one (s_for (passes_of rfl) rfl (i_rng2 rfl fr.range (a_cons (v_add (hk := rfl) (ka := .be) (kb := .be) (v_var (pv 2)) v_int) (a_cons (v_calB (ka := .be) call_len ok_len rfl fr.len boot_len' (a_cons (v_var (pv 0)) a_nil)) a_nil))) (pg_name sc_determinant.nd rfl (by first | exact Or.inl rfl | exact Or.inr rfl)) g_nm
  (ss_cons (s_set (i := 5) sc_determinant.nd rfl (by first | exact Or.inl rfl | exact Or.inr rfl) (v_call (bs := []) (d_over.mono (k := 35) (by decide)) rfl rfl hr rfl (takes_of rfl rfl rfl rfl) (a_cons (v_ix (ka := .be) (kb := .be) rfl (v_ixB (ka := .be) (kb := .be) rfl (v_var (pv 0)) (v_var (pv 4)) (fun _ _ => rfl)) (v_var (pv 2)) (fun _ _ => rfl)) (a_cons (v_ix (ka := .be) (kb := .be) rfl (v_ixB (ka := .be) (kb := .be) rfl (v_var (pv 0)) (v_var (pv 2)) (fun _ _ => rfl)) (v_var (pv 2)) (fun _ _ => rfl)) a_nil))))
  (ss_one (s_if (t_ne (ka := .be) (kb := .be) rfl hr.units (v_ixB (ka := .be) (kb := .be) rfl (v_var (pv 5)) v_int (fun _ _ => rfl)) v_int)
  (ss_one (s_store (kb := .be) (l_var (pv 0)) (v_var (pv 4)) (v_frz (v_lc (own := [("x", 7), ("y", 8)]) rfl sc_determinant.nd (i_zip rfl rfl fr.zip (a_cons (v_ixB (ka := .be) (kb := .be) rfl (v_var (pv 0)) (v_var (pv 4)) (fun _ _ => rfl)) (a_cons (v_ixB (ka := .be) (kb := .be) rfl (v_var (pv 0)) (v_var (pv 2)) (fun _ _ => rfl)) a_nil))) (blk_of (by rfl)) (fun _ _ _ _ _ => (L2.pg_tup rfl (pgs_cons (pg_name sc_determinant.nd rfl (by first | exact Or.inl rfl | exact Or.inr rfl)) (pgs_cons (pg_name sc_determinant.nd rfl (by first | exact Or.inl rfl | exact Or.inr rfl)) pgs_nil)))) (g_tp (gs_cons g_nm (gs_cons g_nm gs_nil))) (by decide) (fun _ _ _ _ _ => ts_nil) (fun _ _ _ _ _ => (v_call (bs := []) (d_minus.mono (k := 35) (by decide)) rfl rfl hr rfl VL.takes0 (a_cons (v_varV (pv 7)) (a_cons (v_call (bs := []) (d_times.mono (k := 35) (by decide)) rfl rfl hr rfl VL.takes0 (a_cons (v_varV (pv 5)) (a_cons (v_varV (pv 8)) a_nil))) a_nil))))))))
  ss_nil)))))))))))
  (ss_one (s_retV (pv 1))))))
/-! ### _law_sum -/
noncomputable def f__law_sum : Rho → Sto → Option Fl :=
  (sSeq
  (sSet 1 (eTup (aCons (eCon (.int 0)) (aCons (eCon (.int 1)) aNil))))
  (sSeq
  (sFor (iSeq (eVarV 0)) (gNm 2)
  (sSet 1 (eCall 2 F__law_add [] (aCons (eVarV 1) (aCons (eVarV 2) aNil)))))
  (sRetV 1)))
noncomputable def F__law_sum : List SV → Mo SV := runF 3 f__law_sum
theorem sc__law_sum : FnScope ["xs", "found", "x"] ["xs"] (defScope (top 31)) := ⟨rfl, rfl, rfl, by decide +kernel, rfl, by decide +kernel, by decide +kernel⟩
theorem ok__law_sum (F : VL.FnP K "_law_sum" (top 31) f fd) (hm : mg "_law_sum" = some (.ref f)) (fr : Fr mg) (d__law_add : DefOk P w K mg base 35 "_law_add" 2 F__law_add) : DefOk P w K mg base 36 "_law_sum" 1 F__law_sum :=
  mk_def (k := 35) (fb := f__law_sum) F hm sc__law_sum (by decide) (fun _ _ _ _ _ _ us hl => match us, hl with | [_], _ => rfl) fun cdv A outer s H E hr E0 A0 Pr =>
  (ss_cons (s_set (i := 1) sc__law_sum.nd rfl (by first | exact Or.inl rfl | exact Or.inr rfl) (v_tup (a_cons v_int (a_cons v_int a_nil))))
  (ss_cons (s_for (passes_of rfl) rfl (i_seqF rfl (v_varV (pv 0))) (pg_name sc__law_sum.nd rfl (by first | exact Or.inl rfl | exact Or.inr rfl)) g_nm
  (ss_one (s_set (i := 1) sc__law_sum.nd rfl (by first | exact Or.inl rfl | exact Or.inr rfl) (v_call (bs := []) (d__law_add.mono (k := 35) (by decide)) rfl rfl hr rfl (takes_of rfl rfl rfl rfl) (a_cons (v_varV (pv 1)) (a_cons (v_varV (pv 2)) a_nil))))))
  (ss_one (s_retV (pv 1)))))
/-! ### _law_solve -/
noncomputable def f__law_solve : Rho → Sto → Option Fl :=
  (sSeq
  (sSet 0 (eLc (iRng1 (aCons (eCal gLen (aCons (eVar 0) aNil)) aNil)) (gNm 7) bYes (eFrz (eBin gAdd (eCal gList (aCons (eBin gIxB (eVar 0) (eVar 7)) aNil)) (eLst (aCons (eBin gIx (eVar 1) (eVar 7)) aNil)))) [7]))
  (sSeq
  (sSet 2 (eBin gSub (eCal gLen (aCons (eBin gIxB (eVar 0) (eCon (.int 0))) aNil)) (eCon (.int 1))))
  (sSeq
  (sSet 3 (eLst aNil))
  (sSeq
  (sFor (iRng1 (aCons (eVar 2) aNil)) (gNm 4)
  (sSeq
  (sSet 5 (eLc (iRng1 (aCons (eCal gLen (aCons (eVar 0) aNil)) aNil)) (gNm 7) (bAnd (bB (eBin (cB gNotIn) (eVar 7) (eLc (iSeq (eVar 3)) (gTp 2 (gsCons (gNm 10) (gsCons (gNm 12) gsNil))) bYes (eVarV 10) [10, 12]))) (bB (eBin (cB gNe) (eBin gIxB (eBin gIxB (eBin gIxB (eVar 0) (eVar 7)) (eVar 4)) (eCon (.int 0))) (eCon (.int 0))))) (eVarV 7) [7]))
  (sIf (bB (eBin (cB gGt) (eCal gLen (aCons (eVar 5) aNil)) (eCon (.int 0))))
  (sSeq
  (sSet 6 (eBin gIx (eBin gIxB (eVar 0) (eBin gIxB (eVar 5) (eCon (.int 0)))) (eVar 4)))
  (sSeq
  (sStore (lVar 0) (eBin gIxB (eVar 5) (eCon (.int 0))) (eFrz (eLc (iSeq (eBin gIxB (eVar 0) (eBin gIxB (eVar 5) (eCon (.int 0))))) (gNm 13) bYes (eCall 2 F__law_div [] (aCons (eVarV 13) (aCons (eVarV 6) aNil))) [13])))
  (sSeq
  (sFor (iRng1 (aCons (eCal gLen (aCons (eVar 0) aNil)) aNil)) (gNm 7)
  (sSeq
  (sSet 8 (eBin gIx (eBin gIxB (eVar 0) (eVar 7)) (eVar 4)))
  (sIf (bAnd (bB (eBin (cB gNe) (eVar 7) (eBin gIxB (eVar 5) (eCon (.int 0))))) (bB (eBin (cB gNe) (eBin gIxB (eVar 8) (eCon (.int 0))) (eCon (.int 0)))))
  (sStore (lVar 0) (eVar 7) (eFrz (eLc (iRng1 (aCons (eBin gAdd (eVar 2) (eCon (.int 1))) aNil)) (gNm 14) bYes (eCall 2 F__law_sub [] (aCons (eBin gIx (eBin gIxB (eVar 0) (eVar 7)) (eVar 14)) (aCons (eCall 2 F__law_mul [] (aCons (eVarV 8) (aCons (eBin gIx (eBin gIxB (eVar 0) (eBin gIxB (eVar 5) (eCon (.int 0)))) (eVar 14)) aNil))) aNil))) [14])))
  sNil)))
  (sAppend (lVar 3) (aCons (eTup (aCons (eBin gIx (eVar 5) (eCon (.int 0))) (aCons (eVarV 4) aNil))) aNil)))))
  sNil)))
  (sSeq
  (sSet 9 (eBin gMulT (eLst (aCons (eTup (aCons (eCon (.int 0)) (aCons (eCon (.int 1)) aNil))) aNil)) (eVar 2)))
  (sSeq
  (ghF [3] (sFor (iSeq (eVarV 3)) (gTp 2 (gsCons (gNm 10) (gsCons (gNm 4) gsNil)))
  (sStore (lVar 9) (eVar 4) (eBin gIx (eBin gIxB (eVar 0) (eVar 10)) (eVar 2)))))
  (sSeq
  (sSet 11 (eLc (iSeq (eVar 3)) (gTp 2 (gsCons (gNm 10) (gsCons (gNm 12) gsNil))) bYes (eVarV 10) [10, 12]))
  (sSeq
  (sIf (bB (eBin (cB gNe) (eLc (iRng1 (aCons (eCal gLen (aCons (eVar 0) aNil)) aNil)) (gNm 7) (bAnd (bB (eBin (cB gNotIn) (eVar 7) (eVar 11))) (bB (eBin (cB gNe) (eBin gIxB (eBin gIxB (eBin gIxB (eVar 0) (eVar 7)) (eVar 2)) (eCon (.int 0))) (eCon (.int 0))))) (eVarV 7) [7]) (eLst aNil)))
  (sRet (eCon (.none)))
  sNil)
  (sRetV 9)))))))))
noncomputable def F__law_solve : List SV → Mo SV := runF 15 f__law_solve
theorem sc__law_solve : FnScope ["rows", "right", "many", "done", "column", "left", "lead", "j", "factor", "found", "place", "used", "at", "x", "i"] ["rows", "right"] (defScope (top 32)) := ⟨rfl, rfl, rfl, by decide +kernel, rfl, by decide +kernel, by decide +kernel⟩
theorem ok__law_solve (F : VL.FnP K "_law_solve" (top 32) f fd) (hm : mg "_law_solve" = some (.ref f)) (fr : Fr mg) (d__law_sub : DefOk P w K mg base 35 "_law_sub" 2 F__law_sub) (d__law_mul : DefOk P w K mg base 35 "_law_mul" 2 F__law_mul) (d__law_div : DefOk P w K mg base 35 "_law_div" 2 F__law_div) : DefOk P w K mg base 36 "_law_solve" 2 F__law_solve :=
  mk_def (k := 35) (fb := f__law_solve) F hm sc__law_solve (by decide) (fun _ _ _ _ _ _ us hl => match us, hl with | [_, _], _ => rfl) fun cdv A outer s H E hr E0 A0 Pr =>
  (ss_cons (s_set (i := 0) sc__law_solve.nd rfl (by first | exact Or.inl rfl | exact Or.inr rfl) (v_lc (own := [("j", 7)]) rfl sc__law_solve.nd (i_rng1 rfl fr.range (a_cons (v_calB (ka := .be) call_len ok_len rfl fr.len boot_len' (a_cons (v_var (pv 0)) a_nil)) a_nil)) (blk_of (by rfl)) (fun _ _ _ _ _ => (pg_name sc__law_solve.nd rfl (by first | exact Or.inl rfl | exact Or.inr rfl))) g_nm (by decide) (fun _ _ _ _ _ => ts_nil) (fun _ _ _ _ _ => (v_frz (v_add (hk := rfl) (ka := .be) (kb := .be) (v_calT (ka := .be) call_list_of ok_list rfl fr.list boot_list' (a_cons (v_ixB (ka := .be) (kb := .be) rfl (v_var (pv 0)) (v_var (pv 7)) (fun _ _ => rfl)) a_nil)) (v_lst (a_cons (v_ix (ka := .be) (kb := .be) rfl (v_var (pv 1)) (v_var (pv 7)) (fun _ _ => rfl)) a_nil)))))))
  (ss_cons (s_set (i := 2) sc__law_solve.nd rfl (by first | exact Or.inl rfl | exact Or.inr rfl) (v_sub (ka := .be) (kb := .be) (v_calB (ka := .be) call_len ok_len rfl fr.len boot_len' (a_cons (v_ixB (ka := .be) (kb := .be) rfl (v_var (pv 0)) v_int (fun _ _ => rfl)) a_nil)) v_int))
  (ss_cons (s_set (i := 3) sc__law_solve.nd rfl (by first | exact Or.inl rfl | exact Or.inr rfl) (v_lst a_nil))
  (ss_cons (s_for (passes_of rfl) rfl (i_rng1 rfl fr.range (a_cons (v_var (pv 2)) a_nil)) (pg_name sc__law_solve.nd rfl (by first | exact Or.inl rfl | exact Or.inr rfl)) g_nm
  (ss_cons (s_set (i := 5) sc__law_solve.nd rfl (by first | exact Or.inl rfl | exact Or.inr rfl) (v_lc (own := [("j", 7)]) rfl sc__law_solve.nd (i_rng1 rfl fr.range (a_cons (v_calB (ka := .be) call_len ok_len rfl fr.len boot_len' (a_cons (v_var (pv 0)) a_nil)) a_nil)) (blk_of (by rfl)) (fun _ _ _ _ _ => (pg_name sc__law_solve.nd rfl (by first | exact Or.inl rfl | exact Or.inr rfl))) g_nm (by decide) (fun _ _ _ _ _ => (ts_one (PW.pt (b_and (t_notIn (ka := .be) (kb := .be) rfl (u65 hr) (v_var (pv 7)) (v_lc (own := [("place", 10), ("at", 12)]) rfl sc__law_solve.nd (i_seq (ka := .be) rfl (v_var (pv 3))) (blk_of (by rfl)) (fun _ _ _ _ _ => (L2.pg_tup rfl (pgs_cons (pg_name sc__law_solve.nd rfl (by first | exact Or.inl rfl | exact Or.inr rfl)) (pgs_cons (pg_name sc__law_solve.nd rfl (by first | exact Or.inl rfl | exact Or.inr rfl)) pgs_nil)))) (g_tp (gs_cons g_nm (gs_cons g_nm gs_nil))) (by decide) (fun _ _ _ _ _ => ts_nil) (fun _ _ _ _ _ => (v_varV (pv 10)))) (by rfl)) (b_and1 (t_ne (ka := .be) (kb := .be) rfl hr.units (v_ixB (ka := .be) (kb := .be) rfl (v_ixB (ka := .be) (kb := .be) rfl (v_ixB (ka := .be) (kb := .be) rfl (v_var (pv 0)) (v_var (pv 7)) (fun _ _ => rfl)) (v_var (pv 4)) (fun _ _ => rfl)) v_int (fun _ _ => rfl)) v_int)))))) (fun _ _ _ _ _ => (v_varV (pv 7)))))
  (ss_one (s_if (t_gt (ka := .be) (kb := .be) (v_calB (ka := .be) call_len ok_len rfl fr.len boot_len' (a_cons (v_var (pv 5)) a_nil)) v_int)
  (ss_cons (s_set (i := 6) sc__law_solve.nd rfl (by first | exact Or.inl rfl | exact Or.inr rfl) (v_ix (ka := .be) (kb := .be) rfl (v_ixB (ka := .be) (kb := .be) rfl (v_var (pv 0)) (v_ixB (ka := .be) (kb := .be) rfl (v_var (pv 5)) v_int (fun _ _ => rfl)) (fun _ _ => rfl)) (v_var (pv 4)) (fun _ _ => rfl)))
  (ss_cons (s_store (kb := .be) (l_var (pv 0)) (v_ixB (ka := .be) (kb := .be) rfl (v_var (pv 5)) v_int (fun _ _ => rfl)) (v_frz (v_lc (own := [("x", 13)]) rfl sc__law_solve.nd (i_seq (ka := .be) rfl (v_ixB (ka := .be) (kb := .be) rfl (v_var (pv 0)) (v_ixB (ka := .be) (kb := .be) rfl (v_var (pv 5)) v_int (fun _ _ => rfl)) (fun _ _ => rfl))) (blk_of (by rfl)) (fun _ _ _ _ _ => (pg_name sc__law_solve.nd rfl (by first | exact Or.inl rfl | exact Or.inr rfl))) g_nm (by decide) (fun _ _ _ _ _ => ts_nil) (fun _ _ _ _ _ => (v_call (bs := []) (d__law_div.mono (k := 35) (by decide)) rfl rfl hr rfl VL.takes0 (a_cons (v_varV (pv 13)) (a_cons (v_varV (pv 6)) a_nil)))))))
  (ss_cons (s_for (passes_of rfl) rfl (i_rng1 rfl fr.range (a_cons (v_calB (ka := .be) call_len ok_len rfl fr.len boot_len' (a_cons (v_var (pv 0)) a_nil)) a_nil)) (pg_name sc__law_solve.nd rfl (by first | exact Or.inl rfl | exact Or.inr rfl)) g_nm
  (ss_cons (s_set (i := 8) sc__law_solve.nd rfl (by first | exact Or.inl rfl | exact Or.inr rfl) (v_ix (ka := .be) (kb := .be) rfl (v_ixB (ka := .be) (kb := .be) rfl (v_var (pv 0)) (v_var (pv 7)) (fun _ _ => rfl)) (v_var (pv 4)) (fun _ _ => rfl)))
  (ss_one (s_if (PW.pt (b_and (t_ne (ka := .be) (kb := .be) rfl hr.units (v_var (pv 7)) (v_ixB (ka := .be) (kb := .be) rfl (v_var (pv 5)) v_int (fun _ _ => rfl))) (b_and1 (t_ne (ka := .be) (kb := .be) rfl hr.units (v_ixB (ka := .be) (kb := .be) rfl (v_var (pv 8)) v_int (fun _ _ => rfl)) v_int))))
  (ss_one (s_store (kb := .be) (l_var (pv 0)) (v_var (pv 7)) (v_frz (v_lc (own := [("i", 14)]) rfl sc__law_solve.nd (i_rng1 rfl fr.range (a_cons (v_add (hk := rfl) (ka := .be) (kb := .be) (v_var (pv 2)) v_int) a_nil)) (blk_of (by rfl)) (fun _ _ _ _ _ => (pg_name sc__law_solve.nd rfl (by first | exact Or.inl rfl | exact Or.inr rfl))) g_nm (by decide) (fun _ _ _ _ _ => ts_nil) (fun _ _ _ _ _ => (v_call (bs := []) (d__law_sub.mono (k := 35) (by decide)) rfl rfl hr rfl VL.takes0 (a_cons (v_ix (ka := .be) (kb := .be) rfl (v_ixB (ka := .be) (kb := .be) rfl (v_var (pv 0)) (v_var (pv 7)) (fun _ _ => rfl)) (v_var (pv 14)) (fun _ _ => rfl)) (a_cons (v_call (bs := []) (d__law_mul.mono (k := 35) (by decide)) rfl rfl hr rfl VL.takes0 (a_cons (v_varV (pv 8)) (a_cons (v_ix (ka := .be) (kb := .be) rfl (v_ixB (ka := .be) (kb := .be) rfl (v_var (pv 0)) (v_ixB (ka := .be) (kb := .be) rfl (v_var (pv 5)) v_int (fun _ _ => rfl)) (fun _ _ => rfl)) (v_var (pv 14)) (fun _ _ => rfl)) a_nil))) a_nil))))))))
  ss_nil))))
  (ss_one (s_append (l_var (pv 3)) (a_cons (v_tup (a_cons (v_ix (ka := .be) (kb := .be) rfl (v_var (pv 5)) v_int (fun _ _ => rfl)) (a_cons (v_varV (pv 4)) a_nil))) a_nil))))))
  ss_nil))))
  (ss_cons (s_set (i := 9) sc__law_solve.nd rfl (by first | exact Or.inl rfl | exact Or.inr rfl) (v_mulT (hk := rfl) (ka := .be) (kb := .be) (v_lst (a_cons (v_tup (a_cons v_int (a_cons v_int a_nil))) a_nil)) (v_var (pv 2))))
  (ss_cons (s_ghF [3] (s_for (passes_of rfl) rfl (i_seqF rfl (v_varV (pv 3))) (L2.pg_tup rfl (pgs_cons (pg_name sc__law_solve.nd rfl (by first | exact Or.inl rfl | exact Or.inr rfl)) (pgs_cons (pg_name sc__law_solve.nd rfl (by first | exact Or.inl rfl | exact Or.inr rfl)) pgs_nil))) (g_tp (gs_cons g_nm (gs_cons g_nm gs_nil)))
  (ss_one (s_store (kb := .be) (l_var (pv 9)) (v_var (pv 4)) (v_ix (ka := .be) (kb := .be) rfl (v_ixB (ka := .be) (kb := .be) rfl (v_var (pv 0)) (v_var (pv 10)) (fun _ _ => rfl)) (v_var (pv 2)) (fun _ _ => rfl))))))
  (ss_cons (s_set (i := 11) sc__law_solve.nd rfl (by first | exact Or.inl rfl | exact Or.inr rfl) (v_lc (own := [("place", 10), ("at", 12)]) rfl sc__law_solve.nd (i_seq (ka := .be) rfl (v_var (pv 3))) (blk_of (by rfl)) (fun _ _ _ _ _ => (L2.pg_tup rfl (pgs_cons (pg_name sc__law_solve.nd rfl (by first | exact Or.inl rfl | exact Or.inr rfl)) (pgs_cons (pg_name sc__law_solve.nd rfl (by first | exact Or.inl rfl | exact Or.inr rfl)) pgs_nil)))) (g_tp (gs_cons g_nm (gs_cons g_nm gs_nil))) (by decide) (fun _ _ _ _ _ => ts_nil) (fun _ _ _ _ _ => (v_varV (pv 10)))))
  (ss_cons (s_if (t_ne (ka := .be) (kb := .be) rfl hr.units (v_lc (own := [("j", 7)]) rfl sc__law_solve.nd (i_rng1 rfl fr.range (a_cons (v_calB (ka := .be) call_len ok_len rfl fr.len boot_len' (a_cons (v_var (pv 0)) a_nil)) a_nil)) (blk_of (by rfl)) (fun _ _ _ _ _ => (pg_name sc__law_solve.nd rfl (by first | exact Or.inl rfl | exact Or.inr rfl))) g_nm (by decide) (fun _ _ _ _ _ => (ts_one (PW.pt (b_and (t_notIn (ka := .be) (kb := .be) rfl (u65 hr) (v_var (pv 7)) (v_var (pv 11)) (by rfl)) (b_and1 (t_ne (ka := .be) (kb := .be) rfl hr.units (v_ixB (ka := .be) (kb := .be) rfl (v_ixB (ka := .be) (kb := .be) rfl (v_ixB (ka := .be) (kb := .be) rfl (v_var (pv 0)) (v_var (pv 7)) (fun _ _ => rfl)) (v_var (pv 2)) (fun _ _ => rfl)) v_int (fun _ _ => rfl)) v_int)))))) (fun _ _ _ _ _ => (v_varV (pv 7)))) (v_lst a_nil))
  (ss_one (s_ret v_non))
  ss_nil)
  (ss_one (s_retV (pv 9)))))))))))
/-! ### _law_determinant -/
noncomputable def f__law_determinant : Rho → Sto → Option Fl :=
  (sSeq
  (sSet 1 (eTup (aCons (eCon (.int 0)) (aCons (eCon (.int 1)) aNil))))
  (sSeq
  (sFor (iSeq (eFrz (eCall 1 F__law_orders [] (aCons (eCal gLen (aCons (eVar 0) aNil)) aNil)))) (gNm 2)
  (sSeq
  (sSet 3 (eTup (aCons (eCon (.int 1)) (aCons (eCon (.int 1)) aNil))))
  (sSeq
  (sFor (iRng1 (aCons (eCal gLen (aCons (eVar 0) aNil)) aNil)) (gNm 4)
  (sSeq
  (sSet 3 (eCall 2 F__law_mul [] (aCons (eVarV 3) (aCons (eBin gIx (eBin gIxB (eVar 0) (eVar 4)) (eBin gIxB (eVar 2) (eVar 4))) aNil))))
  (sSeq
  (sSet 5 (eCal gLen (aCons (eLc (iRng1 (aCons (eVar 4) aNil)) (gNm 6) (bB (eBin (cB gGt) (eBin gIxB (eVar 2) (eVar 6)) (eBin gIxB (eVar 2) (eVar 4)))) (eVarV 6) [6]) aNil)))
  (sIf (bB (eBin (cB gNe) (eBin gMulT (eBin gFdivS (eVar 5) (eCon (.int 2))) (eCon (.int 2))) (eVar 5)))
  (sSet 3 (eTup (aCons (eUn gNeg (eBin gIxB (eVar 3) (eCon (.int 0)))) (aCons (eBin gIx (eVar 3) (eCon (.int 1))) aNil))))
  sNil))))
  (sSet 1 (eCall 2 F__law_add [] (aCons (eVarV 1) (aCons (eVarV 3) aNil)))))))
  (sRetV 1)))
noncomputable def F__law_determinant : List SV → Mo SV := runF 7 f__law_determinant
theorem sc__law_determinant : FnScope ["rows", "found", "order", "part", "j", "turns", "i"] ["rows"] (defScope (top 37)) := ⟨rfl, rfl, rfl, by decide +kernel, rfl, by decide +kernel, by decide +kernel⟩
theorem ok__law_determinant (F : VL.FnP K "_law_determinant" (top 37) f fd) (hm : mg "_law_determinant" = some (.ref f)) (fr : Fr mg) (d__law_orders : DefOk P w K mg base 33 "_law_orders" 1 F__law_orders) (d__law_add : DefOk P w K mg base 35 "_law_add" 2 F__law_add) (d__law_mul : DefOk P w K mg base 35 "_law_mul" 2 F__law_mul) (sr : SeerP P K) : DefOk P w K mg base 36 "_law_determinant" 1 F__law_determinant :=
  mk_def (k := 35) (fb := f__law_determinant) F hm sc__law_determinant (by decide) (fun _ _ _ _ _ _ us hl => match us, hl with | [_], _ => rfl) fun cdv A outer s H E hr E0 A0 Pr =>
  (ss_cons (s_set (i := 1) sc__law_determinant.nd rfl (by first | exact Or.inl rfl | exact Or.inr rfl) (v_tup (a_cons v_int (a_cons v_int a_nil))))
  (ss_cons (s_for (passes_of rfl) rfl (i_seqF rfl (v_frz (v_call (bs := []) (d__law_orders.mono (k := 35) (by decide)) rfl rfl hr rfl (takes_of rfl rfl rfl rfl) (a_cons (v_calB (ka := .be) call_len ok_len rfl fr.len boot_len' (a_cons (v_var (pv 0)) a_nil)) a_nil)))) (pg_name sc__law_determinant.nd rfl (by first | exact Or.inl rfl | exact Or.inr rfl)) g_nm
  (ss_cons (s_set (i := 3) sc__law_determinant.nd rfl (by first | exact Or.inl rfl | exact Or.inr rfl) (v_tup (a_cons v_int (a_cons v_int a_nil))))
  (ss_cons (s_for (passes_of rfl) rfl (i_rng1 rfl fr.range (a_cons (v_calB (ka := .be) call_len ok_len rfl fr.len boot_len' (a_cons (v_var (pv 0)) a_nil)) a_nil)) (pg_name sc__law_determinant.nd rfl (by first | exact Or.inl rfl | exact Or.inr rfl)) g_nm
  (ss_cons (s_set (i := 3) sc__law_determinant.nd rfl (by first | exact Or.inl rfl | exact Or.inr rfl) (v_call (bs := []) (d__law_mul.mono (k := 35) (by decide)) rfl rfl hr rfl (takes_of rfl rfl rfl rfl) (a_cons (v_varV (pv 3)) (a_cons (v_ix (ka := .be) (kb := .be) rfl (v_ixB (ka := .be) (kb := .be) rfl (v_var (pv 0)) (v_var (pv 4)) (fun _ _ => rfl)) (v_ixB (ka := .be) (kb := .be) rfl (v_var (pv 2)) (v_var (pv 4)) (fun _ _ => rfl)) (fun _ _ => rfl)) a_nil))))
  (ss_cons (s_set (i := 5) sc__law_determinant.nd rfl (by first | exact Or.inl rfl | exact Or.inr rfl) (v_calB (ka := .be) call_len ok_len rfl fr.len boot_len' (a_cons (v_lc (own := [("i", 6)]) rfl sc__law_determinant.nd (i_rng1 rfl fr.range (a_cons (v_var (pv 4)) a_nil)) (blk_of (by rfl)) (fun _ _ _ _ _ => (pg_name sc__law_determinant.nd rfl (by first | exact Or.inl rfl | exact Or.inr rfl))) g_nm (by decide) (fun _ _ _ _ _ => (ts_one (t_gt (ka := .be) (kb := .be) (v_ixB (ka := .be) (kb := .be) rfl (v_var (pv 2)) (v_var (pv 6)) (fun _ _ => rfl)) (v_ixB (ka := .be) (kb := .be) rfl (v_var (pv 2)) (v_var (pv 4)) (fun _ _ => rfl))))) (fun _ _ _ _ _ => (v_varV (pv 6)))) a_nil)))
  (ss_one (s_if (t_ne (ka := .be) (kb := .be) rfl hr.units (v_mulT (hk := rfl) (ka := .be) (kb := .be) (v_fdivS (pyroom sr hr (by decide) rfl rfl) (ka := .be) (kb := .be) (v_var (pv 5)) v_int) v_int) (v_var (pv 5)))
  (ss_one (s_set (i := 3) sc__law_determinant.nd rfl (by first | exact Or.inl rfl | exact Or.inr rfl) (v_tup (a_cons (v_neg (ka := .be) (v_ixB (ka := .be) (kb := .be) rfl (v_var (pv 3)) v_int (fun _ _ => rfl))) (a_cons (v_ix (ka := .be) (kb := .be) rfl (v_var (pv 3)) v_int (fun _ _ => rfl)) a_nil)))))
  ss_nil)))))
  (ss_one (s_set (i := 1) sc__law_determinant.nd rfl (by first | exact Or.inl rfl | exact Or.inr rfl) (v_call (bs := []) (d__law_add.mono (k := 35) (by decide)) rfl rfl hr rfl (takes_of rfl rfl rfl rfl) (a_cons (v_varV (pv 1)) (a_cons (v_varV (pv 3)) a_nil))))))))
  (ss_one (s_retV (pv 1)))))
/-! ### solved -/
noncomputable def f_solved : Rho → Sto → Option Fl :=
  (sSeq
  (sSet 2 (eCal gLen (aCons (eBin gIxB (eVar 0) (eCon (.int 0))) aNil)))
  (sSeq
  (sAsg (gTp 2 (gsCons (gNm 3) (gsCons (gNm 4) gsNil))) (eCall 2 F_reduced [] (aCons (eLc (iZip2 (aCons (eVar 0) (aCons (eVar 1) aNil))) (gTp 2 (gsCons (gNm 8) (gsCons (gNm 9) gsNil))) bYes (eBin gAdd (eCal gTuple (aCons (eVar 8) aNil)) (eTup (aCons (eVarV 9) aNil))) [8, 9]) (aCons (eVarV 2) aNil))))
  (sSeq
  (sIf (bVal (eCal gAny (aCons (eLc (iSeq (eSl (eVar 3) (pSome (eCal gLen (aCons (eVar 4) aNil))) pNone)) (gNm 8) bYes (eBin (cB gNe) (eBin gIxB (eBin gIxB (eVar 8) (eVar 2)) (eCon (.int 0))) (eCon (.int 0))) [8]) aNil)))
  (sRaise "NoSuch")
  sNil)
  (sSeq
  (sSet 5 (eBin gMulT (eLst (aCons (eCon (.tuple [.int 0, .int 1])) aNil)) (eVar 2)))
  (sSeq
  (sFor (iEnum1 (aCons (eVarV 4) aNil)) (gTp 2 (gsCons (gNm 6) (gsCons (gNm 7) gsNil)))
  (sStore (lVar 5) (eVar 7) (eBin gIx (eBin gIxB (eVar 3) (eVar 6)) (eVar 2))))
  (sRet (eCal gTuple (aCons (eVar 5) aNil))))))))
noncomputable def F_solved : List SV → Mo SV := runF 10 f_solved
theorem sc_solved : FnScope ["rows", "right", "columns", "found", "places", "solution", "number", "column", "row", "x"] ["rows", "right"] (defScope (top 18)) := ⟨rfl, rfl, rfl, by decide +kernel, rfl, by decide +kernel, by decide +kernel⟩
theorem ok_solved (F : VL.FnP K "solved" (top 18) f fd) (hm : mg "solved" = some (.ref f)) (fr : Fr mg) (d_reduced : DefOk P w K mg base 36 "reduced" 2 F_reduced) (g_NOTHING : GlobC K mg "NOTHING" (.tuple [.int 0, .int 1])) (e_NoSuch : ExcOk K mg "NoSuch") : DefOk P w K mg base 37 "solved" 2 F_solved :=
  mk_def (k := 36) (fb := f_solved) F hm sc_solved (by decide) (fun _ _ _ _ _ _ us hl => match us, hl with | [_, _], _ => rfl) fun cdv A outer s H E hr E0 A0 Pr =>
  (ss_cons (s_set (i := 2) sc_solved.nd rfl (by first | exact Or.inl rfl | exact Or.inr rfl) (v_calB (ka := .be) call_len ok_len rfl fr.len boot_len' (a_cons (v_ixB (ka := .be) (kb := .be) rfl (v_var (pv 0)) v_int (fun _ _ => rfl)) a_nil)))
  (ss_cons (s_asg (v_call (bs := []) (d_reduced.mono (k := 36) (by decide)) rfl rfl hr rfl (takes_of rfl rfl rfl rfl) (a_cons (v_lc (own := [("row", 8), ("x", 9)]) rfl sc_solved.nd (i_zip rfl rfl fr.zip (a_cons (v_var (pv 0)) (a_cons (v_var (pv 1)) a_nil))) (blk_of (by rfl)) (fun _ _ _ _ _ => (L2.pg_tup rfl (pgs_cons (pg_name sc_solved.nd rfl (by first | exact Or.inl rfl | exact Or.inr rfl)) (pgs_cons (pg_name sc_solved.nd rfl (by first | exact Or.inl rfl | exact Or.inr rfl)) pgs_nil)))) (g_tp (gs_cons g_nm (gs_cons g_nm gs_nil))) (by decide) (fun _ _ _ _ _ => ts_nil) (fun _ _ _ _ _ => (v_add (hk := rfl) (ka := .be) (kb := .be) (v_calT (ka := .be) call_tuple_of ok_tuple rfl fr.tuple boot_tuple' (a_cons (v_var (pv 8)) a_nil)) (v_tup (a_cons (v_varV (pv 9)) a_nil))))) (a_cons (v_varV (pv 2)) a_nil))) (L2.pg_tup rfl (pgs_cons (pg_name sc_solved.nd rfl (by first | exact Or.inl rfl | exact Or.inr rfl)) (pgs_cons (pg_name sc_solved.nd rfl (by first | exact Or.inl rfl | exact Or.inr rfl)) pgs_nil))) (g_tp (gs_cons g_nm (gs_cons g_nm gs_nil))))
  (ss_cons (s_if (b_val (ka := .be) rfl (v_calB (ka := .be) (cr_any rfl) ok_any rfl fr.any boot_any' (a_cons (v_lc (own := [("row", 8)]) rfl sc_solved.nd (i_seq (ka := .be) rfl (v_sl (ka := .be) rfl (v_var (pv 3)) (o_some (ka := .be) (v_calB (ka := .be) call_len ok_len rfl fr.len boot_len' (a_cons (v_var (pv 4)) a_nil))) o_none)) (blk_of (by rfl)) (fun _ _ _ _ _ => (pg_name sc_solved.nd rfl (by first | exact Or.inl rfl | exact Or.inr rfl))) g_nm (by decide) (fun _ _ _ _ _ => ts_nil) (fun _ _ _ _ _ => (v_ne (ka := .be) (kb := .be) rfl hr.units (v_ixB (ka := .be) (kb := .be) rfl (v_ixB (ka := .be) (kb := .be) rfl (v_var (pv 8)) (v_var (pv 2)) (fun _ _ => rfl)) v_int (fun _ _ => rfl)) v_int))) a_nil)))
  (ss_one (s_raise rfl e_NoSuch rfl (takes_of rfl rfl rfl rfl) rfl))
  ss_nil)
  (ss_cons (s_set (i := 5) sc_solved.nd rfl (by first | exact Or.inl rfl | exact Or.inr rfl) (v_mulT (hk := rfl) (ka := .be) (kb := .be) (v_lst (a_cons (v_gc rfl g_NOTHING rfl) a_nil)) (v_var (pv 2))))
  (ss_cons (s_for (passes_of rfl) rfl (i_enumF rfl rfl fr.enumerate (a_cons (v_varV (pv 4)) a_nil)) (L2.pg_tup rfl (pgs_cons (pg_name sc_solved.nd rfl (by first | exact Or.inl rfl | exact Or.inr rfl)) (pgs_cons (pg_name sc_solved.nd rfl (by first | exact Or.inl rfl | exact Or.inr rfl)) pgs_nil))) (g_tp (gs_cons g_nm (gs_cons g_nm gs_nil)))
  (ss_one (s_store (kb := .be) (l_var (pv 5)) (v_var (pv 7)) (v_ix (ka := .be) (kb := .be) rfl (v_ixB (ka := .be) (kb := .be) rfl (v_var (pv 3)) (v_var (pv 6)) (fun _ _ => rfl)) (v_var (pv 2)) (fun _ _ => rfl)))))
  (ss_one (s_ret (v_calT (ka := .be) call_tuple_of ok_tuple rfl fr.tuple boot_tuple' (a_cons (v_var (pv 5)) a_nil)))))))))
/-! ### rank -/
noncomputable def f_rank : Rho → Sto → Option Fl :=
  (sSeq
  (sIf (bB (eBin (cB gEq) (eCal gLen (aCons (eVar 0) aNil)) (eCon (.int 0))))
  (sRet (eCon (.int 0)))
  sNil)
  (sSeq
  (sAsg (gTp 2 (gsCons (gNm 1) (gsCons (gNm 2) gsNil))) (eCall 2 F_reduced [] (aCons (eVarV 0) (aCons (eCal gLen (aCons (eBin gIxB (eVar 0) (eCon (.int 0))) aNil)) aNil))))
  (sRet (eCal gLen (aCons (eVar 2) aNil)))))
noncomputable def F_rank : List SV → Mo SV := runF 3 f_rank
theorem sc_rank : FnScope ["rows", "_", "places"] ["rows"] (defScope (top 19)) := ⟨rfl, rfl, rfl, by decide +kernel, rfl, by decide +kernel, by decide +kernel⟩
theorem ok_rank (F : VL.FnP K "rank" (top 19) f fd) (hm : mg "rank" = some (.ref f)) (fr : Fr mg) (d_reduced : DefOk P w K mg base 36 "reduced" 2 F_reduced) : DefOk P w K mg base 37 "rank" 1 F_rank :=
  mk_def (k := 36) (fb := f_rank) F hm sc_rank (by decide) (fun _ _ _ _ _ _ us hl => match us, hl with | [_], _ => rfl) fun cdv A outer s H E hr E0 A0 Pr =>
  (ss_cons (s_if (t_eq (ka := .be) (kb := .be) rfl hr.units (v_calB (ka := .be) call_len ok_len rfl fr.len boot_len' (a_cons (v_var (pv 0)) a_nil)) v_int)
  (ss_one (s_ret v_int))
  ss_nil)
  (ss_cons (s_asg (v_call (bs := []) (d_reduced.mono (k := 36) (by decide)) rfl rfl hr rfl (takes_of rfl rfl rfl rfl) (a_cons (v_varV (pv 0)) (a_cons (v_calB (ka := .be) call_len ok_len rfl fr.len boot_len' (a_cons (v_ixB (ka := .be) (kb := .be) rfl (v_var (pv 0)) v_int (fun _ _ => rfl)) a_nil)) a_nil))) (L2.pg_tup rfl (pgs_cons (pg_name sc_rank.nd rfl (by first | exact Or.inl rfl | exact Or.inr rfl)) (pgs_cons (pg_name sc_rank.nd rfl (by first | exact Or.inl rfl | exact Or.inr rfl)) pgs_nil))) (g_tp (gs_cons g_nm (gs_cons g_nm gs_nil))))
  (ss_one (s_ret (v_calB (ka := .be) call_len ok_len rfl fr.len boot_len' (a_cons (v_var (pv 2)) a_nil))))))
/-! ### _law_told -/
noncomputable def f__law_told : Rho → Sto → Option Fl :=
  (sTryM mt [("BadValue", (sRet (eCon (.str "value")))),
  ("NoSuch", (sRet (eCon (.str "none"))))]
  (sRet (eCallL 0 2 [("fraction", F_fraction), ("over", F_over), ("solved", F_solved)] [] (aCons (eVarV 1) (aCons (eVarV 2) aNil)))))
noncomputable def F__law_told : List SV → Mo SV := runF 3 f__law_told
theorem sc__law_told : FnScope ["call", "x", "y"] ["call", "x", "y"] (defScope (top 35)) := ⟨rfl, rfl, rfl, by decide +kernel, rfl, by decide +kernel, by decide +kernel⟩
theorem ok__law_told (F : VL.FnP K "_law_told" (top 35) f fd) (hm : mg "_law_told" = some (.ref f)) (fr : Fr mg) (d_fraction : DefOk P w K mg base 34 "fraction" 2 F_fraction) (d_over : DefOk P w K mg base 35 "over" 2 F_over) (d_solved : DefOk P w K mg base 37 "solved" 2 F_solved) (e_BadValue : ExcOk K mg "BadValue") (e_NoSuch : ExcOk K mg "NoSuch") (hmt : MtOk K mg mt) : DefOk P w K mg base 38 "_law_told" 3 F__law_told :=
  mk_def (k := 37) (fb := f__law_told) F hm sc__law_told (by decide) (fun _ _ _ _ _ _ us hl => match us, hl with | [_, _, _], _ => rfl) fun cdv A outer s H E hr E0 A0 Pr =>
  (ss_one (s_tryM rfl hmt (HdM.cons e_BadValue rfl (fun a oe pn => (ss_one (s_ret v_str))) (HdM.cons e_NoSuch rfl (fun a oe pn => (ss_one (s_ret v_str))) HdM.nil)) rfl rfl (takes_of rfl rfl rfl rfl) (fun W pn xe tk' hp' => (ss_one (s_ret (v_callL (i := 0) (hd_cons (d_fraction.mono (k := 37) (by decide)) (hd_cons (d_over.mono (k := 37) (by decide)) (hd_cons (d_solved.mono (k := 37) (by decide)) hd_nil))) rfl rfl hr rfl (by first | exact Or.inl rfl | exact Or.inr (Or.inl rfl) | exact Or.inr (Or.inr rfl)) tk' (a_cons (v_varV (pv 1)) (a_cons (v_varV (pv 2)) a_nil))))))))
/-! ### _law_same -/
noncomputable def f__law_same (FF : List SV → Mo SV) : Rho → Sto → Option Fl :=
  (sSeq
  (sIf (bVal (eIsi1 (eVar 0) ["tuple"]))
  (sRet (eAnd (eIsi1 (eVar 1) ["tuple"]) (eAnd (eBin (cB gEq) (eCal gLen (aCons (eVar 0) aNil)) (eCal gLen (aCons (eVar 1) aNil))) (eBin (cB gNotIn) (eCon (.bool false)) (eLc (iRng1 (aCons (eCal gLen (aCons (eVar 0) aNil)) aNil)) (gNm 2) bYes (eCall 2 FF [] (aCons (eBin gIx (eVar 0) (eVar 2)) (aCons (eBin gIx (eVar 1) (eVar 2)) aNil))) [2])))))
  sNil)
  (sSeq
  (sIf (bB (eBin (cB gIsN) (eVar 0) (eCon (.none))))
  (sRet (eBin (cB gIsN) (eVar 1) (eCon (.none))))
  sNil)
  (sSeq
  (sIf (bVal (eIsi1 (eVar 0) ["str"]))
  (sRet (eAnd (eIsi1 (eVar 1) ["str"]) (eBin (cB gEq) (eVar 0) (eVar 1))))
  sNil)
  (sRet (eAnd (eIsi1 (eVar 1) ["int"]) (eAnd (eNot (eIsi1 (eVar 1) ["bool"])) (eBin (cB gEq) (eVar 0) (eVar 1))))))))
noncomputable def R__law_same : Nat → List SV → Mo SV
  | 0 => runF 3 fun _ _ => none
  | n + 1 => runF 3 (f__law_same (R__law_same n))
noncomputable def F__law_same : List SV → Mo SV := R__law_same 8
theorem sc__law_same : FnScope ["one", "other", "k"] ["one", "other"] (defScope (top 34)) := ⟨rfl, rfl, rfl, by decide +kernel, rfl, by decide +kernel, by decide +kernel⟩
theorem okn__law_same (F : VL.FnP K "_law_same" (top 34) f fd) (hm : mg "_law_same" = some (.ref f)) (fr : Fr mg) : ∀ n, DefOk P w K mg base (33 + n) "_law_same" 2 (R__law_same n)
  | 0 => mk_def0 (k := 32) F hm sc__law_same (by decide) (fun _ _ _ _ _ _ us hl => match us, hl with | [_, _], _ => rfl)
  | n + 1 => by
    have d__law_same := okn__law_same F hm fr n
    exact mk_def (k := 33 + n) (fb := f__law_same (R__law_same n)) F hm sc__law_same (by decide) (fun _ _ _ _ _ _ us hl => match us, hl with | [_, _], _ => rfl) fun cdv A outer s H E hr E0 A0 Pr =>
  (ss_cons (s_if (b_val (ka := .be) rfl (v_isi (ka := .be) (T := "tuple") rfl (by decide) rfl fr.isinstance (v_var (pv 0)) rfl fr.tuple boot_tuple'))
  (ss_one (s_ret (v_and (ka := .fe) (v_isi (ka := .be) (T := "tuple") rfl (by decide) rfl fr.isinstance (v_var (pv 1)) rfl fr.tuple boot_tuple') (v_and (ka := .fe) (v_eq (ka := .be) (kb := .be) rfl hr.units (v_calB (ka := .be) call_len ok_len rfl fr.len boot_len' (a_cons (v_var (pv 0)) a_nil)) (v_calB (ka := .be) call_len ok_len rfl fr.len boot_len' (a_cons (v_var (pv 1)) a_nil))) (v_one (v_notIn (ka := .be) (kb := .be) rfl (u65 hr) v_bl (v_lc (own := [("k", 2)]) rfl sc__law_same.nd (i_rng1 rfl fr.range (a_cons (v_calB (ka := .be) call_len ok_len rfl fr.len boot_len' (a_cons (v_var (pv 0)) a_nil)) a_nil)) (blk_of (by rfl)) (fun _ _ _ _ _ => (pg_name sc__law_same.nd rfl (by first | exact Or.inl rfl | exact Or.inr rfl))) g_nm (by decide) (fun _ _ _ _ _ => ts_nil) (fun _ _ _ _ _ => (v_call (bs := []) d__law_same rfl rfl hr rfl VL.takes0 (a_cons (v_ix (ka := .be) (kb := .be) rfl (v_var (pv 0)) (v_var (pv 2)) (fun _ _ => rfl)) (a_cons (v_ix (ka := .be) (kb := .be) rfl (v_var (pv 1)) (v_var (pv 2)) (fun _ _ => rfl)) a_nil))))) (by rfl)))))))
  ss_nil)
  (ss_cons (s_if (t_isN (ka := .be) (kb := .be) (v_var (pv 0)) v_non)
  (ss_one (s_ret (v_isN (ka := .be) (kb := .be) (v_var (pv 1)) v_non)))
  ss_nil)
  (ss_cons (s_if (b_val (ka := .be) rfl (v_isi (ka := .be) (T := "str") rfl (by decide) rfl fr.isinstance (v_var (pv 0)) rfl fr.str boot_str'))
  (ss_one (s_ret (v_and (ka := .fe) (v_isi (ka := .be) (T := "str") rfl (by decide) rfl fr.isinstance (v_var (pv 1)) rfl fr.str boot_str') (v_one (v_eq (ka := .be) (kb := .be) rfl hr.units (v_var (pv 0)) (v_var (pv 1)))))))
  ss_nil)
  (ss_one (s_ret (v_and (ka := .fe) (v_isi (ka := .be) (T := "int") rfl (by decide) rfl fr.isinstance (v_var (pv 1)) rfl fr.int boot_int') (v_and (ka := .fe) (v_not (ka := .be) (v_isi (ka := .be) (T := "bool") rfl (by decide) rfl fr.isinstance (v_var (pv 1)) rfl fr.bool boot_bool')) (v_one (v_eq (ka := .be) (kb := .be) rfl hr.units (v_var (pv 0)) (v_var (pv 1)))))))))))
theorem ok__law_same (F : VL.FnP K "_law_same" (top 34) f fd) (hm : mg "_law_same" = some (.ref f)) (fr : Fr mg) : DefOk P w K mg base 41 "_law_same" 2 F__law_same := okn__law_same F hm fr 8
/-! ### law -/
noncomputable def f_law : Rho → Sto → Option Fl :=
  (sSeq
  (sFor (iRng1 (aCons (eCal gMax2 (aCons (eCon (.int 1)) (aCons (eCal gMin2 (aCons (eCon (.int 6)) (aCons (eCal gLen (aCons (eVar 0) aNil)) aNil))) aNil))) aNil)) (gNm 1)
  (sSeq
  (sSet 2 (eCall 2 F__law_bag [] (aCons (eVarV 0) (aCons (eVarV 1) aNil))))
  (ghA 2
  (sSeq
  (sSet 3 (eCall 1 F__law_frac [] (aCons (eVarV 2) aNil)))
  (sSeq
  (sSet 4 (eCall 1 F__law_frac [] (aCons (eVarV 2) aNil)))
  (sSeq
  (sIf (bB (eBin (cB gNe) (eLst (aCons (eCall 2 F_plus [] (aCons (eVarV 3) (aCons (eVarV 4) aNil))) (aCons (eCall 2 F_minus [] (aCons (eVarV 3) (aCons (eVarV 4) aNil))) (aCons (eCall 2 F_times [] (aCons (eVarV 3) (aCons (eVarV 4) aNil))) aNil)))) (eLst (aCons (eCall 2 F__law_add [] (aCons (eVarV 3) (aCons (eVarV 4) aNil))) (aCons (eCall 2 F__law_sub [] (aCons (eVarV 3) (aCons (eVarV 4) aNil))) (aCons (eCall 2 F__law_mul [] (aCons (eVarV 3) (aCons (eVarV 4) aNil))) aNil))))))
  (sRet (eCon (.bool false)))
  sNil)
  (sSeq
  (sIf (bOr (bB (eBin (cB gNe) (eCall 3 F__law_told [] (aCons (eFn "over") (aCons (eVarV 3) (aCons (eVarV 4) aNil)))) (eIf (bB (eBin (cB gNe) (eBin gIxB (eVar 4) (eCon (.int 0))) (eCon (.int 0)))) (eCall 2 F__law_div [] (aCons (eVarV 3) (aCons (eVarV 4) aNil))) (eCon (.str "value"))))) (bB (eBin (cB gNe) (eCall 2 F_fraction [] (aCons (eBin gMulT (eCon (.int 6)) (eBin gIxB (eVar 3) (eCon (.int 0)))) (aCons (eBin gMulT (eUn gNeg (eCon (.int 6))) (eBin gIxB (eVar 3) (eCon (.int 1)))) aNil))) (eTup (aCons (eUn gNeg (eBin gIxB (eVar 3) (eCon (.int 0)))) (aCons (eBin gIx (eVar 3) (eCon (.int 1))) aNil))))))
  (sRet (eCon (.bool false)))
  sNil)
  (sSeq
  (sIf (bOr (bB (eBin (cB gNe) (eCall 1 F_sign [] (aCons (eVarV 3) aNil)) (eBin gSub (eCal gInt (aCons (eBin (cB gGt) (eBin gIxB (eVar 3) (eCon (.int 0))) (eCon (.int 0))) aNil)) (eCal gInt (aCons (eBin (cB gLt) (eBin gIxB (eVar 3) (eCon (.int 0))) (eCon (.int 0))) aNil))))) (bOr (bB (eBin (cB gNe) (eCal gReprB (aCons (eCall 2 F_less [] (aCons (eVarV 3) (aCons (eVarV 4) aNil))) aNil)) (eCal gReprB (aCons (eBin (cB gLt) (eBin gMulT (eBin gIxB (eVar 3) (eCon (.int 0))) (eBin gIxB (eVar 4) (eCon (.int 1)))) (eBin gMulT (eBin gIxB (eVar 4) (eCon (.int 0))) (eBin gIxB (eVar 3) (eCon (.int 1))))) aNil)))) (bB (eBin (cB gNe) (eCall 1 F_total [] (aCons (eLst (aCons (eVarV 3) (aCons (eVarV 4) (aCons (eVarV 3) aNil)))) aNil)) (eCall 1 F__law_sum [] (aCons (eLst (aCons (eVarV 3) (aCons (eVarV 4) (aCons (eVarV 3) aNil)))) aNil))))))
  (sRet (eCon (.bool false)))
  sNil)
  (sSeq
  (sSet 5 (eBin gAdd (eCon (.int 1)) (eCall 2 F__law_draw [] (aCons (eVarV 2) (aCons (eCon (.int 4)) aNil)))))
  (sSeq
  (sSet 6 (eBin gAdd (eCon (.int 1)) (eCall 2 F__law_draw [] (aCons (eVarV 2) (aCons (eCon (.int 5)) aNil)))))
  (sSeq
  (sSet 7 (eLc (iRng1 (aCons (eVar 5) aNil)) (gNm 11) bYes (eCal gTuple (aCons (eLc (iRng1 (aCons (eVar 6) aNil)) (gNm 13) bYes (eIf (bB (eBin (cB gGt) (eCall 2 F__law_draw [] (aCons (eVarV 2) (aCons (eCon (.int 3)) aNil))) (eCon (.int 0)))) (eCall 1 F__law_frac [] (aCons (eVarV 2) aNil)) (eTup (aCons (eCon (.int 0)) (aCons (eCon (.int 1)) aNil)))) [13]) aNil)) [11]))
  (sSeq
  (sIf (bAnd (bB (eBin (cB gGt) (eVar 5) (eCon (.int 1)))) (bB (eBin (cB gEq) (eCall 2 F__law_draw [] (aCons (eVarV 2) (aCons (eCon (.int 2)) aNil))) (eCon (.int 0)))))
  (sStore (lVar 7) (eUn gNeg (eCon (.int 1))) (eCal gTuple (aCons (eLc (iRng1 (aCons (eVar 6) aNil)) (gNm 13) bYes (eCall 2 F__law_add [] (aCons (eBin gIx (eBin gIxB (eVar 7) (eCon (.int 0))) (eVar 13)) (aCons (eCall 2 F__law_mul [] (aCons (eTup (aCons (eCon (.int 2)) (aCons (eCon (.int 1)) aNil))) (aCons (eBin gIx (eBin gIxB (eVar 7) (eUn gNeg (eCon (.int 2)))) (eVar 13)) aNil))) aNil))) [13]) aNil)))
  sNil)
  (sSeq
  (sSet 8 (eCal gTuple (aCons (eLc (iRng1 (aCons (eVar 5) aNil)) (gNm 11) bYes (eIf (bB (eBin (cB gEq) (eCall 2 F__law_draw [] (aCons (eVarV 2) (aCons (eCon (.int 2)) aNil))) (eCon (.int 0)))) (eCall 1 F__law_frac [] (aCons (eVarV 2) aNil)) (eTup (aCons (eCon (.int 0)) (aCons (eCon (.int 1)) aNil)))) [11]) aNil)))
  (sSeq
  (ghF [7] (sSet 9 (eCall 2 F__law_solve [] (aCons (eVarV 7) (aCons (eVarV 8) aNil)))))
  (sSeq
  (sSet 10 (eCall 3 F__law_told [] (aCons (eFn "solved") (aCons (eCal gTuple (aCons (eVar 7) aNil)) (aCons (eVarV 8) aNil)))))
  (sSeq
  (sIf (bB (eBin (cB gNe) (eVar 10) (eIf (bB (eBin (cB gIsN) (eVar 9) (eCon (.none)))) (eCon (.str "none")) (eCal gTuple (aCons (eVar 9) aNil)))))
  (sRet (eCon (.bool false)))
  sNil)
  (sSeq
  (sIf (bB (eBin (cB gNotN) (eVar 9) (eCon (.none))))
  (sFor (iRng1 (aCons (eVar 5) aNil)) (gNm 11)
  (sIf (bB (eBin (cB gNe) (eCall 1 F__law_sum [] (aCons (eLc (iRng1 (aCons (eVar 6) aNil)) (gNm 13) bYes (eCall 2 F__law_mul [] (aCons (eBin gIx (eBin gIxB (eVar 7) (eVar 11)) (eVar 13)) (aCons (eBin gIx (eVar 10) (eVar 13)) aNil))) [13]) aNil)) (eBin gIxB (eVar 8) (eVar 11))))
  (sRet (eCon (.bool false)))
  sNil))
  sNil)
  (sSeq
  (sSet 12 (eLst aNil))
  (sSeq
  (sFor (iRng1 (aCons (eVar 6) aNil)) (gNm 13)
  (sSeq
  (sIf (bB (eBin (cB gEq) (eVar 13) (eCon (.int 0))))
  (sSet 14 (eBin (cB gGt) (eCnt (eLc (iSeq (eVar 7)) (gNm 17) bYes (eBin (cB gNe) (eBin gIxB (eBin gIxB (eVar 17) (eCon (.int 0))) (eCon (.int 0))) (eCon (.int 0))) [17]) (eCon (.bool true))) (eCon (.int 0))))
  (sSet 14 (eBin (cB gIsN) (eCall 2 F__law_solve [] (aCons (eLc (iSeq (eVar 7)) (gNm 17) bYes (eSl (eVar 17) pNone (pSome (eVar 13))) [17]) (aCons (eLc (iSeq (eVar 7)) (gNm 17) bYes (eBin gIx (eVar 17) (eVar 13)) [17]) aNil))) (eCon (.none)))))
  (sAppend (lVar 12) (aCons (eVarV 14) aNil))))
  (sSeq
  (sIf (bB (eBin (cB gNe) (eCall 1 F_rank [] (aCons (eCal gTuple (aCons (eVar 7) aNil)) aNil)) (eCnt (eVar 12) (eCon (.bool true)))))
  (sRet (eCon (.bool false)))
  sNil)
  (sSeq
  (sSet 15 (eCall 2 F__law_draw [] (aCons (eVarV 2) (aCons (eCon (.int 5)) aNil))))
  (sSeq
  (sSet 16 (eCal gTuple (aCons (eLc (iRng1 (aCons (eVar 15) aNil)) (gNm 11) bYes (eCal gTuple (aCons (eLc (iRng1 (aCons (eVar 15) aNil)) (gNm 13) bYes (eCall 1 F__law_frac [] (aCons (eVarV 2) aNil)) [13]) aNil)) [11]) aNil)))
  (sIf (bNot (bVal (eCall 2 F__law_same [] (aCons (eCall 1 F__law_determinant [] (aCons (eVarV 16) aNil)) (aCons (eCall 1 F_determinant [] (aCons (eVarV 16) aNil)) aNil)))))
  (sRet (eCon (.bool false)))
  sNil)))))))))))))))))))))))
  (sRet (eAnd (eBin (cB gEq) (eCall 3 F__law_told [] (aCons (eFn "fraction") (aCons (eCon (.int 5)) (aCons (eCon (.int 0)) aNil)))) (eCon (.str "value"))) (eAnd (eBin (cB gEq) (eCall 1 F_total [] (aCons (eTup aNil) aNil)) (eTup (aCons (eCon (.int 0)) (aCons (eCon (.int 1)) aNil)))) (eBin (cB gEq) (eCall 1 F_determinant [] (aCons (eTup aNil) aNil)) (eTup (aCons (eCon (.int 1)) (aCons (eCon (.int 1)) aNil))))))))
noncomputable def F_law : List SV → Mo SV := runF 18 f_law
theorem sc_law : FnScope ["script", "k", "bag", "x", "y", "many", "columns", "rows", "right", "due", "told", "i", "independent", "j", "grown", "size", "square", "row"] ["script"] (defScope (top 38)) := ⟨rfl, rfl, rfl, by decide +kernel, rfl, by decide +kernel, by decide +kernel⟩
theorem ok_law0 (F : VL.FnP K "law" (top 38) f fd) (fr : Fr mg) (d_sign : DefOk P w K mg base 33 "sign" 1 F_sign) (d_less : DefOk P w K mg base 33 "less" 2 F_less) (d__law_bag : DefOk P w K mg base 33 "_law_bag" 2 F__law_bag) (d__law_draw : DefOk P w K mg base 33 "_law_draw" 2 F__law_draw) (d_fraction : DefOk P w K mg base 34 "fraction" 2 F_fraction) (d_plus : DefOk P w K mg base 35 "plus" 2 F_plus) (d_minus : DefOk P w K mg base 35 "minus" 2 F_minus) (d_times : DefOk P w K mg base 35 "times" 2 F_times) (d_over : DefOk P w K mg base 35 "over" 2 F_over) (d__law_add : DefOk P w K mg base 35 "_law_add" 2 F__law_add) (d__law_sub : DefOk P w K mg base 35 "_law_sub" 2 F__law_sub) (d__law_mul : DefOk P w K mg base 35 "_law_mul" 2 F__law_mul) (d__law_div : DefOk P w K mg base 35 "_law_div" 2 F__law_div) (d__law_frac : DefOk P w K mg base 35 "_law_frac" 1 F__law_frac) (d_total : DefOk P w K mg base 36 "total" 1 F_total) (d_determinant : DefOk P w K mg base 36 "determinant" 1 F_determinant) (d__law_sum : DefOk P w K mg base 36 "_law_sum" 1 F__law_sum) (d__law_solve : DefOk P w K mg base 36 "_law_solve" 2 F__law_solve) (d__law_determinant : DefOk P w K mg base 36 "_law_determinant" 1 F__law_determinant) (d_solved : DefOk P w K mg base 37 "solved" 2 F_solved) (d_rank : DefOk P w K mg base 37 "rank" 1 F_rank) (d__law_told : DefOk P w K mg base 38 "_law_told" 3 F__law_told) (d__law_same : DefOk P w K mg base 41 "_law_same" 2 F__law_same) : FnOk P w K mg base (L2.CX P w) 42 f fd ["script"] (spF K mg (List.length ["script"]) (runF (List.length ["script", "k", "bag", "x", "y", "many", "columns", "rows", "right", "due", "told", "i", "independent", "j", "grown", "size", "square", "row"]) f_law)) :=
  fn_vl2 (k := 41) (fb := f_law) (N := ["script", "k", "bag", "x", "y", "many", "columns", "rows", "right", "due", "told", "i", "independent", "j", "grown", "size", "square", "row"]) (ps := ["script"]) F sc_law (by decide) fun cdv A outer s H E hr E0 A0 Pr =>
  (ss_cons (s_for (passes_of rfl) rfl (i_rng1 rfl fr.range (a_cons (v_calB (ka := .be) (call_max2 rfl) ok_max2 rfl fr.max boot_max' (a_cons v_int (a_cons (v_calB (ka := .be) (call_min2 rfl) ok_min2 rfl fr.min boot_min' (a_cons v_int (a_cons (v_calB (ka := .be) call_len ok_len rfl fr.len boot_len' (a_cons (v_var (pv 0)) a_nil)) a_nil))) a_nil))) a_nil)) (pg_name sc_law.nd rfl (by first | exact Or.inl rfl | exact Or.inr rfl)) g_nm
  (ss_cons (s_set (i := 2) sc_law.nd rfl (by first | exact Or.inl rfl | exact Or.inr rfl) (v_call (bs := []) (d__law_bag.mono (k := 41) (by decide)) rfl rfl hr rfl (takes_of rfl rfl rfl rfl) (a_cons (v_varV (pv 0)) (a_cons (v_varV (pv 1)) a_nil))))
  (ss_ghA (i := 2) (ss_cons (s_set (i := 3) sc_law.nd rfl (by first | exact Or.inl rfl | exact Or.inr rfl) (v_call (bs := []) (d__law_frac.mono (k := 41) (by decide)) rfl rfl hr rfl (takes_of rfl rfl rfl rfl) (a_cons (v_varV (pv 2)) a_nil)))
  (ss_cons (s_set (i := 4) sc_law.nd rfl (by first | exact Or.inl rfl | exact Or.inr rfl) (v_call (bs := []) (d__law_frac.mono (k := 41) (by decide)) rfl rfl hr rfl (takes_of rfl rfl rfl rfl) (a_cons (v_varV (pv 2)) a_nil)))
  (ss_cons (s_if (t_ne (ka := .be) (kb := .be) rfl hr.units (v_lst (a_cons (v_call (bs := []) (d_plus.mono (k := 41) (by decide)) rfl rfl hr rfl (takes_of rfl rfl rfl rfl) (a_cons (v_varV (pv 3)) (a_cons (v_varV (pv 4)) a_nil))) (a_cons (v_call (bs := []) (d_minus.mono (k := 41) (by decide)) rfl rfl hr rfl (takes_of rfl rfl rfl rfl) (a_cons (v_varV (pv 3)) (a_cons (v_varV (pv 4)) a_nil))) (a_cons (v_call (bs := []) (d_times.mono (k := 41) (by decide)) rfl rfl hr rfl (takes_of rfl rfl rfl rfl) (a_cons (v_varV (pv 3)) (a_cons (v_varV (pv 4)) a_nil))) a_nil)))) (v_lst (a_cons (v_call (bs := []) (d__law_add.mono (k := 41) (by decide)) rfl rfl hr rfl (takes_of rfl rfl rfl rfl) (a_cons (v_varV (pv 3)) (a_cons (v_varV (pv 4)) a_nil))) (a_cons (v_call (bs := []) (d__law_sub.mono (k := 41) (by decide)) rfl rfl hr rfl (takes_of rfl rfl rfl rfl) (a_cons (v_varV (pv 3)) (a_cons (v_varV (pv 4)) a_nil))) (a_cons (v_call (bs := []) (d__law_mul.mono (k := 41) (by decide)) rfl rfl hr rfl (takes_of rfl rfl rfl rfl) (a_cons (v_varV (pv 3)) (a_cons (v_varV (pv 4)) a_nil))) a_nil)))))
  (ss_one (s_ret v_bl))
  ss_nil)
  (ss_cons (s_if (PW.pt (b_or (t_ne (ka := .be) (kb := .be) rfl hr.units (v_call (bs := []) (d__law_told.mono (k := 41) (by decide)) rfl rfl hr rfl (takes_of rfl rfl rfl rfl) (a_cons (v_fnD rfl d_over rfl) (a_cons (v_varV (pv 3)) (a_cons (v_varV (pv 4)) a_nil)))) (v_if (t_ne (ka := .be) (kb := .be) rfl hr.units (v_ixB (ka := .be) (kb := .be) rfl (v_var (pv 4)) v_int (fun _ _ => rfl)) v_int) (v_call (bs := []) (d__law_div.mono (k := 41) (by decide)) rfl rfl hr rfl (takes_of rfl rfl rfl rfl) (a_cons (v_varV (pv 3)) (a_cons (v_varV (pv 4)) a_nil))) v_str)) (b_or1 (t_ne (ka := .be) (kb := .be) rfl hr.units (v_call (bs := []) (d_fraction.mono (k := 41) (by decide)) rfl rfl hr rfl (takes_of rfl rfl rfl rfl) (a_cons (v_mulT (hk := rfl) (ka := .be) (kb := .be) v_int (v_ixB (ka := .be) (kb := .be) rfl (v_var (pv 3)) v_int (fun _ _ => rfl))) (a_cons (v_mulT (hk := rfl) (ka := .be) (kb := .be) (v_neg (ka := .be) v_int) (v_ixB (ka := .be) (kb := .be) rfl (v_var (pv 3)) v_int (fun _ _ => rfl))) a_nil))) (v_tup (a_cons (v_neg (ka := .be) (v_ixB (ka := .be) (kb := .be) rfl (v_var (pv 3)) v_int (fun _ _ => rfl))) (a_cons (v_ix (ka := .be) (kb := .be) rfl (v_var (pv 3)) v_int (fun _ _ => rfl)) a_nil)))))))
  (ss_one (s_ret v_bl))
  ss_nil)
  (ss_cons (s_if (PW.pt (b_or (t_ne (ka := .be) (kb := .be) rfl hr.units (v_call (bs := []) (d_sign.mono (k := 41) (by decide)) rfl rfl hr rfl (takes_of rfl rfl rfl rfl) (a_cons (v_varV (pv 3)) a_nil)) (v_sub (ka := .be) (kb := .be) (v_calT (ka := .be) call_int1 ok_int rfl fr.int boot_int' (a_cons (v_gt (ka := .be) (kb := .be) (v_ixB (ka := .be) (kb := .be) rfl (v_var (pv 3)) v_int (fun _ _ => rfl)) v_int) a_nil)) (v_calT (ka := .be) call_int1 ok_int rfl fr.int boot_int' (a_cons (v_lt (ka := .be) (kb := .be) rfl hr.units (v_ixB (ka := .be) (kb := .be) rfl (v_var (pv 3)) v_int (fun _ _ => rfl)) v_int) a_nil)))) (b_or (t_ne (ka := .be) (kb := .be) rfl hr.units (v_calB (ka := .be) call_repr_bool ok_reprB rfl fr.repr boot_repr' (a_cons (v_call (bs := []) (d_less.mono (k := 41) (by decide)) rfl rfl hr rfl (takes_of rfl rfl rfl rfl) (a_cons (v_varV (pv 3)) (a_cons (v_varV (pv 4)) a_nil))) a_nil)) (v_calB (ka := .be) call_repr_bool ok_reprB rfl fr.repr boot_repr' (a_cons (v_lt (ka := .be) (kb := .be) rfl hr.units (v_mulT (hk := rfl) (ka := .be) (kb := .be) (v_ixB (ka := .be) (kb := .be) rfl (v_var (pv 3)) v_int (fun _ _ => rfl)) (v_ixB (ka := .be) (kb := .be) rfl (v_var (pv 4)) v_int (fun _ _ => rfl))) (v_mulT (hk := rfl) (ka := .be) (kb := .be) (v_ixB (ka := .be) (kb := .be) rfl (v_var (pv 4)) v_int (fun _ _ => rfl)) (v_ixB (ka := .be) (kb := .be) rfl (v_var (pv 3)) v_int (fun _ _ => rfl)))) a_nil))) (b_or1 (t_ne (ka := .be) (kb := .be) rfl hr.units (v_call (bs := []) (d_total.mono (k := 41) (by decide)) rfl rfl hr rfl (takes_of rfl rfl rfl rfl) (a_cons (v_lst (a_cons (v_varV (pv 3)) (a_cons (v_varV (pv 4)) (a_cons (v_varV (pv 3)) a_nil)))) a_nil)) (v_call (bs := []) (d__law_sum.mono (k := 41) (by decide)) rfl rfl hr rfl (takes_of rfl rfl rfl rfl) (a_cons (v_lst (a_cons (v_varV (pv 3)) (a_cons (v_varV (pv 4)) (a_cons (v_varV (pv 3)) a_nil)))) a_nil)))))))
  (ss_one (s_ret v_bl))
  ss_nil)
  (ss_cons (s_set (i := 5) sc_law.nd rfl (by first | exact Or.inl rfl | exact Or.inr rfl) (v_add (hk := rfl) (ka := .be) (kb := .be) v_int (v_call (bs := []) (d__law_draw.mono (k := 41) (by decide)) rfl rfl hr rfl (takes_of rfl rfl rfl rfl) (a_cons (v_varV (pv 2)) (a_cons v_int a_nil)))))
  (ss_cons (s_set (i := 6) sc_law.nd rfl (by first | exact Or.inl rfl | exact Or.inr rfl) (v_add (hk := rfl) (ka := .be) (kb := .be) v_int (v_call (bs := []) (d__law_draw.mono (k := 41) (by decide)) rfl rfl hr rfl (takes_of rfl rfl rfl rfl) (a_cons (v_varV (pv 2)) (a_cons v_int a_nil)))))
  (ss_cons (s_set (i := 7) sc_law.nd rfl (by first | exact Or.inl rfl | exact Or.inr rfl) (v_lc (own := [("i", 11)]) rfl sc_law.nd (i_rng1 rfl fr.range (a_cons (v_var (pv 5)) a_nil)) (blk_of (by rfl)) (fun _ _ _ _ _ => (pg_name sc_law.nd rfl (by first | exact Or.inl rfl | exact Or.inr rfl))) g_nm (by decide) (fun _ _ _ _ _ => ts_nil) (fun _ _ _ _ _ => (v_calT (ka := .be) call_tuple_of ok_tuple rfl fr.tuple boot_tuple' (a_cons (v_lc (own := [("j", 13)]) rfl sc_law.nd (i_rng1 rfl fr.range (a_cons (v_var (pv 6)) a_nil)) (blk_of (by rfl)) (fun _ _ _ _ _ => (pg_name sc_law.nd rfl (by first | exact Or.inl rfl | exact Or.inr rfl))) g_nm (by decide) (fun _ _ _ _ _ => ts_nil) (fun _ _ _ _ _ => (v_if (t_gt (ka := .be) (kb := .be) (v_call (bs := []) (d__law_draw.mono (k := 41) (by decide)) rfl rfl hr rfl VL.takes0 (a_cons (v_varV (pv 2)) (a_cons v_int a_nil))) v_int) (v_call (bs := []) (d__law_frac.mono (k := 41) (by decide)) rfl rfl hr rfl VL.takes0 (a_cons (v_varV (pv 2)) a_nil)) (v_tup (a_cons v_int (a_cons v_int a_nil)))))) a_nil)))))
  (ss_cons (s_if (PW.pt (b_and (t_gt (ka := .be) (kb := .be) (v_var (pv 5)) v_int) (b_and1 (t_eq (ka := .be) (kb := .be) rfl hr.units (v_call (bs := []) (d__law_draw.mono (k := 41) (by decide)) rfl rfl hr rfl (takes_of rfl rfl rfl rfl) (a_cons (v_varV (pv 2)) (a_cons v_int a_nil))) v_int))))
  (ss_one (s_store (kb := .be) (l_var (pv 7)) (v_neg (ka := .be) v_int) (v_calT (ka := .be) call_tuple_of ok_tuple rfl fr.tuple boot_tuple' (a_cons (v_lc (own := [("j", 13)]) rfl sc_law.nd (i_rng1 rfl fr.range (a_cons (v_var (pv 6)) a_nil)) (blk_of (by rfl)) (fun _ _ _ _ _ => (pg_name sc_law.nd rfl (by first | exact Or.inl rfl | exact Or.inr rfl))) g_nm (by decide) (fun _ _ _ _ _ => ts_nil) (fun _ _ _ _ _ => (v_call (bs := []) (d__law_add.mono (k := 41) (by decide)) rfl rfl hr rfl VL.takes0 (a_cons (v_ix (ka := .be) (kb := .be) rfl (v_ixB (ka := .be) (kb := .be) rfl (v_var (pv 7)) v_int (fun _ _ => rfl)) (v_var (pv 13)) (fun _ _ => rfl)) (a_cons (v_call (bs := []) (d__law_mul.mono (k := 41) (by decide)) rfl rfl hr rfl VL.takes0 (a_cons (v_tup (a_cons v_int (a_cons v_int a_nil))) (a_cons (v_ix (ka := .be) (kb := .be) rfl (v_ixB (ka := .be) (kb := .be) rfl (v_var (pv 7)) (v_neg (ka := .be) v_int) (fun _ _ => rfl)) (v_var (pv 13)) (fun _ _ => rfl)) a_nil))) a_nil))))) a_nil))))
  ss_nil)
  (ss_cons (s_set (i := 8) sc_law.nd rfl (by first | exact Or.inl rfl | exact Or.inr rfl) (v_calT (ka := .be) call_tuple_of ok_tuple rfl fr.tuple boot_tuple' (a_cons (v_lc (own := [("i", 11)]) rfl sc_law.nd (i_rng1 rfl fr.range (a_cons (v_var (pv 5)) a_nil)) (blk_of (by rfl)) (fun _ _ _ _ _ => (pg_name sc_law.nd rfl (by first | exact Or.inl rfl | exact Or.inr rfl))) g_nm (by decide) (fun _ _ _ _ _ => ts_nil) (fun _ _ _ _ _ => (v_if (t_eq (ka := .be) (kb := .be) rfl hr.units (v_call (bs := []) (d__law_draw.mono (k := 41) (by decide)) rfl rfl hr rfl VL.takes0 (a_cons (v_varV (pv 2)) (a_cons v_int a_nil))) v_int) (v_call (bs := []) (d__law_frac.mono (k := 41) (by decide)) rfl rfl hr rfl VL.takes0 (a_cons (v_varV (pv 2)) a_nil)) (v_tup (a_cons v_int (a_cons v_int a_nil)))))) a_nil)))
  (ss_cons (s_ghF [7] (s_set (i := 9) sc_law.nd rfl (by first | exact Or.inl rfl | exact Or.inr rfl) (v_call (bs := []) (d__law_solve.mono (k := 41) (by decide)) rfl rfl hr rfl (takes_of rfl rfl rfl rfl) (a_cons (v_varV (pv 7)) (a_cons (v_varV (pv 8)) a_nil)))))
  (ss_cons (s_set (i := 10) sc_law.nd rfl (by first | exact Or.inl rfl | exact Or.inr rfl) (v_call (bs := []) (d__law_told.mono (k := 41) (by decide)) rfl rfl hr rfl (takes_of rfl rfl rfl rfl) (a_cons (v_fnD rfl d_solved rfl) (a_cons (v_calT (ka := .be) call_tuple_of ok_tuple rfl fr.tuple boot_tuple' (a_cons (v_var (pv 7)) a_nil)) (a_cons (v_varV (pv 8)) a_nil)))))
  (ss_cons (s_if (t_ne (ka := .be) (kb := .be) rfl hr.units (v_var (pv 10)) (v_if (t_isN (ka := .be) (kb := .be) (v_var (pv 9)) v_non) v_str (v_calT (ka := .be) call_tuple_of ok_tuple rfl fr.tuple boot_tuple' (a_cons (v_var (pv 9)) a_nil))))
  (ss_one (s_ret v_bl))
  ss_nil)
  (ss_cons (s_if (t_notN (ka := .be) (kb := .be) (v_var (pv 9)) v_non)
  (ss_one (s_for (passes_of rfl) rfl (i_rng1 rfl fr.range (a_cons (v_var (pv 5)) a_nil)) (pg_name sc_law.nd rfl (by first | exact Or.inl rfl | exact Or.inr rfl)) g_nm
  (ss_one (s_if (t_ne (ka := .be) (kb := .be) rfl hr.units (v_call (bs := []) (d__law_sum.mono (k := 41) (by decide)) rfl rfl hr rfl (takes_of rfl rfl rfl rfl) (a_cons (v_lc (own := [("j", 13)]) rfl sc_law.nd (i_rng1 rfl fr.range (a_cons (v_var (pv 6)) a_nil)) (blk_of (by rfl)) (fun _ _ _ _ _ => (pg_name sc_law.nd rfl (by first | exact Or.inl rfl | exact Or.inr rfl))) g_nm (by decide) (fun _ _ _ _ _ => ts_nil) (fun _ _ _ _ _ => (v_call (bs := []) (d__law_mul.mono (k := 41) (by decide)) rfl rfl hr rfl VL.takes0 (a_cons (v_ix (ka := .be) (kb := .be) rfl (v_ixB (ka := .be) (kb := .be) rfl (v_var (pv 7)) (v_var (pv 11)) (fun _ _ => rfl)) (v_var (pv 13)) (fun _ _ => rfl)) (a_cons (v_ix (ka := .be) (kb := .be) rfl (v_var (pv 10)) (v_var (pv 13)) (fun _ _ => rfl)) a_nil))))) a_nil)) (v_ixB (ka := .be) (kb := .be) rfl (v_var (pv 8)) (v_var (pv 11)) (fun _ _ => rfl)))
  (ss_one (s_ret v_bl))
  ss_nil))))
  ss_nil)
  (ss_cons (s_set (i := 12) sc_law.nd rfl (by first | exact Or.inl rfl | exact Or.inr rfl) (v_lst a_nil))
  (ss_cons (s_for (passes_of rfl) rfl (i_rng1 rfl fr.range (a_cons (v_var (pv 6)) a_nil)) (pg_name sc_law.nd rfl (by first | exact Or.inl rfl | exact Or.inr rfl)) g_nm
  (ss_cons (s_if (t_eq (ka := .be) (kb := .be) rfl hr.units (v_var (pv 13)) v_int)
  (ss_one (s_set (i := 14) sc_law.nd rfl (by first | exact Or.inl rfl | exact Or.inr rfl) (v_gt (ka := .be) (kb := .be) (v_count (ka := .be) (kb := .be) rfl (u65 hr) (v_lc (own := [("row", 17)]) rfl sc_law.nd (i_seq (ka := .be) rfl (v_var (pv 7))) (blk_of (by rfl)) (fun _ _ _ _ _ => (pg_name sc_law.nd rfl (by first | exact Or.inl rfl | exact Or.inr rfl))) g_nm (by decide) (fun _ _ _ _ _ => ts_nil) (fun _ _ _ _ _ => (v_ne (ka := .be) (kb := .be) rfl hr.units (v_ixB (ka := .be) (kb := .be) rfl (v_ixB (ka := .be) (kb := .be) rfl (v_var (pv 17)) v_int (fun _ _ => rfl)) v_int (fun _ _ => rfl)) v_int))) v_bl) v_int)))
  (ss_one (s_set (i := 14) sc_law.nd rfl (by first | exact Or.inl rfl | exact Or.inr rfl) (v_isN (ka := .be) (kb := .be) (v_call (bs := []) (d__law_solve.mono (k := 41) (by decide)) rfl rfl hr rfl (takes_of rfl rfl rfl rfl) (a_cons (v_lc (own := [("row", 17)]) rfl sc_law.nd (i_seq (ka := .be) rfl (v_var (pv 7))) (blk_of (by rfl)) (fun _ _ _ _ _ => (pg_name sc_law.nd rfl (by first | exact Or.inl rfl | exact Or.inr rfl))) g_nm (by decide) (fun _ _ _ _ _ => ts_nil) (fun _ _ _ _ _ => (v_sl (ka := .be) rfl (v_var (pv 17)) o_none (o_some (ka := .be) (v_var (pv 13)))))) (a_cons (v_lc (own := [("row", 17)]) rfl sc_law.nd (i_seq (ka := .be) rfl (v_var (pv 7))) (blk_of (by rfl)) (fun _ _ _ _ _ => (pg_name sc_law.nd rfl (by first | exact Or.inl rfl | exact Or.inr rfl))) g_nm (by decide) (fun _ _ _ _ _ => ts_nil) (fun _ _ _ _ _ => (v_ix (ka := .be) (kb := .be) rfl (v_var (pv 17)) (v_var (pv 13)) (fun _ _ => rfl)))) a_nil))) v_non))))
  (ss_one (s_append (l_var (pv 12)) (a_cons (v_varV (pv 14)) a_nil)))))
  (ss_cons (s_if (t_ne (ka := .be) (kb := .be) rfl hr.units (v_call (bs := []) (d_rank.mono (k := 41) (by decide)) rfl rfl hr rfl (takes_of rfl rfl rfl rfl) (a_cons (v_calT (ka := .be) call_tuple_of ok_tuple rfl fr.tuple boot_tuple' (a_cons (v_var (pv 7)) a_nil)) a_nil)) (v_count (ka := .be) (kb := .be) rfl (u65 hr) (v_var (pv 12)) v_bl))
  (ss_one (s_ret v_bl))
  ss_nil)
  (ss_cons (s_set (i := 15) sc_law.nd rfl (by first | exact Or.inl rfl | exact Or.inr rfl) (v_call (bs := []) (d__law_draw.mono (k := 41) (by decide)) rfl rfl hr rfl (takes_of rfl rfl rfl rfl) (a_cons (v_varV (pv 2)) (a_cons v_int a_nil))))
  (ss_cons (s_set (i := 16) sc_law.nd rfl (by first | exact Or.inl rfl | exact Or.inr rfl) (v_calT (ka := .be) call_tuple_of ok_tuple rfl fr.tuple boot_tuple' (a_cons (v_lc (own := [("i", 11)]) rfl sc_law.nd (i_rng1 rfl fr.range (a_cons (v_var (pv 15)) a_nil)) (blk_of (by rfl)) (fun _ _ _ _ _ => (pg_name sc_law.nd rfl (by first | exact Or.inl rfl | exact Or.inr rfl))) g_nm (by decide) (fun _ _ _ _ _ => ts_nil) (fun _ _ _ _ _ => (v_calT (ka := .be) call_tuple_of ok_tuple rfl fr.tuple boot_tuple' (a_cons (v_lc (own := [("j", 13)]) rfl sc_law.nd (i_rng1 rfl fr.range (a_cons (v_var (pv 15)) a_nil)) (blk_of (by rfl)) (fun _ _ _ _ _ => (pg_name sc_law.nd rfl (by first | exact Or.inl rfl | exact Or.inr rfl))) g_nm (by decide) (fun _ _ _ _ _ => ts_nil) (fun _ _ _ _ _ => (v_call (bs := []) (d__law_frac.mono (k := 41) (by decide)) rfl rfl hr rfl VL.takes0 (a_cons (v_varV (pv 2)) a_nil)))) a_nil)))) a_nil)))
  (ss_one (s_if (b_not (b_val (ka := .be) rfl (v_call (bs := []) (d__law_same.mono (k := 41) (by decide)) rfl rfl hr rfl (takes_of rfl rfl rfl rfl) (a_cons (v_call (bs := []) (d__law_determinant.mono (k := 41) (by decide)) rfl rfl hr rfl (takes_of rfl rfl rfl rfl) (a_cons (v_varV (pv 16)) a_nil)) (a_cons (v_call (bs := []) (d_determinant.mono (k := 41) (by decide)) rfl rfl hr rfl (takes_of rfl rfl rfl rfl) (a_cons (v_varV (pv 16)) a_nil)) a_nil)))))
  (ss_one (s_ret v_bl))
  ss_nil))))))))))))))))))))))))
  (ss_one (s_ret (v_and (ka := .fe) (v_eq (ka := .be) (kb := .be) rfl hr.units (v_call (bs := []) (d__law_told.mono (k := 41) (by decide)) rfl rfl hr rfl (takes_of rfl rfl rfl rfl) (a_cons (v_fnD rfl d_fraction rfl) (a_cons v_int (a_cons v_int a_nil)))) v_str) (v_and (ka := .fe) (v_eq (ka := .be) (kb := .be) rfl hr.units (v_call (bs := []) (d_total.mono (k := 41) (by decide)) rfl rfl hr rfl (takes_of rfl rfl rfl rfl) (a_cons (v_tup a_nil) a_nil)) (v_tup (a_cons v_int (a_cons v_int a_nil)))) (v_one (v_eq (ka := .be) (kb := .be) rfl hr.units (v_call (bs := []) (d_determinant.mono (k := 41) (by decide)) rfl rfl hr rfl (takes_of rfl rfl rfl rfl) (a_cons (v_tup a_nil) a_nil)) (v_tup (a_cons v_int (a_cons v_int a_nil))))))))))
theorem len_ps : List.length ["script"] = 1 := by decide
theorem len_N : runF (List.length ["script", "k", "bag", "x", "y", "many", "columns", "rows", "right", "due", "told", "i", "independent", "j", "grown", "size", "square", "row"]) f_law = F_law := congrArg (fun n => runF n f_law) (show List.length ["script", "k", "bag", "x", "y", "many", "columns", "rows", "right", "due", "told", "i", "independent", "j", "grown", "size", "square", "row"] = 18 by decide)
theorem ok_law (F : VL.FnP K "law" (top 38) f fd) (fr : Fr mg) (d_sign : DefOk P w K mg base 33 "sign" 1 F_sign) (d_less : DefOk P w K mg base 33 "less" 2 F_less) (d__law_bag : DefOk P w K mg base 33 "_law_bag" 2 F__law_bag) (d__law_draw : DefOk P w K mg base 33 "_law_draw" 2 F__law_draw) (d_fraction : DefOk P w K mg base 34 "fraction" 2 F_fraction) (d_plus : DefOk P w K mg base 35 "plus" 2 F_plus) (d_minus : DefOk P w K mg base 35 "minus" 2 F_minus) (d_times : DefOk P w K mg base 35 "times" 2 F_times) (d_over : DefOk P w K mg base 35 "over" 2 F_over) (d__law_add : DefOk P w K mg base 35 "_law_add" 2 F__law_add) (d__law_sub : DefOk P w K mg base 35 "_law_sub" 2 F__law_sub) (d__law_mul : DefOk P w K mg base 35 "_law_mul" 2 F__law_mul) (d__law_div : DefOk P w K mg base 35 "_law_div" 2 F__law_div) (d__law_frac : DefOk P w K mg base 35 "_law_frac" 1 F__law_frac) (d_total : DefOk P w K mg base 36 "total" 1 F_total) (d_determinant : DefOk P w K mg base 36 "determinant" 1 F_determinant) (d__law_sum : DefOk P w K mg base 36 "_law_sum" 1 F__law_sum) (d__law_solve : DefOk P w K mg base 36 "_law_solve" 2 F__law_solve) (d__law_determinant : DefOk P w K mg base 36 "_law_determinant" 1 F__law_determinant) (d_solved : DefOk P w K mg base 37 "solved" 2 F_solved) (d_rank : DefOk P w K mg base 37 "rank" 1 F_rank) (d__law_told : DefOk P w K mg base 38 "_law_told" 3 F__law_told) (d__law_same : DefOk P w K mg base 41 "_law_same" 2 F__law_same) : FnOk P w K mg base (L2.CX P w) 42 f fd ["script"] (spF K mg 1 F_law) := by
  have h := ok_law0 (P := P) (w := w) (base := base) F fr d_sign d_less d__law_bag d__law_draw d_fraction d_plus d_minus d_times d_over d__law_add d__law_sub d__law_mul d__law_div d__law_frac d_total d_determinant d__law_sum d__law_solve d__law_determinant d_solved d_rank d__law_told d__law_same
  rw [len_ps, len_N] at h
  exact h
end
end G

end
section
set_option Elab.async false
set_option linter.all false
set_option maxRecDepth 100000
set_option maxHeartbeats 0
namespace G
open PySem PySem.Spec PyProof.Rows L2 VL
/-! ### the head -/
def dd_common : He.DefD := ⟨("common", none), "common", "common", defArgs (top 7), defBody (top 7), defScope (top 7), [], []⟩
def dd_sign : He.DefD := ⟨("sign", none), "sign", "sign", defArgs (top 13), defBody (top 13), defScope (top 13), [], []⟩
def dd_less : He.DefD := ⟨("less", none), "less", "less", defArgs (top 14), defBody (top 14), defScope (top 14), [], []⟩
def dd__law_bag : He.DefD := ⟨("_law_bag", none), "_law_bag", "_law_bag", defArgs (top 22), defBody (top 22), defScope (top 22), [], []⟩
def dd__law_draw : He.DefD := ⟨("_law_draw", none), "_law_draw", "_law_draw", defArgs (top 23), defBody (top 23), defScope (top 23), [], []⟩
def dd__law_gcd : He.DefD := ⟨("_law_gcd", none), "_law_gcd", "_law_gcd", defArgs (top 25), defBody (top 25), defScope (top 25), [], []⟩
def dd__law_orders : He.DefD := ⟨("_law_orders", none), "_law_orders", "_law_orders", defArgs (top 36), defBody (top 36), defScope (top 36), [], []⟩
def dd_fraction : He.DefD := ⟨("fraction", none), "fraction", "fraction", defArgs (top 8), defBody (top 8), defScope (top 8), [], []⟩
def dd__law_f : He.DefD := ⟨("_law_f", none), "_law_f", "_law_f", defArgs (top 26), defBody (top 26), defScope (top 26), [], []⟩
def dd_plus : He.DefD := ⟨("plus", none), "plus", "plus", defArgs (top 9), defBody (top 9), defScope (top 9), [], []⟩
def dd_minus : He.DefD := ⟨("minus", none), "minus", "minus", defArgs (top 10), defBody (top 10), defScope (top 10), [], []⟩
def dd_times : He.DefD := ⟨("times", none), "times", "times", defArgs (top 11), defBody (top 11), defScope (top 11), [], []⟩
def dd_over : He.DefD := ⟨("over", none), "over", "over", defArgs (top 12), defBody (top 12), defScope (top 12), [], []⟩
def dd__law_add : He.DefD := ⟨("_law_add", none), "_law_add", "_law_add", defArgs (top 27), defBody (top 27), defScope (top 27), [], []⟩
def dd__law_sub : He.DefD := ⟨("_law_sub", none), "_law_sub", "_law_sub", defArgs (top 28), defBody (top 28), defScope (top 28), [], []⟩
def dd__law_mul : He.DefD := ⟨("_law_mul", none), "_law_mul", "_law_mul", defArgs (top 29), defBody (top 29), defScope (top 29), [], []⟩
def dd__law_div : He.DefD := ⟨("_law_div", none), "_law_div", "_law_div", defArgs (top 30), defBody (top 30), defScope (top 30), [], []⟩
def dd__law_frac : He.DefD := ⟨("_law_frac", none), "_law_frac", "_law_frac", defArgs (top 33), defBody (top 33), defScope (top 33), [], []⟩
def dd_total : He.DefD := ⟨("total", none), "total", "total", defArgs (top 15), defBody (top 15), defScope (top 15), [], []⟩
def dd_reduced : He.DefD := ⟨("reduced", none), "reduced", "reduced", defArgs (top 17), defBody (top 17), defScope (top 17), [], []⟩
def dd_determinant : He.DefD := ⟨("determinant", none), "determinant", "determinant", defArgs (top 20), defBody (top 20), defScope (top 20), [], []⟩
def dd__law_sum : He.DefD := ⟨("_law_sum", none), "_law_sum", "_law_sum", defArgs (top 31), defBody (top 31), defScope (top 31), [], []⟩
def dd__law_solve : He.DefD := ⟨("_law_solve", none), "_law_solve", "_law_solve", defArgs (top 32), defBody (top 32), defScope (top 32), [], []⟩
def dd__law_determinant : He.DefD := ⟨("_law_determinant", none), "_law_determinant", "_law_determinant", defArgs (top 37), defBody (top 37), defScope (top 37), [], []⟩
def dd_solved : He.DefD := ⟨("solved", none), "solved", "solved", defArgs (top 18), defBody (top 18), defScope (top 18), [], []⟩
def dd_rank : He.DefD := ⟨("rank", none), "rank", "rank", defArgs (top 19), defBody (top 19), defScope (top 19), [], []⟩
def dd__law_told : He.DefD := ⟨("_law_told", none), "_law_told", "_law_told", defArgs (top 35), defBody (top 35), defScope (top 35), [], []⟩
def dd__law_same : He.DefD := ⟨("_law_same", none), "_law_same", "_law_same", defArgs (top 34), defBody (top 34), defScope (top 34), [], []⟩
def dd_law : He.DefD := ⟨("law", none), "law", "law", defArgs (top 38), defBody (top 38), defScope (top 38), [], []⟩
def fns : List He.DefD := [dd_common, dd_sign, dd_less, dd__law_bag, dd__law_draw, dd__law_gcd, dd__law_orders, dd_fraction, dd__law_f, dd_plus, dd_minus, dd_times, dd_over, dd__law_add, dd__law_sub, dd__law_mul, dd__law_div, dd__law_frac, dd_total, dd_reduced, dd_determinant, dd__law_sum, dd__law_solve, dd__law_determinant, dd_solved, dd_rank, dd__law_told, dd__law_same, dd_law]
def fas : List He.Fa := [.glo "common",
  .glo "sign",
  .glo "less",
  .glo "_law_bag",
  .glo "_law_draw",
  .glo "_law_gcd",
  .glo "_law_orders",
  .glo "fraction",
  .glo "_law_f",
  .glo "plus",
  .glo "minus",
  .glo "times",
  .glo "over",
  .glo "_law_add",
  .glo "_law_sub",
  .glo "_law_mul",
  .glo "_law_div",
  .glo "_law_frac",
  .glo "total",
  .glo "reduced",
  .glo "determinant",
  .glo "_law_sum",
  .glo "_law_solve",
  .glo "_law_determinant",
  .glo "solved",
  .glo "rank",
  .glo "_law_told",
  .glo "_law_same",
  .glo "law",
  .free "len",
  .free "range",
  .free "isinstance",
  .free "int",
  .free "bool",
  .free "str",
  .free "tuple",
  .free "list",
  .free "abs",
  .free "max",
  .free "min",
  .free "all",
  .free "any",
  .free "sum",
  .free "sorted",
  .free "enumerate",
  .free "zip",
  .free "set",
  .free "dict",
  .free "repr",
  .glo "BadValue",
  .exc "BadValue",
  .glo "NoSuch",
  .exc "NoSuch",
  .exm "BadValue" "BadValue" true,
  .exm "BadValue" "NoSuch" false,
  .exm "NoSuch" "BadValue" false,
  .exm "NoSuch" "NoSuch" true]
def exs (K : PySem.W.Frag) : Bool := gcB K "NOTHING" (.tuple [.int 0, .int 1]) && gcB K "ONE" (.tuple [.int 1, .int 1]) && VL.seerB K
abbrev R : PySem.W.OpenRow := PySem.W.OpenLaw.row PySem.Challenge.rw_currentwebs_k03_fractions_and_equations
abbrev hk : PySem.W.Hook := VL.hookY 4 fas fns exs
def ob (s : PySem.W.SharedT) : He.AlX := VL.obsY 4 fas fns exs (HandSHeadRun.getT s)
theorem ob_eq (s : PySem.W.SharedT) : ob s = hk.obs s.abs := VL.obsY_eq (HandSHeadRun.getT_eq s)
def loose0 : List PySem.Str := ["WebError", "BadValue", "NoSuch", "NOTHING", "ONE", "common", "fraction", "plus", "minus", "times", "over", "sign", "less", "total", "reduced", "solved", "rank", "determinant", "_law_bag", "_law_draw", "_law_one", "_law_gcd", "_law_f", "_law_add", "_law_sub", "_law_mul", "_law_div", "_law_sum", "_law_solve", "_law_frac"]
def loose1 : List PySem.Str := ["_law_same", "_law_told", "_law_orders", "_law_determinant"]
abbrev loose : List PySem.Str := loose0 ++ loose1
end G

end
section
set_option Elab.async false
set_option linter.all false
set_option maxRecDepth 100000
set_option maxHeartbeats 0
namespace G
open PySem PySem.Spec PyProof.Rows L2 VL
theorem run (w : World) : HandSHeadRun.RunEq R (PySem.W.view R.prog [38]) hk ob 1960 loose w := by
  intro os
  kernel_rfl
end G

end
section
set_option Elab.async false
set_option linter.all false
set_option maxRecDepth 100000
set_option maxHeartbeats 0
namespace G
open PySem PySem.Spec PyProof.Rows L2 VL
theorem facts {P : Program} (ht : P.given.tree = none) {w : World} {K : PySem.W.Frag} {h : Heap} {mg : Str → Option Value} {fl : Addr} (X : K.In h) (G : h.Ns mainGlobals mg) (hfa : mg ("law" : Str) = some (.ref fl)) (c : He.SaysX fas fns [] [] exs w h K) :
    ∃ fd : FuncData, (∀ (s : Shared) (v : Value), BindsTo s fd ⟨[v], []⟩ [("script", v)]) ∧ ∀ base : Heap, K.In base → base.Ns mainGlobals mg → FnOk P w K mg base (L2.CX P w) 42 fl fd ["script"] (spF K mg 1 F_law) := by
  obtain ⟨fd_common, Fd_common⟩ := c.t.d.def_ 0 (d := dd_common) rfl
  obtain ⟨fd_sign, Fd_sign⟩ := c.t.d.def_ 1 (d := dd_sign) rfl
  obtain ⟨fd_less, Fd_less⟩ := c.t.d.def_ 2 (d := dd_less) rfl
  obtain ⟨fd__law_bag, Fd__law_bag⟩ := c.t.d.def_ 3 (d := dd__law_bag) rfl
  obtain ⟨fd__law_draw, Fd__law_draw⟩ := c.t.d.def_ 4 (d := dd__law_draw) rfl
  obtain ⟨fd__law_gcd, Fd__law_gcd⟩ := c.t.d.def_ 5 (d := dd__law_gcd) rfl
  obtain ⟨fd__law_orders, Fd__law_orders⟩ := c.t.d.def_ 6 (d := dd__law_orders) rfl
  obtain ⟨fd_fraction, Fd_fraction⟩ := c.t.d.def_ 7 (d := dd_fraction) rfl
  obtain ⟨fd__law_f, Fd__law_f⟩ := c.t.d.def_ 8 (d := dd__law_f) rfl
  obtain ⟨fd_plus, Fd_plus⟩ := c.t.d.def_ 9 (d := dd_plus) rfl
  obtain ⟨fd_minus, Fd_minus⟩ := c.t.d.def_ 10 (d := dd_minus) rfl
  obtain ⟨fd_times, Fd_times⟩ := c.t.d.def_ 11 (d := dd_times) rfl
  obtain ⟨fd_over, Fd_over⟩ := c.t.d.def_ 12 (d := dd_over) rfl
  obtain ⟨fd__law_add, Fd__law_add⟩ := c.t.d.def_ 13 (d := dd__law_add) rfl
  obtain ⟨fd__law_sub, Fd__law_sub⟩ := c.t.d.def_ 14 (d := dd__law_sub) rfl
  obtain ⟨fd__law_mul, Fd__law_mul⟩ := c.t.d.def_ 15 (d := dd__law_mul) rfl
  obtain ⟨fd__law_div, Fd__law_div⟩ := c.t.d.def_ 16 (d := dd__law_div) rfl
  obtain ⟨fd__law_frac, Fd__law_frac⟩ := c.t.d.def_ 17 (d := dd__law_frac) rfl
  obtain ⟨fd_total, Fd_total⟩ := c.t.d.def_ 18 (d := dd_total) rfl
  obtain ⟨fd_reduced, Fd_reduced⟩ := c.t.d.def_ 19 (d := dd_reduced) rfl
  obtain ⟨fd_determinant, Fd_determinant⟩ := c.t.d.def_ 20 (d := dd_determinant) rfl
  obtain ⟨fd__law_sum, Fd__law_sum⟩ := c.t.d.def_ 21 (d := dd__law_sum) rfl
  obtain ⟨fd__law_solve, Fd__law_solve⟩ := c.t.d.def_ 22 (d := dd__law_solve) rfl
  obtain ⟨fd__law_determinant, Fd__law_determinant⟩ := c.t.d.def_ 23 (d := dd__law_determinant) rfl
  obtain ⟨fd_solved, Fd_solved⟩ := c.t.d.def_ 24 (d := dd_solved) rfl
  obtain ⟨fd_rank, Fd_rank⟩ := c.t.d.def_ 25 (d := dd_rank) rfl
  obtain ⟨fd__law_told, Fd__law_told⟩ := c.t.d.def_ 26 (d := dd__law_told) rfl
  obtain ⟨fd__law_same, Fd__law_same⟩ := c.t.d.def_ 27 (d := dd__law_same) rfl
  obtain ⟨fd_law, Fd_law⟩ := c.t.d.def_ 28 (d := dd_law) rfl
  have e := hfa.symm.trans (He.glo_ok X G (c.t.d.fact 28 (f := .glo "law") rfl))
  cases e
  have fr : Fr mg := fr_of X G fun x m => by
    simp only [VL.frs, List.mem_cons, List.not_mem_nil, or_false] at m
    rcases m with rfl | rfl | rfl | rfl | rfl | rfl | rfl | rfl | rfl | rfl | rfl | rfl | rfl | rfl | rfl | rfl | rfl | rfl | rfl | rfl
    · exact c.t.d.fact 29 rfl
    · exact c.t.d.fact 30 rfl
    · exact c.t.d.fact 31 rfl
    · exact c.t.d.fact 32 rfl
    · exact c.t.d.fact 33 rfl
    · exact c.t.d.fact 34 rfl
    · exact c.t.d.fact 35 rfl
    · exact c.t.d.fact 36 rfl
    · exact c.t.d.fact 37 rfl
    · exact c.t.d.fact 38 rfl
    · exact c.t.d.fact 39 rfl
    · exact c.t.d.fact 40 rfl
    · exact c.t.d.fact 41 rfl
    · exact c.t.d.fact 42 rfl
    · exact c.t.d.fact 43 rfl
    · exact c.t.d.fact 44 rfl
    · exact c.t.d.fact 45 rfl
    · exact c.t.d.fact 46 rfl
    · exact c.t.d.fact 47 rfl
    · exact c.t.d.fact 48 rfl
  have e_BadValue : ExcOk K mg "BadValue" := exc_of X G (c.t.d.fact 49 (f := .glo "BadValue") rfl) (c.t.d.fact 50 (f := .exc "BadValue") rfl)
  have e_NoSuch : ExcOk K mg "NoSuch" := exc_of X G (c.t.d.fact 51 (f := .glo "NoSuch") rfl) (c.t.d.fact 52 (f := .exc "NoSuch") rfl)
  have cm0 := c.more
  simp only [exs, Bool.and_eq_true] at cm0
  have sr : SeerP P K := ⟨cm0.2, ht⟩
  have cm := cm0.1
  obtain ⟨cm_NOTHING, cm_ONE⟩ := cm
  have g_NOTHING : GlobC K mg "NOTHING" (.tuple [.int 0, .int 1]) := gc_of X G cm_NOTHING
  have g_ONE : GlobC K mg "ONE" (.tuple [.int 1, .int 1]) := gc_of X G cm_ONE
  have hmt : MtOk K mg mt := mt_ok fun z m => by
    simp only [List.mem_cons, List.not_mem_nil, or_false] at m
    rcases m with rfl | rfl | rfl | rfl
    · exact em_of X G (c.t.d.fact 49 (f := .glo "BadValue") rfl) (c.t.d.fact 49 (f := .glo "BadValue") rfl) (c.t.d.fact 53 (f := .exm "BadValue" "BadValue" true) rfl)
    · exact em_of X G (c.t.d.fact 49 (f := .glo "BadValue") rfl) (c.t.d.fact 51 (f := .glo "NoSuch") rfl) (c.t.d.fact 54 (f := .exm "BadValue" "NoSuch" false) rfl)
    · exact em_of X G (c.t.d.fact 51 (f := .glo "NoSuch") rfl) (c.t.d.fact 49 (f := .glo "BadValue") rfl) (c.t.d.fact 55 (f := .exm "NoSuch" "BadValue" false) rfl)
    · exact em_of X G (c.t.d.fact 51 (f := .glo "NoSuch") rfl) (c.t.d.fact 51 (f := .glo "NoSuch") rfl) (c.t.d.fact 56 (f := .exm "NoSuch" "NoSuch" true) rfl)
  refine ⟨fd_law, fun s v => FunD.bindsA (ps := ["script"]) Fd_law (fun _ _ _ _ _ _ us hl => match us, hl with | [_], _ => rfl) s [v] rfl, fun base _ _ => ?_⟩
  have d_common : DefOk P w K mg base 33 "common" 2 F_common := ok_common Fd_common (He.glo_ok X G (c.t.d.fact 0 (f := .glo "common") rfl)) fr
  have d_sign : DefOk P w K mg base 33 "sign" 1 F_sign := ok_sign Fd_sign (He.glo_ok X G (c.t.d.fact 1 (f := .glo "sign") rfl)) fr
  have d_less : DefOk P w K mg base 33 "less" 2 F_less := ok_less Fd_less (He.glo_ok X G (c.t.d.fact 2 (f := .glo "less") rfl)) fr
  have d__law_bag : DefOk P w K mg base 33 "_law_bag" 2 F__law_bag := ok__law_bag Fd__law_bag (He.glo_ok X G (c.t.d.fact 3 (f := .glo "_law_bag") rfl)) fr
  have d__law_draw : DefOk P w K mg base 33 "_law_draw" 2 F__law_draw := ok__law_draw Fd__law_draw (He.glo_ok X G (c.t.d.fact 4 (f := .glo "_law_draw") rfl)) fr sr
  have d__law_gcd : DefOk P w K mg base 33 "_law_gcd" 2 F__law_gcd := ok__law_gcd Fd__law_gcd (He.glo_ok X G (c.t.d.fact 5 (f := .glo "_law_gcd") rfl)) fr sr
  have d__law_orders : DefOk P w K mg base 33 "_law_orders" 1 F__law_orders := ok__law_orders Fd__law_orders (He.glo_ok X G (c.t.d.fact 6 (f := .glo "_law_orders") rfl)) fr
  have d_fraction : DefOk P w K mg base 34 "fraction" 2 F_fraction := ok_fraction Fd_fraction (He.glo_ok X G (c.t.d.fact 7 (f := .glo "fraction") rfl)) fr d_common e_BadValue sr
  have d__law_f : DefOk P w K mg base 34 "_law_f" 2 F__law_f := ok__law_f Fd__law_f (He.glo_ok X G (c.t.d.fact 8 (f := .glo "_law_f") rfl)) fr d__law_gcd sr
  have d_plus : DefOk P w K mg base 35 "plus" 2 F_plus := ok_plus Fd_plus (He.glo_ok X G (c.t.d.fact 9 (f := .glo "plus") rfl)) fr d_fraction
  have d_minus : DefOk P w K mg base 35 "minus" 2 F_minus := ok_minus Fd_minus (He.glo_ok X G (c.t.d.fact 10 (f := .glo "minus") rfl)) fr d_fraction
  have d_times : DefOk P w K mg base 35 "times" 2 F_times := ok_times Fd_times (He.glo_ok X G (c.t.d.fact 11 (f := .glo "times") rfl)) fr d_fraction
  have d_over : DefOk P w K mg base 35 "over" 2 F_over := ok_over Fd_over (He.glo_ok X G (c.t.d.fact 12 (f := .glo "over") rfl)) fr d_fraction
  have d__law_add : DefOk P w K mg base 35 "_law_add" 2 F__law_add := ok__law_add Fd__law_add (He.glo_ok X G (c.t.d.fact 13 (f := .glo "_law_add") rfl)) fr d__law_f
  have d__law_sub : DefOk P w K mg base 35 "_law_sub" 2 F__law_sub := ok__law_sub Fd__law_sub (He.glo_ok X G (c.t.d.fact 14 (f := .glo "_law_sub") rfl)) fr d__law_f
  have d__law_mul : DefOk P w K mg base 35 "_law_mul" 2 F__law_mul := ok__law_mul Fd__law_mul (He.glo_ok X G (c.t.d.fact 15 (f := .glo "_law_mul") rfl)) fr d__law_f
  have d__law_div : DefOk P w K mg base 35 "_law_div" 2 F__law_div := ok__law_div Fd__law_div (He.glo_ok X G (c.t.d.fact 16 (f := .glo "_law_div") rfl)) fr d__law_f
  have d__law_frac : DefOk P w K mg base 35 "_law_frac" 1 F__law_frac := ok__law_frac Fd__law_frac (He.glo_ok X G (c.t.d.fact 17 (f := .glo "_law_frac") rfl)) fr d__law_draw d__law_f
  have d_total : DefOk P w K mg base 36 "total" 1 F_total := ok_total Fd_total (He.glo_ok X G (c.t.d.fact 18 (f := .glo "total") rfl)) fr d_plus g_NOTHING
  have d_reduced : DefOk P w K mg base 36 "reduced" 2 F_reduced := ok_reduced Fd_reduced (He.glo_ok X G (c.t.d.fact 19 (f := .glo "reduced") rfl)) fr d_minus d_times d_over
  have d_determinant : DefOk P w K mg base 36 "determinant" 1 F_determinant := ok_determinant Fd_determinant (He.glo_ok X G (c.t.d.fact 20 (f := .glo "determinant") rfl)) fr d_fraction d_minus d_times d_over g_NOTHING g_ONE
  have d__law_sum : DefOk P w K mg base 36 "_law_sum" 1 F__law_sum := ok__law_sum Fd__law_sum (He.glo_ok X G (c.t.d.fact 21 (f := .glo "_law_sum") rfl)) fr d__law_add
  have d__law_solve : DefOk P w K mg base 36 "_law_solve" 2 F__law_solve := ok__law_solve Fd__law_solve (He.glo_ok X G (c.t.d.fact 22 (f := .glo "_law_solve") rfl)) fr d__law_sub d__law_mul d__law_div
  have d__law_determinant : DefOk P w K mg base 36 "_law_determinant" 1 F__law_determinant := ok__law_determinant Fd__law_determinant (He.glo_ok X G (c.t.d.fact 23 (f := .glo "_law_determinant") rfl)) fr d__law_orders d__law_add d__law_mul sr
  have d_solved : DefOk P w K mg base 37 "solved" 2 F_solved := ok_solved Fd_solved (He.glo_ok X G (c.t.d.fact 24 (f := .glo "solved") rfl)) fr d_reduced g_NOTHING e_NoSuch
  have d_rank : DefOk P w K mg base 37 "rank" 1 F_rank := ok_rank Fd_rank (He.glo_ok X G (c.t.d.fact 25 (f := .glo "rank") rfl)) fr d_reduced
  have d__law_told : DefOk P w K mg base 38 "_law_told" 3 F__law_told := ok__law_told Fd__law_told (He.glo_ok X G (c.t.d.fact 26 (f := .glo "_law_told") rfl)) fr d_fraction d_over d_solved e_BadValue e_NoSuch hmt
  have d__law_same : DefOk P w K mg base 41 "_law_same" 2 F__law_same := ok__law_same Fd__law_same (He.glo_ok X G (c.t.d.fact 27 (f := .glo "_law_same") rfl)) fr
  exact ok_law Fd_law fr d_sign d_less d__law_bag d__law_draw d_fraction d_plus d_minus d_times d_over d__law_add d__law_sub d__law_mul d__law_div d__law_frac d_total d_determinant d__law_sum d__law_solve d__law_determinant d_solved d_rank d__law_told d__law_same
end G

end
section
set_option Elab.async false
set_option linter.all false
set_option maxRecDepth 100000
set_option maxHeartbeats 0
open PySem PySem.W PySem.Calls PyProof.Rows
theorem G.holds (hlaw : ∀ ns : List Int, ns.length ≤ 63 → (∀ z ∈ ns, Builtin.Int.intBits z ≤ 1048576) → ∃ S, G.F_law [.scr ns] [] = some (.ok (.d (.bool true)) S)) : PySem.Challenge.rw_currentwebs_k03_fractions_and_equations.Holds := by
  w_on; o_law
  refine HandSHeadRun.head_any (r := OpenLaw.row PySem.Challenge.rw_currentwebs_k03_fractions_and_equations) (q := view (OpenLaw.row PySem.Challenge.rw_currentwebs_k03_fractions_and_equations).prog [38]) (H := G.hk) (ob := G.ob) (M := 1960) (loose := G.loose) (d := HandSHeadRun.topDef (OpenLaw.row PySem.Challenge.rw_currentwebs_k03_fractions_and_equations).prog 38) (kwd := []) G.ob_eq
    (by kernel_rfl) (fun s => by kernel_rfl) G.run (by kernel_rfl) (by kernel_rfl) (by kernel_rfl) (by rfl) (by first | assumption | decide +kernel) (by decide +kernel) ⟨rfl, rfl, rfl, rfl, rfl, by decide +kernel⟩ ?hw ?hc
  case hw => w_witness2
  case hc =>
    refine VL.walk_vl (l := PySem.Challenge.rw_currentwebs_k03_fractions_and_equations) (n := 63) (k := 42) (x := "script") (Fn := G.F_law) rfl (by decide) (by kernel_rfl) ⟨rfl, by decide, by decide⟩ hlaw ?F
    intro w mg fa h Y GN hmg0
    obtain ⟨K, KX, c⟩ := Y
    have hmg : mg ("law" : PySem.Str) = some (.ref fa) := by
      have e : (HandSHeadRun.topDef (OpenLaw.row PySem.Challenge.rw_currentwebs_k03_fractions_and_equations).prog 38).name = ("law" : PySem.Str) := by kernel_rfl
      rw [← e]
      exact hmg0
    obtain ⟨fd, hb, hF⟩ := G.facts (P := (PySem.Challenge.rw_currentwebs_k03_fractions_and_equations).prog) rfl (w := w) KX GN hmg c
    exact ⟨K, fd, KX, hb, hF⟩

end
section
set_option Elab.async false
set_option linter.all false
set_option maxRecDepth 100000
/-! C0: no program: sizes of ints and of fractions; fractions as data. -/
namespace M
open PySem PySem.Spec PyProof.Rows L2 VL
theorem fmod_pos {p q : Int} (h : 0 < q) : p.fmod q = p % q := Int.fmod_eq_emod_of_nonneg p (by omega)
theorem fdiv_pos {p q : Int} (h : 0 < q) : p.fdiv q = p / q := Int.fdiv_eq_ediv_of_nonneg p (by omega)
theorem gcd_mod (p q : Int) : Int.gcd q (p % q) = Int.gcd p q := by
  have e : p % q = p - q * (p / q) := Int.emod_def p q
  apply Nat.dvd_antisymm
  · have h1 : ((Int.gcd q (p % q) : Nat) : Int) ∣ q := Int.gcd_dvd_left ..
    have h2 : ((Int.gcd q (p % q) : Nat) : Int) ∣ p % q := Int.gcd_dvd_right ..
    have h3 : ((Int.gcd q (p % q) : Nat) : Int) ∣ p := by
      have h4 := Int.dvd_add h2 (Int.dvd_trans h1 (Int.dvd_mul_right q (p / q)))
      rw [Int.emod_add_mul_ediv] at h4
      exact h4
    exact Int.ofNat_dvd.mp (Int.dvd_coe_gcd h3 h1)
  · have h1 : ((Int.gcd p q : Nat) : Int) ∣ q := Int.gcd_dvd_right ..
    have h2 : ((Int.gcd p q : Nat) : Int) ∣ p := Int.gcd_dvd_left ..
    have h3 : ((Int.gcd p q : Nat) : Int) ∣ p % q := by
      rw [e]
      exact Int.dvd_sub h2 (Int.dvd_trans h1 (Int.dvd_mul_right q (p / q)))
    exact Int.ofNat_dvd.mp (Int.dvd_coe_gcd h1 h3)
theorem gcd_pos {p q : Int} (h : 0 < q) : (0 : Int) < Int.gcd p q := by
  have := Int.gcd_pos_of_ne_zero_right p (show q ≠ 0 by omega)
  omega
theorem ediv_mul_sub (p q : Int) : p - p / q * q = p % q := by
  have := Int.emod_add_mul_ediv p q
  rw [Int.mul_comm] at this
  omega
/-! sizes -/
def Bd (b : Nat) (x : Int) : Prop := x.natAbs < 2 ^ b
theorem two_pos (b : Nat) : 0 < 2 ^ b := Nat.pow_pos (by decide)
theorem two_mono {a b : Nat} (h : a ≤ b) : 2 ^ a ≤ 2 ^ b := Nat.pow_le_pow_right (by decide) h
theorem Bd.mono {a b : Nat} {x : Int} (h : Bd a x) (l : a ≤ b) : Bd b x := Nat.lt_of_lt_of_le h (two_mono l)
theorem Bd.log {b : Nat} {x : Int} (h : Bd b x) : x.natAbs.log2 ≤ b := by
  by_cases h0 : x.natAbs = 0
  · rw [h0]; exact Nat.zero_le _
  · exact Nat.le_of_lt ((Nat.log2_lt h0).mpr h)
theorem Bd.of_log {b : Nat} {x : Int} (h : x.natAbs.log2 < b) : Bd b x := by
  by_cases h0 : x.natAbs = 0
  · unfold Bd; rw [h0]; exact two_pos b
  · exact (Nat.log2_lt h0).mp h
theorem mulOk_bd {a b : Nat} {x y : Int} (hx : Bd a x) (hy : Bd b y) (h : a + b < 100000000) : mulOk x y = true := by
  have h1 := hx.log
  have h2 := hy.log
  unfold mulOk
  rw [decide_eq_true_eq]
  omega
theorem Bd.mul {a b : Nat} {x y : Int} (hx : Bd a x) (hy : Bd b y) : Bd (a + b) (x * y) := by
  unfold Bd at *
  rw [Int.natAbs_mul, Nat.pow_add]
  exact Nat.mul_lt_mul'' hx hy
theorem Bd.add {a : Nat} {x y : Int} (hx : Bd a x) (hy : Bd a y) : Bd (a + 1) (x + y) := by
  unfold Bd at *
  rw [Nat.pow_succ]
  have := Int.natAbs_add_le x y
  omega
theorem Bd.neg {a : Nat} {x : Int} (hx : Bd a x) : Bd a (-x) := by
  unfold Bd at *
  rw [Int.natAbs_neg]
  exact hx
theorem Bd.sub {a : Nat} {x y : Int} (hx : Bd a x) (hy : Bd a y) : Bd (a + 1) (x - y) := by
  rw [Int.sub_eq_add_neg]
  exact hx.add hy.neg
theorem Bd.div {a : Nat} {x y : Int} (hx : Bd a x) : Bd a (x / y) := Nat.lt_of_le_of_lt (Int.natAbs_ediv_le_natAbs x y) hx
theorem bd_lit {x : Int} (b : Nat) (h : x.natAbs < 2 ^ b) : Bd b x := h
theorem bd100 {x : Int} (h : x.natAbs ≤ 1000000000000000000000000000000) : Bd 100 x := Nat.lt_of_le_of_lt h (by decide +kernel)
/-! fractions -/
def rD (x : Rat) : PyData := .tuple [.int x.num, .int (x.den : Int)]
theorem dpos (x : Rat) : (0 : Int) < x.den := by
  have := x.den_pos
  omega
def Sz (b : Nat) (x : Rat) : Prop := Bd b x.num ∧ Bd b (x.den : Int)
theorem Sz.mono {a b : Nat} {x : Rat} (h : Sz a x) (l : a ≤ b) : Sz b x := ⟨h.1.mono l, h.2.mono l⟩
theorem divInt_le {p q : Int} (hq : q ≠ 0) : (Rat.divInt p q).num.natAbs ≤ p.natAbs ∧ (Rat.divInt p q).den ≤ q.natAbs := by
  refine ⟨?_, ?_⟩
  · rw [Rat.num_divInt]
    refine Nat.le_trans (Int.natAbs_ediv_le_natAbs _ _) ?_
    rw [Int.natAbs_mul, Int.natAbs_sign_of_ne_zero hq, Nat.one_mul]
    exact Nat.le_refl _
  · rw [Rat.den_divInt, if_neg hq]
    exact Nat.div_le_self ..
theorem sz_div {a : Nat} {p q : Int} (hq : q ≠ 0) (hp : Bd a p) (h : Bd a q) : Sz a (Rat.divInt p q) := by
  obtain ⟨h1, h2⟩ := divInt_le (p := p) hq
  refine ⟨Nat.lt_of_le_of_lt h1 hp, ?_⟩
  unfold Bd at *
  omega
theorem add_div (x y : Rat) : x + y = Rat.divInt (x.num * y.den + y.num * x.den) ((x.den : Int) * y.den) := by
  conv => lhs; rw [← Rat.num_divInt_den x, ← Rat.num_divInt_den y]
  rw [Rat.divInt_add_divInt _ _ (by have := dpos x; omega) (by have := dpos y; omega)]
theorem sub_div (x y : Rat) : x - y = Rat.divInt (x.num * y.den - y.num * x.den) ((x.den : Int) * y.den) := by
  conv => lhs; rw [← Rat.num_divInt_den x, ← Rat.num_divInt_den y]
  rw [Rat.divInt_sub_divInt _ _ (by have := dpos x; omega) (by have := dpos y; omega)]
theorem mul_div (x y : Rat) : x * y = Rat.divInt (x.num * y.num) ((x.den : Int) * y.den) := by
  conv => lhs; rw [← Rat.num_divInt_den x, ← Rat.num_divInt_den y]
  rw [Rat.divInt_mul_divInt]
theorem div_div (x y : Rat) : x / y = Rat.divInt (x.num * y.den) ((x.den : Int) * y.num) := by
  rw [Rat.div_def, Rat.inv_def, ← Rat.divInt_mul_divInt, Rat.num_divInt_den]
theorem mul_ne {x y : Int} (h1 : x ≠ 0) (h2 : y ≠ 0) : x * y ≠ 0 := Int.mul_ne_zero h1 h2
theorem Sz.add {a b : Nat} {x y : Rat} (hx : Sz a x) (hy : Sz b y) : Sz (a + b + 1) (x + y) := by
  rw [add_div]
  exact sz_div (mul_ne (by have := dpos x; omega) (by have := dpos y; omega)) ((hx.1.mul hy.2).add ((hy.1.mul hx.2).mono (by omega))) ((hx.2.mul hy.2).mono (by omega))
theorem Sz.sub {a b : Nat} {x y : Rat} (hx : Sz a x) (hy : Sz b y) : Sz (a + b + 1) (x - y) := by
  rw [sub_div]
  exact sz_div (mul_ne (by have := dpos x; omega) (by have := dpos y; omega)) ((hx.1.mul hy.2).sub ((hy.1.mul hx.2).mono (by omega))) ((hx.2.mul hy.2).mono (by omega))
theorem Sz.mul {a b : Nat} {x y : Rat} (hx : Sz a x) (hy : Sz b y) : Sz (a + b) (x * y) := by
  rw [mul_div]
  exact sz_div (mul_ne (by have := dpos x; omega) (by have := dpos y; omega)) (hx.1.mul hy.1) (hx.2.mul hy.2)
theorem Sz.div {a b : Nat} {x y : Rat} (hx : Sz a x) (hy : Sz b y) (h0 : y ≠ 0) : Sz (a + b) (x / y) := by
  rw [div_div]
  exact sz_div (mul_ne (by have := dpos x; omega) (fun h => h0 (Rat.num_eq_zero.mp h))) (hx.1.mul hy.2) (hx.2.mul hy.1)
theorem Sz.neg {a : Nat} {x : Rat} (hx : Sz a x) : Sz a (-x) := ⟨by show (-x).num.natAbs < _; rw [Rat.neg_num]; exact hx.1.neg, hx.2⟩
/-- small enough for any one operation -/
def Ok (x : Rat) : Prop := ∃ b, b ≤ 20000000 ∧ Sz b x
theorem Sz.ok {b : Nat} {x : Rat} (h : Sz b x) (hb : b ≤ 20000000) : Ok x := ⟨b, hb, h⟩
theorem sz_int {b : Nat} {i : Int} (h : Bd b i) (hb : 1 ≤ b) : Sz b (i : Rat) := ⟨h, by
  show (1 : Int).natAbs < 2 ^ b
  have := two_mono hb
  show 1 < 2 ^ b
  omega⟩
theorem sz0 : Sz 1 0 := ⟨show (0 : Int).natAbs < 2 by decide, show (1 : Int).natAbs < 2 by decide⟩
theorem sz1 : Sz 1 1 := ⟨show (1 : Int).natAbs < 2 by decide, show (1 : Int).natAbs < 2 by decide⟩
theorem ok0 : Ok 0 := sz0.ok (by omega)
theorem ok1 : Ok 1 := sz1.ok (by omega)
end M

end
section
set_option Elab.async false
set_option linter.all false
set_option maxRecDepth 100000
/-! CG: rules for statements' value functions. -/
namespace M
open PySem PySem.Spec PyProof.Rows L2 VL
abbrev Stm := Rho → Sto → Option VL.Fl
def Wp (m : Option VL.Fl) (Q : VL.Fl → Prop) : Prop := ∃ r, m = some r ∧ Q r
section
variable {s t b1 b2 : Stm} {ρ ρ2 : Rho} {S S1 S2 : Sto} {Q Q' : VL.Fl → Prop} {e : Rho → Mo SV} {x : SV} {i : Nat} {c : Rho → Mo Bool} {fs : Rho → Mo (List SV)}
theorem Wp.mono (h : Wp (s ρ S) Q) (q : ∀ r, Q r → Q' r) : Wp (s ρ S) Q' := by
  obtain ⟨r, e, z⟩ := h
  exact ⟨r, e, q r z⟩
theorem wp_nx (h : s ρ S = some (.nx ρ2 S2)) (q : Wp (t ρ2 S2) Q) : Wp (sSeq s t ρ S) Q := by
  obtain ⟨r, e, z⟩ := q
  exact ⟨r, by show (match s ρ S with | some (.nx ρ' S') => t ρ' S' | r => r) = _; rw [h]; exact e, z⟩
/-- a part ahead -/
theorem wp_seq (h : Wp (s ρ S) fun r => (∃ ρ2 S2, r = .nx ρ2 S2 ∧ Wp (t ρ2 S2) Q) ∨ ((∀ ρ2 S2, r ≠ .nx ρ2 S2) ∧ Q r)) : Wp (sSeq s t ρ S) Q := by
  obtain ⟨r, e, z⟩ := h
  rcases z with ⟨ρ2, S2, rfl, z⟩ | ⟨n, z⟩
  · exact wp_nx e z
  · refine ⟨r, ?_, z⟩
    show (match s ρ S with | some (.nx ρ' S') => t ρ' S' | r => r) = _
    rw [e]
    cases r with
    | nx ρ2 S2 => exact absurd rfl (n ρ2 S2)
    | _ => rfl
theorem wp_set (h : e ρ S = some (.ok x S1)) (q : Wp (t (ρ.set i (some x)) S1) Q) : Wp (sSeq (sSet i e) t ρ S) Q := wp_nx (by show bindS ρ (e ρ S) _ = _; rw [h]; rfl) q
theorem wp_set1 (h : e ρ S = some (.ok x S1)) (q : Q (.nx (ρ.set i (some x)) S1)) : Wp (sSet i e ρ S) Q := ⟨_, by show bindS ρ (e ρ S) _ = _; rw [h]; rfl, q⟩
/-- a check that is passed -/
theorem wp_pass (h : c ρ S = some (.ok false S1)) (q : Wp (t ρ S1) Q) : Wp (sSeq (sIf c b1 sNil) t ρ S) Q := wp_nx (by show bindS ρ (c ρ S) _ = _; rw [h]; rfl) q
theorem wp_ifT (h : c ρ S = some (.ok true S1)) (q : Wp (b1 ρ S1) Q) : Wp (sIf c b1 b2 ρ S) Q := by
  obtain ⟨r, e, z⟩ := q
  exact ⟨r, by show bindS ρ (c ρ S) _ = _; rw [h]; exact e, z⟩
theorem wp_ifF (h : c ρ S = some (.ok false S1)) (q : Wp (b2 ρ S1) Q) : Wp (sIf c b1 b2 ρ S) Q := by
  obtain ⟨r, e, z⟩ := q
  exact ⟨r, by show bindS ρ (c ρ S) _ = _; rw [h]; exact e, z⟩
theorem wp_nil (q : Q (.nx ρ S)) : Wp (sNil ρ S) Q := ⟨_, rfl, q⟩
theorem wp_ret (h : e ρ S = some (.ok x S1)) (q : Q (.rt x S1)) : Wp (sRet e ρ S) Q := ⟨_, by show bindS ρ (e ρ S) _ = _; rw [h]; rfl, q⟩
theorem wp_retV (h : ρ[i]? = some (some x)) (q : Q (.rt x S)) : Wp (sRetV i ρ S) Q := ⟨_, by unfold sRetV; rw [h], q⟩
theorem wp_raise (k : Str) (q : Q (.exc k [] ρ S)) : Wp (sRaise k ρ S) Q := ⟨_, rfl, q⟩
theorem wp_drop (h : e ρ S = some (.ok x S1)) (q : Wp (t ρ S1) Q) : Wp (sSeq (sDrop e) t ρ S) Q := wp_nx (by show bindS ρ (e ρ S) _ = _; rw [h]; rfl) q
/-- a check that is not passed -/
theorem wp_retIf (h : c ρ S = some (.ok true S1)) (he : e ρ S1 = some (.ok x S2)) (q : Q (.rt x S2)) : Wp (sSeq (sIf c (sRet e) b2) t ρ S) Q := by
  refine wp_seq ⟨.rt x S2, ?_, .inr ⟨fun _ _ => by simp, q⟩⟩
  show bindS ρ (c ρ S) _ = _
  rw [h]
  show bindS ρ (e ρ S1) _ = _
  rw [he]
  rfl
theorem wp_raiseT {k : Str} (h : c ρ S = some (.ok true S1)) (q : Q (.exc k [] ρ S1)) : Wp (sSeq (sIf c (sRaise k) b2) t ρ S) Q := by
  refine wp_seq ⟨.exc k [] ρ S1, ?_, .inr ⟨fun _ _ => by simp, q⟩⟩
  show bindS ρ (c ρ S) _ = _
  rw [h]
  rfl
theorem wp_raiseT1 {k : Str} (h : c ρ S = some (.ok true S1)) (q : Q (.exc k [] ρ S1)) : Wp (sIf c (sRaise k) b2 ρ S) Q := ⟨_, by show bindS ρ (c ρ S) _ = _; rw [h]; rfl, q⟩
theorem wp_dropE {k : Str} {fv : List (Str × SV)} (h : e ρ S = some (.exc k fv S1)) (q : Q (.exc k fv ρ S1)) : Wp (sSeq (sDrop e) t ρ S) Q := by
  refine wp_seq ⟨.exc k fv ρ S1, ?_, .inr ⟨fun _ _ => by simp, q⟩⟩
  show bindS ρ (e ρ S) _ = _
  rw [h]
  rfl
/-- a local's list is let go as data -/
theorem wp_ghF {i : Nat} {y : SV} {r : List Nat} (h : ρ[i]? = some (some x)) (hf : frz x = some y) (q : Wp (ghF r s (ρ.set i (some y)) S) Q) : Wp (ghF (i :: r) s ρ S) Q := by
  obtain ⟨z, e, w⟩ := q
  exact ⟨z, by unfold ghF; simp only [h, hf]; exact e, w⟩
theorem wp_ghF0 (q : Wp (s ρ S) Q) : Wp (ghF [] s ρ S) Q := by
  obtain ⟨z, e, w⟩ := q
  exact ⟨z, by unfold ghF; exact e, w⟩
theorem wp_gh1 {i : Nat} {y : SV} (h : ρ[i]? = some (some x)) (hf : frz x = some y) (q : Wp (s (ρ.set i (some y)) S) Q) : Wp (ghF [i] s ρ S) Q := wp_ghF h hf (wp_ghF0 q)
/-- a part ahead that lets a list go -/
theorem wp_gh2 {i : Nat} {y : SV} (h : ρ[i]? = some (some x)) (hf : frz x = some y) (q : Wp (sSeq s t (ρ.set i (some y)) S) Q) : Wp (sSeq (ghF [i] s) t ρ S) Q := by
  obtain ⟨z, e, w⟩ := q
  refine ⟨z, ?_, w⟩
  have e1 : ghF [i] s ρ S = s (ρ.set i (some y)) S := by
    unfold ghF
    simp only [h, hf]
    unfold ghF
    rfl
  show (match ghF [i] s ρ S with | some (.nx ρ' S') => t ρ' S' | r => r) = _
  rw [e1]
  exact e
/-- x.append(y), of a local -/
theorem app_own {ys : List SV} {y : SV} (h : ρ[i]? = some (some (.own ys))) (hf : fs ρ S = some (.ok [y] S1)) (hl : ys.length < sizeLine) : sAppend (lVar i) fs ρ S = some (.nx (ρ.set i (some (.own (ys ++ [y])))) S1) := by
  unfold sAppend lVar
  simp only [h, bindS, hf, Lo.get, Lo.put, getP, putP, Option.bind_some, Option.map_some, if_pos hl]
/-- a for with an invariant -/
theorem forL_inv {tf : TgF} {body : Stm} (I : Nat → Rho → Sto → Prop) (xs : List SV) (h : ∀ (i : Nat) x, xs[i]? = some x → ∀ ρ S, I i ρ S → ∃ ρ', tf x ρ = some ρ' ∧ Wp (body ρ' S) fun r => ∃ ρ2 S2, (r = .nx ρ2 S2 ∨ r = .ct ρ2 S2) ∧ I (i + 1) ρ2 S2) : ∀ ρ S, I 0 ρ S → ∃ ρ2 S2, I xs.length ρ2 S2 ∧ forL tf body xs ρ S = some (.nx ρ2 S2) :=
  forL_step I xs fun i x hx ρ S hI => by
    obtain ⟨ρ', t, r, e, ρ2, S2, z, k⟩ := h i x hx ρ S hI
    refine ⟨ρ', t, ρ2, S2, k, ?_⟩
    rcases z with rfl | rfl
    · exact .inl e
    · exact .inr e
theorem wp_for {it : Rho → Mo (List SV)} {tf : TgF} {body : Stm} {xs : List SV} (I : Nat → Rho → Sto → Prop) (hi : it ρ S = some (.ok xs S1)) (h0 : I 0 ρ S1) (hb : ∀ (i : Nat) x, xs[i]? = some x → ∀ ρ S, I i ρ S → ∃ ρ', tf x ρ = some ρ' ∧ Wp (body ρ' S) fun r => ∃ ρ2 S2, (r = .nx ρ2 S2 ∨ r = .ct ρ2 S2) ∧ I (i + 1) ρ2 S2)
    (hr : ∀ ρ2 S2, I xs.length ρ2 S2 → Wp (t ρ2 S2) Q) : Wp (sSeq (sFor it tf body) t ρ S) Q := by
  obtain ⟨ρ2, S2, k, e⟩ := forL_inv I xs hb ρ S1 h0
  exact wp_nx (by show bindS ρ (it ρ S) _ = _; rw [hi]; exact e) (hr ρ2 S2 k)
/-- a for as a fold over typed values, the store left as it is -/
theorem forL_fold {α σ : Type} {tf : TgF} {body : Stm} (f : α → SV) (step : σ → α → σ) (I : σ → Rho → Prop) : ∀ (l : List α), (∀ a ∈ l, ∀ s ρ, I s ρ → ∃ ρ', tf (f a) ρ = some ρ' ∧ Wp (body ρ' S) fun r => ∃ ρ2, (r = .nx ρ2 S ∨ r = .ct ρ2 S) ∧ I (step s a) ρ2) → ∀ s ρ, I s ρ → ∃ ρ2, I (l.foldl step s) ρ2 ∧ forL tf body (l.map f) ρ S = some (.nx ρ2 S)
  | [], _, s, ρ, h => ⟨ρ, h, rfl⟩
  | a :: l, hb, s, ρ, h => by
    obtain ⟨ρ', t, r, q, ρ2, z, h2⟩ := hb a List.mem_cons_self s ρ h
    obtain ⟨ρ3, h3, e⟩ := forL_fold f step I l (fun b m => hb b (List.mem_cons_of_mem _ m)) (step s a) ρ2 h2
    refine ⟨ρ3, h3, ?_⟩
    rw [List.map_cons]
    unfold forL
    rcases z with rfl | rfl <;> simp [t, q, e]
theorem wp_fold {α σ : Type} {it : Rho → Mo (List SV)} {tf : TgF} {body : Stm} (f : α → SV) (l : List α) (step : σ → α → σ) (I : σ → Rho → Prop) (s : σ) (hi : it ρ S = some (.ok (l.map f) S1)) (h0 : I s ρ) (hb : ∀ a ∈ l, ∀ s ρ, I s ρ → ∃ ρ', tf (f a) ρ = some ρ' ∧ Wp (body ρ' S1) fun r => ∃ ρ2, (r = .nx ρ2 S1 ∨ r = .ct ρ2 S1) ∧ I (step s a) ρ2)
    (hr : ∀ ρ2, I (l.foldl step s) ρ2 → Wp (t ρ2 S1) Q) : Wp (sSeq (sFor it tf body) t ρ S) Q := by
  obtain ⟨ρ2, k, e⟩ := forL_fold f step I l hb s ρ h0
  exact wp_nx (by show bindS ρ (it ρ S) _ = _; rw [hi]; exact e) (hr ρ2 k)
/-- a for that looks at each, handing back where one does not pass; here all pass -/
theorem wp_all {α : Type} {it : Rho → Mo (List SV)} {tf : TgF} {body : Stm} (f : α → SV) (l : List α) (I : Rho → Sto → Prop) (hi : it ρ S = some (.ok (l.map f) S1)) (h0 : I ρ S1) (hb : ∀ a ∈ l, ∀ ρ S, I ρ S → ∃ ρ', tf (f a) ρ = some ρ' ∧ Wp (body ρ' S) fun r => ∃ ρ2 S2, (r = .nx ρ2 S2 ∨ r = .ct ρ2 S2) ∧ I ρ2 S2)
    (hr : ∀ ρ2 S2, I ρ2 S2 → Wp (t ρ2 S2) Q) : Wp (sSeq (sFor it tf body) t ρ S) Q := by
  refine wp_for (fun _ => I) hi h0 (fun i x hx => ?_) hr
  rw [List.getElem?_map, Option.map_eq_some_iff] at hx
  obtain ⟨a, ha, rfl⟩ := hx
  exact hb a (List.mem_of_getElem? ha)
end
section
variable {n : Nat} {f : Stm} {xs : List SV} {S S' : Sto} {x : SV} {P : Sto → Prop}
theorem run_wp (q : Wp (f (rho0 n xs) S) fun r => r = .rt x S') : runF n f xs S = some (.ok x S') := by
  obtain ⟨r, e, rfl⟩ := q
  unfold runF; rw [e]
theorem run_wpN (q : Wp (f (rho0 n xs) S) fun r => ∃ ρ, r = .nx ρ S') : runF n f xs S = some (.ok (.d .none) S') := by
  obtain ⟨r, e, _, rfl⟩ := q
  unfold runF; rw [e]
theorem run_wpE {k : Str} (q : Wp (f (rho0 n xs) S) fun r => ∃ ρ, r = .exc k [] ρ S') : runF n f xs S = some (.exc k [] S') := by
  obtain ⟨r, e, _, rfl⟩ := q
  unfold runF; rw [e]
theorem run_wp2 {P : SV → Sto → Prop} (q : Wp (f (rho0 n xs) S) fun r => ∃ x S', r = .rt x S' ∧ P x S') : ∃ x S', runF n f xs S = some (.ok x S') ∧ P x S' := by
  obtain ⟨r, e, x, S', rfl, p⟩ := q
  exact ⟨x, S', by unfold runF; rw [e], p⟩
end
theorem ixN_nat {n k : Nat} (h : k < n) : ixN n (k : Int) = some k := by
  unfold ixN
  simp
  omega
/-- x[k] = y, of a local list -/
theorem st_ix {ρ : Rho} {S S1 : Sto} {i k : Nat} {xs : List SV} {y : SV} {f fi : Rho → Mo SV} (hx : ρ[i]? = some (some (.own xs))) (hv : f ρ S = some (.ok y S1)) (hk : fi ρ S1 = some (.ok (.d (.int (k : Int))) S1)) (h : k < xs.length) : sStore (lVar i) fi f ρ S = some (.nx (ρ.set i (some (.own (xs.set k y)))) S1) := by
  unfold sStore lVar
  simp only [hv, bindS, hx, hk, Lo.get, Lo.put, getP, putP, Option.bind_some, Option.map_some, ixN_nat h]
/-- x[k][l] = y, of a local list of lists -/
theorem st_ix2 {ρ : Rho} {S S1 : Sto} {i k l : Nat} {xs ys : List SV} {y : SV} {f fi fj : Rho → Mo SV} (hx : ρ[i]? = some (some (.own xs))) (hv : f ρ S = some (.ok y S1)) (hk : fi ρ S1 = some (.ok (.d (.int (k : Int))) S1)) (hl : fj ρ S1 = some (.ok (.d (.int (l : Int))) S1)) (h : xs[k]? = some (.own ys)) (h2 : l < ys.length) : sStore (lIx (lVar i) fi) fj f ρ S = some (.nx (ρ.set i (some (.own (xs.set k (.own (ys.set l y)))))) S1) := by
  have hk' : k < xs.length := (List.getElem?_eq_some_iff.mp h).1
  unfold sStore lIx lVar
  simp only [hv, bindS, hx, VL.bindM_ok, hk, Lo.sub, Lo.get, getP, Option.bind_some, ixN_nat hk', h, Option.map_some, hl, ixN_nat h2, Lo.put, putP, List.nil_append]
/-- x[a], x[b] = p, q of data -/
theorem st_swp {ρ : Rho} {S : Sto} {i a b : Nat} {xs : List SV} {p q : PyData} {f fa fb : Rho → Mo SV} (hx : ρ[i]? = some (some (.own xs))) (hv : f ρ S = some (.ok (.d (.tuple [p, q])) S)) (ha : fa ρ S = some (.ok (.d (.int (a : Int))) S)) (hb : fb (ρ.set i (some (.own (xs.set a (.d p))))) S = some (.ok (.d (.int (b : Int))) S)) (h1 : a < xs.length) (h2 : b < xs.length) : sSwp (lVar i) fa (lVar i) fb f ρ S = some (.nx (ρ.set i (some (.own ((xs.set a (.d p)).set b (.d q))))) S) := by
  have hi : i < ρ.length := (List.getElem?_eq_some_iff.mp hx).1
  unfold sSwp stD lVar
  simp only [hv, bindS, hx, ha, Lo.get, Lo.put, getP, putP, Option.bind_some, ixN_nat h1, List.getElem?_set_self hi, hb, List.length_set, ixN_nat h2, Option.map_some, List.set_set]
theorem rng2_n {f g : Rho → Mo SV} {ρ : Rho} {S : Sto} {a b : Nat} (hf : f ρ S = some (.ok (.d (.int (a : Int))) S)) (hg : g ρ S = some (.ok (.d (.int (b : Int))) S)) (h1 : a ≤ 100000) (h2 : b ≤ 100000) : (VL.iRng2 (aCons f (aCons g aNil))) ρ S = some (.ok ((List.range' a (b - a)).map fun k => SV.d (.int ((k : Nat) : Int))) S) := by
  have i1 : inR (a : Int) = true := inR_of (by omega)
  have i2 : inR (b : Int) = true := inR_of (by omega)
  have e : ((b : Int) - (a : Int)).toNat = b - a := by omega
  unfold VL.iRng2 aCons
  rw [hf, VL.bindM_ok, hg, VL.bindM_ok]
  show (if inR (a : Int) && inR (b : Int) then some (Res.ok (rangeL (a : Int) ((b : Int) - (a : Int)).toNat) S) else none) = _
  rw [i1, i2, Bool.and_self, if_pos rfl, e]
  unfold rangeL
  rw [List.range'_eq_map_range, List.map_map]
  rfl
/-! expressions, part by part -/
section
variable {ρ : Rho} {S S1 S2 S3 : Sto} {f g h : Rho → Mo SV} {fs : Rho → Mo (List SV)} {x y z : SV} {xs ys : List SV} {ds : List PyData} {b b1 b2 : Bool} {c c1 c2 : Rho → Mo Bool} {n i : Nat}
theorem e_bin {op : Sto → SV → SV → Option SV} (h1 : f ρ S = some (.ok x S1)) (h2 : g ρ S1 = some (.ok y S2)) (h3 : op S2 x y = some z) : eBin op f g ρ S = some (.ok z S2) := by
  unfold eBin; rw [h1, VL.bindM_ok, h2, VL.bindM_ok, h3]; rfl
theorem e_cmp {op : Sto → SV → SV → Option Bool} (h1 : f ρ S = some (.ok x S1)) (h2 : g ρ S1 = some (.ok y S2)) (h3 : op S2 x y = some b) : eBin (cB op) f g ρ S = some (.ok (.d (.bool b)) S2) := e_bin h1 h2 (by unfold cB; rw [h3]; rfl)
theorem b_cmp {op : Sto → SV → SV → Option Bool} (h1 : f ρ S = some (.ok x S1)) (h2 : g ρ S1 = some (.ok y S2)) (h3 : op S2 x y = some b) : bB (eBin (cB op) f g) ρ S = some (.ok b S2) := by
  unfold bB; rw [e_cmp h1 h2 h3]; rfl
theorem e_nil : aNil ρ S = some (.ok [] S) := rfl
theorem e_cons (h1 : f ρ S = some (.ok x S1)) (h2 : fs ρ S1 = some (.ok xs S2)) : aCons f fs ρ S = some (.ok (x :: xs) S2) := by
  unfold aCons; rw [h1, VL.bindM_ok, h2, VL.bindM_ok]
theorem e_one (h1 : f ρ S = some (.ok x S1)) : aCons f aNil ρ S = some (.ok [x] S1) := e_cons h1 e_nil
theorem e_cal {cl : Sto → List SV → Option SV} (h1 : fs ρ S = some (.ok xs S1)) (h2 : cl S1 xs = some z) : eCal cl fs ρ S = some (.ok z S1) := by
  unfold eCal; rw [h1, VL.bindM_ok, h2]; rfl
theorem cvt_frz : ∀ {xs ys : List SV} {S : Sto}, frzs xs = some ys → cvt [] xs S = some (ys, S)
  | [], ys, S, h => by cases h; rfl
  | x :: xs, ys, S, h => by
    simp only [frzs_cons, Option.bind_eq_some_iff, Option.map_eq_some_iff] at h
    obtain ⟨y, hy, zs, hz, rfl⟩ := h
    rw [cvt_0, hy, Option.bind_some, cvt_frz hz]
    rfl
theorem e_call {F : List SV → Mo SV} {r : Option (Res SV)} (h1 : fs ρ S = some (.ok xs S1)) (hl : xs.length = n) (hc : frzs xs = some ys) (hF : F ys S1 = r) : eCall n F [] fs ρ S = r := by
  unfold eCall; rw [h1, VL.bindM_ok, if_pos hl, cvt_frz hc]; exact hF
theorem e_tup (h1 : fs ρ S = some (.ok xs S1)) (hd : datOs xs = some ds) (hl : xs.length ≤ 1000) : eTup fs ρ S = some (.ok (.d (.tuple ds)) S1) := by
  unfold eTup; rw [h1, VL.bindM_ok, if_pos (by rw [sizeLine_eq]; omega), hd]; rfl
theorem e_lst (h1 : fs ρ S = some (.ok xs S1)) (hl : xs.length ≤ 1000) : eLst fs ρ S = some (.ok (.own xs) S1) := by
  unfold eLst; rw [h1, VL.bindM_ok, if_pos (by rw [sizeLine_eq]; omega)]
theorem e_var (h : ρ[i]? = some (some x)) : eVar i ρ S = some (.ok x S) := by
  unfold eVar; rw [h]
theorem e_varV (h : ρ[i]? = some (some x)) (hn : noOwn x = true) : eVarV i ρ S = some (.ok x S) := by
  unfold eVarV; simp only [h, hn, if_true]
theorem e_varO {l : List SV} (h : ρ[i]? = some (some (.own l))) : eVar i ρ S = some (.ok (.own l) S) := e_var h
theorem e_ifT (h1 : c ρ S = some (.ok true S1)) (h2 : f ρ S1 = some (.ok x S2)) : eIf c f g ρ S = some (.ok x S2) := by
  unfold eIf; rw [h1, VL.bindM_ok]; exact h2
theorem e_ifF (h1 : c ρ S = some (.ok false S1)) (h2 : g ρ S1 = some (.ok x S2)) : eIf c f g ρ S = some (.ok x S2) := by
  unfold eIf; rw [h1, VL.bindM_ok]; exact h2
theorem e_un {o : Sto → SV → Option SV} (h1 : f ρ S = some (.ok x S1)) (h2 : o S1 x = some z) : eUn o f ρ S = some (.ok z S1) := by
  unfold eUn; rw [h1, VL.bindM_ok, h2]; rfl
theorem e_frz (h1 : f ρ S = some (.ok x S1)) (h2 : frz x = some z) : eFrz f ρ S = some (.ok z S1) := by
  unfold eFrz; rw [h1, VL.bindM_ok, h2]; rfl
theorem b_val (h1 : f ρ S = some (.ok x S1)) (h2 : truth S1 x = some b) : bVal f ρ S = some (.ok b S1) := by
  unfold bVal; rw [h1, VL.bindM_ok, h2]; rfl
theorem b_valB (h1 : f ρ S = some (.ok (.d (.bool b)) S1)) : bVal f ρ S = some (.ok b S1) := b_val h1 rfl
theorem b_not (h1 : c ρ S = some (.ok b S1)) : bNot c ρ S = some (.ok (!b) S1) := by
  unfold bNot; rw [h1, VL.bindM_ok]
theorem b_orT (h1 : c1 ρ S = some (.ok true S1)) : bOr c1 c2 ρ S = some (.ok true S1) := by
  unfold bOr; rw [h1, VL.bindM_ok]; rfl
theorem b_orF (h1 : c1 ρ S = some (.ok false S1)) (h2 : c2 ρ S1 = some (.ok b S2)) : bOr c1 c2 ρ S = some (.ok b S2) := by
  unfold bOr; rw [h1, VL.bindM_ok]; exact h2
theorem b_andF (h1 : c1 ρ S = some (.ok false S1)) : bAnd c1 c2 ρ S = some (.ok false S1) := by
  unfold bAnd; rw [h1, VL.bindM_ok]; rfl
theorem b_andT (h1 : c1 ρ S = some (.ok true S1)) (h2 : c2 ρ S1 = some (.ok b S2)) : bAnd c1 c2 ρ S = some (.ok b S2) := by
  unfold bAnd; rw [h1, VL.bindM_ok]; exact h2
theorem e_sl {lo hi : Rho → Mo (Option Int)} {l u : Option Int} (h1 : f ρ S = some (.ok x S1)) (h2 : lo ρ S1 = some (.ok l S2)) (h3 : hi ρ S2 = some (.ok u S3)) (h4 : gSl S3 x l u = some z) : eSl f lo hi ρ S = some (.ok z S3) := by
  unfold eSl; rw [h1, VL.bindM_ok, h2, VL.bindM_ok, h3, VL.bindM_ok, h4]; rfl
theorem o_some' {k : Int} (h1 : f ρ S = some (.ok (.d (.int k)) S1)) : pSome f ρ S = some (.ok (some k) S1) := by
  unfold pSome; rw [h1, VL.bindM_ok]
theorem st_asg {tf : TgF} {ρ2 : Rho} (h1 : f ρ S = some (.ok x S1)) (h2 : frz x = some y) (h3 : tf y ρ = some ρ2) : sAsg tf f ρ S = some (.nx ρ2 S1) := by
  unfold sAsg bindS; rw [h1]; simp only [h2, Option.bind_some, h3, Option.map_some]
end
/-! comprehensions -/
theorem compL_filter {α : Type} {tf : TgF} {tst : Rho → Mo Bool} {elt : Rho → Mo SV} {ρ : Rho} {S : Sto} (f g : α → SV) (p : α → Bool) : ∀ (l : List α) (acc : List SV), (∀ a ∈ l, ∃ ρ', tf (f a) ρ = some ρ' ∧ tst ρ' S = some (.ok (p a) S) ∧ (p a = true → elt ρ' S = some (.ok (g a) S))) → acc.length + l.length ≤ sizeLine → compL tf tst elt ρ (l.map f) acc S = some (.ok (acc ++ (l.filter p).map g) S)
  | [], acc, _, _ => by simp [compL]
  | a :: l, acc, h, hl => by
    rw [List.length_cons] at hl
    obtain ⟨ρ', t, h1, h2⟩ := h a List.mem_cons_self
    rw [List.map_cons]
    unfold compL
    cases q : p a with
    | true =>
      rw [q] at h1
      have ih := compL_filter f g p l (acc ++ [g a]) (fun z m => h z (List.mem_cons_of_mem _ m)) (by simp; omega)
      simp only [t, h1, h2 q]
      rw [if_pos (by omega), ih]
      simp [List.filter_cons, q]
    | false =>
      rw [q] at h1
      have ih := compL_filter f g p l acc (fun z m => h z (List.mem_cons_of_mem _ m)) (by omega)
      simp only [t, h1]
      rw [ih]
      simp [List.filter_cons, q]
theorem lc_filter {α : Type} {it : Rho → Mo (List SV)} {tf : TgF} {tst : Rho → Mo Bool} {elt : Rho → Mo SV} {vs : List Nat} {ρ : Rho} {S S1 : Sto} (l : List α) (f g : α → SV) (p : α → Bool) (hi : it ρ S = some (.ok (l.map f) S1)) (hl : l.length ≤ sizeLine) (h : ∀ a ∈ l, ∃ ρ', tf (f a) (wipeR ρ vs) = some ρ' ∧ tst ρ' S1 = some (.ok (p a) S1) ∧ (p a = true → elt ρ' S1 = some (.ok (g a) S1))) :
    eLc it tf tst elt vs ρ S = some (.ok (.own ((l.filter p).map g)) S1) := by
  unfold eLc
  rw [hi]
  simp only [bindM_ok, compL_filter f g p l [] h (by simpa using hl)]
  simp
theorem lc_map {α : Type} {it : Rho → Mo (List SV)} {tf : TgF} {elt : Rho → Mo SV} {vs : List Nat} {ρ : Rho} {S S1 : Sto} (l : List α) (f g : α → SV) (hi : it ρ S = some (.ok (l.map f) S1)) (hl : l.length ≤ sizeLine) (h : ∀ a ∈ l, ∃ ρ', tf (f a) (wipeR ρ vs) = some ρ' ∧ elt ρ' S1 = some (.ok (g a) S1)) :
    eLc it tf bYes elt vs ρ S = some (.ok (.own (l.map g)) S1) := by
  have := lc_filter (tst := bYes) l f g (fun _ => true) hi hl fun a m => by
    obtain ⟨ρ', t, q⟩ := h a m
    exact ⟨ρ', t, rfl, fun _ => q⟩
  rw [this, List.filter_eq_self.mpr (fun _ _ => rfl)]
/-- a comprehension that draws: the store changes -/
theorem compL_draw {tf : TgF} {elt : Rho → Mo SV} {ρ : Rho} (I : Nat → List SV → Sto → Prop) : ∀ (xs : List SV) (k : Nat) (acc : List SV) (S : Sto), (∀ (j : Nat) x, xs[j]? = some x → ∀ acc S, I (k + j) acc S → ∃ ρ' y S2, tf x ρ = some ρ' ∧ elt ρ' S = some (.ok y S2) ∧ I (k + j + 1) (acc ++ [y]) S2) → acc.length + xs.length ≤ sizeLine → I k acc S → ∃ ys S2, compL tf bYes elt ρ xs acc S = some (.ok ys S2) ∧ I (k + xs.length) ys S2
  | [], k, acc, S, _, _, h => ⟨acc, S, by simp [compL], h⟩
  | x :: xs, k, acc, S, hx, hl, h => by
    rw [List.length_cons] at hl
    obtain ⟨ρ', y, S2, t, q, h2⟩ := hx 0 x rfl acc S h
    obtain ⟨ys, S3, e, h3⟩ := compL_draw I xs (k + 1) (acc ++ [y]) S2 (fun j z hz acc S hI => by
      have := hx (j + 1) z (by simpa using hz) acc S (by rwa [show k + (j + 1) = k + 1 + j by omega])
      rwa [show k + (j + 1) + 1 = k + 1 + j + 1 by omega] at this) (by simp; omega) h2
    refine ⟨ys, S3, ?_, by rw [List.length_cons, show k + (xs.length + 1) = k + 1 + xs.length by omega]; exact h3⟩
    unfold compL
    have h1 : bYes ρ' S = some (.ok true S) := rfl
    simp only [t, h1, q]
    rw [if_pos (by omega), e]
theorem lc_draw {it : Rho → Mo (List SV)} {tf : TgF} {elt : Rho → Mo SV} {vs : List Nat} {ρ : Rho} {S S1 : Sto} {xs : List SV} (I : Nat → List SV → Sto → Prop) (hi : it ρ S = some (.ok xs S1)) (hl : xs.length ≤ sizeLine) (h0 : I 0 [] S1) (h : ∀ (j : Nat) x, xs[j]? = some x → ∀ acc S, I j acc S → ∃ ρ' y S2, tf x (wipeR ρ vs) = some ρ' ∧ elt ρ' S = some (.ok y S2) ∧ I (j + 1) (acc ++ [y]) S2) :
    ∃ ys S2, eLc it tf bYes elt vs ρ S = some (.ok (.own ys) S2) ∧ I xs.length ys S2 := by
  obtain ⟨ys, S2, e, k⟩ := compL_draw I xs 0 [] S1 (fun j x hx acc S hI => by
    rw [Nat.zero_add] at hI ⊢
    exact h j x hx acc S hI) (by simpa using hl) h0
  refine ⟨ys, S2, ?_, by simpa using k⟩
  unfold eLc
  rw [hi]
  simp only [bindM_ok, e]
end M

end
section
set_option Elab.async false
set_option linter.all false
set_option maxRecDepth 100000
/-! C1: the fractions of the program and of the law. -/
namespace M
open PySem PySem.Spec PyProof.Rows L2 VL
theorem rat_mk {p q : Int} (h : 0 < q) : PyData.tuple [.int (p / (Int.gcd p q : Int)), .int (q / (Int.gcd p q : Int))] = rD (Rat.divInt p q) := by
  have hn : (Rat.divInt p q).num = p / (Int.gcd p q : Int) := by
    rw [Rat.num_divInt, Int.sign_eq_one_of_pos h, Int.one_mul, Int.gcd_comm]
  have hd : ((Rat.divInt p q).den : Int) = q / (Int.gcd p q : Int) := by
    rw [Rat.den_divInt, if_neg (by omega), Int.gcd_comm, Int.natCast_ediv]
    congr 1
    omega
  unfold rD
  rw [hn, hd]
abbrev rS (x : Rat) : SV := .d (rD x)
@[simp] theorem rD_at0 (x : Rat) : atI ([PyData.int x.num, .int (x.den : Int)].map SV.d) 0 = some (.d (.int x.num)) := rfl
@[simp] theorem rD_at1 (x : Rat) : atI ([PyData.int x.num, .int (x.den : Int)].map SV.d) 1 = some (.d (.int (x.den : Int))) := rfl
@[simp] theorem seq_rD (S : Sto) (x : Rat) : seq? S (.d (rD x)) = some [.d (.int x.num), .d (.int (x.den : Int))] := rfl
@[simp] theorem gIx_rD (S : Sto) (x : Rat) (i : Int) : gIx S (.d (rD x)) (.d (.int i)) = (atI [SV.d (.int x.num), .d (.int (x.den : Int))] i).bind fun z => if noOwn z then some z else none := rfl
@[simp] theorem at20 (x y : SV) : atI [x, y] 0 = some x := rfl
@[simp] theorem at21 (x y : SV) : atI [x, y] 1 = some y := rfl
@[simp] theorem at30 (x y z : SV) : atI [x, y, z] 0 = some x := rfl
@[simp] theorem at31 (x y z : SV) : atI [x, y, z] 1 = some y := rfl
@[simp] theorem at32 (x y z : SV) : atI [x, y, z] 2 = some z := rfl
theorem ok_parts {x y : Rat} (hx : Ok x) (hy : Ok y) : ∃ b, b ≤ 20000000 ∧ Bd b x.num ∧ Bd b (x.den : Int) ∧ Bd b y.num ∧ Bd b (y.den : Int) := by
  obtain ⟨a, ha, h1, h2⟩ := hx
  obtain ⟨c, hc, h3, h4⟩ := hy
  exact ⟨max a c, by omega, h1.mono (by omega), h2.mono (by omega), h3.mono (by omega), h4.mono (by omega)⟩
theorem num_ne {x : Rat} (h : x ≠ 0) : x.num ≠ 0 := fun e => h (Rat.num_eq_zero.mp e)
--# common
theorem while_common (S : Sto) : ∀ (n : Nat) (p q : Int), 0 ≤ q → q.toNat ≤ n → ∃ g : Int, g.natAbs = Int.gcd p q ∧
    sWhile (bB (eBin (cB gNe) (eVar 1) (eCon (.int 0)))) (sPar 0 1 (aCons (eVarV 1) (aCons (eBin gMod (eVar 0) (eVar 1)) aNil))) [some (.d (.int p)), some (.d (.int q))] S = some (.nx [some (.d (.int g)), some (.d (.int 0))] S) := by
  intro n
  induction n with
  | zero =>
    intro p q h0 h
    have : q = 0 := by omega
    subst this
    exact ⟨p, by simp, while_stop (S1 := S) (by simp [cB])⟩
  | succ n ih =>
    intro p q h0 h
    by_cases hq : q = 0
    · subst hq
      exact ⟨p, by simp, while_stop (S1 := S) (by simp [cB])⟩
    · have h1 := Int.emod_nonneg p hq
      have h2 := Int.emod_lt_of_pos p (show 0 < q by omega)
      obtain ⟨g, hg, hw⟩ := ih q (p % q) h1 (by omega)
      exact ⟨g, hg.trans (gcd_mod p q), while_go (S1 := S) (by simp [cB, hq]) (by simp [hq, fmod_pos (show 0 < q by omega)]) hw⟩
theorem common_eq (p q : Int) (h : 0 ≤ q) (S : Sto) : G.F_common [.d (.int p), .d (.int q)] S = some (.ok (.d (.int (Int.gcd p q))) S) := by
  obtain ⟨g, hg, hw⟩ := while_common S q.toNat p q h (Nat.le_refl _)
  unfold G.F_common runF rho0 G.f_common
  simp [hw]
  omega
--# fraction
theorem fraction_eq {p q : Int} (h : q ≠ 0) (S : Sto) : G.F_fraction [.d (.int p), .d (.int q)] S = some (.ok (rS (Rat.divInt p q)) S) := by
  unfold G.F_fraction runF rho0 G.f_fraction
  by_cases hn : q < 0
  · have c := common_eq (-p) (-q) (by omega) S
    have g := gcd_pos (p := -p) (q := -q) (by omega)
    have g0 : ((Int.gcd (-p) (-q) : Nat) : Int) ≠ 0 := by omega
    have r := rat_mk (p := -p) (q := -q) (by omega)
    rw [Rat.divInt_neg', Int.neg_neg] at r
    simp only [Int.gcd_neg, Int.neg_gcd] at c g g0 r
    simp [cB, h, hn, c, g0, fdiv_pos g, sizeLine_eq, r]
  · have c := common_eq p q (by omega) S
    have g := gcd_pos (p := p) (q := q) (by omega)
    have g0 : ((Int.gcd p q : Nat) : Int) ≠ 0 := by omega
    have r := rat_mk (p := p) (q := q) (by omega)
    simp [cB, h, hn, c, g0, fdiv_pos g, sizeLine_eq, r]
--# plus
theorem plus_eq {x y : Rat} (hx : Ok x) (hy : Ok y) (S : Sto) : G.F_plus [rS x, rS y] S = some (.ok (rS (x + y)) S) := by
  obtain ⟨b, hb, b1, b2, b3, b4⟩ := ok_parts hx hy
  have m1 := mulOk_bd b1 b4 (by omega)
  have m2 := mulOk_bd b3 b2 (by omega)
  have m3 := mulOk_bd b2 b4 (by omega)
  have f := fraction_eq (p := x.num * y.den + y.num * x.den) (q := (x.den : Int) * y.den) (mul_ne (by have := dpos x; omega) (by have := dpos y; omega)) S
  rw [← add_div] at f
  unfold G.F_plus runF rho0 G.f_plus
  simp [m1, m2, m3, f]
--# minus
theorem minus_eq {x y : Rat} (hx : Ok x) (hy : Ok y) (S : Sto) : G.F_minus [rS x, rS y] S = some (.ok (rS (x - y)) S) := by
  obtain ⟨b, hb, b1, b2, b3, b4⟩ := ok_parts hx hy
  have m1 := mulOk_bd b1 b4 (by omega)
  have m2 := mulOk_bd b3 b2 (by omega)
  have m3 := mulOk_bd b2 b4 (by omega)
  have f := fraction_eq (p := x.num * y.den - y.num * x.den) (q := (x.den : Int) * y.den) (mul_ne (by have := dpos x; omega) (by have := dpos y; omega)) S
  rw [← sub_div] at f
  unfold G.F_minus runF rho0 G.f_minus
  simp [m1, m2, m3, f]
--# times
theorem times_eq {x y : Rat} (hx : Ok x) (hy : Ok y) (S : Sto) : G.F_times [rS x, rS y] S = some (.ok (rS (x * y)) S) := by
  obtain ⟨b, hb, b1, b2, b3, b4⟩ := ok_parts hx hy
  have m1 := mulOk_bd b1 b3 (by omega)
  have m3 := mulOk_bd b2 b4 (by omega)
  have f := fraction_eq (p := x.num * y.num) (q := (x.den : Int) * y.den) (mul_ne (by have := dpos x; omega) (by have := dpos y; omega)) S
  rw [← mul_div] at f
  unfold G.F_times runF rho0 G.f_times
  simp [m1, m3, f]
--# over
theorem over_eq {x y : Rat} (hx : Ok x) (hy : Ok y) (h0 : y ≠ 0) (S : Sto) : G.F_over [rS x, rS y] S = some (.ok (rS (x / y)) S) := by
  obtain ⟨b, hb, b1, b2, b3, b4⟩ := ok_parts hx hy
  have m1 := mulOk_bd b1 b4 (by omega)
  have m3 := mulOk_bd b2 b3 (by omega)
  have f := fraction_eq (p := x.num * y.den) (q := (x.den : Int) * y.num) (mul_ne (by have := dpos x; omega) (num_ne h0)) S
  rw [← div_div] at f
  unfold G.F_over runF rho0 G.f_over
  simp [m1, m3, f]
--# less
theorem less_eq {x y : Rat} (hx : Ok x) (hy : Ok y) (S : Sto) : G.F_less [rS x, rS y] S = some (.ok (.d (.bool (decide (x < y)))) S) := by
  obtain ⟨b, hb, b1, b2, b3, b4⟩ := ok_parts hx hy
  have m1 := mulOk_bd b1 b4 (by omega)
  have m2 := mulOk_bd b3 b2 (by omega)
  have e : decide (x < y) = decide (x.num * y.den < y.num * x.den) := by
    rw [decide_eq_decide]
    exact Rat.lt_iff x y
  unfold G.F_less runF rho0 G.f_less
  simp [m1, m2, e, cB]
--# lgcd
theorem while_lgcd {b : Nat} (hb : b ≤ 49000000) (S : Sto) : ∀ (n : Nat) (p q : Int), 0 ≤ q → Bd b p → Bd b q → q.toNat ≤ n → ∃ g : Int, g.natAbs = Int.gcd p q ∧
    sWhile (bB (eBin (cB gNe) (eVar 1) (eCon (.int 0)))) (sPar 0 1 (aCons (eVarV 1) (aCons (eBin gSub (eVar 0) (eBin gMulT (eBin gFdivS (eVar 0) (eVar 1)) (eVar 1))) aNil))) [some (.d (.int p)), some (.d (.int q))] S = some (.nx [some (.d (.int g)), some (.d (.int 0))] S) := by
  intro n
  induction n with
  | zero =>
    intro p q h0 sp sq h
    have : q = 0 := by omega
    subst this
    exact ⟨p, by simp, while_stop (S1 := S) (by simp [cB])⟩
  | succ n ih =>
    intro p q h0 sp sq h
    by_cases hq : q = 0
    · subst hq
      exact ⟨p, by simp, while_stop (S1 := S) (by simp [cB])⟩
    · have qp : 0 < q := by omega
      have h1 := Int.emod_nonneg p hq
      have h2 := Int.emod_lt_of_pos p qp
      obtain ⟨g, hg, hw⟩ := ih q (p % q) h1 sq (by unfold Bd at *; omega) (by omega)
      have m1 : mulOk (p / q) q = true := mulOk_bd sp.div sq (by omega)
      have e1 := ediv_mul_sub p q
      exact ⟨g, hg.trans (gcd_mod p q), while_go (S1 := S) (by simp [cB, hq]) (by simp [hq, fdiv_pos qp, m1, e1]) hw⟩
theorem lgcd_eq {b : Nat} (p q : Int) (h : 0 ≤ q) (sp : Bd b p) (sq : Bd b q) (hb : b ≤ 49000000) (S : Sto) : G.F__law_gcd [.d (.int p), .d (.int q)] S = some (.ok (.d (.int (Int.gcd p q))) S) := by
  obtain ⟨g, hg, hw⟩ := while_lgcd hb S q.toNat p q h sp sq (Nat.le_refl _)
  unfold G.F__law_gcd runF rho0 G.f__law_gcd
  simp [hw]
  omega
--# lawf
theorem lawf_eq {p q : Int} {b : Nat} (h : q ≠ 0) (sp : Bd b p) (sq : Bd b q) (hb : b ≤ 49000000) (S : Sto) : G.F__law_f [.d (.int p), .d (.int q)] S = some (.ok (rS (Rat.divInt p q)) S) := by
  unfold G.F__law_f runF rho0 G.f__law_f
  by_cases hn : q < 0
  · have c := lgcd_eq (-p) (-q) (by omega) sp.neg sq.neg hb S
    have g := gcd_pos (p := -p) (q := -q) (by omega)
    have g0 : ((Int.gcd (-p) (-q) : Nat) : Int) ≠ 0 := by omega
    have r := rat_mk (p := -p) (q := -q) (by omega)
    rw [Rat.divInt_neg', Int.neg_neg] at r
    simp only [Int.gcd_neg, Int.neg_gcd] at c g g0 r
    simp [cB, h, hn, c, g0, fdiv_pos g, sizeLine_eq, r]
  · have c := lgcd_eq p q (by omega) sp sq hb S
    have g := gcd_pos (p := p) (q := q) (by omega)
    have g0 : ((Int.gcd p q : Nat) : Int) ≠ 0 := by omega
    have r := rat_mk (p := p) (q := q) (by omega)
    simp [cB, h, hn, c, g0, fdiv_pos g, sizeLine_eq, r]
--# ladd
theorem ladd_eq {x y : Rat} (hx : Ok x) (hy : Ok y) (S : Sto) : G.F__law_add [rS x, rS y] S = some (.ok (rS (x + y)) S) := by
  obtain ⟨b, hb, b1, b2, b3, b4⟩ := ok_parts hx hy
  have m1 := mulOk_bd b1 b4 (by omega)
  have m2 := mulOk_bd b3 b2 (by omega)
  have m3 := mulOk_bd b2 b4 (by omega)
  have f := lawf_eq (p := x.num * y.den + y.num * x.den) (q := (x.den : Int) * y.den) (b := b + b + 1) (mul_ne (by have := dpos x; omega) (by have := dpos y; omega)) ((b1.mul b4).add (b3.mul b2)) ((b2.mul b4).mono (by omega)) (by omega) S
  rw [← add_div] at f
  unfold G.F__law_add runF rho0 G.f__law_add
  simp [m1, m2, m3, f]
--# lsub
theorem lsub_eq {x y : Rat} (hx : Ok x) (hy : Ok y) (S : Sto) : G.F__law_sub [rS x, rS y] S = some (.ok (rS (x - y)) S) := by
  obtain ⟨b, hb, b1, b2, b3, b4⟩ := ok_parts hx hy
  have m1 := mulOk_bd b1 b4 (by omega)
  have m2 := mulOk_bd b3 b2 (by omega)
  have m3 := mulOk_bd b2 b4 (by omega)
  have f := lawf_eq (p := x.num * y.den - y.num * x.den) (q := (x.den : Int) * y.den) (b := b + b + 1) (mul_ne (by have := dpos x; omega) (by have := dpos y; omega)) ((b1.mul b4).sub (b3.mul b2)) ((b2.mul b4).mono (by omega)) (by omega) S
  rw [← sub_div] at f
  unfold G.F__law_sub runF rho0 G.f__law_sub
  simp [m1, m2, m3, f]
--# lmul
theorem lmul_eq {x y : Rat} (hx : Ok x) (hy : Ok y) (S : Sto) : G.F__law_mul [rS x, rS y] S = some (.ok (rS (x * y)) S) := by
  obtain ⟨b, hb, b1, b2, b3, b4⟩ := ok_parts hx hy
  have m1 := mulOk_bd b1 b3 (by omega)
  have m3 := mulOk_bd b2 b4 (by omega)
  have f := lawf_eq (p := x.num * y.num) (q := (x.den : Int) * y.den) (b := b + b) (mul_ne (by have := dpos x; omega) (by have := dpos y; omega)) (b1.mul b3) (b2.mul b4) (by omega) S
  rw [← mul_div] at f
  unfold G.F__law_mul runF rho0 G.f__law_mul
  simp [m1, m3, f]
--# ldiv
theorem ldiv_eq {x y : Rat} (hx : Ok x) (hy : Ok y) (h0 : y ≠ 0) (S : Sto) : G.F__law_div [rS x, rS y] S = some (.ok (rS (x / y)) S) := by
  obtain ⟨b, hb, b1, b2, b3, b4⟩ := ok_parts hx hy
  have m1 := mulOk_bd b1 b4 (by omega)
  have m3 := mulOk_bd b2 b3 (by omega)
  have f := lawf_eq (p := x.num * y.den) (q := (x.den : Int) * y.num) (b := b + b) (mul_ne (by have := dpos x; omega) (num_ne h0)) (b1.mul b4) (b2.mul b3) (by omega) S
  rw [← div_div] at f
  unfold G.F__law_div runF rho0 G.f__law_div
  simp [m1, m3, f]
--# end
end M

end
section
set_option Elab.async false
set_option linter.all false
set_option maxRecDepth 100000
/-! C2: data, fractions and webs that are looked at. -/
namespace M
open PySem PySem.Spec PyProof.Rows L2 VL
/-! data -/
def atomB : PyData → Bool
  | .none => true
  | .bool _ => true
  | .int _ => true
  | .str s => PyData.strOk s
  | _ => false
def nd : Nat → PyData → Bool
  | k + 1, .tuple ds => ds.all (nd k)
  | k + 1, .list ds => ds.all (nd k)
  | _, d => atomB d
theorem nd_atom {k : Nat} {d : PyData} (h : atomB d = true) : nd k d = true := by
  cases d with
  | tuple _ => cases h
  | list _ => cases h
  | dict _ => cases h
  | _ => cases k <;> exact h
@[simp] theorem nd_int (k : Nat) (i : Int) : nd k (.int i) = true := nd_atom rfl
@[simp] theorem nd_bool (k : Nat) (i : Bool) : nd k (.bool i) = true := nd_atom rfl
@[simp] theorem nd_none (k : Nat) : nd k .none = true := nd_atom rfl
theorem nd_mono : ∀ (k k' : Nat), k ≤ k' → ∀ d, nd k d = true → nd k' d = true
  | 0, k', _, d, h => by
    cases d with
    | tuple _ => cases h
    | list _ => cases h
    | dict _ => cases h
    | _ => exact nd_atom h
  | k + 1, 0, hk, d, h => by omega
  | k + 1, k' + 1, hk, d, h => by
    have ih := nd_mono k k' (by omega)
    cases d with
    | tuple ds =>
      simp only [nd, List.all_eq_true] at h ⊢
      exact fun x m => ih x (h x m)
    | list ds =>
      simp only [nd, List.all_eq_true] at h ⊢
      exact fun x m => ih x (h x m)
    | _ => exact h
mutual
theorem nd_shape : ∀ (k : Nat) (d : PyData), nd k d = true → d.canLay0 = true ∧ d.depth ≤ k
  | k, .none, _ => ⟨by simp [PyData.canLay0], by simp [PyData.depth]⟩
  | k, .bool _, _ => ⟨by simp [PyData.canLay0], by simp [PyData.depth]⟩
  | k, .int _, _ => ⟨by simp [PyData.canLay0], by simp [PyData.depth]⟩
  | k, .str s, h => ⟨by
    have : PyData.strOk s = true := by cases k <;> exact h
    simpa [PyData.canLay0] using this, by simp [PyData.depth]⟩
  | 0, .tuple _, h => by cases h
  | 0, .list _, h => by cases h
  | k, .dict _, h => by cases k <;> cases h
  | k + 1, .tuple ds, h => by
    simp only [nd] at h
    have := nd_shapes k ds h
    refine ⟨by simp only [PyData.canLay0]; exact this.1, by simp only [PyData.depth]; omega⟩
  | k + 1, .list ds, h => by
    simp only [nd] at h
    have := nd_shapes k ds h
    refine ⟨by simp only [PyData.canLay0]; exact this.1, by simp only [PyData.depth]; omega⟩
theorem nd_shapes : ∀ (k : Nat) (ds : List PyData), ds.all (nd k) = true → PyData.canLayAll0 ds = true ∧ PyData.depthAll ds ≤ k
  | k, [], _ => ⟨by simp [PyData.canLayAll0], by simp [PyData.depthAll]⟩
  | k, d :: ds, h => by
    rw [List.all_cons, Bool.and_eq_true] at h
    have h1 := nd_shape k d h.1
    have h2 := nd_shapes k ds h.2
    refine ⟨by simp [PyData.canLayAll0, h1.1, h2.1], by simp only [PyData.depthAll]; omega⟩
end
theorem nd_shaped {k : Nat} {d : PyData} (h : nd k d = true) (hk : k ≤ 64) : SeqAt.shaped d = true := by
  obtain ⟨h1, h2⟩ := nd_shape k d h
  show (d.canLay0 && decide (d.depth ≤ 64)) = true
  rw [h1, decide_eq_true (by omega)]
  rfl
theorem nd_mk {k : Nat} {ds : List PyData} (h : ∀ x ∈ ds, nd k x = true) : nd (k + 1) (.tuple ds) = true := by
  simp only [nd, List.all_eq_true]
  exact h
theorem nd_tup {k : Nat} {ds : List PyData} (h : nd (k + 1) (.tuple ds) = true) : ∀ x ∈ ds, nd k x = true := by
  simp only [nd, List.all_eq_true] at h
  exact h
theorem nd_tup' {k : Nat} {ds : List PyData} (h : nd k (.tuple ds) = true) : ∃ j, k = j + 1 ∧ ∀ x ∈ ds, nd j x = true := by
  cases k with
  | zero => cases h
  | succ j => exact ⟨j, rfl, nd_tup h⟩
@[simp] theorem isB_NoneType_int : isB "NoneType" "int" = false := by decide
@[simp] theorem isB_NoneType_bool : isB "NoneType" "bool" = false := by decide
@[simp] theorem isB_NoneType_str : isB "NoneType" "str" = false := by decide
@[simp] theorem isB_NoneType_tuple : isB "NoneType" "tuple" = false := by decide
@[simp] theorem isB_NoneType_list : isB "NoneType" "list" = false := by decide
@[simp] theorem isB_bool_int : isB "bool" "int" = true := by decide
@[simp] theorem isB_bool_bool : isB "bool" "bool" = true := by decide
@[simp] theorem isB_bool_str : isB "bool" "str" = false := by decide
@[simp] theorem isB_bool_tuple : isB "bool" "tuple" = false := by decide
@[simp] theorem isB_bool_list : isB "bool" "list" = false := by decide
@[simp] theorem isB_int_int : isB "int" "int" = true := by decide
@[simp] theorem isB_int_bool : isB "int" "bool" = false := by decide
@[simp] theorem isB_int_str : isB "int" "str" = false := by decide
@[simp] theorem isB_int_tuple : isB "int" "tuple" = false := by decide
@[simp] theorem isB_int_list : isB "int" "list" = false := by decide
@[simp] theorem isB_str_int : isB "str" "int" = false := by decide
@[simp] theorem isB_str_bool : isB "str" "bool" = false := by decide
@[simp] theorem isB_str_str : isB "str" "str" = true := by decide
@[simp] theorem isB_str_tuple : isB "str" "tuple" = false := by decide
@[simp] theorem isB_str_list : isB "str" "list" = false := by decide
@[simp] theorem isB_list_int : isB "list" "int" = false := by decide
@[simp] theorem isB_list_bool : isB "list" "bool" = false := by decide
@[simp] theorem isB_list_str : isB "list" "str" = false := by decide
@[simp] theorem isB_list_tuple : isB "list" "tuple" = false := by decide
@[simp] theorem isB_list_list : isB "list" "list" = true := by decide
@[simp] theorem isB_tuple_int : isB "tuple" "int" = false := by decide
@[simp] theorem isB_tuple_bool : isB "tuple" "bool" = false := by decide
@[simp] theorem isB_tuple_str : isB "tuple" "str" = false := by decide
@[simp] theorem isB_tuple_tuple : isB "tuple" "tuple" = true := by decide
@[simp] theorem isB_tuple_list : isB "tuple" "list" = false := by decide
@[simp] theorem a_gTp (n : Nat) (u : List SV → Rho → Option Rho) (ds : List PyData) (ρ : Rho) : gTp n u (.d (.tuple ds)) ρ = if ds.length = n then u (ds.map .d) ρ else none := rfl
@[simp] theorem a_gTl (n : Nat) (u : List SV → Rho → Option Rho) (ds : List PyData) (ρ : Rho) : gTl n u (.d (.list ds)) ρ = if ds.length = n then u (ds.map .d) ρ else none := rfl
@[simp] theorem a_gsCons (t : TgF) (u : List SV → Rho → Option Rho) (x : SV) (xs : List SV) (ρ : Rho) : gsCons t u (x :: xs) ρ = (t x ρ).bind (u xs) := rfl
@[simp] theorem a_gsNil (ρ : Rho) : gsNil [] ρ = some ρ := rfl
@[simp] theorem a_gNm (i : Nat) (d : PyData) (ρ : Rho) : gNm i (.d d) ρ = some (ρ.set i (some (.d d))) := rfl
@[simp] theorem a_gIxT (S : Sto) (ds : List PyData) (i : Int) : gIx S (.d (.tuple ds)) (.d (.int i)) = (atI (ds.map SV.d) i).bind fun z => if noOwn z then some z else none := rfl
@[simp] theorem a_gIxL (S : Sto) (ds : List PyData) (i : Int) : gIx S (.d (.list ds)) (.d (.int i)) = (atI (ds.map SV.d) i).bind fun z => if noOwn z then some z else none := rfl
theorem absn (p : Int) : (if p < 0 then -p else p) = (p.natAbs : Int) := by split <;> omega
theorem gpow20 (S : Sto) : gPow S (.d (.int 10)) (.d (.int 20)) = some (.d (.int 100000000000000000000)) := by
  have : (10 : Int) ^ 20 = 100000000000000000000 := by decide
  unfold gPow
  simp
def isI : PyData → Bool
  | .int _ => true
  | _ => false
/-- a fraction that may be handed in -/
def isFr : PyData → Bool
  | .tuple [.int p, .int q] => decide (1 ≤ q) && decide ((p.natAbs : Int) < 100000000000000000000) && decide (q < 100000000000000000000) && decide (Int.gcd p q = 1)
  | _ => false
theorem len3 {r : List PyData} : ¬ ((r.length : Nat) : Int) + 1 + 1 + 1 = 2 := by omega
theorem beq_one (g : Nat) : (((g : Nat) : Int) == 1) = decide (g = 1) := by
  by_cases h : g = 1
  · simp [h]
  · rw [decide_eq_false h]; exact beq_eq_false_iff_ne.mpr (by omega)
theorem gcd1_nat {p q : Int} : (((Int.gcd p q : Nat) : Int) = 1) ↔ Int.gcd p q = 1 := by omega
def top0 : PyData → Bool
  | .tuple (.int p :: _) => decide (0 < p)
  | _ => false
/-- a wire between two of n joints -/
def isWr (n : Int) : PyData → Bool
  | .tuple [.int a, .int b, f] => decide (0 ≤ a) && decide (a < b) && decide (b < n) && isFr f && top0 f
  | _ => false
theorem len4 {r : List PyData} : ¬ ((r.length : Nat) : Int) + 1 + 1 + 1 + 1 = 3 := by omega
theorem isFr_form {f : PyData} (h : isFr f = true) : ∃ p q, f = .tuple [.int p, .int q] := by
  unfold isFr at h
  split at h
  · exact ⟨_, _, rfl⟩
  · cases h
theorem seq_nx {s t : Rho → Sto → Option VL.Fl} {ρ ρ2 : Rho} {S S2 : Sto} {r : Option VL.Fl} (h : s ρ S = some (.nx ρ2 S2)) (q : t ρ2 S2 = r) : sSeq s t ρ S = r := by
  rw [a_sSeq, h]
  exact q
theorem seq_rt {s t : Rho → Sto → Option VL.Fl} {ρ : Rho} {S S2 : Sto} {x : SV} (h : s ρ S = some (.rt x S2)) : sSeq s t ρ S = some (.rt x S2) := by
  rw [a_sSeq, h]
theorem compL_mapF {α : Type} {tf : TgF} {elt : Rho → Mo SV} {ρ : Rho} {S : Sto} (f g : α → SV) : ∀ (l : List α) (acc : List SV), (∀ a ∈ l, ∃ ρ', tf (f a) ρ = some ρ' ∧ elt ρ' S = some (.ok (g a) S)) → acc.length + l.length ≤ sizeLine →
    compL tf bYes elt ρ (l.map f) acc S = some (.ok (acc ++ l.map g) S)
  | [], acc, _, _ => by simp [compL]
  | a :: l, acc, h, hl => by
    obtain ⟨ρ', ht, h2⟩ := h a List.mem_cons_self
    rw [List.length_cons] at hl
    have ih := compL_mapF f g l (acc ++ [g a]) (fun z m => h z (List.mem_cons_of_mem _ m)) (by simp; omega)
    have h1 : bYes ρ' S = some (.ok true S) := rfl
    rw [List.map_cons]
    unfold compL
    simp only [ht, h1, h2]
    rw [if_pos (by omega), ih]
    simp
theorem eLc_mapF {α : Type} {it : Rho → Mo (List SV)} {tf : TgF} {elt : Rho → Mo SV} {vs : List Nat} {ρ : Rho} {S : Sto} {l : List α} (f g : α → SV) (hi : it ρ S = some (.ok (l.map f) S)) (h : ∀ a ∈ l, ∃ ρ', tf (f a) (wipeR ρ vs) = some ρ' ∧ elt ρ' S = some (.ok (g a) S)) (hl : l.length ≤ sizeLine) :
    eLc it tf bYes elt vs ρ S = some (.ok (.own (l.map g)) S) := by
  unfold eLc
  rw [hi]
  have := compL_mapF (tf := tf) (elt := elt) (ρ := wipeR ρ vs) (S := S) f g l [] h (by simpa using hl)
  simp only [bindM_ok, this]
  simp

/-! bools -/
theorem bools_map : ∀ bs : List Bool, VL.bools (bs.map fun b => SV.d (.bool b)) = some bs
  | [] => rfl
  | b :: bs => by simp [VL.bools, bools_map bs]
theorem allD_bools : ∀ bs : List Bool, VL.allD (bs.map fun b => SV.d (.bool b)) = some (bs.map PyData.bool)
  | [] => rfl
  | b :: bs => by simp [VL.allD, allD_bools bs]
theorem can_bools : ∀ bs : List Bool, PyData.canLayAll0 (bs.map PyData.bool) = true ∧ PyData.depthAll (bs.map PyData.bool) = 0
  | [] => by simp [PyData.canLayAll0, PyData.depthAll]
  | b :: bs => by
    obtain ⟨h1, h2⟩ := can_bools bs
    simp [PyData.canLayAll0, PyData.depthAll, PyData.canLay0, PyData.depth, h1, h2]
theorem gAll_b (S : Sto) (bs : List Bool) : gAll S [.own (bs.map fun b => SV.d (.bool b))] = some (.d (.bool (bs.all id))) := by
  simp [gAll, lst?, bools_map]
theorem notin_b (S : Sto) (bs : List Bool) : gNotIn S (.d (.bool false)) (.own (bs.map fun b => SV.d (.bool b))) = some (bs.all id) := by
  obtain ⟨h1, h2⟩ := can_bools bs
  have s1 : SeqAt.shaped (.list (bs.map PyData.bool)) = true := by
    show (PyData.canLay0 (.list (bs.map PyData.bool)) && decide (PyData.depth (.list (bs.map PyData.bool)) ≤ 64)) = true
    simp [PyData.canLay0, PyData.depth, h1, h2]
  have s2 : SeqAt.shaped (.bool false) = true := by decide +kernel
  unfold gNotIn
  simp only [dat?, allD_bools, Option.map_some, Option.bind_some, s1, s2, Bool.and_self, if_true, List.any_map]
  congr 1
  induction bs with
  | nil => rfl
  | cons b bs ih =>
    obtain ⟨h1, h2⟩ := can_bools bs
    have s1 : SeqAt.shaped (.list (bs.map PyData.bool)) = true := by
      show (PyData.canLay0 (.list (bs.map PyData.bool)) && decide (PyData.depth (.list (bs.map PyData.bool)) ≤ 64)) = true
      simp [PyData.canLay0, PyData.depth, h1, h2]
    have ih := ih h1 h2 s1
    rw [List.any_cons, Bool.not_or, ih, List.all_cons]
    cases b <;> simp [PyData.eqv]
/-! the order of wires -/
def leW (x y : PyData) : Bool := !PySem.W.dataLt y x
def srt (ws : List PyData) : Bool := (ws.zip ws.tail).all fun p => leW p.1 p.2
theorem isWr_form {n : Int} {d : PyData} (h : isWr n d = true) : ∃ a b p q, d = .tuple [.int a, .int b, .tuple [.int p, .int q]] ∧ 0 ≤ a ∧ a < b ∧ b < n := by
  unfold isWr at h
  split at h
  · rename_i a b f
    simp only [Bool.and_eq_true, decide_eq_true_eq] at h
    obtain ⟨p, q, rfl⟩ := isFr_form h.1.2
    exact ⟨a, b, p, q, rfl, h.1.1.1.1, h.1.1.1.2, h.1.1.2⟩
  · cases h
theorem leW_eq {k : Nat} {n : Int} {x y : PyData} (hx : nd k x = true) (hk : k ≤ 64) (h1 : isWr n x = true) (h2 : isWr n y = true) (S : Sto) : gLeD S (.d x) (.d y) = some (leW x y) := by
  have sh := nd_shaped hx hk
  obtain ⟨a, b, p, q, rfl, _⟩ := isWr_form h1
  obtain ⟨a', b', p', q', rfl, _⟩ := isWr_form h2
  unfold gLeD leW
  simp only
  rw [sh]
  have : PySem.W.alike (.tuple [.int a, .int b, .tuple [.int p, .int q]]) (.tuple [.int a', .int b', .tuple [.int p', .int q']]) = true := by simp [PySem.W.alike, PySem.W.alikeAll]
  rw [this]
  rfl
/-- a web -/
def isWb : PyData → Bool
  | .tuple [.str w, .int n, .tuple ws] => decide (w = "web") && decide (1 ≤ n) && decide (n ≤ 24) && decide (ws.length ≤ 60) && ws.all (isWr n) && srt ws
  | _ => false

theorem sIx_pos (n dd : Nat) {i : Int} (h : 0 ≤ i) : HT.sIx n dd (some i) = min i.toNat n := by
  show (if i < 0 then (i + (n : Int)).toNat else min i.toNat n) = min i.toNat n
  rw [if_neg (by omega)]
theorem cut_from {α : Type} (xs : List α) {i : Int} (h : 0 ≤ i) : cutL xs (some i) none = xs.drop i.toNat := by
  unfold cutL
  rw [sIx_pos _ _ h]
  show (xs.drop (min i.toNat xs.length)).take (xs.length - min i.toNat xs.length) = _
  rw [List.take_of_length_le (by rw [List.length_drop]; omega)]
  rcases Nat.le_total i.toNat xs.length with z | z
  · rw [Nat.min_eq_left z]
  · rw [Nat.min_eq_right z, List.drop_of_length_le (Nat.le_refl _), List.drop_of_length_le z]
theorem cut_to {α : Type} (xs : List α) {i : Int} (h : 0 ≤ i) : cutL xs none (some i) = xs.take i.toNat := by
  unfold cutL
  rw [sIx_pos _ _ h]
  show (xs.drop 0).take (min i.toNat xs.length - 0) = _
  rw [List.drop_zero, Nat.sub_zero]
  rcases Nat.le_total i.toNat xs.length with z | z
  · rw [Nat.min_eq_left z]
  · rw [Nat.min_eq_right z, List.take_of_length_le (Nat.le_refl _), List.take_of_length_le z]
theorem atI_nat {α : Type} (xs : List α) {j : Nat} (h : j < xs.length) : atI xs (j : Int) = some xs[j] := by
  have e : ixN xs.length (j : Int) = some j := by
    unfold ixN
    simp
    omega
  unfold atI
  rw [e]
  simp [h]
@[simp] theorem a_gSlT (S : Sto) (ds : List PyData) (lo hi : Option Int) : gSl S (.d (.tuple ds)) lo hi = some (.d (.tuple (cutL ds lo hi))) := rfl
section
variable {k : Nat} {n : Int} {d w m t : PyData} {ws : List PyData} {S : Sto}
def isWeb : PyData → Bool
  | .str s => decide (s = "web")
  | _ => false
theorem ne_web (h : nd k w = true) (hk : k ≤ 64) (S : Sto) : gNe S (.d w) (.d (.str "web")) = some (!isWeb w) := by
  have s1 := nd_shaped h hk
  have s2 : SeqAt.shaped (.str "web") = true := by decide +kernel
  unfold gNe
  simp only [dat_d, Option.bind_some, s1, s2, Bool.and_self, if_true]
  congr 2
  cases w with
  | dict _ => cases k <;> cases h
  | str s =>
    simp only [PyData.eqv, isWeb]
    by_cases e : s = "web"
    · simp [e]
    · rw [decide_eq_false e]; exact beq_eq_false_iff_ne.mpr e
  | _ => simp [PyData.eqv, isWeb]
theorem isWb_no (h : ¬ ∃ n ws, d = .tuple [.str "web", .int n, .tuple ws]) : isWb d = false := by
  unfold isWb
  split
  · rename_i w n ws
    by_cases e : w = "web"
    · subst e
      exact absurd ⟨n, ws, rfl⟩ h
    · rw [decide_eq_false e]
      rfl
  · rfl
end
theorem run_rt {n : Nat} {f : Rho → Sto → Option VL.Fl} {xs : List SV} {S S' : Sto} {x : SV} (q : f (rho0 n xs) S = some (.rt x S')) : runF n f xs S = some (.ok x S') := by
  unfold runF; rw [q]
theorem run_nx {n : Nat} {f : Rho → Sto → Option VL.Fl} {xs : List SV} {S S' : Sto} {ρ : Rho} (q : f (rho0 n xs) S = some (.nx ρ S')) : runF n f xs S = some (.ok (.d .none) S') := by
  unfold runF; rw [q]
theorem run_ex {n : Nat} {f : Rho → Sto → Option VL.Fl} {xs : List SV} {S S' : Sto} {ρ : Rho} {c : Str} {fs : List (Str × SV)} (q : f (rho0 n xs) S = some (.exc c fs ρ S')) : runF n f xs S = some (.exc c fs S') := by
  unfold runF; rw [q]
@[simp] theorem getP_nil_o (xs : List SV) : getP [] (.own xs) = some xs := rfl
@[simp] theorem putP_nil (ys xs : List SV) : putP [] ys (.own xs) = .own ys := rfl
--# end
end M

end
section
set_option Elab.async false
set_option linter.all false
set_option maxRecDepth 100000
/-! C3: webs as lists of wires (a, b, c). -/
namespace M
open PySem PySem.Spec PyProof.Rows L2 VL
abbrev Wi := Nat × Nat × Rat
def wiD (w : Wi) : PyData := .tuple [.int (w.1 : Int), .int (w.2.1 : Int), rD w.2.2]
def wbD (n : Nat) (ws : List Wi) : PyData := .tuple [.str "web", .int (n : Int), .tuple (ws.map wiD)]
def FrOk (x : Rat) : Prop := x.num.natAbs < 100000000000000000000 ∧ x.den < 100000000000000000000
structure WiOk (n : Nat) (w : Wi) : Prop where
  lt : w.1 < w.2.1
  le : w.2.1 < n
  pos : 0 < w.2.2
  fr : FrOk w.2.2
structure WbOk (n : Nat) (ws : List Wi) : Prop where
  n1 : 1 ≤ n
  n2 : n ≤ 24
  len : ws.length ≤ 60
  all : ∀ w ∈ ws, WiOk n w
  srt : srt (ws.map wiD) = true
theorem npos {x : Rat} (h : 0 < x) : 0 < x.num := by
  have := (Rat.lt_iff 0 x).mp h
  simpa using this
theorem gcd_rat (x : Rat) : Int.gcd x.num x.den = 1 := by
  have := x.reduced
  unfold Nat.Coprime at this
  simpa [Int.gcd] using this
theorem isFr_rD {x : Rat} (h : FrOk x) : isFr (rD x) = true := by
  have h1 := dpos x
  have h2 := gcd_rat x
  obtain ⟨h3, h4⟩ := h
  have h5 : ((x.num.natAbs : Nat) : Int) < 100000000000000000000 := by omega
  have h6 : (x.den : Int) < 100000000000000000000 := by omega
  have h7 : (1 : Int) ≤ x.den := by omega
  unfold isFr rD
  simp [h2, h5, h6, h7]
theorem top0_rD {x : Rat} (h : 0 < x) : top0 (rD x) = true := by
  have := npos h
  simp [top0, rD, this]
theorem isWr_wiD {n : Nat} {w : Wi} (h : WiOk n w) : isWr (n : Int) (wiD w) = true := by
  have h1 := h.lt
  have h2 := h.le
  have h3 := isFr_rD h.fr
  have h4 := top0_rD h.pos
  unfold isWr wiD
  simp only [h3, h4, Bool.and_true, Bool.and_eq_true, decide_eq_true_eq]
  omega
theorem isWr_no {n : Nat} {w : Wi} (h : ¬ (w.1 < w.2.1 ∧ w.2.1 < n ∧ 0 < w.2.2)) : isWr (n : Int) (wiD w) = false := by
  cases e : isWr (n : Int) (wiD w) with
  | false => rfl
  | true =>
    unfold isWr wiD at e
    simp only [Bool.and_eq_true, decide_eq_true_eq] at e
    refine absurd ⟨by omega, by omega, ?_⟩ h
    have := e.2
    simp only [top0, rD, decide_eq_true_eq] at this
    exact (Rat.lt_iff 0 w.2.2).mpr (by simpa using this)
@[simp] theorem nd_rD (k : Nat) (x : Rat) : nd (k + 1) (rD x) = true := by simp [nd, rD]
@[simp] theorem nd_wiD (k : Nat) (w : Wi) : nd (k + 2) (wiD w) = true := by simp [nd, wiD, atomB]
theorem nd_str {k : Nat} {s : Str} (h : PyData.strOk s = true) : nd k (.str s) = true := nd_atom h
theorem ok_web : PyData.strOk "web" = true := by decide +kernel
@[simp] theorem nd_wbD (k n : Nat) (ws : List Wi) : nd (k + 4) (wbD n ws) = true := by
  have h : atomB (.str "web") = true := ok_web
  simp [nd, wbD, h]
  rfl
theorem sh_rD (x : Rat) : SeqAt.shaped (rD x) = true := nd_shaped (k := 1) (nd_rD 0 x) (by omega)
theorem sh_wiD (w : Wi) : SeqAt.shaped (wiD w) = true := nd_shaped (k := 2) (nd_wiD 0 w) (by omega)
theorem sh_wbD (n : Nat) (ws : List Wi) : SeqAt.shaped (wbD n ws) = true := nd_shaped (k := 4) (nd_wbD 0 n ws) (by omega)
theorem isWb_wbD {n : Nat} {ws : List Wi} (h : WbOk n ws) : isWb (wbD n ws) = true := by
  have h1 := h.n1
  have h2 := h.n2
  have h3 := h.len
  have h4 : (ws.map wiD).all (isWr (n : Int)) = true := by
    rw [List.all_eq_true]
    intro d m
    obtain ⟨w, mw, rfl⟩ := List.mem_map.mp m
    exact isWr_wiD (h.all w mw)
  unfold isWb wbD
  simp only [h.srt, h4, List.length_map, Bool.and_true, Bool.and_eq_true, decide_eq_true_eq]
  exact ⟨⟨⟨trivial, by omega⟩, by omega⟩, h3⟩
/-! sorting of wires -/
theorem leW_le (x y : PyData) : PySem.W.dataLe false id x y = leW x y := rfl
theorem leW_total : PySem.W.TotalLe fun x y : PyData => leW x y := PySem.W.sortLe_total (PyProof.Rows.listOrd PyProof.Rows.itemOrd) false (fun b : PyData => PySem.W.keyToks (id b))
def sortW (ws : List Wi) : List Wi := ws.mergeSort fun x y => leW (wiD x) (wiD y)
theorem sortW_perm (ws : List Wi) : (sortW ws).Perm ws := List.mergeSort_perm ws _
theorem sortW_D (ws : List Wi) : sortD (ws.map wiD) = (sortW ws).map wiD := (PySem.W.sort_maps wiD (fun _ _ _ _ => rfl)).symm
theorem srt_pw : ∀ {ws : List PyData}, ws.Pairwise (fun a b => leW a b = true) → srt ws = true
  | [], _ => rfl
  | [_], _ => rfl
  | x :: y :: r, h => by
    rw [List.pairwise_cons] at h
    have ih := srt_pw (ws := y :: r) h.2
    unfold srt at ih ⊢
    simp only [List.tail_cons, List.zip_cons_cons, List.all_cons] at ih ⊢
    rw [h.1 y List.mem_cons_self]
    exact ih
theorem srt_sortW (ws : List Wi) : srt ((sortW ws).map wiD) = true := by
  rw [← sortW_D]
  exact srt_pw (PySem.W.sort_pairwise leW_total (ws.map wiD))
theorem allD_map' {α : Type} (f : α → PyData) : ∀ l : List α, allD (l.map fun x => SV.d (f x)) = some (l.map f)
  | [] => rfl
  | x :: l => by simp [allD, allD_map' f l]
theorem alike_wi (x y : Wi) : PySem.W.alike (wiD x) (wiD y) = true := by simp [wiD, rD, PySem.W.alike, PySem.W.alikeAll]
theorem sortOk_wi {ws : List Wi} (h : ws.length ≤ 1000) : sortOk (ws.map wiD) = true := by
  unfold sortOk
  have h1 : ((ws.map wiD).all fun d => (ws.map wiD).all fun e => PySem.W.alike d e) = true := by
    rw [List.all_eq_true]
    intro d m
    rw [List.all_eq_true]
    intro e m2
    obtain ⟨x, _, rfl⟩ := List.mem_map.mp m
    obtain ⟨y, _, rfl⟩ := List.mem_map.mp m2
    exact alike_wi x y
  have h2 : ((ws.map wiD).all fun d => SeqAt.shaped d) = true := by
    simp only [List.all_map, List.all_eq_true]
    exact fun x _ => sh_wiD x
  have h3 : (ws.map wiD).all isTup1 = true := by
    simp only [List.all_map, List.all_eq_true]
    exact fun x _ => rfl
  rw [h1, h2, h3, List.length_map, decide_eq_true (show ws.length ≤ sizeLine by rw [sizeLine_eq]; omega)]
  rfl
theorem gSorted_wi (S : Sto) {ws : List Wi} (h : ws.length ≤ 1000) : gSorted S [.own (ws.map fun w => SV.d (wiD w))] = some (.own ((sortW ws).map fun w => SV.d (wiD w))) := by
  have e : allD (ws.map fun w => SV.d (wiD w)) = some (ws.map wiD) := allD_map' wiD ws
  simp only [gSorted, lst?, Option.bind_some, e, sortOk_wi h, if_true, sortW_D, List.map_map]
  rfl
theorem gTuple_o (S : Sto) {α : Type} (f : α → PyData) (l : List α) : gTuple S [.own (l.map fun x => SV.d (f x))] = some (.d (.tuple (l.map f))) := by
  simp only [gTuple, lst?, Option.bind_some, allD_map', Option.map_some]
theorem wb_sorted {n : Nat} {ws : List Wi} (n1 : 1 ≤ n) (n2 : n ≤ 24) (l : ws.length ≤ 60) (h : ∀ w ∈ ws, WiOk n w) : WbOk n (sortW ws) :=
  ⟨n1, n2, by rw [(sortW_perm ws).length_eq]; exact l, fun w m => h w ((sortW_perm ws).mem_iff.mp m), srt_sortW ws⟩
--# end
end M

end
section
set_option Elab.async false
set_option linter.all false
set_option maxRecDepth 100000
/-! C4: bags and what is drawn from them. -/
namespace M
open PySem PySem.Spec PyProof.Rows L2 VL
abbrev bagL (a b c d : Int) : List SV := [.d (.int a), .d (.int b), .d (.int c), .d (.int d)]
theorem fmod_nn {p q : Int} (h : 0 < q) : 0 ≤ p.fmod q ∧ p.fmod q < q := by
  rw [fmod_pos h]
  exact ⟨Int.emod_nonneg p (by omega), Int.emod_lt_of_pos p h⟩
@[simp] theorem ixB_r (S : Sto) (m : Nat) (i : Int) : gIxB S (.ref m) (.d (.int i)) = (S[m]?).bind fun xs => atI xs i := rfl
theorem ix_r (S : Sto) (m : Nat) (i : Int) : gIx S (.ref m) (.d (.int i)) = (S[m]?).bind fun xs => (atI xs i).bind fun z => if noOwn z then some z else none := rfl
theorem ix40 : ixN 4 0 = some 0 := by decide
theorem ix41 : ixN 4 1 = some 1 := by decide
theorem ix42 : ixN 4 2 = some 2 := by decide
theorem ix43 : ixN 4 3 = some 3 := by decide
theorem gpow18 (S : Sto) : gPow S (.d (.int 10)) (.d (.int 18)) = some (.d (.int 1000000000000000000)) := by
  have : (10 : Int) ^ 18 = 1000000000000000000 := by decide
  unfold gPow
  simp
/-- a bag that is drawn from -/
def Bs (S : Sto) (m : Nat) (t : Nat) : Prop := ∃ a b c d, S[m]? = some (bagL a b c d) ∧ Bd 2000000 b ∧ 0 ≤ c ∧ c ≤ t ∧ Bd 2000000 d
theorem Bs.mono {S : Sto} {m t u : Nat} (h : Bs S m t) (l : t ≤ u) : Bs S m u := by
  obtain ⟨a, b, c, d, h1, h2, h3, h4, h5⟩ := h
  exact ⟨a, b, c, d, h1, h2, h3, by omega, h5⟩
def lcgS (b c d : Int) : Int := (b * 48271 + d * 69621 + (c + 1) * 16807 + 11).fmod 2147483647
def lcgA (b c d : Int) : Int := if c + 1 = 1 ∧ 1000000000000000000 ≤ d then d else lcgS b c d * 2147483629 + (lcgS b c d * lcgS b c d + d).fmod 2147483629
theorem bd_small {b : Nat} {x : Int} (h : x.natAbs ≤ 1000000000000000000000000000000) (hb : 100 ≤ b) : Bd b x := (bd100 h).mono hb
--# draw
theorem draw_run {a b c d many : Int} {t : Nat} (hb : Bd 2000000 b) (c0 : 0 ≤ c) (c1 : c ≤ t) (ht : t ≤ 1000000) (hd : Bd 2000000 d) (h1 : 0 < many) {S : Sto} {m : Nat} (hS : S[m]? = some (bagL a b c d)) :
    G.F__law_draw [.ref m, .d (.int many)] S = (if a = 0 then some (.ok (.d (.int ((lcgA b c d).fmod many))) (S.set m (bagL ((lcgA b c d).fdiv many) (lcgS b c d) (c + 1) d))) else some (.ok (.d (.int (a.fmod many))) (S.set m (bagL (a.fdiv many) b c d)))) := by
  have hm : m < S.length := (List.getElem?_eq_some_iff.mp hS).1
  have hS2 : S[m]'hm = bagL a b c d := (List.getElem?_eq_some_iff.mp hS).2
  have m0 : ¬ many = 0 := by omega
  have m1 : ¬ many < 1 := by omega
  unfold G.F__law_draw runF rho0 G.f__law_draw
  by_cases ha : a = 0
  · subst ha
    obtain ⟨s0, s1⟩ := fmod_nn (p := b * 48271 + d * 69621 + (c + 1) * 16807 + 11) (q := 2147483647) (by omega)
    have k1 : mulOk b 48271 = true := mulOk_bd hb (bd100 (x := 48271) (by omega)) (by omega)
    have k2 : mulOk d 69621 = true := mulOk_bd hd (bd100 (x := 69621) (by omega)) (by omega)
    have k3 : mulOk (c + 1) 16807 = true := mulOk_bd (bd100 (x := c + 1) (by omega)) (bd100 (x := 16807) (by omega)) (by omega)
    unfold lcgA lcgS
    generalize hs : (b * 48271 + d * 69621 + (c + 1) * 16807 + 11).fmod 2147483647 = s at *
    have k4 : mulOk s 2147483629 = true := mulOk_bd (bd100 (x := s) (by omega)) (bd100 (x := 2147483629) (by omega)) (by omega)
    have k5 : mulOk s s = true := mulOk_bd (bd100 (x := s) (by omega)) (bd100 (x := s) (by omega)) (by omega)
    by_cases e1 : c + 1 = 1
    · obtain rfl : c = 0 := by omega
      have k3' : mulOk 1 16807 = true := by decide +kernel
      have hs' : (b * 48271 + d * 69621 + 16807 + 11).fmod 2147483647 = s := by rw [← hs]; simp
      by_cases e2 : 1000000000000000000 ≤ d
      · simp [cB, k3', hs', hS2, hm, ix_r, k1, k2, k3, k4, k5, hs, sStore, lVar, Lo.get, Lo.put, ix40, ix41, ix42, ix43, m0, m1, e1, e2, gpow18, atI]
      · simp [cB, k3', hs', hS2, hm, ix_r, k1, k2, k3, k4, k5, hs, sStore, lVar, Lo.get, Lo.put, ix40, ix41, ix42, ix43, m0, m1, e1, e2, gpow18, atI]
    · simp [cB, hS2, hm, ix_r, k1, k2, k3, k4, k5, hs, sStore, lVar, Lo.get, Lo.put, ix40, ix41, ix42, ix43, m0, m1, e1, gpow18, atI]
  · simp [cB, hS2, hm, ix_r, ha, sStore, lVar, Lo.get, Lo.put, ix40, ix41, m0, m1, atI]
theorem draw_bs {S : Sto} {m t : Nat} {many : Int} (h : Bs S m t) (ht : t ≤ 1000000) (h1 : 0 < many) : ∃ (r : Nat) (S' : Sto), (r : Int) < many ∧ Bs S' m (t + 1) ∧ G.F__law_draw [.ref m, .d (.int many)] S = some (.ok (.d (.int (r : Int))) S') := by
  obtain ⟨a, b, c, d, hS, hb, c0, c1, hd⟩ := h
  have hm : m < S.length := (List.getElem?_eq_some_iff.mp hS).1
  have e := draw_run hb c0 c1 ht hd h1 hS
  by_cases ha : a = 0
  · rw [if_pos ha] at e
    obtain ⟨r0, r1⟩ := fmod_nn (p := lcgA b c d) h1
    obtain ⟨s0, s1⟩ := fmod_nn (p := b * 48271 + d * 69621 + (c + 1) * 16807 + 11) (q := 2147483647) (by omega)
    refine ⟨((lcgA b c d).fmod many).toNat, S.set m (bagL ((lcgA b c d).fdiv many) (lcgS b c d) (c + 1) d), by omega, ⟨_, _, _, _, List.getElem?_set_self hm, bd_small (x := lcgS b c d) (by unfold lcgS; omega) (by omega), by omega, by omega, hd⟩, ?_⟩
    rw [show ((((lcgA b c d).fmod many).toNat : Nat) : Int) = (lcgA b c d).fmod many by omega]
    exact e
  · rw [if_neg ha] at e
    obtain ⟨r0, r1⟩ := fmod_nn (p := a) h1
    refine ⟨(a.fmod many).toNat, S.set m (bagL (a.fdiv many) b c d), by omega, ⟨_, _, _, _, List.getElem?_set_self hm, hb, c0, by omega, hd⟩, ?_⟩
    rw [show (((a.fmod many).toNat : Nat) : Int) = a.fmod many by omega]
    exact e
theorem draw_n {S : Sto} {m t n : Nat} (h : Bs S m t) (ht : t ≤ 1000000) (h1 : 0 < n) : ∃ (r : Nat) (S' : Sto), r < n ∧ Bs S' m (t + 1) ∧ G.F__law_draw [.ref m, .d (.int (n : Int))] S = some (.ok (.d (.int (r : Int))) S') := by
  obtain ⟨r, S', k, B, e⟩ := draw_bs h ht (many := (n : Int)) (by omega)
  exact ⟨r, S', by omega, B, e⟩
/-- a draw of none -/
theorem draw_0 {S : Sto} {m t : Nat} {many : Int} (h : many < 1) : G.F__law_draw [.ref m, .d (.int many)] S = some (.ok (.d (.int 0)) S) := by
  unfold G.F__law_draw runF rho0 G.f__law_draw
  simp [cB, h]
/-- a draw of n or none -/
theorem draw_any {S : Sto} {m t n : Nat} (h : Bs S m t) (ht : t ≤ 1000000) : ∃ (r : Nat) (S' : Sto), (n = 0 ∧ r = 0 ∨ r < n) ∧ Bs S' m (t + 1) ∧ G.F__law_draw [.ref m, .d (.int (n : Int))] S = some (.ok (.d (.int (r : Int))) S') := by
  by_cases h0 : n = 0
  · exact ⟨0, S, .inl ⟨h0, rfl⟩, h.mono (by omega), draw_0 (t := t) (by omega)⟩
  · obtain ⟨r, S', k, B, e⟩ := draw_n h ht (show 0 < n by omega)
    exact ⟨r, S', .inr k, B, e⟩
--# bag
theorem bag_eq (ns : List Int) (k : Nat) (hk : k ≤ 100) (hb : ∀ z ∈ ns, Bd 2000000 z) (S : Sto) : ∃ b d, Bd 2000000 b ∧ Bd 2000000 d ∧ G.F__law_bag [.scr ns, .d (.int (k : Int))] S = some (.ok (.own (bagL 0 b 0 d)) S) := by
  have km : mulOk 48611 (k : Int) = true := mulOk_bd (bd100 (x := 48611) (by omega)) (bd100 (x := (k : Int)) (by omega)) (by omega)
  by_cases hlt : k < ns.length
  · have hat : atI (ns.map fun n => SV.d (.int n)) (k : Int) = some (.d (.int ns[k])) := by
      rw [atI_nat _ (by simpa using hlt)]
      simp
    refine ⟨_, ns[k], ?_, hb _ (List.getElem_mem hlt), by unfold G.F__law_bag runF rho0 G.f__law_bag; simp [cB, hlt, hat, km, sizeLine_eq]; rfl⟩
    exact bd_small (by omega) (by omega)
  · refine ⟨_, 0, ?_, bd_small (by omega) (by omega), by unfold G.F__law_bag runF rho0 G.f__law_bag; simp [cB, hlt, km, sizeLine_eq]; rfl⟩
    exact bd_small (by omega) (by omega)
--# end
end M

end
section
set_option Elab.async false
set_option linter.all false
set_option maxRecDepth 100000
/-! C5: a for as a fold; names of pieces. -/
namespace M
open PySem PySem.Spec PyProof.Rows L2 VL
abbrev nI (x : Nat) : SV := .d (.int (x : Int))
@[simp] theorem nI_eq (x : Nat) : nI x = .d (.int (x : Int)) := rfl
abbrev nS (ns : List Nat) : SV := .own (ns.map nI)
theorem atI_map {α : Type} (f : α → SV) (l : List α) {j : Nat} (h : j < l.length) : atI (l.map f) (j : Int) = some (f l[j]) := by
  rw [atI_nat _ (by simpa using h)]
  simp
def gN (ns : List Nat) (i : Nat) : Nat := ns.getD i 0
theorem gN_eq {ns : List Nat} {i : Nat} (h : i < ns.length) : gN ns i = ns[i] := by simp [gN, List.getD, h]
theorem atI_mapN (f : Nat → SV) (l : List Nat) {j : Nat} (h : j < l.length) : atI (l.map f) (j : Int) = some (f (gN l j)) := by
  rw [atI_map f l h, gN_eq h]
theorem gEq_nn (S : Sto) (a b : Nat) : gEq S (nI a) (nI b) = some (decide (a = b)) := by
  simp only [nI_eq, gEq_i]
  congr 1
  by_cases h : a = b
  · subst h; simp
  · rw [decide_eq_false h]; exact beq_eq_false_iff_ne.mpr (by omega)
theorem gNe_nn (S : Sto) (a b : Nat) : gNe S (nI a) (nI b) = some (!decide (a = b)) := by
  have := gEq_nn S a b
  simp only [nI_eq, gEq_i, gNe_i] at this ⊢
  simpa using this
/-! names -/
def stN (ns : List Nat) (a b : Nat) : List Nat := ns.map fun x => if x = max (gN ns a) (gN ns b) then min (gN ns a) (gN ns b) else x
@[simp] theorem stN_len (ns : List Nat) (a b : Nat) : (stN ns a b).length = ns.length := by simp [stN]
def nmF (ns : List Nat) (ps : List (Nat × Nat)) : List Nat := ps.foldl (fun ns p => stN ns p.1 p.2) ns
theorem nmF_len : ∀ (ps : List (Nat × Nat)) (ns : List Nat), (nmF ns ps).length = ns.length
  | [], _ => rfl
  | p :: ps, ns => by
    show (nmF (stN ns p.1 p.2) ps).length = _
    rw [nmF_len ps, stN_len]
def prs (ws : List Wi) : List (Nat × Nat) := ws.map fun w => (w.1, w.2.1)
def nms (n : Nat) (ws : List Wi) : List Nat := nmF (List.range n) (prs ws)
@[simp] theorem nms_len (n : Nat) (ws : List Wi) : (nms n ws).length = n := by simp [nms, nmF_len]
theorem nms_fold (n : Nat) (ws : List Wi) : nms n ws = ws.foldl (fun ns w => stN ns w.1 w.2.1) (List.range n) := by
  unfold nms nmF prs
  rw [List.foldl_map]
theorem stN_lt {ns : List Nat} {n a b : Nat} (h : ∀ x ∈ ns, x < n) : ∀ x ∈ stN ns a b, x < n := by
  intro x m
  obtain ⟨y, hy, rfl⟩ := List.mem_map.mp m
  have hg : ∀ (i : Nat) z, z < n → gN ns i < n ∨ gN ns i = 0 := by
    intro i z hz
    by_cases hi : i < ns.length
    · left
      rw [gN_eq hi]
      exact h _ (List.getElem_mem hi)
    · right
      simp [gN, List.getD, List.getElem?_eq_none (show ns.length ≤ i by omega)]
  have h1 := h y hy
  have h2 := hg a y h1
  have h3 := hg b y h1
  split
  · omega
  · exact h1
theorem nmF_lt : ∀ (ps : List (Nat × Nat)) (ns : List Nat) (n : Nat), (∀ x ∈ ns, x < n) → ∀ x ∈ nmF ns ps, x < n
  | [], _, _, h => h
  | p :: ps, ns, n, h => nmF_lt ps (stN ns p.1 p.2) n (stN_lt h)
theorem nms_lt (n : Nat) (ws : List Wi) : ∀ x ∈ nms n ws, x < n := nmF_lt _ _ _ fun x m => List.mem_range.mp m
theorem rgD_eq (n : Nat) : (rgD 0 n).map SV.d = (List.range n).map nI := by simp [rgD, nI]
theorem lrg_n {f : Rho → Mo SV} {ρ : Rho} {S : Sto} {n : Nat} (h : f ρ S = some (.ok (nI n) S)) (hn : n ≤ 100000) : eLrg1 f ρ S = some (.ok (nS (List.range n)) S) := by
  unfold eLrg1
  have h1 : ((n : Int)).natAbs ≤ 16777216 := by omega
  simp only [h, bindM_ok, h1, if_true, Int.toNat_natCast, rgD_eq]
theorem gMin_n (S : Sto) (a b : Nat) : gMin2 S [nI a, nI b] = some (nI (min a b)) := by
  simp only [gMin2_i]
  congr 3
  split <;> omega
theorem gMax_n (S : Sto) (a b : Nat) : gMax2 S [nI a, nI b] = some (nI (max a b)) := by
  simp only [gMax2_i]
  congr 3
  split <;> omega
theorem leW_int (a b : Int) : leW (.int a) (.int b) = decide (a ≤ b) := by
  have : PySem.W.dataLt (.int b) (.int a) = decide (b < a) := by
    simp [PySem.W.dataLt, PySem.W.keyToks, PyProof.Rows.lexLt, PyProof.Rows.itemOrd, PyProof.Rows.itemLt]
  unfold leW
  rw [this]
  by_cases h : a ≤ b
  · rw [decide_eq_true h, decide_eq_false (by omega)]; rfl
  · rw [decide_eq_false h, decide_eq_true (by omega)]; rfl
theorem sortD_ints {l m : List Int} (p : m.Perm l) (s : m.Pairwise (· ≤ ·)) : sortD (l.map PyData.int) = m.map PyData.int := by
  have e : sortD (l.map PyData.int) = (l.mergeSort fun a b => leW (.int a) (.int b)).map PyData.int := (PySem.W.sort_maps PyData.int (fun _ _ _ _ => rfl)).symm
  have e2 : (fun a b : Int => leW (.int a) (.int b)) = fun a b => decide (a ≤ b) := by funext a b; exact leW_int a b
  rw [e, e2, intSort_one p s]
  rfl
theorem sortOk_ints (l : List Int) (h : l.length ≤ 1000) : sortOk (l.map PyData.int) = true := by
  unfold sortOk
  have h1 : ((l.map PyData.int).all fun d => (l.map PyData.int).all fun e => PySem.W.alike d e) = true := by
    rw [List.all_eq_true]
    intro d m
    rw [List.all_eq_true]
    intro e m2
    obtain ⟨x, _, rfl⟩ := List.mem_map.mp m
    obtain ⟨y, _, rfl⟩ := List.mem_map.mp m2
    simp [PySem.W.alike]
  have h2 : ((l.map PyData.int).all fun d => SeqAt.shaped d) = true := by
    simp only [List.all_map, List.all_eq_true]
    exact fun x _ => sh_i x
  have h3 : (l.map PyData.int).all isPlain = true := by
    simp only [List.all_map, List.all_eq_true]
    exact fun x _ => rfl
  rw [h1, h2, h3, List.length_map, decide_eq_true (show l.length ≤ sizeLine by rw [sizeLine_eq]; omega)]
  simp
theorem sort2_n (S : Sto) (a b : Nat) : gSorted S [.own [nI a, nI b]] = some (.own [nI (min a b), nI (max a b)]) := by
  have e : sortD ([(a : Int), (b : Int)].map PyData.int) = [((min a b : Nat) : Int), ((max a b : Nat) : Int)].map PyData.int := by
    refine sortD_ints ?_ (by simp; omega)
    rcases Nat.le_total a b with h | h
    · rw [Nat.min_eq_left h, Nat.max_eq_right h]
    · rw [Nat.min_eq_right h, Nat.max_eq_left h]
      exact List.Perm.swap ..
  have so := sortOk_ints [(a : Int), (b : Int)] (by simp)
  simp only [List.map_cons, List.map_nil] at e so
  simp only [gSorted, lst?, Option.bind_some, allD, Option.map_some, so, if_true, e]
  rfl
theorem eIf_sel (S : Sto) {ρ : Rho} {x lo hi : Nat} {a b c : Nat} (h1 : ρ[a]? = some (some (nI x))) (h2 : ρ[b]? = some (some (nI hi))) (h3 : ρ[c]? = some (some (nI lo))) :
    (eIf (bB (eBin (cB gEq) (eVar a) (eVar b))) (eVarV c) (eVarV a)) ρ S = some (.ok (nI (if x = hi then lo else x)) S) := by
  by_cases h : x = hi
  · subst h
    simp [eIf, h1, h2, h3, cB]
  · have h' : ¬ (x : Int) = (hi : Int) := by omega
    simp [eIf, h1, h2, h3, cB, h, h']
theorem seq_nS (S : Sto) (ns : List Nat) : seq? S (nS ns) = some (ns.map nI) := rfl
theorem iSeq_nS {i : Nat} {ρ : Rho} {S : Sto} {ns : List Nat} (h : ρ[i]? = some (some (nS ns))) : (VL.iSeq (eVar i)) ρ S = some (.ok (ns.map nI) S) := by
  simp [h, isRef, List.all_eq_true, noOwn]
theorem iSeq_tup {f : Rho → Mo SV} {ρ : Rho} {S S1 : Sto} {ds : List PyData} (h : f ρ S = some (.ok (.d (.tuple ds)) S1)) : (VL.iSeq f) ρ S = some (.ok (ds.map SV.d) S1) := by
  simp [h]
theorem datOs_d : ∀ ds : List PyData, datOs (ds.map SV.d) = some ds
  | [] => by simp
  | d :: ds => by simp [datOs_d ds]
theorem frz_own (ds : List PyData) : frz (.own (ds.map SV.d)) = some (.d (.list ds)) := by
  simp [frz, noOwn, datO, datOs_d]
theorem iSeq_lst {f : Rho → Mo SV} {ρ : Rho} {S S1 : Sto} {ds : List PyData} (h : f ρ S = some (.ok (.d (.list ds)) S1)) : (VL.iSeq f) ρ S = some (.ok (ds.map SV.d) S1) := by
  simp [h]
theorem iSeq_wb2 {n : Nat} {ws : List Wi} {ρ : Rho} {S : Sto} (h : ρ[0]? = some (some (.d (wbD n ws)))) : (VL.iSeq (eBin gIx (eVar 0) (eCon (.int 2)))) ρ S = some (.ok (ws.map fun w => SV.d (wiD w)) S) := by
  rw [iSeq_tup (ds := ws.map wiD) (S1 := S) (by simp [h, wbD])]
  simp
theorem tg_wi {a b c : Nat} {w : Wi} {ρ : Rho} : gTp 3 (gsCons (gNm a) (gsCons (gNm b) (gsCons (gNm c) gsNil))) (SV.d (wiD w)) ρ = some (((ρ.set a (some (nI w.1))).set b (some (nI w.2.1))).set c (some (rS w.2.2))) := by
  simp [wiD]
--# end
end M

end
section
set_option Elab.async false
set_option linter.all false
set_option maxRecDepth 100000
/-! C6: the joints of each piece. -/
namespace M
open PySem PySem.Spec PyProof.Rows L2 VL
abbrev iN (k : Nat) : Int := (k : Int)
theorem posK_in : ∀ {kn : List Nat} {k : Nat}, k ∈ kn → ∃ p, ∃ h : p < kn.length, kn[p] = k ∧ posK (kn.map iN) (k : Int) = some p
  | [], k, h => by cases h
  | a :: kn, k, h => by
    by_cases e : a = k
    · subst e
      exact ⟨0, by simp, rfl, by simp [posK]⟩
    · obtain ⟨p, hp, e1, e2⟩ := posK_in (kn := kn) (k := k) (by
        rcases List.mem_cons.mp h with h | h
        · exact absurd h.symm e
        · exact h)
      have e' : ¬ (a : Int) = (k : Int) := by omega
      exact ⟨p + 1, by simp; omega, by simpa using e1, by simp [posK, e', e2, iN]⟩
theorem posK_out : ∀ {kn : List Nat} {k : Nat}, k ∉ kn → posK (kn.map iN) (k : Int) = none
  | [], k, h => rfl
  | a :: kn, k, h => by
    have e' : ¬ (a : Int) = (k : Int) := fun e => h (by have : a = k := by omega
                                                        rw [this]; exact List.mem_cons_self)
    have := posK_out (kn := kn) (k := k) fun z => h (List.mem_cons_of_mem _ z)
    simp [posK, e', this, iN]
/-- which joints (the second) have a name (the first) -/
def gOf (s : List (Nat × Nat)) (k : Nat) : List Nat := (s.filter fun p => p.1 == k).map (·.2)
structure DvP (s : List (Nat × Nat)) (ks : List Int) (xs : List SV) : Prop where
  ex : ∃ kn : List Nat, ks = kn.map iN ∧ kn.Nodup ∧ (∀ k, k ∈ kn ↔ k ∈ s.map (·.1)) ∧ xs = kn.map (fun k => nS (gOf s k)) ∧ kn.length ≤ s.length
theorem gOf_snoc (s : List (Nat × Nat)) (k j k' : Nat) : gOf (s ++ [(k, j)]) k' = if k = k' then gOf s k' ++ [j] else gOf s k' := by
  unfold gOf
  rw [List.filter_append]
  by_cases h : k = k'
  · simp [h]
  · simp [h]
theorem gOf_len (s : List (Nat × Nat)) (k : Nat) : (gOf s k).length ≤ s.length := by
  unfold gOf
  rw [List.length_map]
  exact List.length_filter_le ..
theorem grp_step {s : List (Nat × Nat)} {ks : List Int} {xs : List SV} (D : DvP s ks xs) (hs : s.length ≤ 1000) (k j : Nat) (S : Sto) (s0 : Option SV) :
    ∃ ks' xs', DvP (s ++ [(k, j)]) ks' xs' ∧ sGrp 1 3 2 [s0, some (.dic ks xs), some (nI j), some (nI k)] S = some (.nx [s0, some (.dic ks' xs'), some (nI j), some (nI k)] S) := by
  obtain ⟨kn, rfl, nd, mem, rfl, hl⟩ := D
  have hsz := sizeLine_eq
  have h1 : (kn.map iN).length < sizeLine := by rw [List.length_map]; omega
  by_cases hk : k ∈ kn
  · obtain ⟨p, hp, e1, e2⟩ := posK_in hk
    refine ⟨kn.map iN, (kn.map (fun k => nS (gOf s k))).set p (nS (gOf s k ++ [j])), ⟨kn, rfl, nd, fun q => ?_, ?_, by simp; omega⟩, ?_⟩
    · rw [mem q, List.map_append, List.mem_append]
      constructor
      · exact .inl
      · rintro (z | z)
        · exact z
        · obtain rfl : q = k := by simpa using z
          exact (mem q).mp hk
    · refine List.ext_getElem (by simp) fun i h2 h3 => ?_
      rw [List.getElem_set]
      simp only [List.getElem_map, gOf_snoc]
      have hi : i < kn.length := by simpa using h3
      by_cases hip : p = i
      · subst hip
        simp [e1]
      · have hne : ¬ k = kn[i] := fun e => by
          have nd' := List.pairwise_iff_getElem.mp nd
          rcases Nat.lt_or_ge p i with z | z
          · exact nd' p i hp hi z (by rw [e1, e])
          · exact nd' i p hi hp (by omega) (by rw [e1, e])
        simp [hip, hne]
    · have hx : (kn.map (fun k => nS (gOf s k)))[p]? = some (.own ((gOf s k).map nI)) := by
        simp [hp, e1]
      have h2 : ((gOf s k).map nI).length < sizeLine := by
        rw [List.length_map]
        have := gOf_len s k
        omega
      have hgo : (.own ((gOf s k).map nI ++ [.d (.int (j : Int))]) : SV) = nS (gOf s k ++ [j]) := by simp [nS]
      simp only [sGrp, List.getElem?_cons_succ, List.getElem?_cons_zero, nI_eq]
      rw [if_pos h1, e2]
      simp only [hx]
      rw [if_pos h2]
      rw [hgo]
      rfl
  · refine ⟨(kn ++ [k]).map iN, (kn.map (fun k => nS (gOf s k))) ++ [nS [j]], ⟨kn ++ [k], rfl, ?_, fun q => ?_, ?_, by simp; omega⟩, ?_⟩
    · rw [List.nodup_append]
      refine ⟨nd, by simp, fun a ha b hb => ?_⟩
      obtain rfl : b = k := by simpa using hb
      intro e
      rw [e] at ha
      exact hk ha
    · simp only [List.mem_append, List.map_append, mem q]
      simp
    · rw [List.map_append]
      congr 1
      · refine List.map_congr_left fun q hq => ?_
        rw [gOf_snoc, if_neg (fun e => hk (by rw [e]; exact hq))]
      · have : gOf s k = [] := by
          unfold gOf
          rw [List.map_eq_nil_iff, List.filter_eq_nil_iff]
          intro a ha e
          refine hk ((mem k).mpr ?_)
          rw [List.mem_map]
          exact ⟨a, ha, by simpa using e⟩
        simp [gOf_snoc, this]
    · have h3 := posK_out hk
      simp only [sGrp, List.getElem?_cons_succ, List.getElem?_cons_zero, nI_eq]
      rw [if_pos h1, h3]
      simp
/-- the names that stand, with their joints -/
def grp (ns : List Nat) (k : Nat) : List Nat := (List.range ns.length).filter fun j => gN ns j == k
def pcs (n : Nat) (ns : List Nat) : List (List Nat) := ((List.range n).filter fun k => ns.contains k).map (grp ns)
theorem gOf_zip (ns : List Nat) (k : Nat) : gOf ns.zipIdx k = grp ns k := by
  unfold gOf grp
  have e : ns.zipIdx = (List.range ns.length).map fun j => (gN ns j, j) := by
    refine List.ext_getElem (by simp) fun i h1 h2 => ?_
    have : i < ns.length := by simpa using h1
    simp [gN_eq this]
  rw [e, List.filter_map, List.map_map]
  have : ((fun x : Nat × Nat => x.2) ∘ fun j => (gN ns j, j)) = id := rfl
  rw [this, List.map_id]
  rfl
def tupN (l : List Nat) : PyData := .tuple (l.map fun j : Nat => .int (j : Int))
theorem enum_n (ns : List Nat) : enumL (ns.map fun x : Nat => .int (x : Int)) = ns.zipIdx.map fun p => SV.d (.tuple [.int (p.2 : Int), .int (p.1 : Int)]) := by
  unfold enumL
  rw [List.zipIdx_map, List.map_map]
  rfl
theorem keys_sorted {ns kn : List Nat} {n : Nat} (nd : kn.Nodup) (mem : ∀ k, k ∈ kn ↔ k ∈ ns) (h : ∀ x ∈ ns, x < n) : intSort (kn.map iN) = ((List.range n).filter fun k => ns.contains k).map iN := by
  refine (intSort_one ?_ ?_).symm
  · refine List.Perm.map iN ?_
    rw [List.perm_ext_iff_of_nodup (List.Pairwise.filter _ List.nodup_range) nd]
    intro a
    rw [List.mem_filter, List.mem_range, mem a]
    simp only [List.contains_iff_mem]
    exact ⟨fun z => z.2, fun z => ⟨h a z, z⟩⟩
  · rw [List.pairwise_map]
    refine List.Pairwise.filter _ ?_
    have := List.pairwise_lt_range (n := n)
    exact this.imp fun {a b} h => by show (a : Int) ≤ (b : Int); omega
theorem tup_map {α : Type} (S : Sto) (f : α → PyData) (l : List α) : gTuple S [.own (l.map fun x => SV.d (f x))] = some (.d (.tuple (l.map f))) := gTuple_o S f l
--# end
end M

end
section
set_option Elab.async false
set_option linter.all false
set_option maxRecDepth 100000
/-! C7: in, index, setdefault; law_same. -/
namespace M
open PySem PySem.Spec PyProof.Rows L2 VL
theorem sh_list_nd {k : Nat} {ds : List PyData} (h : ∀ d ∈ ds, nd k d = true) (hk : k ≤ 60) : SeqAt.shaped (.list ds) = true :=
  nd_shaped (k := k + 1) (by simp only [nd, List.all_eq_true]; exact h) (by omega)
theorem sh_ints (l : List Int) : SeqAt.shaped (.list (l.map PyData.int)) = true := sh_list_nd (k := 0) (fun d m => by
  obtain ⟨x, _, rfl⟩ := List.mem_map.mp m
  simp) (by omega)
theorem any_eqv_ints (l : List Int) (x : Int) : ((l.map PyData.int).any fun z => PyData.eqv z (.int x)) = l.contains x := by
  rw [List.any_map]
  induction l with
  | nil => rfl
  | cons a l ih => simp only [List.any_cons, List.contains_cons, ih, Function.comp, eqv_i]; congr 1; exact Bool.beq_comm
abbrev iS (x : Int) : SV := .d (.int x)
abbrev iL (l : List Int) : SV := .own (l.map iS)
theorem allD_iL (l : List Int) : allD (l.map iS) = some (l.map PyData.int) := allD_map' PyData.int l
theorem gIn_iL (S : Sto) (l : List Int) (x : Int) : gIn S (iS x) (iL l) = some (l.contains x) := by
  simp only [gIn, dat?, allD_iL, Option.map_some, Option.bind_some, sh_i, sh_ints, Bool.and_self, if_true, any_eqv_ints]
theorem gNotIn_iL (S : Sto) (l : List Int) (x : Int) : gNotIn S (iS x) (iL l) = some (!l.contains x) := by
  simp only [gNotIn, dat?, allD_iL, Option.map_some, Option.bind_some, sh_i, sh_ints, Bool.and_self, if_true, any_eqv_ints]
theorem nS_iL (ns : List Nat) : nS ns = iL (ns.map iN) := by simp [nS, iL]
theorem contains_iN (ns : List Nat) (k : Nat) : (ns.map iN).contains (k : Int) = ns.contains k := by
  induction ns with
  | nil => rfl
  | cons a ns ih =>
    rw [List.map_cons, List.contains_cons, List.contains_cons, ih]
    congr 1
    by_cases h : k = a
    · subst h; rw [beq_self_eq_true, beq_self_eq_true]
    · have : ¬ (k : Int) = iN a := by show ¬ (k : Int) = (a : Int); omega
      rw [beq_eq_false_iff_ne.mpr h, beq_eq_false_iff_ne.mpr this]
theorem gIn_nS (S : Sto) (ns : List Nat) (k : Nat) : gIn S (nI k) (nS ns) = some (ns.contains k) := by
  rw [nS_iL, nI_eq, gIn_iL, contains_iN]
theorem gNotIn_nS (S : Sto) (ns : List Nat) (k : Nat) : gNotIn S (nI k) (nS ns) = some (!ns.contains k) := by
  rw [nS_iL, nI_eq, gNotIn_iL, contains_iN]
theorem idxD_ints : ∀ (l : List Int) (x : Int), idxD (l.map PyData.int) (.int x) = posK l x
  | [], _ => rfl
  | a :: l, x => by simp [idxD, posK, idxD_ints l x, eqv_i]
theorem gAdd_tt (S : Sto) {xs ys : List PyData} (h : xs.length + ys.length ≤ 100000) : gAdd S (.d (.tuple xs)) (.d (.tuple ys)) = some (.d (.tuple (xs ++ ys))) := by
  simp only [gAdd]
  rw [if_pos (by rw [sizeLine_eq]; omega)]
/-! setdefault(x, len) -/
def oStep (o : List Int) (x : Int) : List Int := if o.contains x then o else o ++ [x]
def ordF (o l : List Int) : List Int := l.foldl oStep o
theorem posK_none {o : List Int} {x : Int} : x ∉ o → posK o x = none := by
  induction o with
  | nil => intro _; rfl
  | cons a o ih =>
    intro h
    rw [List.mem_cons, not_or] at h
    have : ¬ a = x := fun e => h.1 e.symm
    simp [posK, this, ih h.2]
theorem posK_mem' {o : List Int} {x : Int} : x ∈ o → ∃ p, p < o.length ∧ posK o x = some p := by
  induction o with
  | nil => intro h; cases h
  | cons a o ih =>
    intro h
    by_cases e : a = x
    · exact ⟨0, by simp, by simp [posK, e]⟩
    · obtain ⟨p, hp, q⟩ := ih (by
        rcases List.mem_cons.mp h with h | h
        · exact absurd h.symm e
        · exact h)
      exact ⟨p + 1, by simp; omega, by simp [posK, e, q]⟩
theorem posK_app {o t : List Int} {x : Int} {p : Nat} : posK o x = some p → posK (o ++ t) x = some p := by
  induction o generalizing p with
  | nil => intro h; cases h
  | cons a o ih =>
    intro h
    by_cases e : a = x
    · simpa [posK, e] using h
    · simp only [posK, e, if_false, Option.map_eq_some_iff] at h
      obtain ⟨q, h1, rfl⟩ := h
      simp [posK, e, ih h1]
theorem posK_new {o : List Int} {x : Int} : x ∉ o → posK (o ++ [x]) x = some o.length := by
  induction o with
  | nil => intro _; simp [posK]
  | cons a o ih =>
    intro h
    rw [List.mem_cons, not_or] at h
    have : ¬ a = x := fun e => h.1 e.symm
    simp [posK, this, ih h.2]
theorem ordF_ext : ∀ (l o : List Int), ∃ t, ordF o l = o ++ t
  | [], o => ⟨[], by simp [ordF]⟩
  | x :: l, o => by
    show ∃ t, ordF (oStep o x) l = o ++ t
    obtain ⟨t, e⟩ := ordF_ext l (oStep o x)
    unfold oStep at e ⊢
    split at e
    · rename_i h
      rw [if_pos h]
      exact ⟨t, e⟩
    · rename_i h
      rw [if_neg h]
      exact ⟨[x] ++ t, by rw [e]; simp⟩
def idO (o : List Int) (x : Int) : Nat := (posK o x).getD 0
theorem sdL_eq : ∀ (l ks acc : List Int), ks.length + l.length ≤ 100000 → acc.length + l.length ≤ 100000 → sdL (l.map iS) ks acc = some (ordF ks l, acc ++ l.map fun x => (idO (ordF ks l) x : Int))
  | [], ks, acc, _, _ => by simp [sdL, ordF]
  | x :: l, ks, acc, h1, h2 => by
    rw [List.length_cons] at h1 h2
    have hz := sizeLine_eq
    have c : acc.length < sizeLine ∧ ks.length < sizeLine := by omega
    have e0 : ordF ks (x :: l) = ordF (oStep ks x) l := rfl
    rw [List.map_cons]
    unfold sdL
    rw [if_pos c]
    by_cases hx : x ∈ ks
    · obtain ⟨p, hp, q⟩ := posK_mem' hx
      have o1 : oStep ks x = ks := by simp [oStep, hx]
      obtain ⟨t, et⟩ := ordF_ext l ks
      have ih := sdL_eq l ks (acc ++ [(p : Int)]) (by omega) (by simp; omega)
      simp only [q, ih, e0, o1]
      have : idO (ordF ks l) x = p := by rw [et]; simp [idO, posK_app q]
      simp [this]
    · have o1 : oStep ks x = ks ++ [x] := by simp [oStep, hx]
      obtain ⟨t, et⟩ := ordF_ext l (ks ++ [x])
      have ih := sdL_eq l (ks ++ [x]) (acc ++ [(ks.length : Int)]) (by simp; omega) (by simp; omega)
      simp only [posK_none hx, ih, e0, o1]
      have : idO (ordF (ks ++ [x]) l) x = ks.length := by rw [et]; unfold idO; rw [posK_app (posK_new hx)]; rfl
      simp [this]
theorem ordF_mem : ∀ (l o : List Int) (x : Int), x ∈ ordF o l ↔ x ∈ o ∨ x ∈ l
  | [], o, x => by simp [ordF]
  | y :: l, o, x => by
    show x ∈ ordF (oStep o y) l ↔ _
    rw [ordF_mem l]
    unfold oStep
    split
    · rename_i h
      rw [List.contains_iff_mem] at h
      constructor
      · rintro (z | z)
        · exact .inl z
        · exact .inr (List.mem_cons_of_mem _ z)
      · rintro (z | z)
        · exact .inl z
        · rcases List.mem_cons.mp z with rfl | z
          · exact .inl h
          · exact .inr z
    · simp only [List.mem_append, List.mem_cons, List.not_mem_nil, or_false]
      constructor
      · rintro ((z | z) | z)
        · exact .inl z
        · exact .inr (.inl z)
        · exact .inr (.inr z)
      · rintro (z | z | z)
        · exact .inl (.inl z)
        · exact .inl (.inr z)
        · exact .inr z
theorem idO_get {o : List Int} {x : Int} (h : x ∈ o) (hk : SeqAt.shaped (.int x) = true) (S : Sto) : gIdx S (iL o) (iS x) = some (nI (idO o x)) := by
  obtain ⟨p, hp, q⟩ := posK_mem' h
  simp only [gIdx, lst?, Option.bind_some, allD_iL, sh_ints, hk, Bool.and_self, if_true, idxD_ints, q, Option.map_some, idO, Option.getD_some]
/-! data that are the same -/
def sdB : Nat → PyData → Bool
  | _, .int _ => true
  | _, .none => true
  | _, .str s => PyData.strOk s
  | k + 1, .tuple ds => decide (ds.length ≤ 1000) && ds.all (sdB k)
  | _, _ => false
theorem sdB_nd : ∀ (k : Nat) (d : PyData), sdB k d = true → nd k d = true
  | 0, d, h => by
    cases d with
    | int i => simp
    | none => simp
    | str s => exact nd_str (by simpa [sdB] using h)
    | _ => simp [sdB] at h
  | k + 1, d, h => by
    cases d with
    | int i => simp
    | none => simp
    | str s => exact nd_str (by simpa [sdB] using h)
    | tuple ds =>
      simp only [sdB, Bool.and_eq_true, List.all_eq_true] at h
      exact nd_mk fun x m => sdB_nd k x (h.2 x m)
    | _ => simp [sdB] at h
theorem eqv_str (s : Str) : PyData.eqv (.str s) (.str s) = true := by simp [PyData.eqv]
theorem iRng_n {f : Rho → Mo SV} {ρ : Rho} {S : Sto} {n : Nat} (h : f ρ S = some (.ok (nI n) S)) (hn : n ≤ 100000) : (VL.iRng1 (aCons f aNil)) ρ S = some (.ok ((List.range n).map nI) S) := by
  have i2 : inR (n : Int) = true := inR_of (by omega)
  simp [h, i2, rangeL, nI]
--# law_same
theorem same_refl : ∀ (k : Nat) (d : PyData), sdB k d = true → k ≤ 50 → ∀ S : Sto, G.R__law_same (k + 1) [.d d, .d d] S = some (.ok (.d (.bool true)) S)
  | k, .int i, _, _, S => by
    show runF 3 (G.f__law_same _) _ S = _
    unfold runF rho0 G.f__law_same
    simp [eAnd, cB, gIsN]
  | k, .none, _, _, S => by
    show runF 3 (G.f__law_same _) _ S = _
    unfold runF rho0 G.f__law_same
    simp [eAnd, cB, gIsN]
  | k, .str s, h, _, S => by
    have hs : SeqAt.shaped (.str s) = true := nd_shaped (k := 0) (sdB_nd 0 (.str s) (by cases k <;> exact h)) (by omega)
    have hi : isNone (.d (.str s)) = false := rfl
    show runF 3 (G.f__law_same _) _ S = _
    unfold runF rho0 G.f__law_same
    simp [eAnd, cB, gIsN, gEq, hs, eqv_str, hi]
  | 0, .tuple ds, h, _, S => by simp [sdB] at h
  | k, .bool _, h, _, S => by cases k <;> simp [sdB] at h
  | k, .list _, h, _, S => by cases k <;> simp [sdB] at h
  | k, .dict _, h, _, S => by cases k <;> simp [sdB] at h
  | k + 1, .tuple ds, h, hk, S => by
    simp only [sdB, Bool.and_eq_true, List.all_eq_true, decide_eq_true_eq] at h
    have ih := fun x m => same_refl k x (h.2 x m) (by omega) S
    show runF 3 (G.f__law_same (G.R__law_same (k + 1))) _ S = _
    have lc : (eLc (VL.iRng1 (aCons (eCal gLen (aCons (eVar 0) aNil)) aNil)) (gNm 2) bYes (eCall 2 (G.R__law_same (k + 1)) [] (aCons (eBin gIx (eVar 0) (eVar 2)) (aCons (eBin gIx (eVar 1) (eVar 2)) aNil))) [2]) [some (.d (.tuple ds)), some (.d (.tuple ds)), none] S = some (.ok (.own ((List.range ds.length).map fun _ => SV.d (.bool true))) S) := by
      refine lc_map (List.range ds.length) nI (fun _ => SV.d (.bool true)) (iRng_n (by simp) (by omega)) (by rw [sizeLine_eq, List.length_range]; omega) fun j hj => ⟨[some (.d (.tuple ds)), some (.d (.tuple ds)), some (nI j)], rfl, ?_⟩
      have hj := List.mem_range.mp hj
      have a := atI_map SV.d ds hj
      simp [a, ih ds[j] (List.getElem_mem hj)]
    have nt := notin_b S ((List.range ds.length).map fun _ => true)
    rw [List.map_map] at nt
    have nt' : gNotIn S (.d (.bool false)) (.own ((List.range ds.length).map fun _ => SV.d (.bool true))) = some true := by
      refine nt.trans ?_
      congr 1
      rw [List.all_map, List.all_eq_true]
      exact fun _ _ => rfl
    unfold runF rho0 G.f__law_same
    simp [eAnd, cB, lc, nt']
theorem same_eq {k : Nat} {d : PyData} (h : sdB k d = true) (hk : k ≤ 7) (S : Sto) : G.F__law_same [.d d, .d d] S = some (.ok (.d (.bool true)) S) := by
  have up : sdB 7 d = true := by
    have mono : ∀ (k k' : Nat), k ≤ k' → ∀ d, sdB k d = true → sdB k' d = true := by
      intro k
      induction k with
      | zero =>
        intro k' _ d h
        cases d with
        | tuple _ => simp [sdB] at h
        | list _ => simp [sdB] at h
        | dict _ => simp [sdB] at h
        | bool _ => simp [sdB] at h
        | _ => cases k' <;> exact h
      | succ k ih =>
        intro k' hk d h
        obtain ⟨k', rfl⟩ : ∃ j, k' = j + 1 := ⟨k' - 1, by omega⟩
        cases d with
        | tuple ds =>
          simp only [sdB, Bool.and_eq_true, List.all_eq_true] at h ⊢
          exact ⟨h.1, fun x m => ih k' (by omega) x (h.2 x m)⟩
        | _ => exact h
    exact mono k 7 hk d h
  exact same_refl 7 d up (by omega) S
--# end
end M

end
section
set_option Elab.async false
set_option linter.all false
set_option maxRecDepth 100000
/-! A0: no program: sums, systems of equations by elimination; their told solution. -/
namespace M
/-- the sum of f 0 .. f (n - 1) -/
def sm : Nat → (Nat → Rat) → Rat
  | 0, _ => 0
  | n + 1, f => sm n f + f n
theorem sm_congr {n : Nat} {f g : Nat → Rat} (h : ∀ i, i < n → f i = g i) : sm n f = sm n g := by
  induction n with
  | zero => rfl
  | succ n ih => simp only [sm]; rw [ih fun i hi => h i (by omega), h n (by omega)]
theorem sm_zero {n : Nat} {f : Nat → Rat} (h : ∀ i, i < n → f i = 0) : sm n f = 0 := by
  induction n with
  | zero => rfl
  | succ n ih => simp only [sm]; rw [ih fun i hi => h i (by omega), h n (by omega)]; grind
theorem sm_add (n : Nat) (f g : Nat → Rat) : sm n (fun i => f i + g i) = sm n f + sm n g := by
  induction n with
  | zero => simp only [sm]; grind
  | succ n ih => simp only [sm]; rw [ih]; grind
theorem sm_sub (n : Nat) (f g : Nat → Rat) : sm n (fun i => f i - g i) = sm n f - sm n g := by
  induction n with
  | zero => simp only [sm]; grind
  | succ n ih => simp only [sm]; rw [ih]; grind
theorem sm_mul (n : Nat) (c : Rat) (f : Nat → Rat) : sm n (fun i => c * f i) = c * sm n f := by
  induction n with
  | zero => simp [sm]
  | succ n ih => simp only [sm]; rw [ih]; grind
theorem sm_one {n k : Nat} {f : Nat → Rat} (hk : k < n) (h : ∀ i, i < n → i ≠ k → f i = 0) : sm n f = f k := by
  induction n with
  | zero => omega
  | succ n ih =>
    simp only [sm]
    by_cases e : k = n
    · subst e
      rw [sm_zero fun i hi => h i (by omega) (by omega)]
      grind
    · rw [ih (by omega) fun i hi => h i (by omega), h n (by omega) (fun z => e z.symm)]
      grind
theorem sm_comm (n m : Nat) (f : Nat → Nat → Rat) : sm n (fun i => sm m fun j => f i j) = sm m fun j => sm n fun i => f i j := by
  induction n with
  | zero => simp only [sm]; rw [sm_zero fun _ _ => rfl]
  | succ n ih => simp only [sm]; rw [ih, ← sm_add]
theorem sm_neg (n : Nat) (f : Nat → Rat) : sm n (fun i => - f i) = - sm n f := by
  induction n with
  | zero => simp only [sm]; grind
  | succ n ih => simp only [sm]; rw [ih]; grind
/-! rows: functions of the column; the last entry at n is the right side -/
abbrev Row := Nat → Rat
/-- z is in the kernel: z n = -1 for a solution, 0 for the equations without right sides -/
def Ker (n : Nat) (R : List Row) (z : Row) : Prop := ∀ r ∈ R, sm (n + 1) (fun j => r j * z j) = 0
/-- r is put together of R -/
def Cmb (n : Nat) (R : List Row) (r : Row) : Prop := ∃ y : Nat → Rat, ∀ j, j ≤ n → r j = sm R.length fun i => y i * (R.getD i fun _ => 0) j
theorem cmb_mem {n : Nat} {R : List Row} {r : Row} (h : r ∈ R) : Cmb n R r := by
  obtain ⟨k, hk, rfl⟩ := List.getElem_of_mem h
  refine ⟨fun i => if i = k then 1 else 0, fun j _ => ?_⟩
  rw [sm_one hk fun i _ hi => by simp [hi]]
  simp [hk]
theorem cmb_lin {n : Nat} {R : List Row} {r s : Row} (a b : Rat) (h1 : Cmb n R r) (h2 : Cmb n R s) {t : Row} (ht : ∀ j, j ≤ n → t j = a * r j + b * s j) : Cmb n R t := by
  obtain ⟨y, hy⟩ := h1
  obtain ⟨z, hz⟩ := h2
  refine ⟨fun i => a * y i + b * z i, fun j hj => ?_⟩
  rw [ht j hj, hy j hj, hz j hj, ← sm_mul, ← sm_mul, ← sm_add]
  exact sm_congr fun i _ => by grind
/-- what holds behind some steps: R the rows now, D the pivots (row, column), c columns are done -/
structure El (n : Nat) (R0 R : List Row) (D : List (Nat × Nat)) (c : Nat) : Prop where
  len : R.length = R0.length
  ker : ∀ z, Ker n R z ↔ Ker n R0 z
  cmb : ∀ r ∈ R, Cmb n R0 r
  one : ∀ p ∈ D, p.1 < R.length ∧ p.2 < c ∧ (∀ r, R[p.1]? = some r → r p.2 = 1 ∧ ∀ j, j < p.2 → r j = 0) ∧ ∀ i r, i ≠ p.1 → R[i]? = some r → r p.2 = 0
  rows : (D.map (·.1)).Nodup
  cols : (D.map (·.2)).Nodup
  free : ∀ i r, R[i]? = some r → i ∉ D.map (·.1) → ∀ j, j < c → r j = 0
theorem El.start (n : Nat) (R : List Row) : El n R R [] 0 := ⟨rfl, fun _ => Iff.rfl, fun r h => cmb_mem h, (fun p h => by cases h), List.nodup_nil, List.nodup_nil, fun i r _ _ j hj => by omega⟩
/-- no pivot in a column -/
theorem El.skip {n : Nat} {R0 R : List Row} {D : List (Nat × Nat)} {c : Nat} (h : El n R0 R D c) (hz : ∀ i r, R[i]? = some r → i ∉ D.map (·.1) → r c = 0) : El n R0 R D (c + 1) :=
  ⟨h.len, h.ker, h.cmb, fun p hp => let ⟨a, b, d⟩ := h.one p hp; ⟨a, by omega, d⟩, h.rows, h.cols, fun i r hi hn j hj => by
    by_cases e : j = c
    · subst e; exact hz i r hi hn
    · exact h.free i r hi hn j (by omega)⟩
/-- elimination with row t in column c -/
def elim (R : List Row) (t c : Nat) : List Row :=
  R.mapIdx fun i r => if i = t then (fun j => r j / r c) else fun j => r j - r c * ((R.getD t fun _ => 0) j / (R.getD t fun _ => 0) c)
theorem elim_len (R : List Row) (t c : Nat) : (elim R t c).length = R.length := by simp [elim]
theorem elim_get (R : List Row) (t c i : Nat) : (elim R t c)[i]? = (R[i]?).map fun r => if i = t then (fun j => r j / r c) else fun j => r j - r c * ((R.getD t fun _ => 0) j / (R.getD t fun _ => 0) c) := by
  simp [elim, List.getElem?_mapIdx]
theorem sm_row {n : Nat} {r s z : Row} (a b : Rat) : sm n (fun j => (a * r j + b * s j) * z j) = a * sm n (fun j => r j * z j) + b * sm n (fun j => s j * z j) := by
  rw [← sm_mul, ← sm_mul, ← sm_add]
  exact sm_congr fun i _ => by grind
theorem elim_ker {n : Nat} {R : List Row} {t c : Nat} {p : Row} (ht : R[t]? = some p) (h0 : p c ≠ 0) (z : Row) : Ker n (elim R t c) z ↔ Ker n R z := by
  have gd : (R.getD t fun _ => 0) = p := by simp [List.getD, ht]
  have pz : ∀ r : Row, sm (n + 1) (fun j => (r j / r c) * z j) = (r c)⁻¹ * sm (n + 1) (fun j => r j * z j) := fun r => by
    rw [← sm_mul]
    exact sm_congr fun i _ => by rw [Rat.div_def]; grind
  constructor
  · intro h r hr
    obtain ⟨i, hi⟩ := List.getElem?_of_mem hr
    have hp : sm (n + 1) (fun j => p j * z j) = 0 := by
      have := h _ (List.mem_of_getElem? (show (elim R t c)[t]? = some (fun j => p j / p c) by rw [elim_get, ht]; simp))
      rw [pz] at this
      have q : p c * ((p c)⁻¹ * sm (n + 1) fun j => p j * z j) = 0 := by rw [this]; grind
      rw [← Rat.mul_assoc, Rat.mul_inv_cancel _ h0] at q
      grind
    by_cases e : i = t
    · subst e
      rw [ht] at hi
      cases hi
      exact hp
    · have := h _ (List.mem_of_getElem? (show (elim R t c)[i]? = some (fun j => r j - r c * (p j / p c)) by rw [elim_get, hi, gd]; simp [e]))
      have q : sm (n + 1) (fun j => (r j - r c * (p j / p c)) * z j) = sm (n + 1) (fun j => r j * z j) - r c * ((p c)⁻¹ * sm (n + 1) fun j => p j * z j) := by
        rw [← pz, ← sm_mul, ← sm_sub]
        exact sm_congr fun i _ => by grind
      rw [q, hp] at this
      grind
  · intro h r hr
    obtain ⟨i, hi⟩ := List.getElem?_of_mem hr
    rw [elim_get] at hi
    simp only [Option.map_eq_some_iff] at hi
    obtain ⟨r0, h1, rfl⟩ := hi
    have hr0 := h r0 (List.mem_of_getElem? h1)
    have hp := h p (List.mem_of_getElem? ht)
    split
    · rw [pz, hr0]; grind
    · rw [gd]
      have q : sm (n + 1) (fun j => (r0 j - r0 c * (p j / p c)) * z j) = sm (n + 1) (fun j => r0 j * z j) - r0 c * ((p c)⁻¹ * sm (n + 1) fun j => p j * z j) := by
        rw [← pz, ← sm_mul, ← sm_sub]
        exact sm_congr fun i _ => by grind
      rw [q, hr0, hp]
      grind
theorem El.step {n : Nat} {R0 R : List Row} {D : List (Nat × Nat)} {c t : Nat} {p : Row} (h : El n R0 R D c) (hc : c < n) (ht : R[t]? = some p) (hn : t ∉ D.map (·.1)) (h0 : p c ≠ 0) : El n R0 (elim R t c) (D ++ [(t, c)]) (c + 1) := by
  have gd : (R.getD t fun _ => 0) = p := by simp [List.getD, ht]
  have tl : t < R.length := (List.getElem?_eq_some_iff.mp ht).1
  have pz : ∀ j, j < c → p j = 0 := h.free t p ht hn
  refine ⟨by rw [elim_len, h.len], fun z => (elim_ker ht h0 z).trans (h.ker z), fun r hr => ?_, ?_, ?_, ?_, ?_⟩
  · obtain ⟨i, hi⟩ := List.getElem?_of_mem hr
    rw [elim_get] at hi
    simp only [Option.map_eq_some_iff] at hi
    obtain ⟨r0, h1, rfl⟩ := hi
    have c1 := h.cmb r0 (List.mem_of_getElem? h1)
    have c2 := h.cmb p (List.mem_of_getElem? ht)
    split
    · exact cmb_lin ((r0 c)⁻¹) 0 c1 c1 fun j _ => by rw [Rat.div_def]; grind
    · rw [gd]
      exact cmb_lin 1 (- (r0 c * (p c)⁻¹)) c1 c2 fun j _ => by rw [Rat.div_def]; grind
  · intro q hq
    rw [elim_len]
    rcases List.mem_append.mp hq with hq | hq
    · obtain ⟨a1, a2, a3, a4⟩ := h.one q hq
      have qt : q.1 ≠ t := fun e => hn (by rw [← e]; exact List.mem_map_of_mem hq)
      have pq : p q.2 = 0 := pz _ a2
      refine ⟨a1, by omega, fun r hr => ?_, fun i r hi hr => ?_⟩
      · rw [elim_get] at hr
        simp only [Option.map_eq_some_iff] at hr
        obtain ⟨r0, h1, rfl⟩ := hr
        obtain ⟨b1, b2⟩ := a3 r0 h1
        rw [if_neg qt, gd]
        refine ⟨by rw [pq, b1, Rat.div_def]; grind, fun j hj => ?_⟩
        rw [b2 j hj, pz j (by omega), Rat.div_def]
        grind
      · rw [elim_get] at hr
        simp only [Option.map_eq_some_iff] at hr
        obtain ⟨r0, h1, rfl⟩ := hr
        have := a4 i r0 hi h1
        split
        · show r0 q.2 / r0 c = 0
          rw [this, Rat.div_def]; grind
        · rw [gd]
          show r0 q.2 - r0 c * (p q.2 / p c) = 0
          rw [pq, this, Rat.div_def]; grind
    · obtain rfl : q = (t, c) := by simpa using hq
      refine ⟨tl, by show c < c + 1; omega, fun r hr => ?_, fun i r hi hr => ?_⟩
      · rw [elim_get] at hr
        simp only [Option.map_eq_some_iff] at hr
        obtain ⟨r0, h1, rfl⟩ := hr
        have h1' : R[t]? = some r0 := h1
        rw [ht] at h1'
        cases h1'
        simp only [if_true]
        refine ⟨?_, fun j hj => ?_⟩
        · show p c / p c = 1
          rw [Rat.div_def]; exact Rat.mul_inv_cancel _ h0
        · show p j / p c = 0
          rw [pz j hj, Rat.div_def]; grind
      · rw [elim_get] at hr
        simp only [Option.map_eq_some_iff] at hr
        obtain ⟨r0, h1, rfl⟩ := hr
        rw [if_neg hi, gd]
        show r0 c - r0 c * (p c / p c) = 0
        rw [Rat.div_def, Rat.mul_inv_cancel _ h0]
        grind
  · rw [List.map_append, List.nodup_append]
    refine ⟨h.rows, by simp, fun a ha b hb => ?_⟩
    obtain rfl : b = t := by simpa using hb
    exact fun e => hn (e ▸ ha)
  · rw [List.map_append, List.nodup_append]
    refine ⟨h.cols, by simp, fun a ha b hb => ?_⟩
    obtain rfl : b = c := by simpa using hb
    obtain ⟨q, hq, rfl⟩ := List.mem_map.mp ha
    have := (h.one q hq).2.1
    omega
  · intro i r hr hi j hj
    rw [List.map_append, List.mem_append, not_or] at hi
    have it : i ≠ t := fun e => hi.2 (by simp [e])
    rw [elim_get] at hr
    simp only [Option.map_eq_some_iff] at hr
    obtain ⟨r0, h1, rfl⟩ := hr
    rw [if_neg it, gd]
    have f0 := h.free i r0 h1 hi.1
    by_cases e : j = c
    · subst e
      show r0 j - r0 j * (p j / p j) = 0
      rw [Rat.div_def, Rat.mul_inv_cancel _ h0]
      grind
    · show r0 j - r0 c * (p j / p c) = 0
      rw [f0 j (by omega), pz j (by omega), Rat.div_def]
      grind
/-- two rows that are no pivots' are exchanged -/
theorem El.swap {n : Nat} {R0 R : List Row} {D : List (Nat × Nat)} {c a b : Nat} {ra rb : Row} (h : El n R0 R D c) (ha : R[a]? = some ra) (hb : R[b]? = some rb) (na : a ∉ D.map (·.1)) (nb : b ∉ D.map (·.1)) : El n R0 ((R.set a rb).set b ra) D c := by
  have la : a < R.length := (List.getElem?_eq_some_iff.mp ha).1
  have lb : b < R.length := (List.getElem?_eq_some_iff.mp hb).1
  have gt : ∀ i, ((R.set a rb).set b ra)[i]? = if i = b then some ra else if i = a then some rb else R[i]? := fun i => by
    rw [List.getElem?_set, List.getElem?_set]
    by_cases e1 : b = i
    · subst e1; simp [lb]
    · have e1' : ¬ i = b := fun z => e1 z.symm
      by_cases e2 : a = i
      · subst e2; simp [e1, e1', la]
      · have e2' : ¬ i = a := fun z => e2 z.symm
        simp [e1, e1', e2, e2']
  have mem : ∀ r, r ∈ ((R.set a rb).set b ra) ↔ r ∈ R := fun r => by
    constructor
    · intro m
      obtain ⟨i, hi⟩ := List.getElem?_of_mem m
      rw [gt] at hi
      split at hi
      · cases hi; exact List.mem_of_getElem? ha
      · split at hi
        · cases hi; exact List.mem_of_getElem? hb
        · exact List.mem_of_getElem? hi
    · intro m
      obtain ⟨i, hi⟩ := List.getElem?_of_mem m
      by_cases e1 : i = a
      · subst e1
        rw [ha] at hi
        cases hi
        exact List.mem_of_getElem? (show ((R.set i rb).set b ra)[b]? = some ra by rw [gt]; simp)
      · by_cases e2 : i = b
        · subst e2
          rw [hb] at hi
          cases hi
          refine List.mem_of_getElem? (i := a) ?_
          rw [gt]
          by_cases e3 : a = i
          · exact absurd e3.symm e1
          · simp [e3]
        · refine List.mem_of_getElem? (i := i) ?_
          rw [gt]
          simp [e1, e2, hi]
  refine ⟨by simp [h.len], fun z => Iff.trans ?_ (h.ker z), fun r hr => h.cmb r ((mem r).mp hr), fun q hq => ?_, h.rows, h.cols, fun i r hr hi => ?_⟩
  · exact ⟨fun k r hr => k r ((mem r).mpr hr), fun k r hr => k r ((mem r).mp hr)⟩
  · obtain ⟨a1, a2, a3, a4⟩ := h.one q hq
    have qa : q.1 ≠ a := fun e => na (by rw [← e]; exact List.mem_map_of_mem hq)
    have qb : q.1 ≠ b := fun e => nb (by rw [← e]; exact List.mem_map_of_mem hq)
    refine ⟨by simpa using a1, a2, fun r hr => ?_, fun i r hi hr => ?_⟩
    · rw [gt, if_neg qb, if_neg qa] at hr
      exact a3 r hr
    · rw [gt] at hr
      split at hr
      · cases hr; exact a4 a ra (fun e => qa e.symm) ha
      · split at hr
        · cases hr; exact a4 b rb (fun e => qb e.symm) hb
        · exact a4 i r hi hr
  · rw [gt] at hr
    split at hr
    · cases hr; exact h.free a ra ha na
    · split at hr
      · cases hr; exact h.free b rb hb nb
      · exact h.free i r hr hi
/-! what is told by the pivots -/
def Dep (n : Nat) (R : List Row) (j : Nat) : Prop := ∃ v : Row, Ker n R v ∧ v n = 0 ∧ v j = 1 ∧ ∀ i, j < i → v i = 0
/-- the value of a pivot's column -/
def pv (R : List Row) (D : List (Nat × Nat)) (k j : Nat) : Rat := match D.find? fun p => p.2 == j with
  | some p => (R.getD p.1 fun _ => 0) k
  | none => 0
theorem pv_at {R : List Row} {D : List (Nat × Nat)} (hn : (D.map (·.2)).Nodup) {p : Nat × Nat} (hp : p ∈ D) (k : Nat) : pv R D k p.2 = (R.getD p.1 fun _ => 0) k := by
  unfold pv
  have : D.find? (fun q => q.2 == p.2) = some p := by
    induction D with
    | nil => cases hp
    | cons q D ih =>
      rw [List.map_cons, List.nodup_cons] at hn
      rcases List.mem_cons.mp hp with rfl | hp
      · simp
      · have : q.2 ≠ p.2 := fun e => hn.1 (by rw [e]; exact List.mem_map_of_mem hp)
        rw [List.find?_cons_of_neg (by simpa using this)]
        exact ih hn.2 hp
  rw [this]
theorem pv_not {R : List Row} {D : List (Nat × Nat)} {k j : Nat} (h : j ∉ D.map (·.2)) : pv R D k j = 0 := by
  unfold pv
  rw [List.find?_eq_none.mpr fun p hp => by
    simp only [beq_iff_eq]
    exact fun e => h (by rw [← e]; exact List.mem_map_of_mem hp)]
theorem El.row_sum {n : Nat} {R0 R : List Row} {D : List (Nat × Nat)} {c : Nat} (h : El n R0 R D c) (hc : c ≤ n) {i : Nat} {r : Row} (hr : R[i]? = some r) (k : Nat) : sm n (fun j => r j * pv R D k j) = if i ∈ D.map (·.1) then r k else 0 := by
  have gd : (R.getD i fun _ => 0) = r := by simp [List.getD, hr]
  split
  · rename_i hi
    obtain ⟨p, hp, e⟩ := List.mem_map.mp hi
    obtain ⟨a1, a2, a3, a4⟩ := h.one p hp
    subst e
    rw [sm_one (k := p.2) (by omega) fun j hj hne => ?_]
    · rw [pv_at h.cols hp, (a3 r hr).1, gd]; grind
    · by_cases hj2 : j ∈ D.map (·.2)
      · obtain ⟨q, hq, e⟩ := List.mem_map.mp hj2
        have : q.1 ≠ p.1 := fun e2 => by
          have nd := h.rows
          have : q = p := by
            obtain ⟨x, hx⟩ := List.getElem?_of_mem hq
            obtain ⟨y, hy⟩ := List.getElem?_of_mem hp
            obtain ⟨hx1, hx2⟩ := List.getElem?_eq_some_iff.mp hx
            obtain ⟨hy1, hy2⟩ := List.getElem?_eq_some_iff.mp hy
            have nd' := List.pairwise_iff_getElem.mp nd
            rcases Nat.lt_trichotomy x y with z | z | z
            · exact absurd (show (D.map (·.1))[x]'(by simpa using hx1) = (D.map (·.1))[y]'(by simpa using hy1) by simp [hx2, hy2, e2]) (nd' x y (by simpa using hx1) (by simpa using hy1) z)
            · subst z; rw [← hx2, ← hy2]
            · exact absurd (show (D.map (·.1))[y]'(by simpa using hy1) = (D.map (·.1))[x]'(by simpa using hx1) by simp [hx2, hy2, e2]) (nd' y x (by simpa using hy1) (by simpa using hx1) z)
          exact hne (by rw [← e, this])
        have z := (h.one q hq).2.2.2 p.1 r (fun e2 => this e2.symm) hr
        rw [← e, z]; grind
      · rw [pv_not hj2]; grind
  · rename_i hi
    refine sm_zero fun j hj => ?_
    by_cases hj2 : j ∈ D.map (·.2)
    · obtain ⟨q, hq, e⟩ := List.mem_map.mp hj2
      have : i ≠ q.1 := fun e2 => hi (by rw [e2]; exact List.mem_map_of_mem hq)
      have z := (h.one q hq).2.2.2 i r this hr
      rw [← e, z]; grind
    · rw [pv_not hj2]; grind
theorem El.dep {n : Nat} {R0 R : List Row} {D : List (Nat × Nat)} (h : El n R0 R D n) {j : Nat} (hj : j < n) (hn : j ∉ D.map (·.2)) : Dep n R0 j := by
  refine ⟨fun i => if i = n then 0 else if i = j then 1 else - pv R D j i, ?_, by simp, by simp [Nat.ne_of_lt hj], fun i hi => ?_⟩
  · rw [← h.ker]
    intro r hr
    obtain ⟨i, hi⟩ := List.getElem?_of_mem hr
    have rs := h.row_sum (Nat.le_refl _) hi j
    have e1 : sm n (fun k => r k * (if k = n then 0 else if k = j then 1 else - pv R D j k)) = r j - sm n (fun k => r k * pv R D j k) := by
      have : sm n (fun k => if k = j then r j else 0) = r j := by
        rw [sm_one hj fun i _ hi => by simp [hi]]; simp
      rw [← this, ← sm_sub]
      refine sm_congr fun k hk => ?_
      have kn : k ≠ n := by omega
      by_cases e : k = j
      · subst e
        rw [pv_not hn]
        simp [kn]
        grind
      · simp [kn, e]
        grind
    show sm n _ + r n * (if n = n then (0 : Rat) else _) = 0
    rw [if_pos rfl, e1, rs]
    split
    · grind
    · rename_i hni
      rw [h.free i r hi hni j hj]; grind
  · by_cases e : i = n
    · simp [e]
    · have e2 : i ≠ j := by omega
      simp only [e, e2, if_false]
      by_cases hi2 : i ∈ D.map (·.2)
      · obtain ⟨q, hq, e3⟩ := List.mem_map.mp hi2
        rw [← e3, pv_at h.cols hq]
        obtain ⟨a1, a2, a3, a4⟩ := h.one q hq
        have hr : R[q.1]? = some R[q.1] := List.getElem?_eq_getElem a1
        have := (a3 _ hr).2 j (by omega)
        simp [List.getD, hr, this]
      · rw [pv_not hi2]; grind
theorem El.indep {n : Nat} {R0 R : List Row} {D : List (Nat × Nat)} (h : El n R0 R D n) {p : Nat × Nat} (hp : p ∈ D) {v : Row} (hv : Ker n R0 v) (hn : v n = 0) (hi : ∀ i, p.2 < i → i < n → v i = 0) : v p.2 = 0 := by
  obtain ⟨a1, a2, a3, a4⟩ := h.one p hp
  have hr : R[p.1]? = some R[p.1] := List.getElem?_eq_getElem a1
  obtain ⟨b1, b2⟩ := a3 _ hr
  have k := (h.ker v).mpr hv _ (List.mem_of_getElem? hr)
  have k : sm n (fun j => R[p.1] j * v j) + R[p.1] n * v n = 0 := k
  rw [sm_one a2 fun j hj hne => ?_] at k
  · rw [b1, hn] at k; grind
  · rcases Nat.lt_or_ge j p.2 with z | z
    · rw [b2 j z]; grind
    · rw [hi j (by omega) hj]; grind
/-- the told solution: each unknown that depends on those ahead is nothing -/
structure Canon (n : Nat) (R : List Row) (x : Row) : Prop where
  sol : ∀ r ∈ R, sm n (fun j => r j * x j) = r n
  dep : ∀ j, j < n → Dep n R j → x j = 0
theorem ker_sol {n : Nat} {R : List Row} {x : Row} : (∀ r ∈ R, sm n (fun j => r j * x j) = r n) ↔ Ker n R fun j => if j = n then -1 else x j := by
  have e : ∀ r : Row, sm (n + 1) (fun j => r j * (if j = n then -1 else x j)) = sm n (fun j => r j * x j) - r n := fun r => by
    show sm n _ + r n * (if n = n then (-1 : Rat) else _) = _
    rw [if_pos rfl, sm_congr (g := fun j => r j * x j) fun j hj => by simp [Nat.ne_of_lt hj]]
    grind
  constructor
  · intro h r hr
    rw [e, h r hr]; grind
  · intro h r hr
    have := h r hr
    rw [e] at this
    grind
/-- what elimination tells: a solution, where each row without a pivot has nothing at its right side -/
theorem El.canon {n : Nat} {R0 R : List Row} {D : List (Nat × Nat)} (h : El n R0 R D n) (h0 : ∀ i r, R[i]? = some r → i ∉ D.map (·.1) → r n = 0) : Canon n R0 (pv R D n) := by
  refine ⟨?_, fun j hj hd => ?_⟩
  · rw [ker_sol, ← h.ker, ← ker_sol]
    intro r hr
    obtain ⟨i, hi⟩ := List.getElem?_of_mem hr
    rw [h.row_sum (Nat.le_refl _) hi n]
    split
    · rfl
    · rename_i hn
      exact (h0 i r hi hn).symm
  · by_cases hm : j ∈ D.map (·.2)
    · obtain ⟨p, hp, rfl⟩ := List.mem_map.mp hm
      obtain ⟨v, v1, v2, v3, v4⟩ := hd
      have := h.indep hp v1 v2 fun i hi _ => v4 i hi
      rw [v3] at this
      exact absurd this (by decide)
    · exact pv_not hm
/-- .. else there is none, and a sum of rows tells it -/
theorem El.none {n : Nat} {R0 R : List Row} {D : List (Nat × Nat)} (h : El n R0 R D n) {i : Nat} {r : Row} (hi : R[i]? = some r) (hn : i ∉ D.map (·.1)) (h0 : r n ≠ 0) : (∀ x : Row, ¬ ∀ r ∈ R0, sm n (fun j => r j * x j) = r n) ∧
    ∃ y : Nat → Rat, (∀ j, j < n → sm R0.length (fun i => y i * (R0.getD i fun _ => 0) j) = 0) ∧ sm R0.length (fun i => y i * (R0.getD i fun _ => 0) n) ≠ 0 := by
  have z := h.free i r hi hn
  constructor
  · intro x hx
    rw [ker_sol, ← h.ker, ← ker_sol] at hx
    have := hx r (List.mem_of_getElem? hi)
    rw [sm_zero fun j hj => by rw [z j hj]; grind] at this
    exact h0 this.symm
  · obtain ⟨y, hy⟩ := h.cmb r (List.mem_of_getElem? hi)
    refine ⟨y, fun j hj => ?_, ?_⟩
    · rw [← hy j (by omega), z j hj]
    · rw [← hy n (Nat.le_refl _)]
      exact h0
/-- there is one told solution at most -/
theorem canon_one {n : Nat} {R : List Row} {D : List (Nat × Nat)} {R1 : List Row} (h : El n R R1 D n) {x y : Row} (hx : Canon n R x) (hy : Canon n R y) : ∀ j, j < n → x j = y j := by
  have key : ∀ k, k ≤ n → ∀ j, n - k ≤ j → j < n → x j - y j = 0 := by
    intro k
    induction k with
    | zero => intro _ j h1 h2; omega
    | succ k ih =>
      intro hk j h1 h2
      have ih := ih (by omega)
      by_cases e : n - k ≤ j
      · exact ih j e h2
      · have hj : j = n - (k + 1) := by omega
        by_cases hm : j ∈ D.map (·.2)
        · obtain ⟨p, hp, e2⟩ := List.mem_map.mp hm
          have hv : Ker n R fun i => if i = n then 0 else x i - y i := by
            intro r hr
            show sm n _ + r n * (if n = n then (0 : Rat) else _) = 0
            rw [if_pos rfl, sm_congr (g := fun i => r i * x i - r i * y i) fun i hi => by simp only [Nat.ne_of_lt hi, if_false]; grind, sm_sub, hx.sol r hr, hy.sol r hr]
            grind
          have := h.indep hp hv (by simp) fun i hi hin => by
            simp only [Nat.ne_of_lt hin, if_false]
            exact ih i (by omega) hin
          rw [e2] at this
          simpa [Nat.ne_of_lt h2] using this
        · have hd := h.dep h2 hm
          rw [hx.dep j h2 hd, hy.dep j h2 hd]
          grind
  intro j hj
  have := key n (Nat.le_refl _) j (by omega) hj
  grind
end M

end
section
set_option Elab.async false
set_option linter.all false
set_option maxRecDepth 100000
/-! A1: rows of fractions as data; elimination as the program does it. -/
namespace M
open PySem PySem.Spec PyProof.Rows L2 VL
abbrev lR (r : List Rat) : PyData := .list (r.map rD)
abbrev tR (r : List Rat) : PyData := .tuple (r.map rD)
abbrev rws (R : List (List Rat)) : SV := .own (R.map fun r => SV.d (lR r))
def en (R : List (List Rat)) (i j : Nat) : Rat := (R.getD i []).getD j 0
def lrow (r : List Rat) : Row := fun j => r.getD j 0
/-- rows of one width, of sizes below b -/
structure Mx (w b : Nat) (R : List (List Rat)) : Prop where
  wid : ∀ r ∈ R, r.length = w
  sz : ∀ r ∈ R, ∀ x ∈ r, Sz b x
theorem Mx.mono {w b c : Nat} {R : List (List Rat)} (h : Mx w b R) (l : b ≤ c) : Mx w c R := ⟨h.wid, fun r m x k => (h.sz r m x k).mono l⟩
theorem getD_mem {α : Type} {l : List α} {i : Nat} {d : α} (h : i < l.length) : l.getD i d ∈ l := by
  simp only [List.getD, List.getElem?_eq_getElem h, Option.getD_some]
  exact List.getElem_mem h
theorem getD_eq {α : Type} {l : List α} {i : Nat} {d : α} (h : i < l.length) : l.getD i d = l[i] := by
  simp [List.getD, h]
theorem atI_getD {α β : Type} (f : α → β) (l : List α) {i : Nat} (d : α) (h : i < l.length) : atI (l.map f) (i : Int) = some (f (l.getD i d)) := by
  have e : ixN (l.map f).length (i : Int) = some i := by
    unfold ixN
    simp
    omega
  unfold atI
  rw [e]
  simp [getD_eq h, h]
theorem ix_rws (S : Sto) {R : List (List Rat)} {i : Nat} (h : i < R.length) : gIxB S (rws R) (nI i) = some (.d (lR (R.getD i []))) := atI_getD (fun r => SV.d (lR r)) R [] h
theorem ix_rwsV (S : Sto) {R : List (List Rat)} {i : Nat} (h : i < R.length) : gIx S (rws R) (nI i) = some (.d (lR (R.getD i []))) := by
  show (atI (R.map fun r => SV.d (lR r)) (i : Int)).bind _ = _
  rw [atI_getD (fun r => SV.d (lR r)) R [] h]
  rfl
theorem ix_lR (S : Sto) {r : List Rat} {j : Nat} (h : j < r.length) : gIxB S (.d (lR r)) (nI j) = some (rS (r.getD j 0)) := by
  show atI ((r.map rD).map SV.d) (j : Int) = _
  rw [List.map_map]
  exact atI_getD rS r 0 h
theorem ix_lRV (S : Sto) {r : List Rat} {j : Nat} (h : j < r.length) : gIx S (.d (lR r)) (nI j) = some (rS (r.getD j 0)) := by
  show (atI ((r.map rD).map SV.d) (j : Int)).bind _ = _
  rw [List.map_map]
  have := atI_getD rS r 0 h
  rw [show (atI (List.map (SV.d ∘ rD) r) (j : Int)) = some (rS (r.getD j 0)) from this]
  rfl
theorem ix_num (S : Sto) (x : Rat) : gIxB S (rS x) (.d (.int 0)) = some (.d (.int x.num)) := rfl
theorem seq_lR (S : Sto) (r : List Rat) : seq? S (.d (lR r)) = some (r.map rS) := by
  show some ((r.map rD).map SV.d) = _
  rw [List.map_map]
  rfl
theorem num_zero (x : Rat) : (x.num == 0) = decide (x = 0) := by
  by_cases h : x = 0
  · subst h; rfl
  · rw [decide_eq_false h]
    exact beq_eq_false_iff_ne.mpr fun e => h (Rat.num_eq_zero.mp e)
theorem ne0_num (S : Sto) (x : Rat) : gNe S (.d (.int x.num)) (.d (.int 0)) = some (!decide (x = 0)) := by
  rw [gNe_i, num_zero]
/-- R[i][j][0] != 0 -/
theorem b_en {ρ : Rho} {S : Sto} {R : List (List Rat)} {w b i j : Nat} {fi fj : Rho → Mo SV} {k : Nat} (hM : Mx w b R) (hR : ρ[k]? = some (some (rws R))) (hi : fi ρ S = some (.ok (nI i) S)) (hj : fj ρ S = some (.ok (nI j) S)) (h1 : i < R.length) (h2 : j < w) :
    (bB (eBin (cB gNe) (eBin gIxB (eBin gIxB (eBin gIxB (eVar k) fi) fj) (eCon (.int 0))) (eCon (.int 0)))) ρ S = some (.ok (!decide (en R i j = 0)) S) :=
  b_cmp (e_bin (e_bin (e_bin (e_var hR) hi (ix_rws S h1)) hj (ix_lR S (by rw [hM.wid _ (getD_mem h1)]; exact h2))) rfl rfl) rfl (ne0_num S _)
theorem e_en {ρ : Rho} {S : Sto} {R : List (List Rat)} {w b i j : Nat} {fi fj : Rho → Mo SV} {k : Nat} (hM : Mx w b R) (hR : ρ[k]? = some (some (rws R))) (hi : fi ρ S = some (.ok (nI i) S)) (hj : fj ρ S = some (.ok (nI j) S)) (h1 : i < R.length) (h2 : j < w) :
    (eBin gIx (eBin gIxB (eVar k) fi) fj) ρ S = some (.ok (rS (en R i j)) S) :=
  e_bin (e_bin (e_var hR) hi (ix_rws S h1)) hj (ix_lRV S (by rw [hM.wid _ (getD_mem h1)]; exact h2))
/-! elimination -/
def swapL (R : List (List Rat)) (a b : Nat) : List (List Rat) := (R.set a (R.getD b [])).set b (R.getD a [])
def divL (r : List Rat) (c : Rat) : List Rat := r.map fun x => x / c
def subL (r : List Rat) (f : Rat) (p : List Rat) : List Rat := (r.zip p).map fun q => q.1 - f * q.2
def elimL (R : List (List Rat)) (t c : Nat) : List (List Rat) := R.mapIdx fun i r => if i = t then divL r (r.getD c 0) else if r.getD c 0 = 0 then r else subL r (r.getD c 0) (divL (R.getD t []) (en R t c))
def findP (R : List (List Rat)) (c : Nat) (l : List Nat) : Option Nat := l.find? fun i => decide (¬ en R i c = 0)
def stepP (st : List (List Rat) × List Nat) (c : Nat) : List (List Rat) × List Nat := match findP st.1 c (List.range' st.2.length (st.1.length - st.2.length)) with
  | some f => (elimL (swapL st.1 st.2.length f) st.2.length c, st.2 ++ [c])
  | none => st
theorem Mx.swap {w b a c : Nat} {R : List (List Rat)} (h : Mx w b R) (ha : a < R.length) (hc : c < R.length) : Mx w b (swapL R a c) := by
  have m : ∀ r ∈ swapL R a c, r ∈ R := fun r hr => by
    rcases List.mem_or_eq_of_mem_set hr with hr | rfl
    · rcases List.mem_or_eq_of_mem_set hr with hr | rfl
      · exact hr
      · exact getD_mem hc
    · exact getD_mem ha
  exact ⟨fun r hr => h.wid r (m r hr), fun r hr => h.sz r (m r hr)⟩
theorem swapL_len (R : List (List Rat)) (a b : Nat) : (swapL R a b).length = R.length := by simp [swapL]
theorem elimL_len (R : List (List Rat)) (t c : Nat) : (elimL R t c).length = R.length := by simp [elimL]
theorem divL_len (r : List Rat) (c : Rat) : (divL r c).length = r.length := by simp [divL]
theorem subL_len {r p : List Rat} (f : Rat) (h : r.length = p.length) : (subL r f p).length = r.length := by simp [subL, h]
theorem Mx.elim {w b t c : Nat} {R : List (List Rat)} (h : Mx w b R) (ht : t < R.length) (hc : c < w) (h0 : en R t c ≠ 0) : Mx w (4 * b + 1) (elimL R t c) := by
  have hp := getD_mem (d := []) ht
  have lp : (R.getD t []).length = w := h.wid _ hp
  have lead : Sz b (en R t c) := h.sz _ hp _ (getD_mem (by omega))
  have dv : ∀ r ∈ R, ∀ l, Sz b l → l ≠ 0 → ∀ x ∈ divL r l, Sz (2 * b) x := fun r hr l hl h0 x hx => by
    obtain ⟨y, hy, rfl⟩ := List.mem_map.mp hx
    exact ((h.sz r hr y hy).div hl h0).mono (by omega)
  constructor
  · intro r hr
    obtain ⟨i, hi, rfl⟩ := List.mem_mapIdx.mp hr
    have l := h.wid _ (List.getElem_mem hi)
    split
    · rw [divL_len]; exact l
    · split
      · exact l
      · rw [subL_len _ (by rw [divL_len, lp, l])]; exact l
  · intro r hr x hx
    obtain ⟨i, hi, rfl⟩ := List.mem_mapIdx.mp hr
    have hm := List.getElem_mem hi
    split at hx
    · rename_i e
      subst e
      have : en R i c = R[i].getD c 0 := by unfold en; rw [getD_eq hi]
      rw [this] at lead h0
      exact (dv _ hm _ lead h0 x hx).mono (by omega)
    · split at hx
      · exact (h.sz _ hm x hx).mono (by omega)
      · obtain ⟨q, hq, rfl⟩ := List.mem_map.mp hx
        have q1 := (List.of_mem_zip hq).1
        have q2 := (List.of_mem_zip hq).2
        have f := h.sz _ hm _ (getD_mem (d := 0) (show c < R[i].length by rw [h.wid _ hm]; exact hc))
        exact ((h.sz _ hm _ q1).sub (f.mul (dv _ hp _ lead h0 _ q2))).mono (by omega)
def bnd (b c : Nat) : Nat := 4 ^ c * (b + 1) - 1
theorem bnd_step (b c : Nat) : 4 * bnd b c + 1 ≤ bnd b (c + 1) := by
  unfold bnd
  have : 0 < 4 ^ c * (b + 1) := Nat.mul_pos (Nat.pow_pos (by omega)) (by omega)
  rw [Nat.pow_succ, Nat.mul_comm (4 ^ c) 4, Nat.mul_assoc]
  omega
theorem bnd_le {b c n : Nat} (h : c ≤ n) : bnd b c ≤ bnd b n := by
  unfold bnd
  have := Nat.mul_le_mul_right (b + 1) (Nat.pow_le_pow_right (show 0 < 4 by omega) h)
  omega
theorem findP_some {R : List (List Rat)} {c : Nat} {l : List Nat} {f : Nat} (h : findP R c l = some f) : f ∈ l ∧ en R f c ≠ 0 := by
  have := List.find?_some h
  exact ⟨List.mem_of_find?_eq_some h, by simpa using this⟩
theorem en_swap {R : List (List Rat)} {a f c : Nat} (ha : a < R.length) (hf : f < R.length) : en (swapL R a f) a c = en R f c := by
  unfold en swapL
  congr 1
  simp only [List.getD, List.getElem?_set]
  by_cases e : f = a
  · subst e; simp [ha]
  · simp [e, ha]
structure StP (w b m : Nat) (st : List (List Rat) × List Nat) : Prop where
  mx : Mx w b st.1
  len : st.1.length = m
theorem StP.step {w b m c : Nat} {st : List (List Rat) × List Nat} (h : StP w b m st) (hc : c < w) : StP w (4 * b + 1) m (stepP st c) := by
  unfold stepP
  split
  · rename_i f hf
    obtain ⟨f1, f2⟩ := findP_some hf
    rw [List.mem_range'_1] at f1
    have ht : st.2.length < st.1.length := by omega
    have hf' : f < st.1.length := by omega
    exact ⟨(h.mx.swap ht hf').elim (by rw [swapL_len]; exact ht) hc (by rw [en_swap ht hf']; exact f2), by rw [elimL_len, swapL_len]; exact h.len⟩
  · exact ⟨h.mx.mono (by omega), h.len⟩
def redP (R : List (List Rat)) (n : Nat) : List (List Rat) × List Nat := (List.range n).foldl stepP (R, [])
theorem redP_succ (R : List (List Rat)) (n : Nat) : redP R (n + 1) = stepP (redP R n) n := by
  unfold redP
  rw [List.range_succ, List.foldl_append]
  rfl
theorem redP_ok {w b m : Nat} {R : List (List Rat)} (h : Mx w b R) (hl : R.length = m) : ∀ n, n ≤ w → StP w (bnd b n) m (redP R n)
  | 0, _ => ⟨h.mono (by unfold bnd; simp), hl⟩
  | n + 1, hn => by
    rw [redP_succ]
    have := (redP_ok h hl n (by omega)).step (c := n) (by omega)
    exact ⟨this.mx.mono (bnd_step b n), this.len⟩
theorem redP_plen {R : List (List Rat)} : ∀ n, (redP R n).2.length ≤ n
  | 0 => Nat.le_refl _
  | n + 1 => by
    rw [redP_succ]
    have := redP_plen (R := R) n
    unfold stepP
    split
    · simp; omega
    · omega
end M

end
section
set_option Elab.async false
set_option linter.all false
set_option maxRecDepth 100000
/-! A2: the program's elimination, its told solution. -/
namespace M
open PySem PySem.Spec PyProof.Rows L2 VL
def oN : Option Nat → SV
  | none => .d .none
  | some k => nI k
theorem oN_isN (S : Sto) (o : Option Nat) : gIsN S (oN o) (.d .none) = some o.isNone := by cases o <;> rfl
theorem oN_notN (S : Sto) (o : Option Nat) : gNotN S (oN o) (.d .none) = some o.isSome := by cases o <;> rfl
theorem noOwn_oN (o : Option Nat) : noOwn (oN o) = true := by cases o <;> rfl
theorem fold_find {α : Type} (p : α → Bool) : ∀ (l : List α) (o : Option α), l.foldl (fun s i => if s.isNone && p i then some i else s) o = match o with
    | some x => some x
    | none => l.find? p
  | [], none => rfl
  | [], some x => rfl
  | a :: l, some x => by
    rw [List.foldl_cons, fold_find p l]
    rfl
  | a :: l, none => by
    rw [List.foldl_cons, fold_find p l]
    cases h : p a with
    | true => simp [h]
    | false => simp [h]
theorem frz_rS (r : List Rat) : frz (.own (r.map rS)) = some (.d (lR r)) := by
  have := frz_own (r.map rD)
  rw [List.map_map] at this
  exact this
theorem rws_set {R : List (List Rat)} {t : Nat} {r : List Rat} : (.own ((R.map fun r => SV.d (lR r)).set t (.d (lR r))) : SV) = rws (R.set t r) := by
  rw [rws, List.map_set]
/-- the rows behind some of the rows' turns -/
def elimTo (R : List (List Rat)) (t c i : Nat) : List (List Rat) := R.mapIdx fun j r => if j = t then divL r (r.getD c 0) else if j < i ∧ r.getD c 0 ≠ 0 then subL r (r.getD c 0) (divL (R.getD t []) (en R t c)) else r
theorem elimTo_zero {R : List (List Rat)} {t c : Nat} (ht : t < R.length) : elimTo R t c 0 = R.set t (divL (R.getD t []) (en R t c)) := by
  refine List.ext_getElem (by simp [elimTo]) fun i h1 h2 => ?_
  simp only [elimTo, List.getElem_mapIdx, List.getElem_set]
  by_cases e : i = t
  · subst e
    have : R.getD i [] = R[i] := getD_eq (by simpa using h2)
    rw [if_pos rfl, if_pos rfl]
    unfold en
    rw [this]
  · have e' : ¬ t = i := fun z => e z.symm
    simp [e, e']
theorem elimTo_len (R : List (List Rat)) (t c i : Nat) : (elimTo R t c i).length = R.length := by simp [elimTo]
theorem elimTo_all (R : List (List Rat)) (t c : Nat) : elimTo R t c R.length = elimL R t c := by
  refine List.ext_getElem (by simp [elimTo, elimL]) fun i h1 h2 => ?_
  have hi : i < R.length := by simpa [elimTo] using h1
  simp only [elimTo, elimL, List.getElem_mapIdx, hi, true_and]
  by_cases e : i = t
  · simp [e]
  · by_cases h0 : R[i].getD c 0 = 0
    · simp [e, h0]
    · simp [e, h0]
theorem elimTo_succ {R : List (List Rat)} {t c i : Nat} (hi : i < R.length) : elimTo R t c (i + 1) = if i ≠ t ∧ (R[i]).getD c 0 ≠ 0 then (elimTo R t c i).set i (subL R[i] ((R[i]).getD c 0) (divL (R.getD t []) (en R t c))) else elimTo R t c i := by
  have key : ∀ j (hj : j < R.length), (elimTo R t c (i + 1))[j]'(by rw [elimTo_len]; exact hj) = if j = i ∧ i ≠ t ∧ (R[i]).getD c 0 ≠ 0 then subL R[i] ((R[i]).getD c 0) (divL (R.getD t []) (en R t c)) else (elimTo R t c i)[j]'(by rw [elimTo_len]; exact hj) := by
    intro j hj
    simp only [elimTo, List.getElem_mapIdx]
    by_cases e : j = t
    · subst e
      by_cases e2 : j = i
      · simp [e2]
      · simp [e2]
    · by_cases e2 : j = i
      · subst e2
        by_cases h0 : R[j].getD c 0 = 0
        · simp [e, h0]
        · simp [e, h0]
      · have : j < i + 1 ↔ j < i := by omega
        simp [e, e2, this]
  split
  · rename_i h
    refine List.ext_getElem (by simp [elimTo]) fun j h1 h2 => ?_
    rw [List.getElem_set, key j (by simpa [elimTo] using h1)]
    by_cases e : i = j
    · subst e; rw [if_pos ⟨rfl, h⟩, if_pos rfl]
    · rw [if_neg (fun z => e z.1.symm), if_neg e]
  · rename_i h
    refine List.ext_getElem (by simp [elimTo]) fun j h1 h2 => ?_
    rw [key j (by simpa [elimTo] using h1), if_neg (fun z => h z.2)]
theorem elimTo_get {R : List (List Rat)} {t c i : Nat} (hi : i < R.length) (hne : i ≠ t) : (elimTo R t c i)[i]'(by rw [elimTo_len]; exact hi) = R[i] := by
  simp [elimTo, hne]
theorem elimTo_top {R : List (List Rat)} {t c i : Nat} (ht : t < R.length) : (elimTo R t c i)[t]'(by rw [elimTo_len]; exact ht) = divL (R.getD t []) (en R t c) := by
  have h : (elimTo R t c i)[t]'(by rw [elimTo_len]; exact ht) = divL R[t] (R[t].getD c 0) := by simp only [elimTo, List.getElem_mapIdx, if_true]
  have : R.getD t [] = R[t] := getD_eq ht
  rw [h, en, this]
theorem sz_ok {b : Nat} {x : Rat} (h : Sz b x) (hb : b ≤ 6000000) : Ok x := h.ok (by omega)
--# over
/-- [over(x, lead) for x in row] -/
theorem over_lc {ρ : Rho} {S : Sto} {k l : Nat} {it : Rho → Mo (List SV)} {r : List Rat} {c : Rat} {b : Nat} (hi : it ρ S = some (.ok (r.map rS) S)) (hl : r.length ≤ 1000) (hk : k < ρ.length) (hkl : l ≠ k) (hc : ρ[l]? = some (some (rS c))) (h0 : c ≠ 0) (sc : Sz b c) (sr : ∀ x ∈ r, Sz b x) (hb : b ≤ 6000000) :
    (eFrz (eLc it (gNm k) bYes (eCall 2 G.F_over [] (aCons (eVarV k) (aCons (eVarV l) aNil))) [k])) ρ S = some (.ok (.d (lR (divL r c))) S) := by
  have q := lc_map (ρ := ρ) (S := S) (S1 := S) (it := it) (tf := gNm k) (vs := [k]) (elt := (eCall 2 G.F_over [] (aCons (eVarV k) (aCons (eVarV l) aNil)))) r rS (fun x => rS (x / c)) hi (by rw [sizeLine_eq]; omega) fun x hx => ⟨(wipeR ρ [k]).set k (some (rS x)), rfl, e_call (e_cons (e_varV (x := rS x) (by simp [wipeR, hk]) rfl) (e_one (e_varV (x := rS c) (by simp [wipeR, Ne.symm hkl, hc]) rfl))) rfl rfl (over_eq (sz_ok (sr x hx) hb) (sz_ok sc hb) h0 S)⟩
  have f := frz_rS (divL r c)
  rw [divL, List.map_map] at f
  exact e_frz q f
--# minus_times
/-- [minus(x, times(f, y)) for x, y in zip(..)] -/
theorem sub_lc {ρ : Rho} {S : Sto} {j k l : Nat} {fs : Rho → Mo (List SV)} {r p : List Rat} {c : Rat} {b : Nat} (hi : fs ρ S = some (.ok [.d (lR r), .d (lR p)] S)) (hl : r.length ≤ 1000) (hj : j < ρ.length) (hk : k < ρ.length) (hjk : j ≠ k) (hlj : l ≠ j) (hlk : l ≠ k) (hc : ρ[l]? = some (some (rS c))) (sc : Sz b c) (sr : ∀ x ∈ r, Sz b x) (sp : ∀ x ∈ p, Sz (2 * b) x) (hb : b ≤ 6000000) :
    (eFrz (eLc (VL.iZip2 fs) (gTp 2 (gsCons (gNm j) (gsCons (gNm k) gsNil))) bYes (eCall 2 G.F_minus [] (aCons (eVarV j) (aCons (eCall 2 G.F_times [] (aCons (eVarV l) (aCons (eVarV k) aNil))) aNil))) [j, k])) ρ S = some (.ok (.d (lR (subL r c p))) S) := by
  have hz : (VL.iZip2 fs) ρ S = some (.ok ((r.zip p).map fun q => SV.d (.tuple [rD q.1, rD q.2])) S) := by
    unfold iZip2
    rw [hi, VL.bindM_ok]
    have : zipL (r.map rD) (p.map rD) = (r.zip p).map fun q => SV.d (.tuple [rD q.1, rD q.2]) := by
      unfold zipL
      rw [List.zip_map, List.map_map]
      rfl
    simp only [plainL, Option.bind_some, Option.map_some, this]
  have q := lc_map (ρ := ρ) (S := S) (S1 := S) (it := VL.iZip2 fs) (tf := gTp 2 (gsCons (gNm j) (gsCons (gNm k) gsNil))) (vs := [j, k]) (elt := (eCall 2 G.F_minus [] (aCons (eVarV j) (aCons (eCall 2 G.F_times [] (aCons (eVarV l) (aCons (eVarV k) aNil))) aNil)))) (r.zip p) (fun q => SV.d (.tuple [rD q.1, rD q.2])) (fun q => rS (q.1 - c * q.2)) hz (by rw [sizeLine_eq, List.length_zip]; omega) fun q hq => by
    have q1 := sr _ (List.of_mem_zip hq).1
    have q2 := sp _ (List.of_mem_zip hq).2
    refine ⟨((wipeR ρ [j, k]).set j (some (rS q.1))).set k (some (rS q.2)), by simp, ?_⟩
    have e1 := times_eq (sz_ok sc hb) (q2.ok (by omega)) S
    have e2 := minus_eq (sz_ok q1 hb) ((sc.mul q2).ok (by omega)) S
    refine e_call (e_cons (e_varV (x := rS q.1) ?_ rfl) (e_one (e_call (e_cons (e_varV (x := rS c) ?_ rfl) (e_one (e_varV (x := rS q.2) ?_ rfl))) rfl rfl e1))) rfl rfl e2
    · simp [wipeR, hj, Ne.symm hjk]
    · simp [wipeR, Ne.symm hlj, Ne.symm hlk, hc]
    · simp [wipeR, hk]
  have f := frz_rS (subL r c p)
  rw [subL, List.map_map] at f
  exact e_frz q f
--# reduced
theorem reduced_eq {w b m n : Nat} {R : List (List Rat)} {x : SV} {sq : List Rat → PyData} {S : Sto} (hM : Mx w b R) (hm : R.length = m) (hn : n ≤ w) (hw : w ≤ 100) (hm2 : m ≤ 100) (hb : bnd b n ≤ 6000000)
    (hs : (VL.iSeq (eVar 0)) (rho0 12 [x, nI n]) S = some (.ok (R.map fun r => SV.d (sq r)) S)) (hg : ∀ r, gList S [.d (sq r)] = some (.own (r.map rS))) (hx : noOwn x = true) :
    G.F_reduced [x, nI n] S = some (.ok (.d (.tuple [.list ((redP R n).1.map lR), .list ((redP R n).2.map fun k : Nat => .int (k : Int))])) S) := by
  have hz := sizeLine_eq
  unfold G.F_reduced G.f_reduced
  refine run_wp ?_
  refine wp_set (x := rws R) (S1 := S) ?_ ?_
  · refine lc_map R (fun r => SV.d (sq r)) (fun r => SV.d (lR r)) hs (by omega) fun r hr => ⟨_, rfl, e_frz (e_cal (e_one (e_var (by simp [rho0, wipeR]))) (hg r)) (frz_rS r)⟩
  refine wp_set (x := nS []) (S1 := S) (e_lst e_nil (by simp)) ?_
  refine wp_for (xs := (List.range n).map nI) (S1 := S) (fun i ρ S' => S' = S ∧ ∃ s3 s4 s5 s6 s7 s8 s9 s10 s11, ρ = [some (rws (redP R i).1), some (nI n), some (nS (redP R i).2), s3, s4, s5, s6, s7, s8, s9, s10, s11]) (iRng_n rfl (by omega)) ⟨rfl, _, _, _, _, _, _, _, _, _, rfl⟩ ?_ ?_
  · rintro i y hy ρ S' ⟨rfl, s3, s4, s5, s6, s7, s8, s9, s10, s11, rfl⟩
    rw [List.getElem?_map, Option.map_eq_some_iff] at hy
    obtain ⟨c, hc, rfl⟩ := hy
    obtain ⟨hi, rfl⟩ := List.getElem?_eq_some_iff.mp hc
    rw [List.length_range] at hi
    rw [List.getElem_range]
    have hst := redP_ok hM hm i (by omega)
    have pl := redP_plen (R := R) i
    rw [redP_succ]
    have bi : bnd b i ≤ 6000000 := Nat.le_trans (bnd_le (by omega)) hb
    have bi2 := bnd_step b i
    have bi3 : bnd b (i + 1) ≤ 6000000 := Nat.le_trans (bnd_le (by omega)) hb
    generalize redP R i = st at *
    obtain ⟨Q, P⟩ := st
    obtain ⟨qm, ql⟩ := hst
    simp only at qm ql pl
    generalize bnd b i = B at *
    refine ⟨[some (rws Q), some (nI n), some (nS P), some (nI i), s4, s5, s6, s7, s8, s9, s10, s11], rfl, ?_⟩
    refine wp_set (x := nI P.length) (S1 := S') (e_cal (e_one rfl) (by simp)) ?_
    refine wp_set (x := oN none) (S1 := S') rfl ?_
    refine wp_fold nI (List.range' P.length (Q.length - P.length)) (fun s j => if s.isNone && decide (¬ en Q j i = 0) then some j else s) (fun o ρ => ∃ s6, ρ = [some (rws Q), some (nI n), some (nS P), some (nI i), some (nI P.length), some (oN o), s6, s7, s8, s9, s10, s11]) none (S1 := S') (rng2_n (b := Q.length) rfl (e_cal (e_one rfl) (by simp)) (by omega) (by omega)) ⟨_, rfl⟩ ?_ ?_
    · rintro j hj o ρ ⟨s6, rfl⟩
      rw [List.mem_range'_1] at hj
      refine ⟨[some (rws Q), some (nI n), some (nS P), some (nI i), some (nI P.length), some (oN o), some (nI j), s7, s8, s9, s10, s11], rfl, ?_⟩
      have t1 : (bB (eBin (cB gIsN) (eVar 5) (eCon (.none)))) [some (rws Q), some (nI n), some (nS P), some (nI i), some (nI P.length), some (oN o), some (nI j), s7, s8, s9, s10, s11] S' = some (.ok o.isNone S') := b_cmp rfl rfl (oN_isN S' o)
      have t2 := b_en (ρ := [some (rws Q), some (nI n), some (nS P), some (nI i), some (nI P.length), some (oN o), some (nI j), s7, s8, s9, s10, s11]) (S := S') (k := 0) (fi := eVar 6) (fj := eVar 3) qm rfl rfl rfl (i := j) (j := i) (by omega) (by omega)
      cases o with
      | some v => exact wp_ifF (b_andF t1) (wp_nil ⟨_, .inl rfl, some (nI j), rfl⟩)
      | none =>
        by_cases h0 : en Q j i = 0
        · rw [decide_eq_true h0] at t2
          refine wp_ifF (b_andT t1 t2) (wp_nil ⟨_, .inl rfl, some (nI j), ?_⟩)
          simp [h0]
        · rw [decide_eq_false h0] at t2
          refine wp_ifT (b_andT t1 t2) (wp_set1 (x := nI j) (S1 := S') rfl ⟨_, .inl rfl, some (nI j), ?_⟩)
          simp [h0, oN]
    rintro ρ ⟨s6, rfl⟩
    rw [fold_find]
    simp only []
    show Wp (sIf _ _ _ _ _) _
    have e1 : ((List.range' P.length (Q.length - P.length)).find? fun j => decide (¬ en Q j i = 0)) = findP Q i (List.range' P.length (Q.length - P.length)) := rfl
    rw [e1]
    have e2 : stepP (Q, P) i = match findP Q i (List.range' P.length (Q.length - P.length)) with
      | some f => (elimL (swapL Q P.length f) P.length i, P ++ [i])
      | none => (Q, P) := rfl
    cases hf : findP Q i (List.range' P.length (Q.length - P.length)) with
    | none =>
      rw [hf] at e2
      rw [e2]
      exact wp_ifF (S1 := S') (b_cmp rfl rfl (oN_notN S' none)) (wp_nil ⟨_, _, .inl rfl, rfl, _, _, _, _, _, _, _, _, _, rfl⟩)
    | some f =>
      rw [hf] at e2
      have e3 : stepP (Q, P) i = (elimL (swapL Q P.length f) P.length i, P ++ [i]) := e2
      rw [e3]
      obtain ⟨f1, f2⟩ := findP_some hf
      rw [List.mem_range'_1] at f1
      have tl : P.length < Q.length := by omega
      have fl : f < Q.length := by omega
      refine wp_ifT (S1 := S') (b_cmp rfl rfl (oN_notN S' (some f))) ?_
      generalize P.length = t at tl ⊢
      have sm1 := qm.swap tl fl
      have sl := swapL_len Q t f
      have l0 : en (swapL Q t f) t i ≠ 0 := by rw [en_swap tl fl]; exact f2
      refine wp_nx (ρ2 := [some (rws (swapL Q t f)), some (nI n), some (nS P), some (nI i), some (nI t), some (nI f), s6, s7, s8, s9, s10, s11]) (S2 := S') ?_ ?_
      · have := st_swp (ρ := [some (rws Q), some (nI n), some (nS P), some (nI i), some (nI t), some (nI f), s6, s7, s8, s9, s10, s11]) (S := S') (i := 0) (a := t) (b := f) (f := eTup (aCons (eBin gIx (eVar 0) (eVar 5)) (aCons (eBin gIx (eVar 0) (eVar 4)) aNil))) (fa := eVar 4) (fb := eVar 5) (p := lR (Q.getD f [])) (q := lR (Q.getD t [])) rfl (e_tup (e_cons (e_bin rfl rfl (ix_rwsV S' fl)) (e_one (e_bin rfl rfl (ix_rwsV S' tl)))) rfl (by simp)) rfl rfl (by simpa using tl) (by simpa using fl)
        rw [← List.map_set (f := fun r => SV.d (lR r)), ← List.map_set (f := fun r => SV.d (lR r))] at this
        exact this
      generalize swapL Q t f = Z at sm1 sl l0 ⊢
      have tz : t < Z.length := by omega
      have ltop : (Z.getD t []).length = w := sm1.wid _ (getD_mem tz)
      have slead : Sz B (en Z t i) := sm1.sz _ (getD_mem tz) _ (getD_mem (by omega))
      refine wp_set (x := rS (en Z t i)) (S1 := S') (e_en sm1 rfl rfl rfl tz (by omega)) ?_
      refine wp_nx (ρ2 := [some (rws (elimTo Z t i 0)), some (nI n), some (nS P), some (nI i), some (nI t), some (nI f), s6, some (rS (en Z t i)), s8, s9, s10, s11]) (S2 := S') ?_ ?_
      · rw [elimTo_zero tz, ← rws_set]
        refine st_ix (ρ := [some (rws Z), some (nI n), some (nS P), some (nI i), some (nI t), some (nI f), s6, some (rS (en Z t i)), s8, s9, s10, s11]) rfl (over_lc (l := 7) (r := Z.getD t []) (b := B) ?_ (by omega) (by simp) (by decide) rfl l0 slead (sm1.sz _ (getD_mem tz)) bi) rfl (by simpa using tz)
        rw [a_iSeq, e_bin (z := .d (lR (Z.getD t []))) rfl rfl (ix_rws S' tz), VL.bindM_ok]
        simp [seq_lR]
      refine wp_for (xs := (List.range Z.length).map nI) (S1 := S') (fun j ρ S2 => S2 = S' ∧ ∃ s6 s8 s9 s10 s11, ρ = [some (rws (elimTo Z t i j)), some (nI n), some (nS P), some (nI i), some (nI t), some (nI f), s6, some (rS (en Z t i)), s8, s9, s10, s11]) (iRng_n (n := Z.length) (e_cal (e_one rfl) (by simp [elimTo_len])) (by omega)) ⟨rfl, _, _, _, _, _, rfl⟩ ?_ ?_
      · rintro j y hy ρ S2 ⟨rfl, s6, s8, s9, s10, s11, rfl⟩
        rw [List.getElem?_map, Option.map_eq_some_iff] at hy
        obtain ⟨k, hk, rfl⟩ := hy
        obtain ⟨hj, rfl⟩ := List.getElem?_eq_some_iff.mp hk
        rw [List.length_range] at hj
        rw [List.getElem_range]
        have ej : j < (elimTo Z t i j).length := by rw [elimTo_len]; exact hj
        have et : t < (elimTo Z t i j).length := by rw [elimTo_len]; exact tz
        have zj : Z[j].length = w := sm1.wid _ (List.getElem_mem hj)
        have row : ((elimTo Z t i j).getD j []).length = w := by
          rw [getD_eq ej]
          by_cases e : j = t
          · subst e
            rw [elimTo_top hj, divL_len]; exact ltop
          · rw [elimTo_get hj e]; exact zj
        refine ⟨[some (rws (elimTo Z t i j)), some (nI n), some (nS P), some (nI i), some (nI t), some (nI f), some (nI j), some (rS (en Z t i)), s8, s9, s10, s11], rfl, ?_⟩
        refine wp_set (x := rS (((elimTo Z t i j).getD j []).getD i 0)) (S1 := S2) (e_bin (e_bin rfl rfl (ix_rws S2 ej)) rfl (ix_lRV S2 (by rw [row]; omega))) ?_
        have g1 := gNe_nn S2 j t
        by_cases e : j = t
        · rw [decide_eq_true e] at g1
          rw [elimTo_succ hj, if_neg (fun z => z.1 e)]
          exact wp_ifF (S1 := S2) (b_andF (b_cmp rfl rfl g1)) (wp_nil ⟨_, _, .inl rfl, rfl, _, _, _, _, _, rfl⟩)
        · rw [decide_eq_false e] at g1
          have ge : (elimTo Z t i j).getD j [] = Z[j] := by rw [getD_eq ej, elimTo_get hj e]
          rw [ge]
          have n1 := ne0_num S2 (Z[j].getD i 0)
          by_cases h0 : Z[j].getD i 0 = 0
          · rw [decide_eq_true h0] at n1
            rw [elimTo_succ hj, if_neg (fun z => z.2 h0)]
            exact wp_ifF (S1 := S2) (b_andT (b_cmp rfl rfl g1) (b_cmp (e_bin rfl rfl (ix_num S2 _)) rfl n1)) (wp_nil ⟨_, _, .inl rfl, rfl, _, _, _, _, _, rfl⟩)
          · rw [decide_eq_false h0] at n1
            rw [elimTo_succ hj, if_pos ⟨e, h0⟩, ← rws_set]
            refine wp_ifT (S1 := S2) (b_andT (b_cmp rfl rfl g1) (b_cmp (e_bin rfl rfl (ix_num S2 _)) rfl n1)) ⟨_, st_ix (ρ := [some (rws (elimTo Z t i j)), some (nI n), some (nS P), some (nI i), some (nI t), some (nI f), some (nI j), some (rS (en Z t i)), some (rS (Z[j].getD i 0)), s9, s10, s11]) rfl (sub_lc (l := 8) (r := Z[j]) (p := divL (Z.getD t []) (en Z t i)) (b := B) (e_cons (e_bin rfl rfl (ix_rws S2 ej |>.trans (by rw [ge]))) (e_one (e_bin rfl rfl (ix_rws S2 et |>.trans (by rw [getD_eq et, elimTo_top tz]))))) (by omega) (by simp) (by simp) (by decide) (by decide) (by decide) rfl (sm1.sz _ (List.getElem_mem hj) _ (getD_mem (by omega))) (sm1.sz _ (List.getElem_mem hj)) (fun y hy => by
              obtain ⟨z, hz, rfl⟩ := List.mem_map.mp hy
              exact ((sm1.sz _ (getD_mem tz) z hz).div slead l0).mono (by omega)) bi) rfl (by simpa using ej), _, _, .inl rfl, rfl, some (nI j), some (rS (Z[j].getD i 0)), s9, s10, s11, rfl⟩
      · rintro ρ3 S3 ⟨rfl, s6, s8, s9, s10, s11, rfl⟩
        rw [List.length_map, List.length_range, elimTo_all]
        refine ⟨_, app_own (ys := P.map nI) (y := nI i) (S1 := S3) rfl rfl (by rw [List.length_map]; omega), _, _, .inl rfl, rfl, some (nI i), some (nI t), some (nI f), s6, some (rS (en Z t i)), s8, s9, s10, s11, ?_⟩
        simp [nS]
  · rintro ρ2 S2 ⟨rfl, s3, s4, s5, s6, s7, s8, s9, s10, s11, rfl⟩
    rw [List.length_map, List.length_range]
    generalize redP R n = st
    obtain ⟨Q, P⟩ := st
    have f1 := frz_own (Q.map lR)
    have f2 := frz_own (P.map fun k : Nat => .int (k : Int))
    rw [List.map_map] at f1 f2
    refine ⟨_, ?_, rfl⟩
    unfold ghF
    simp only [List.getElem?_cons_zero]
    rw [show frz (rws Q) = _ from f1]
    unfold ghF
    simp only [List.set_cons_zero, List.getElem?_cons_succ, List.getElem?_cons_zero]
    rw [show frz (nS P) = _ from f2]
    unfold ghF
    show sRet _ [some (.d (.list (Q.map lR))), some (nI n), some (.d (.list (P.map fun k : Nat => .int (k : Int)))), s3, s4, s5, s6, s7, s8, s9, s10, s11] S2 = _
    rw [a_sRet, e_tup (e_cons rfl (e_one rfl)) rfl (by simp)]
    rfl
--# end
end M

end
section
set_option Elab.async false
set_option linter.all false
set_option maxRecDepth 100000
/-! A3: the told solutions: the program's, the law's; both are the same one. -/
namespace M
open PySem PySem.Spec PyProof.Rows L2 VL
theorem lrow_get (R : List (List Rat)) (i : Nat) : (R.map lrow)[i]? = (R[i]?).map lrow := List.getElem?_map ..
theorem lrow_nil : lrow [] = fun _ => 0 := by funext j; simp [lrow]
theorem getD_lrow (R : List (List Rat)) (i : Nat) : ((R.map lrow).getD i fun _ => 0) = lrow (R.getD i []) := by
  simp only [List.getD, lrow_get]
  cases R[i]? with
  | none => simp [lrow_nil]
  | some r => rfl
theorem lrow_div (r : List Rat) (c : Rat) : lrow (divL r c) = fun j => lrow r j / c := by
  funext j
  unfold lrow divL
  simp only [List.getD, List.getElem?_map]
  cases r[j]? with
  | none => simp only [Option.map_none, Option.getD_none]; rw [Rat.div_def]; grind
  | some x => rfl
theorem lrow_sub {r p : List Rat} (f : Rat) (h : r.length = p.length) : lrow (subL r f p) = fun j => lrow r j - f * lrow p j := by
  funext j
  unfold lrow subL
  by_cases hj : j < r.length
  · have hj2 : j < p.length := by omega
    have z : (r.zip p)[j]? = some (r[j], p[j]) := by
      rw [List.getElem?_eq_getElem (by simp; omega)]
      simp
    simp [List.getD, hj, hj2, z]
  · have hj2 : ¬ j < p.length := by omega
    simp only [List.getD, List.getElem?_eq_none (show (List.map (fun q : Rat × Rat => q.1 - f * q.2) (r.zip p)).length ≤ j by simp; omega), List.getElem?_eq_none (show r.length ≤ j by omega), List.getElem?_eq_none (show p.length ≤ j by omega), Option.getD_none]
    grind
theorem lrow_elim {w b t c : Nat} {R : List (List Rat)} (h : Mx w b R) (ht : t < R.length) : (elimL R t c).map lrow = elim (R.map lrow) t c := by
  refine List.ext_getElem (by simp [elimL, elim]) fun i h1 h2 => ?_
  have hi : i < R.length := by simpa [elimL] using h1
  have e1 : ((R.map lrow).getD t fun _ => 0) = lrow (R.getD t []) := getD_lrow R t
  simp only [elimL, elim, List.getElem_map, List.getElem_mapIdx, e1]
  by_cases e : i = t
  · subst e
    simp only [if_true]
    rw [lrow_div]
    rfl
  · simp only [e, if_false]
    by_cases h0 : R[i].getD c 0 = 0
    · rw [if_pos h0]
      have : lrow R[i] c = 0 := h0
      funext j
      rw [this]; grind
    · rw [if_neg h0, lrow_sub _ (by rw [divL_len, h.wid _ (getD_mem ht), h.wid _ (List.getElem_mem hi)]), lrow_div]
      rfl
theorem lrow_swap {R : List (List Rat)} {a f : Nat} (ha : a < R.length) (hf : f < R.length) : (swapL R a f).map lrow = ((R.map lrow).set a (lrow R[f])).set f (lrow R[a]) := by
  unfold swapL
  rw [List.map_set, List.map_set, getD_eq ha, getD_eq hf]
/-! the program's -/
def pvD (P : List Nat) : List (Nat × Nat) := P.zipIdx.map fun p => (p.2, p.1)
theorem pvD_rows (P : List Nat) : (pvD P).map (·.1) = List.range P.length := by
  unfold pvD
  rw [List.map_map]
  refine List.ext_getElem (by simp) fun i h1 h2 => by simp
theorem pvD_cols (P : List Nat) : (pvD P).map (·.2) = P := by
  unfold pvD
  rw [List.map_map]
  refine List.ext_getElem (by simp) fun i h1 h2 => by simp
theorem pvD_snoc (P : List Nat) (c : Nat) : pvD (P ++ [c]) = pvD P ++ [(P.length, c)] := by
  simp [pvD, List.zipIdx_append]
theorem redP_el {n b : Nat} {A : List (List Rat)} (h : Mx (n + 1) b A) : ∀ c, c ≤ n → El n (A.map lrow) ((redP A c).1.map lrow) (pvD (redP A c).2) c
  | 0, _ => El.start _ _
  | c + 1, hc => by
    have ih := redP_el h c (by omega)
    have ok := redP_ok h rfl c (by omega)
    rw [redP_succ]
    generalize redP A c = st at *
    obtain ⟨Q, P⟩ := st
    obtain ⟨qm, ql⟩ := ok
    simp only at ih qm ql
    have um : ∀ i, i ∉ (pvD P).map (·.1) ↔ P.length ≤ i := fun i => by rw [pvD_rows, List.mem_range]; omega
    cases hf : findP Q c (List.range' P.length (Q.length - P.length)) with
    | none =>
      have e : stepP (Q, P) c = (Q, P) := by simp only [stepP, hf]
      rw [e]
      refine ih.skip fun i r hr hi => ?_
      rw [um] at hi
      rw [lrow_get, Option.map_eq_some_iff] at hr
      obtain ⟨r0, h1, rfl⟩ := hr
      obtain ⟨hi2, e2⟩ := List.getElem?_eq_some_iff.mp h1
      have := List.find?_eq_none.mp hf i (by rw [List.mem_range'_1]; omega)
      simp only [decide_eq_true_eq, Classical.not_not] at this
      unfold en at this
      rw [getD_eq hi2, e2] at this
      exact this
    | some f =>
      have e : stepP (Q, P) c = (elimL (swapL Q P.length f) P.length c, P ++ [c]) := by simp only [stepP, hf]
      rw [e]
      obtain ⟨f1, f2⟩ := findP_some hf
      rw [List.mem_range'_1] at f1
      have tl : P.length < Q.length := by omega
      have fl : f < Q.length := by omega
      have sw := ih.swap (a := P.length) (b := f) (ra := lrow Q[P.length]) (rb := lrow Q[f]) (by rw [lrow_get, List.getElem?_eq_getElem tl]; rfl) (by rw [lrow_get, List.getElem?_eq_getElem fl]; rfl) (by rw [um]; omega) (by rw [um]; omega)
      rw [← lrow_swap tl fl] at sw
      have tl2 : P.length < (swapL Q P.length f).length := by rw [swapL_len]; exact tl
      have l0 : en (swapL Q P.length f) P.length c ≠ 0 := by rw [en_swap tl fl]; exact f2
      have st := sw.step (t := P.length) (p := lrow (swapL Q P.length f)[P.length]) (by omega) (by rw [lrow_get, List.getElem?_eq_getElem tl2]; rfl) (by rw [um]; omega) (by
        unfold en at l0
        rw [getD_eq tl2] at l0
        exact l0)
      rw [← lrow_elim (qm.swap tl fl) tl2] at st
      rw [pvD_snoc]
      exact st
def solP (A : List (List Rat)) (n : Nat) : Option (List Rat) :=
  if ((redP A n).1.drop (redP A n).2.length).any (fun r => !decide (r.getD n 0 = 0)) then none
  else some ((redP A n).2.zipIdx.foldl (fun s p => s.set p.1 (en (redP A n).1 p.2 n)) (List.replicate n 0))
theorem fold_set {f : Nat × Nat → Rat} : ∀ (D : List (Nat × Nat)) (s : List Rat) (j : Nat), (D.map (·.1)).Nodup → (∀ p ∈ D, p.1 < s.length) → (D.foldl (fun s p => s.set p.1 (f p)) s).getD j 0 = match D.find? (fun p => p.1 == j) with
    | some p => f p
    | none => s.getD j 0
  | [], s, j, _, _ => rfl
  | p :: D, s, j, hn, hl => by
    rw [List.map_cons, List.nodup_cons] at hn
    rw [List.foldl_cons, fold_set D (s.set p.1 (f p)) j hn.2 fun q hq => by rw [List.length_set]; exact hl q (List.mem_cons_of_mem _ hq)]
    by_cases e : p.1 = j
    · have : D.find? (fun q => q.1 == j) = none := List.find?_eq_none.mpr fun q hq => by
        simp only [beq_iff_eq]
        exact fun e2 => hn.1 (by rw [e, ← e2]; exact List.mem_map_of_mem hq)
      rw [this, List.find?_cons_of_pos (by simpa using e)]
      have hp := hl p List.mem_cons_self
      subst e
      simp [List.getD, hp]
    · rw [List.find?_cons_of_neg (by simpa using e)]
      cases D.find? (fun q => q.1 == j) with
      | some q => rfl
      | none => simp [List.getD, List.getElem?_set, e]
theorem fold_set_len {f : Nat × Nat → Rat} : ∀ (D : List (Nat × Nat)) (s : List Rat), (D.foldl (fun s p => s.set p.1 (f p)) s).length = s.length
  | [], s => rfl
  | p :: D, s => by rw [List.foldl_cons, fold_set_len D]; simp
/-- the solution, by the pivots (column first) -/
theorem sol_pv {n : Nat} {R : List (List Rat)} {D : List (Nat × Nat)} (hn : (D.map (·.2)).Nodup) (hc : ∀ p ∈ D, p.2 < n) : lrow ((D.map fun p => (p.2, p.1)).foldl (fun s p => s.set p.1 (en R p.2 n)) (List.replicate n 0)) = pv (R.map lrow) D n := by
  funext j
  show (List.foldl _ _ _ : List Rat).getD j 0 = _
  rw [fold_set _ _ _ (by rw [List.map_map]; exact hn) fun p hp => by
    obtain ⟨q, hq, rfl⟩ := List.mem_map.mp hp
    rw [List.length_replicate]
    exact hc q hq]
  unfold pv
  rw [List.find?_map]
  have e : ((fun p : Nat × Nat => p.1 == j) ∘ fun p : Nat × Nat => (p.2, p.1)) = fun p => p.2 == j := rfl
  rw [e]
  cases D.find? (fun p => p.2 == j) with
  | none =>
    simp only [Option.map_none, List.getD, List.getElem?_replicate]
    split <;> rfl
  | some p =>
    simp only [Option.map_some, getD_lrow]
    rfl
theorem pvD_swap (P : List Nat) : (pvD P).map (fun p => (p.2, p.1)) = P.zipIdx := by
  unfold pvD
  rw [List.map_map]
  exact List.map_id _
/-- what a told solution is -/
structure Told (n : Nat) (A : List (List Rat)) (r : Option (List Rat)) : Prop where
  some : ∀ x, r = some x → x.length = n ∧ Canon n (A.map lrow) (lrow x)
  none : r = none → (∀ x : Row, ¬ ∀ r ∈ A.map lrow, sm n (fun j => r j * x j) = r n) ∧ ∃ y : Nat → Rat, (∀ j, j < n → sm A.length (fun i => y i * en A i j) = 0) ∧ sm A.length (fun i => y i * en A i n) ≠ 0
theorem told_of {n : Nat} {A Q : List (List Rat)} {D : List (Nat × Nat)} {r : Option (List Rat)} (h : El n (A.map lrow) (Q.map lrow) D n) (h1 : ∀ x, r = some x → (∀ i, i < Q.length → i ∉ D.map (·.1) → en Q i n = 0) ∧ x = (D.map fun p => (p.2, p.1)).foldl (fun s p => s.set p.1 (en Q p.2 n)) (List.replicate n 0)) (h2 : r = none → ∃ i, i < Q.length ∧ i ∉ D.map (·.1) ∧ en Q i n ≠ 0) : Told n A r := by
  have enr : ∀ {i : Nat} (hi : i < Q.length), en Q i n = lrow Q[i] n := fun hi => by unfold en; rw [getD_eq hi]; rfl
  constructor
  · intro x hx
    obtain ⟨h3, rfl⟩ := h1 x hx
    refine ⟨by rw [fold_set_len, List.length_replicate], ?_⟩
    rw [sol_pv h.cols fun p hp => (h.one p hp).2.1]
    refine h.canon fun i r hr hi => ?_
    rw [lrow_get, Option.map_eq_some_iff] at hr
    obtain ⟨r0, h4, rfl⟩ := hr
    obtain ⟨hi2, e2⟩ := List.getElem?_eq_some_iff.mp h4
    have := h3 i hi2 hi
    rw [enr hi2, e2] at this
    exact this
  · intro hx
    obtain ⟨i, i1, i2, i3⟩ := h2 hx
    rw [enr i1] at i3
    obtain ⟨a, y, y1, y2⟩ := h.none (i := i) (r := lrow Q[i]) (by rw [lrow_get, List.getElem?_eq_getElem i1]; rfl) i2 i3
    have q : ∀ i j, ((A.map lrow).getD i fun _ => 0) j = en A i j := fun i j => by rw [getD_lrow]; rfl
    rw [List.length_map] at y1 y2
    exact ⟨a, y, fun j hj => by rw [← y1 j hj]; exact sm_congr fun i _ => by rw [q], by
      intro e
      exact y2 (Eq.trans (sm_congr fun i _ => by rw [q]) e)⟩
theorem solP_told {n b : Nat} {A : List (List Rat)} (h : Mx (n + 1) b A) : Told n A (solP A n) := by
  have el := redP_el h n (Nat.le_refl _)
  have ok := redP_ok h rfl n (by omega)
  unfold solP
  generalize redP A n = st at *
  obtain ⟨Q, P⟩ := st
  simp only at el ok ⊢
  have um : ∀ i, i ∉ (pvD P).map (·.1) ↔ P.length ≤ i := fun i => by rw [pvD_rows, List.mem_range]; omega
  refine told_of el (fun x hx => ?_) fun hx => ?_
  · split at hx
    · cases hx
    · rename_i hz
      cases hx
      refine ⟨fun i hi hn => ?_, by rw [pvD_swap]⟩
      rw [um] at hn
      simp only [List.any_eq_true, not_exists, not_and, Bool.not_eq_true', Bool.not_eq_false', decide_eq_false_iff_not, Classical.not_not] at hz
      unfold en
      rw [getD_eq hi]
      refine hz Q[i] ?_
      rw [List.mem_drop_iff_getElem]
      exact ⟨i - P.length, by omega, by congr 1; omega⟩
  · split at hx
    · rename_i hz
      rw [List.any_eq_true] at hz
      obtain ⟨r, hr, h0⟩ := hz
      rw [List.mem_drop_iff_getElem] at hr
      obtain ⟨k, hk, rfl⟩ := hr
      refine ⟨P.length + k, by omega, by rw [um]; omega, ?_⟩
      unfold en
      rw [getD_eq (show P.length + k < Q.length by omega)]
      simpa using h0
    · cases hx
/-! the law's -/
def pickL (R : List (List Rat)) (D : List (Nat × Nat)) (c : Nat) : List Nat := (List.range R.length).filter fun j => !(D.map (·.1)).contains j && !decide (en R j c = 0)
def stepL (st : List (List Rat) × List (Nat × Nat)) (c : Nat) : List (List Rat) × List (Nat × Nat) := match pickL st.1 st.2 c with
  | t :: _ => (elimL st.1 t c, st.2 ++ [(t, c)])
  | [] => st
def redL (R : List (List Rat)) (n : Nat) : List (List Rat) × List (Nat × Nat) := (List.range n).foldl stepL (R, [])
theorem redL_succ (R : List (List Rat)) (n : Nat) : redL R (n + 1) = stepL (redL R n) n := by
  unfold redL
  rw [List.range_succ, List.foldl_append]
  rfl
theorem pickL_mem {R : List (List Rat)} {D : List (Nat × Nat)} {c t : Nat} : t ∈ pickL R D c ↔ t < R.length ∧ t ∉ D.map (·.1) ∧ en R t c ≠ 0 := by
  unfold pickL
  rw [List.mem_filter, List.mem_range]
  simp only [Bool.and_eq_true, Bool.not_eq_true', decide_eq_false_iff_not, List.contains_eq_mem]
structure StL (w b m : Nat) (st : List (List Rat) × List (Nat × Nat)) : Prop where
  mx : Mx w b st.1
  len : st.1.length = m
theorem StL.step {w b m c : Nat} {st : List (List Rat) × List (Nat × Nat)} (h : StL w b m st) (hc : c < w) : StL w (4 * b + 1) m (stepL st c) := by
  unfold stepL
  split
  · rename_i t r hp
    obtain ⟨t1, t2, t3⟩ := pickL_mem.mp (show t ∈ pickL st.1 st.2 c by rw [hp]; exact List.mem_cons_self)
    exact ⟨h.mx.elim t1 hc t3, by rw [elimL_len]; exact h.len⟩
  · exact ⟨h.mx.mono (by omega), h.len⟩
theorem redL_ok {w b m : Nat} {R : List (List Rat)} (h : Mx w b R) (hl : R.length = m) : ∀ n, n ≤ w → StL w (bnd b n) m (redL R n)
  | 0, _ => ⟨h.mono (by unfold bnd; simp), hl⟩
  | n + 1, hn => by
    rw [redL_succ]
    have := (redL_ok h hl n (by omega)).step (c := n) (by omega)
    exact ⟨this.mx.mono (bnd_step b n), this.len⟩
theorem redL_plen {R : List (List Rat)} : ∀ n, (redL R n).2.length ≤ n
  | 0 => Nat.le_refl _
  | n + 1 => by
    rw [redL_succ]
    have := redL_plen (R := R) n
    unfold stepL
    split
    · simp; omega
    · omega
theorem redL_el {n b : Nat} {A : List (List Rat)} (h : Mx (n + 1) b A) : ∀ c, c ≤ n → El n (A.map lrow) ((redL A c).1.map lrow) (redL A c).2 c
  | 0, _ => El.start _ _
  | c + 1, hc => by
    have ih := redL_el h c (by omega)
    have ok := redL_ok h rfl c (by omega)
    rw [redL_succ]
    generalize redL A c = st at *
    obtain ⟨Q, D⟩ := st
    obtain ⟨qm, ql⟩ := ok
    simp only at ih qm ql
    have enr : ∀ {i : Nat} (hi : i < Q.length), en Q i c = lrow Q[i] c := fun hi => by unfold en; rw [getD_eq hi]; rfl
    cases hp : pickL Q D c with
    | nil =>
      have e : stepL (Q, D) c = (Q, D) := by simp only [stepL, hp]
      rw [e]
      refine ih.skip fun i r hr hi => ?_
      rw [lrow_get, Option.map_eq_some_iff] at hr
      obtain ⟨r0, h1, rfl⟩ := hr
      obtain ⟨hi2, e2⟩ := List.getElem?_eq_some_iff.mp h1
      have : i ∉ pickL Q D c := by rw [hp]; simp
      rw [pickL_mem] at this
      rw [← e2, ← enr hi2]
      exact Classical.byContradiction fun z => this ⟨hi2, hi, z⟩
    | cons t r =>
      have e : stepL (Q, D) c = (elimL Q t c, D ++ [(t, c)]) := by simp only [stepL, hp]
      rw [e]
      obtain ⟨t1, t2, t3⟩ := pickL_mem.mp (show t ∈ pickL Q D c by rw [hp]; exact List.mem_cons_self)
      have st := ih.step (t := t) (p := lrow Q[t]) (by omega) (by rw [lrow_get, List.getElem?_eq_getElem t1]; rfl) t2 (by rw [← enr t1]; exact t3)
      rw [← lrow_elim qm t1] at st
      exact st
def restL (R : List (List Rat)) (D : List (Nat × Nat)) (n : Nat) : List Nat := (List.range R.length).filter fun j => !(D.map (·.1)).contains j && !decide (en R j n = 0)
def solL (A : List (List Rat)) (n : Nat) : Option (List Rat) :=
  if restL (redL A n).1 (redL A n).2 n = [] then some (((redL A n).2.map fun p => (p.2, p.1)).foldl (fun s p => s.set p.1 (en (redL A n).1 p.2 n)) (List.replicate n 0)) else none
theorem solL_told {n b : Nat} {A : List (List Rat)} (h : Mx (n + 1) b A) : Told n A (solL A n) := by
  have el := redL_el h n (Nat.le_refl _)
  unfold solL
  generalize redL A n = st at *
  obtain ⟨Q, D⟩ := st
  simp only at el ⊢
  refine told_of el (fun x hx => ?_) fun hx => ?_
  · split at hx
    · rename_i hz
      cases hx
      refine ⟨fun i hi hn => ?_, rfl⟩
      have : i ∉ restL Q D n := by rw [hz]; simp
      have := mt pickL_mem.mpr this
      exact Classical.byContradiction fun z => this ⟨hi, hn, z⟩
    · cases hx
  · split at hx
    · cases hx
    · rename_i hz
      obtain ⟨t, r, hp⟩ := List.exists_cons_of_ne_nil hz
      exact ⟨t, pickL_mem.mp (show t ∈ restL Q D n by rw [hp]; exact List.mem_cons_self)⟩
/-- one solution is told -/
theorem told_one {n b : Nat} {A : List (List Rat)} (h : Mx (n + 1) b A) {r s : Option (List Rat)} (hr : Told n A r) (hs : Told n A s) : r = s := by
  have el := redP_el h n (Nat.le_refl _)
  cases r with
  | none =>
    cases s with
    | none => rfl
    | some y => exact absurd (hs.some y rfl).2.sol ((hr.none rfl).1 (lrow y))
  | some x =>
    cases s with
    | none => exact absurd (hr.some x rfl).2.sol ((hs.none rfl).1 (lrow x))
    | some y =>
      obtain ⟨l1, c1⟩ := hr.some x rfl
      obtain ⟨l2, c2⟩ := hs.some y rfl
      have := canon_one el c1 c2
      congr 1
      refine List.ext_getElem (by omega) fun i h1 h2 => ?_
      have := this i (by omega)
      unfold lrow at this
      rw [getD_eq h1, getD_eq h2] at this
      exact this
theorem sol_same {n b : Nat} {A : List (List Rat)} (h : Mx (n + 1) b A) : solP A n = solL A n := told_one h (solP_told h) (solL_told h)
end M

end
section
set_option Elab.async false
set_option linter.all false
set_option maxRecDepth 100000
/-! A4: solved of the program, the law's solving. -/
namespace M
open PySem PySem.Spec PyProof.Rows L2 VL
/-- a tuple or a list -/
def kD (k : Bool) (ds : List PyData) : PyData := if k then .tuple ds else .list ds
@[simp] theorem seq_kD (S : Sto) (k : Bool) (ds : List PyData) : seq? S (.d (kD k ds)) = some (ds.map SV.d) := by cases k <;> rfl
@[simp] theorem len_kD (S : Sto) (k : Bool) (ds : List PyData) : gLen S [.d (kD k ds)] = some (.d (.int ds.length)) := by cases k <;> simp [kD]
theorem gList_kD (S : Sto) (k : Bool) (ds : List PyData) : gList S [.d (kD k ds)] = some (.own (ds.map SV.d)) := by
  unfold gList
  simp
theorem gTuple_kD (S : Sto) (k : Bool) (ds : List PyData) : gTuple S [.d (kD k ds)] = some (.d (.tuple ds)) := by
  cases k
  · have := gTuple_o S id ds
    simp only [kD, gTuple, lst?, Bool.false_eq_true, if_false, Option.bind_some, allD_map, Option.map_some]
  · rfl
theorem ix_kD (S : Sto) (k : Bool) {α : Type} (f : α → PyData) (l : List α) (d : α) {i : Nat} (h : i < l.length) : gIxB S (.d (kD k (l.map f))) (nI i) = some (.d (f (l.getD i d))) := by
  rw [nI_eq, gIxB_i, seq_kD, Option.bind_some, List.map_map]
  exact atI_getD (fun x => SV.d (f x)) l d h
theorem ixV_kD (S : Sto) (k : Bool) {α : Type} (f : α → PyData) (l : List α) (d : α) {i : Nat} (h : i < l.length) : gIx S (.d (kD k (l.map f))) (nI i) = some (.d (f (l.getD i d))) := by
  have : atI ((l.map f).map SV.d) (i : Int) = some (.d (f (l.getD i d))) := by
    rw [List.map_map]
    exact atI_getD (fun x => SV.d (f x)) l d h
  cases k
  · show (atI ((l.map f).map SV.d) (i : Int)).bind _ = _
    rw [this]; rfl
  · show (atI ((l.map f).map SV.d) (i : Int)).bind _ = _
    rw [this]; rfl
theorem rep_own (S : Sto) (d : PyData) (n : Nat) (h : n ≤ 1000) : gMulT S (.own [.d d]) (nI n) = some (.own ((List.replicate n d).map SV.d)) := by
  have h1 : smI (n : Int) = true := by unfold smI; rw [decide_eq_true_eq]; omega
  have e : (List.replicate n [SV.d d]).flatten = (List.replicate n d).map SV.d := by
    induction n with
    | zero => rfl
    | succ n ih => rw [List.replicate_succ, List.flatten_cons, ih (by omega) (by unfold smI; rw [decide_eq_true_eq]; omega), List.replicate_succ]; rfl
  show gMul S (.own [.d d]) (nI n) = _
  unfold gMul
  simp only [nI_eq, lst?, Option.bind_some]
  rw [if_pos (by simp [noOwn, h1, sizeLine_eq]; omega)]
  simp only [Int.toNat_natCast, e]
abbrev rD0 : PyData := .tuple [.int 0, .int 1]
theorem rD_zero : rD 0 = rD0 := rfl
theorem rep_zero (S : Sto) (n : Nat) (h : n ≤ 1000) : gMulT S (.own [.d rD0]) (nI n) = some (.own ((List.replicate n (0 : Rat)).map rS)) := by
  rw [rep_own S _ n h, ← rD_zero]
  simp
theorem iSeq_ownE {α : Type} {f : Rho → Mo SV} {ρ : Rho} {S S1 : Sto} (g : α → SV) {l : List α} (hf : ∀ a, noOwn (g a) = true) (h : f ρ S = some (.ok (.own (l.map g)) S1)) : (VL.iSeq f) ρ S = some (.ok (l.map g) S1) := by
  rw [a_iSeq, h, VL.bindM_ok]
  simp only [isRef_o, seq_o, Option.bind_some, Bool.false_eq_true, if_false]
  rw [if_pos (by simp [hf])]
theorem iSeq_own {α : Type} {i : Nat} {ρ : Rho} {S : Sto} (f : α → SV) {l : List α} (hf : ∀ a, noOwn (f a) = true) (h : ρ[i]? = some (some (.own (l.map f)))) : (VL.iSeq (eVar i)) ρ S = some (.ok (l.map f) S) := iSeq_ownE f hf (e_var h)
theorem ne_nil (S : Sto) (l : List Nat) : gNe S (nS l) (.own []) = some (!decide (l = [])) := by
  have a1 : allD (l.map nI) = some ((l.map iN).map PyData.int) := by rw [List.map_map]; exact allD_map' (fun x : Nat => PyData.int (x : Int)) l
  have s2 := sh_ints []
  simp only [List.map_nil] at s2
  simp only [gNe, dat?, a1, Option.map_some, Option.bind_some, allD, sh_ints, s2, Bool.and_self, if_true]
  cases l with
  | nil => simp [PyData.eqv, PyData.eqvAll]
  | cons a l => simp [PyData.eqv, PyData.eqvAll]
/-- rows with their right sides -/
def aug (R : List (List Rat)) (b : List Rat) : List (List Rat) := (R.zip b).map fun q => q.1 ++ [q.2]
theorem aug_len {R : List (List Rat)} {b : List Rat} (h : R.length = b.length) : (aug R b).length = R.length := by simp [aug, h]
theorem any_bools (S : Sto) (bs : List Bool) : gAny S [.own (bs.map fun b => SV.d (.bool b))] = some (.d (.bool (bs.any id))) := by
  simp [gAny, lst?, bools_map]
theorem rws_lst (Q : List (List Rat)) : (SV.d (.list (Q.map lR))) = .d (kD false (Q.map lR)) := rfl
theorem cut_drop {α : Type} (xs : List α) (k : Nat) : cutL xs (some (k : Int)) none = xs.drop k := by rw [cut_from _ (by omega)]; simp
theorem zipIdx_get {P : List Nat} {i : Nat} {p : Nat × Nat} (h : P.zipIdx[i]? = some p) : p.2 = i ∧ p.2 < P.length := by
  rw [List.getElem?_zipIdx, Option.map_eq_some_iff] at h
  obtain ⟨x, hx, rfl⟩ := h
  have := (List.getElem?_eq_some_iff.mp hx).1
  exact ⟨by simp, by simpa using this⟩
structure Aug (n B : Nat) (R : List (List Rat)) (b : List Rat) : Prop where
  mx : Mx (n + 1) B (aug R b)
  wid : ∀ r ∈ R, r.length = n
  len : R.length = b.length
  pos : 0 < R.length
  le : R.length ≤ 100
  n1 : n ≤ 99
  bd : bnd B n ≤ 6000000
theorem Aug.of {n B : Nat} {R : List (List Rat)} {b : List Rat} (hw : ∀ r ∈ R, r.length = n) (hs : ∀ r ∈ R, ∀ x ∈ r, Sz B x) (hb : ∀ x ∈ b, Sz B x) (hl : R.length = b.length) (h0 : 0 < R.length) (h1 : R.length ≤ 100) (hn : n ≤ 99) (bd : bnd B n ≤ 6000000) : Aug n B R b := by
  refine ⟨⟨fun r hr => ?_, fun r hr x hx => ?_⟩, hw, hl, h0, h1, hn, bd⟩
  · obtain ⟨q, hq, rfl⟩ := List.mem_map.mp hr
    rw [List.length_append, hw _ (List.of_mem_zip hq).1]
    rfl
  · obtain ⟨q, hq, rfl⟩ := List.mem_map.mp hr
    rcases List.mem_append.mp hx with hx | hx
    · exact hs _ (List.of_mem_zip hq).1 x hx
    · rw [List.mem_singleton.mp hx]; exact hb _ (List.of_mem_zip hq).2
theorem atI_mapN_V (S : Sto) (t : Nat) (rest : List Nat) : gIx S (nS (t :: rest)) (.d (.int 0)) = some (nI t) := by
  have := atI_mapN nI (t :: rest) (j := 0) (by simp)
  show (atI ((t :: rest).map nI) ((0 : Nat) : Int)).bind _ = _
  rw [this]
  rfl
--# solved
theorem solved_eq {k kr : Bool} {n B : Nat} {R : List (List Rat)} {b : List Rat} (h : Aug n B R b) (S : Sto) : G.F_solved [.d (kD k (R.map fun r => kD kr (r.map rD))), .d (kD k (b.map rD))] S = match solP (aug R b) n with
    | none => some (.exc "NoSuch" [] S)
    | some x => some (.ok (.d (tR x)) S) := by
  have hz := sizeLine_eq
  have hle := h.le
  have hn := h.n1
  have al := aug_len h.len
  have red := reduced_eq (w := n + 1) (b := B) (n := n) (R := aug R b) (x := .d (.list ((aug R b).map tR))) (sq := tR) (S := S) h.mx rfl (by omega) (by omega) (by omega) h.bd (by
    rw [iSeq_lst (ds := (aug R b).map tR) (S1 := S) rfl, List.map_map]
    rfl) (fun r => by rw [show (tR r) = kD true (r.map rD) from rfl, gList_kD, List.map_map]; rfl) rfl
  have rok := redP_ok h.mx rfl n (by omega)
  have el := redP_el h.mx n (Nat.le_refl _)
  have pl := redP_plen (R := aug R b) n
  unfold solP
  generalize redP (aug R b) n = st at *
  obtain ⟨Q, P⟩ := st
  obtain ⟨qm, ql⟩ := rok
  simp only at qm ql el pl red ⊢
  have pcol : ∀ p ∈ P.zipIdx, p.1 < n ∧ p.2 < Q.length := fun p hp => by
    have : (p.2, p.1) ∈ pvD P := List.mem_map_of_mem (f := fun p : Nat × Nat => (p.2, p.1)) hp
    obtain ⟨a, c, _⟩ := el.one _ this
    rw [List.length_map] at a
    exact ⟨c, a⟩
  have c0 : (eLc (VL.iZip2 (aCons (eVar 0) (aCons (eVar 1) aNil))) (gTp 2 (gsCons (gNm 8) (gsCons (gNm 9) gsNil))) bYes (eBin gAdd (eCal gTuple (aCons (eVar 8) aNil)) (eTup (aCons (eVarV 9) aNil))) [8, 9]) [some (.d (kD k (R.map fun r => kD kr (r.map rD)))), some (.d (kD k (b.map rD))), some (nI n), none, none, none, none, none, none, none] S = some (.ok (.own ((aug R b).map fun r => SV.d (tR r))) S) := by
    have zz : (VL.iZip2 (aCons (eVar 0) (aCons (eVar 1) aNil))) [some (.d (kD k (R.map fun r => kD kr (r.map rD)))), some (.d (kD k (b.map rD))), some (nI n), none, none, none, none, none, none, none] S = some (.ok ((R.zip b).map fun q => SV.d (.tuple [kD kr (q.1.map rD), rD q.2])) S) := by
      have : zipL (R.map fun r => kD kr (r.map rD)) (b.map rD) = (R.zip b).map fun q => SV.d (.tuple [kD kr (q.1.map rD), rD q.2]) := by
        unfold zipL
        rw [List.zip_map, List.map_map]
        rfl
      unfold iZip2
      rw [e_cons rfl (e_one rfl), VL.bindM_ok]
      cases k
      · simp only [kD, Bool.false_eq_true, if_false, plainL, Option.bind_some, Option.map_some]
        exact congrArg (fun z => some (Res.ok z S)) this
      · exact congrArg (fun z => some (Res.ok z S)) this
    have q := lc_map (ρ := [some (.d (kD k (R.map fun r => kD kr (r.map rD)))), some (.d (kD k (b.map rD))), some (nI n), none, none, none, none, none, none, none]) (S := S) (S1 := S) (it := VL.iZip2 (aCons (eVar 0) (aCons (eVar 1) aNil))) (tf := gTp 2 (gsCons (gNm 8) (gsCons (gNm 9) gsNil))) (vs := [8, 9]) (elt := eBin gAdd (eCal gTuple (aCons (eVar 8) aNil)) (eTup (aCons (eVarV 9) aNil))) (R.zip b) (fun q => SV.d (.tuple [kD kr (q.1.map rD), rD q.2])) (fun q => SV.d (tR (q.1 ++ [q.2]))) zz (by rw [hz, List.length_zip]; omega) fun q hq => by
      refine ⟨[some (.d (kD k (R.map fun r => kD kr (r.map rD)))), some (.d (kD k (b.map rD))), some (nI n), none, none, none, none, none, some (.d (kD kr (q.1.map rD))), some (rS q.2)], rfl, ?_⟩
      have wq := h.wid _ (List.of_mem_zip hq).1
      refine e_bin (e_cal (e_one rfl) (gTuple_kD S kr _)) (e_tup (e_one rfl) rfl (by simp)) ?_
      rw [gAdd_tt S (by simp [wq]; omega)]
      simp [tR]
    rw [q, aug, List.map_map]
    rfl
  have fz := frz_own ((aug R b).map tR)
  rw [List.map_map] at fz
  unfold G.F_solved G.f_solved
  have r0 := ix_kD S k (fun r => kD kr (r.map rD)) R [] h.pos
  have w0 := h.wid _ (getD_mem (d := []) h.pos)
  have st1 : ∀ (t : Stm) (Q' : VL.Fl → Prop), Wp (t [some (.d (kD k (R.map fun r => kD kr (r.map rD)))), some (.d (kD k (b.map rD))), some (nI n), some (.d (.list (Q.map lR))), some (.d (.list (P.map fun k : Nat => .int (k : Int)))), none, none, none, none, none] S) Q' → Wp (sSeq (sSet 2 (eCal gLen (aCons (eBin gIxB (eVar 0) (eCon (.int 0))) aNil))) (sSeq (sAsg (gTp 2 (gsCons (gNm 3) (gsCons (gNm 4) gsNil))) (eCall 2 G.F_reduced [] (aCons (eLc (VL.iZip2 (aCons (eVar 0) (aCons (eVar 1) aNil))) (gTp 2 (gsCons (gNm 8) (gsCons (gNm 9) gsNil))) bYes (eBin gAdd (eCal gTuple (aCons (eVar 8) aNil)) (eTup (aCons (eVarV 9) aNil))) [8, 9]) (aCons (eVarV 2) aNil)))) t) (rho0 10 [.d (kD k (R.map fun r => kD kr (r.map rD))), .d (kD k (b.map rD))]) S) Q' := fun t Q' ht => by
    refine wp_set (x := nI n) (S1 := S) (e_cal (e_one (e_bin rfl rfl r0)) (by rw [len_kD, List.length_map, w0])) ?_
    refine wp_nx (st_asg (y := .d (.tuple [.list (Q.map lR), .list (P.map fun k : Nat => .int (k : Int))])) (e_call (e_cons c0 (e_one rfl)) rfl (by rw [frzs_cons, show frz (.own ((aug R b).map fun r => SV.d (tR r))) = some (.d (.list ((aug R b).map tR))) from fz]; rfl) red) rfl rfl) ht
  have anyc : (eLc (VL.iSeq (eSl (eVar 3) (pSome (eCal gLen (aCons (eVar 4) aNil))) pNone)) (gNm 8) bYes (eBin (cB gNe) (eBin gIxB (eBin gIxB (eVar 8) (eVar 2)) (eCon (.int 0))) (eCon (.int 0))) [8]) [some (.d (kD k (R.map fun r => kD kr (r.map rD)))), some (.d (kD k (b.map rD))), some (nI n), some (.d (.list (Q.map lR))), some (.d (.list (P.map fun k : Nat => .int (k : Int)))), none, none, none, none, none] S = some (.ok (.own ((Q.drop P.length).map fun r => SV.d (.bool (!decide (r.getD n 0 = 0))))) S) := by
    refine lc_map (Q.drop P.length) (fun r => SV.d (lR r)) (fun r => SV.d (.bool (!decide (r.getD n 0 = 0)))) ?_ (by rw [hz, List.length_drop]; omega) fun r hr => ?_
    · have sl : gSl S (.d (.list (Q.map lR))) (some (P.length : Int)) none = some (.own ((Q.drop P.length).map fun r => SV.d (lR r))) := by
        show (if ((Q.map lR).map SV.d).all noOwn then some (SV.own (cutL ((Q.map lR).map SV.d) (some (P.length : Int)) none)) else none) = _
        rw [if_pos (by simp [noOwn]), cut_drop, List.map_map, List.map_drop]
        rfl
      exact iSeq_ownE (fun r => SV.d (lR r)) (fun _ => rfl) (e_sl (l := some (P.length : Int)) (S3 := S) rfl (o_some' (e_cal (e_one rfl) (by simp))) rfl sl)
    · have wr := qm.wid _ (List.mem_of_mem_drop hr)
      exact ⟨[some (.d (kD k (R.map fun r => kD kr (r.map rD)))), some (.d (kD k (b.map rD))), some (nI n), some (.d (.list (Q.map lR))), some (.d (.list (P.map fun k : Nat => .int (k : Int)))), none, none, none, some (.d (lR r)), none], rfl, e_cmp (e_bin (e_bin rfl rfl (ix_lR S (by omega))) rfl (ix_num S _)) rfl (ne0_num S _)⟩
  have anyv := any_bools S ((Q.drop P.length).map fun r => !decide (r.getD n 0 = 0))
  rw [List.map_map, List.any_map] at anyv
  have anyv' : gAny S [.own ((Q.drop P.length).map fun r => SV.d (.bool (!decide (r.getD n 0 = 0))))] = some (.d (.bool ((Q.drop P.length).any fun r => !decide (r.getD n 0 = 0)))) := anyv
  cases hv : (Q.drop P.length).any fun r => !decide (r.getD n 0 = 0) with
  | true =>
    rw [hv] at anyv'
    simp only [if_true]
    exact run_wpE (st1 _ _ (wp_raiseT (b_valB (e_cal (e_one anyc) anyv')) ⟨_, rfl⟩))
  | false =>
    rw [hv] at anyv'
    simp only [Bool.false_eq_true, if_false]
    refine run_wp (st1 _ _ (wp_pass (b_valB (e_cal (e_one anyc) anyv')) ?_))
    refine wp_set (x := .own ((List.replicate n (0 : Rat)).map rS)) (S1 := S) (e_bin (e_lst (e_one rfl) (by simp)) rfl (rep_zero S n (by omega))) ?_
    refine wp_for (xs := P.zipIdx.map fun p : Nat × Nat => SV.d (.tuple [.int (p.2 : Int), .int (p.1 : Int)])) (fun i ρ S' => S' = S ∧ ∃ s6 s7 s8 s9, ρ = [some (.d (kD k (R.map fun r => kD kr (r.map rD)))), some (.d (kD k (b.map rD))), some (nI n), some (.d (.list (Q.map lR))), some (.d (.list (P.map fun k : Nat => .int (k : Int)))), some (.own (((P.zipIdx.take i).foldl (fun s p => s.set p.1 (en Q p.2 n)) (List.replicate n 0)).map rS)), s6, s7, s8, s9]) (S1 := S) ?_ ⟨rfl, _, _, _, _, rfl⟩ ?_ ?_
    · show VL.iEnum1 _ _ _ = _
      unfold iEnum1
      rw [e_one (x := .d (.list (P.map fun k : Nat => .int (k : Int)))) rfl, VL.bindM_ok]
      simp only [plainL, Option.map_some, enum_n]
    · rintro i y hy ρ S' ⟨rfl, s6, s7, s8, s9, rfl⟩
      rw [List.getElem?_map, Option.map_eq_some_iff] at hy
      obtain ⟨⟨c, j⟩, hp, rfl⟩ := hy
      obtain ⟨hi, hp'⟩ := List.getElem?_eq_some_iff.mp hp
      obtain ⟨pc1, pc2⟩ := pcol _ (List.mem_of_getElem? hp)
      simp only at pc1 pc2
      rw [List.take_succ_eq_append_getElem hi, hp', List.foldl_append]
      have fl := fold_set_len (f := fun p => en Q p.2 n) (P.zipIdx.take i) (List.replicate n (0 : Rat))
      generalize (P.zipIdx.take i).foldl (fun s p => s.set p.1 (en Q p.2 n)) (List.replicate n (0 : Rat)) = s at fl ⊢
      rw [List.length_replicate] at fl
      refine ⟨[some (.d (kD k (R.map fun r => kD kr (r.map rD)))), some (.d (kD k (b.map rD))), some (nI n), some (.d (.list (Q.map lR))), some (.d (.list (P.map fun k : Nat => .int (k : Int)))), some (.own (s.map rS)), some (nI j), some (nI c), s8, s9], by simp, ?_⟩
      refine ⟨_, st_ix (xs := s.map rS) (k := c) rfl (e_bin (e_bin rfl rfl (ix_kD S' false lR Q [] pc2)) rfl (ix_lRV S' (by rw [qm.wid _ (getD_mem pc2)]; omega))) rfl (by rw [List.length_map, fl]; exact pc1), _, _, .inl rfl, rfl, some (nI j), some (nI c), s8, s9, ?_⟩
      simp only [List.foldl_cons, List.foldl_nil, List.map_set]
      rfl
    · rintro ρ2 S2 ⟨rfl, s6, s7, s8, s9, rfl⟩
      rw [List.length_map, List.take_length]
      exact wp_ret (e_cal (e_one rfl) (gTuple_o S2 rD _)) rfl
--# law_solve
abbrev dS (D : List (Nat × Nat)) : SV := .own (D.map fun p => SV.d (.tuple [.int (p.1 : Int), .int (p.2 : Int)]))
/-- [place for place, at in done] -/
theorem places_lc {ρ : Rho} {S : Sto} {D : List (Nat × Nat)} (h : (VL.iSeq (eVar 3)) ρ S = some (.ok (D.map fun p => SV.d (.tuple [.int (p.1 : Int), .int (p.2 : Int)])) S)) (hl : ρ.length = 15) (hD : D.length ≤ 1000) : (eLc (VL.iSeq (eVar 3)) (gTp 2 (gsCons (gNm 10) (gsCons (gNm 12) gsNil))) bYes (eVarV 10) [10, 12]) ρ S = some (.ok (nS (D.map (·.1))) S) := by
  have q := lc_map (ρ := ρ) (S := S) (S1 := S) (it := VL.iSeq (eVar 3)) (tf := gTp 2 (gsCons (gNm 10) (gsCons (gNm 12) gsNil))) (vs := [10, 12]) (elt := eVarV 10) D (fun p => SV.d (.tuple [.int (p.1 : Int), .int (p.2 : Int)])) (fun p => nI p.1) h (by rw [sizeLine_eq]; omega) fun p _ => ⟨((wipeR ρ [10, 12]).set 10 (some (nI p.1))).set 12 (some (nI p.2)), by simp, e_varV (by simp [wipeR, hl]) rfl⟩
  rw [q]
  simp [nS]
theorem law_solve_eq {k kr kb : Bool} {n B : Nat} {R : List (List Rat)} {b : List Rat} (h : Aug n B R b) (S : Sto) : G.F__law_solve [.d (kD k (R.map fun r => kD kr (r.map rD))), .d (kD kb (b.map rD))] S = match solL (aug R b) n with
    | none => some (.ok (.d .none) S)
    | some x => some (.ok (.own (x.map rS)) S) := by
  have hz := sizeLine_eq
  have hle := h.le
  have hn := h.n1
  have hlen := h.len
  have hpos := h.pos
  have al := aug_len h.len
  have hM := h.mx
  have hbd := h.bd
  have ixR : ∀ {i} (_ : i < R.length), gIxB S (.d (kD k (R.map fun r => kD kr (r.map rD)))) (nI i) = some (.d (kD kr ((R.getD i []).map rD))) := fun hi => ix_kD S k (fun r => kD kr (r.map rD)) R [] hi
  have ixb : ∀ {i} (_ : i < b.length), gIx S (.d (kD kb (b.map rD))) (nI i) = some (rS (b.getD i 0)) := fun hi => ixV_kD S kb rD b 0 hi
  have augE : ∀ i (hi : i < R.length), (aug R b)[i]'(by rw [al]; exact hi) = R.getD i [] ++ [b.getD i 0] := fun i hi => by
    have hb : i < b.length := by omega
    rw [getD_eq hi, getD_eq hb]
    simp [aug]
  -- the rows with their right sides
  have c0 : (eLc (VL.iRng1 (aCons (eCal gLen (aCons (eVar 0) aNil)) aNil)) (gNm 7) bYes (eFrz (eBin gAdd (eCal gList (aCons (eBin gIxB (eVar 0) (eVar 7)) aNil)) (eLst (aCons (eBin gIx (eVar 1) (eVar 7)) aNil)))) [7]) (rho0 15 [.d (kD k (R.map fun r => kD kr (r.map rD))), .d (kD kb (b.map rD))]) S = some (.ok (rws (aug R b)) S) := by
    have q := lc_map (ρ := rho0 15 [.d (kD k (R.map fun r => kD kr (r.map rD))), .d (kD kb (b.map rD))]) (S := S) (S1 := S) (it := VL.iRng1 (aCons (eCal gLen (aCons (eVar 0) aNil)) aNil)) (tf := gNm 7) (vs := [7]) (elt := eFrz (eBin gAdd (eCal gList (aCons (eBin gIxB (eVar 0) (eVar 7)) aNil)) (eLst (aCons (eBin gIx (eVar 1) (eVar 7)) aNil)))) (List.range R.length) nI (fun i => SV.d (lR (R.getD i [] ++ [b.getD i 0]))) (iRng_n (n := R.length) (e_cal (e_one rfl) (by rw [len_kD, List.length_map])) (by omega)) (by rw [hz, List.length_range]; omega) fun i hi => by
      have hi := List.mem_range.mp hi
      have hib : i < b.length := by omega
      have wi := h.wid _ (getD_mem (d := []) hi)
      refine ⟨[some (.d (kD k (R.map fun r => kD kr (r.map rD)))), some (.d (kD kb (b.map rD))), none, none, none, none, none, some (nI i), none, none, none, none, none, none, none], rfl, ?_⟩
      have ga : gAdd S (.own (((R.getD i []).map rD).map SV.d)) (.own [rS (b.getD i 0)]) = some (.own ((R.getD i [] ++ [b.getD i 0]).map rS)) := by
        show (if (((R.getD i []).map rD).map SV.d).all noOwn && [rS (b.getD i 0)].all noOwn && decide ((((R.getD i []).map rD).map SV.d).length + [rS (b.getD i 0)].length ≤ sizeLine) then some (SV.own ((((R.getD i []).map rD).map SV.d) ++ [rS (b.getD i 0)])) else none) = _
        have q2 : (((R.getD i []).map rD).map SV.d).length = n := by rw [List.length_map, List.length_map, wi]
        rw [if_pos (by rw [q2]; simp [noOwn, hz]; omega), List.map_map, List.map_append]
        rfl
      exact e_frz (e_bin (e_cal (e_one (e_bin rfl rfl (ixR hi))) (gList_kD S kr _)) (e_lst (e_one (e_bin rfl rfl (ixb hib))) (by simp)) ga) (frz_rS _)
    rw [q]
    congr 2
    unfold rws
    congr 1
    refine List.ext_getElem (by simp [al]) fun i h1 h2 => ?_
    have hi : i < R.length := by simpa using h1
    simp only [List.getElem_map, List.getElem_range, augE i hi]
  unfold G.F__law_solve G.f__law_solve
  have r0len : ((aug R b).getD 0 []).length = n + 1 := hM.wid _ (getD_mem (by omega))
  suffices hw : ∀ Q' : VL.Fl → Prop, (∀ S', S' = S → Q' (.rt (match solL (aug R b) n with | none => .d .none | some x => .own (x.map rS)) S')) → Wp (G.f__law_solve (rho0 15 [.d (kD k (R.map fun r => kD kr (r.map rD))), .d (kD kb (b.map rD))]) S) Q' by
    have := run_wp (n := 15) (hw _ fun S' e => by rw [e])
    refine Eq.trans this ?_
    cases solL (aug R b) n <;> rfl
  intro Q' hQ
  unfold G.f__law_solve
  refine wp_set c0 ?_
  refine wp_set (x := nI n) (S1 := S) (e_bin (x := nI (n + 1)) (e_cal (e_one (e_bin rfl rfl (ix_rws S (i := 0) (by rw [al]; exact hpos)))) (by rw [show (SV.d (lR ((aug R b).getD 0 []))) = .d (kD false (((aug R b).getD 0 []).map rD)) from rfl, len_kD, List.length_map, r0len])) rfl (by simp)) ?_
  refine wp_set (x := dS []) (S1 := S) (e_lst e_nil (by simp)) ?_
  refine wp_for (xs := (List.range n).map nI) (S1 := S) (fun i ρ S' => S' = S ∧ ∃ s4 s5 s6 s7 s8 s9 s10 s11 s12 s13 s14, ρ = [some (rws (redL (aug R b) i).1), some (.d (kD kb (b.map rD))), some (nI n), some (dS (redL (aug R b) i).2), s4, s5, s6, s7, s8, s9, s10, s11, s12, s13, s14]) (iRng_n rfl (by omega)) ⟨rfl, _, _, _, _, _, _, _, _, _, _, _, rfl⟩ ?_ ?_
  · rintro i y hy ρ S' ⟨rfl, s4, s5, s6, s7, s8, s9, s10, s11, s12, s13, s14, rfl⟩
    rw [List.getElem?_map, Option.map_eq_some_iff] at hy
    obtain ⟨c, hc, rfl⟩ := hy
    obtain ⟨hi, rfl⟩ := List.getElem?_eq_some_iff.mp hc
    rw [List.length_range] at hi
    rw [List.getElem_range]
    have hst := redL_ok hM rfl i (by omega)
    have pl := redL_plen (R := aug R b) i
    rw [redL_succ]
    have bi : bnd B i ≤ 6000000 := Nat.le_trans (bnd_le (by omega)) hbd
    generalize redL (aug R b) i = st at *
    obtain ⟨Q, D⟩ := st
    obtain ⟨qm, ql⟩ := hst
    simp only at qm ql pl
    generalize bnd B i = B' at *
    refine ⟨[some (rws Q), some (.d (kD kb (b.map rD))), some (nI n), some (dS D), some (nI i), s5, s6, s7, s8, s9, s10, s11, s12, s13, s14], rfl, ?_⟩
    refine wp_set (x := nS (pickL Q D i)) (S1 := S') ?_ ?_
    · have e0 : nS (pickL Q D i) = .own (((List.range Q.length).filter fun j => !(D.map (·.1)).contains j && !decide (en Q j i = 0)).map nI) := rfl
      rw [e0]
      refine lc_filter (ρ := [some (rws Q), some (.d (kD kb (b.map rD))), some (nI n), some (dS D), some (nI i), s5, s6, s7, s8, s9, s10, s11, s12, s13, s14]) (S := S') (it := VL.iRng1 (aCons (eCal gLen (aCons (eVar 0) aNil)) aNil)) (List.range Q.length) nI nI (fun j => !(D.map (·.1)).contains j && !decide (en Q j i = 0)) (iRng_n (n := Q.length) (by exact e_cal (e_one rfl) (by simp)) (by omega)) (by rw [hz, List.length_range]; omega) fun j hj => ?_
      have hj := List.mem_range.mp hj
      refine ⟨[some (rws Q), some (.d (kD kb (b.map rD))), some (nI n), some (dS D), some (nI i), s5, s6, some (nI j), s8, s9, s10, s11, s12, s13, s14], rfl, ?_, fun _ => rfl⟩
      have t1 : (bB (eBin (cB gNotIn) (eVar 7) (eLc (VL.iSeq (eVar 3)) (gTp 2 (gsCons (gNm 10) (gsCons (gNm 12) gsNil))) bYes (eVarV 10) [10, 12]))) [some (rws Q), some (.d (kD kb (b.map rD))), some (nI n), some (dS D), some (nI i), s5, s6, some (nI j), s8, s9, s10, s11, s12, s13, s14] S' = some (.ok (!(D.map (·.1)).contains j) S') := b_cmp rfl (places_lc (iSeq_own _ (fun _ => rfl) rfl) rfl (by omega)) (gNotIn_nS S' _ j)
      have t2 := b_en (ρ := [some (rws Q), some (.d (kD kb (b.map rD))), some (nI n), some (dS D), some (nI i), s5, s6, some (nI j), s8, s9, s10, s11, s12, s13, s14]) (S := S') (k := 0) (fi := eVar 7) (fj := eVar 4) qm rfl rfl rfl (i := j) (j := i) hj (by omega)
      cases hcn : (D.map (·.1)).contains j with
      | true => rw [hcn] at t1; exact b_andF t1
      | false => rw [hcn] at t1; exact b_andT t1 t2
    have ln : (eCal gLen (aCons (eVar 5) aNil)) [some (rws Q), some (.d (kD kb (b.map rD))), some (nI n), some (dS D), some (nI i), some (nS (pickL Q D i)), s6, s7, s8, s9, s10, s11, s12, s13, s14] S' = some (.ok (nI (pickL Q D i).length) S') := e_cal (e_one rfl) (by simp)
    cases hp : pickL Q D i with
    | nil =>
      have e : stepL (Q, D) i = (Q, D) := by simp only [stepL, hp]
      rw [e]
      rw [hp] at ln
      exact wp_ifF (S1 := S') (b_cmp ln rfl rfl) (wp_nil ⟨_, _, .inl rfl, rfl, _, _, _, _, _, _, _, _, _, _, _, rfl⟩)
    | cons t rest =>
      have e : stepL (Q, D) i = (elimL Q t i, D ++ [(t, i)]) := by simp only [stepL, hp]
      rw [e]
      obtain ⟨t1, t2, t3⟩ := pickL_mem.mp (show t ∈ pickL Q D i by rw [hp]; exact List.mem_cons_self)
      rw [hp] at ln
      refine wp_ifT (S1 := S') (b_cmp ln rfl (by simp only [nI_eq, gGt_i, List.length_cons]; rw [decide_eq_true (by omega)])) ?_
      have g50 : ∀ (S : Sto), gIxB S (nS (t :: rest)) (.d (.int 0)) = some (nI t) := fun S => atI_mapN nI (t :: rest) (j := 0) (by simp)
      have ltop : (Q.getD t []).length = n + 1 := qm.wid _ (getD_mem t1)
      have slead : Sz B' (en Q t i) := qm.sz _ (getD_mem t1) _ (getD_mem (by omega))
      refine wp_set (x := rS (en Q t i)) (S1 := S') (e_en (fi := eBin gIxB (eVar 5) (eCon (.int 0))) qm rfl (e_bin rfl rfl (g50 S')) rfl t1 (by omega)) ?_
      refine wp_nx (ρ2 := [some (rws (elimTo Q t i 0)), some (.d (kD kb (b.map rD))), some (nI n), some (dS D), some (nI i), some (nS (t :: rest)), some (rS (en Q t i)), s7, s8, s9, s10, s11, s12, s13, s14]) (S2 := S') ?_ ?_
      · rw [elimTo_zero t1, ← rws_set]
        have q := lc_map (ρ := [some (rws Q), some (.d (kD kb (b.map rD))), some (nI n), some (dS D), some (nI i), some (nS (t :: rest)), some (rS (en Q t i)), s7, s8, s9, s10, s11, s12, s13, s14]) (S := S') (S1 := S') (it := VL.iSeq (eBin gIxB (eVar 0) (eBin gIxB (eVar 5) (eCon (.int 0))))) (tf := gNm 13) (vs := [13]) (elt := (eCall 2 G.F__law_div [] (aCons (eVarV 13) (aCons (eVarV 6) aNil)))) (Q.getD t []) rS (fun x => rS (x / en Q t i)) (by
          rw [a_iSeq, e_bin (z := .d (lR (Q.getD t []))) rfl (e_bin rfl rfl (g50 S')) (ix_rws S' t1), VL.bindM_ok]
          simp [seq_lR]) (by rw [hz]; omega) fun x hx => ⟨[some (rws Q), some (.d (kD kb (b.map rD))), some (nI n), some (dS D), some (nI i), some (nS (t :: rest)), some (rS (en Q t i)), s7, s8, s9, s10, s11, s12, some (rS x), s14], rfl, e_call (e_cons rfl (e_one rfl)) rfl rfl (ldiv_eq (sz_ok (qm.sz _ (getD_mem t1) x hx) bi) (sz_ok slead bi) t3 S')⟩
        have f := frz_rS (divL (Q.getD t []) (en Q t i))
        rw [divL, List.map_map] at f
        exact st_ix rfl (e_frz q f) (e_bin rfl rfl (g50 S')) (by simpa using t1)
      refine wp_for (xs := (List.range Q.length).map nI) (S1 := S') (fun j ρ S2 => S2 = S' ∧ ∃ s7 s8 s9 s10 s11 s12 s13 s14, ρ = [some (rws (elimTo Q t i j)), some (.d (kD kb (b.map rD))), some (nI n), some (dS D), some (nI i), some (nS (t :: rest)), some (rS (en Q t i)), s7, s8, s9, s10, s11, s12, s13, s14]) (iRng_n (n := Q.length) (e_cal (e_one rfl) (by simp [elimTo_len])) (by omega)) ⟨rfl, _, _, _, _, _, _, _, _, rfl⟩ ?_ ?_
      · rintro j y hy ρ S2 ⟨rfl, s7, s8, s9, s10, s11, s12, s13, s14, rfl⟩
        rw [List.getElem?_map, Option.map_eq_some_iff] at hy
        obtain ⟨k', hk, rfl⟩ := hy
        obtain ⟨hj, rfl⟩ := List.getElem?_eq_some_iff.mp hk
        rw [List.length_range] at hj
        rw [List.getElem_range]
        have ej : j < (elimTo Q t i j).length := by rw [elimTo_len]; exact hj
        have et : t < (elimTo Q t i j).length := by rw [elimTo_len]; exact t1
        have zj : Q[j].length = n + 1 := qm.wid _ (List.getElem_mem hj)
        have row : ((elimTo Q t i j).getD j []).length = n + 1 := by
          rw [getD_eq ej]
          by_cases e : j = t
          · subst e
            rw [elimTo_top hj, divL_len]; exact ltop
          · rw [elimTo_get hj e]; exact zj
        refine ⟨[some (rws (elimTo Q t i j)), some (.d (kD kb (b.map rD))), some (nI n), some (dS D), some (nI i), some (nS (t :: rest)), some (rS (en Q t i)), some (nI j), s8, s9, s10, s11, s12, s13, s14], rfl, ?_⟩
        refine wp_set (x := rS (((elimTo Q t i j).getD j []).getD i 0)) (S1 := S2) (e_bin (e_bin rfl rfl (ix_rws S2 ej)) rfl (ix_lRV S2 (by rw [row]; omega))) ?_
        have g1 := gNe_nn S2 j t
        by_cases e : j = t
        · rw [decide_eq_true e] at g1
          rw [elimTo_succ hj, if_neg (fun z => z.1 e)]
          exact wp_ifF (S1 := S2) (b_andF (b_cmp rfl (e_bin rfl rfl (g50 S2)) g1)) (wp_nil ⟨_, _, .inl rfl, rfl, _, _, _, _, _, _, _, _, rfl⟩)
        · rw [decide_eq_false e] at g1
          have ge : (elimTo Q t i j).getD j [] = Q[j] := by rw [getD_eq ej, elimTo_get hj e]
          rw [ge]
          have n1 := ne0_num S2 (Q[j].getD i 0)
          by_cases h0 : Q[j].getD i 0 = 0
          · rw [decide_eq_true h0] at n1
            rw [elimTo_succ hj, if_neg (fun z => z.2 h0)]
            exact wp_ifF (S1 := S2) (b_andT (b_cmp rfl (e_bin rfl rfl (g50 S2)) g1) (b_cmp (e_bin rfl rfl (ix_num S2 _)) rfl n1)) (wp_nil ⟨_, _, .inl rfl, rfl, _, _, _, _, _, _, _, _, rfl⟩)
          · rw [decide_eq_false h0] at n1
            rw [elimTo_succ hj, if_pos ⟨e, h0⟩, ← rws_set]
            have sf : Sz B' (Q[j].getD i 0) := qm.sz _ (List.getElem_mem hj) _ (getD_mem (by omega))
            have q := lc_map (ρ := [some (rws (elimTo Q t i j)), some (.d (kD kb (b.map rD))), some (nI n), some (dS D), some (nI i), some (nS (t :: rest)), some (rS (en Q t i)), some (nI j), some (rS (Q[j].getD i 0)), s9, s10, s11, s12, s13, s14]) (S := S2) (S1 := S2) (it := VL.iRng1 (aCons (eBin gAdd (eVar 2) (eCon (.int 1))) aNil)) (tf := gNm 14) (vs := [14]) (elt := (eCall 2 G.F__law_sub [] (aCons (eBin gIx (eBin gIxB (eVar 0) (eVar 7)) (eVar 14)) (aCons (eCall 2 G.F__law_mul [] (aCons (eVarV 8) (aCons (eBin gIx (eBin gIxB (eVar 0) (eBin gIxB (eVar 5) (eCon (.int 0)))) (eVar 14)) aNil))) aNil)))) (List.range (n + 1)) nI (fun i' => rS (Q[j].getD i' 0 - Q[j].getD i 0 * (divL (Q.getD t []) (en Q t i)).getD i' 0)) (iRng_n (n := n + 1) (e_bin rfl rfl rfl) (by omega)) (by rw [hz, List.length_range]; omega) fun i' hi' => by
              have hi' := List.mem_range.mp hi'
              refine ⟨[some (rws (elimTo Q t i j)), some (.d (kD kb (b.map rD))), some (nI n), some (dS D), some (nI i), some (nS (t :: rest)), some (rS (en Q t i)), some (nI j), some (rS (Q[j].getD i 0)), s9, s10, s11, s12, s13, some (nI i')], rfl, ?_⟩
              have s1 : Sz B' (Q[j].getD i' 0) := qm.sz _ (List.getElem_mem hj) _ (getD_mem (by omega))
              have s2 : Sz (2 * B') ((divL (Q.getD t []) (en Q t i)).getD i' 0) := by
                have : (divL (Q.getD t []) (en Q t i)).getD i' 0 ∈ divL (Q.getD t []) (en Q t i) := getD_mem (by rw [divL_len]; omega)
                obtain ⟨z, hz, e⟩ := List.mem_map.mp this
                rw [← e]
                exact ((qm.sz _ (getD_mem t1) z hz).div slead t3).mono (by omega)
              have m1 := lmul_eq (sz_ok sf bi) (s2.ok (by omega)) S2
              have m2 := lsub_eq (sz_ok s1 bi) ((sf.mul s2).ok (by omega)) S2
              exact e_call (e_cons (e_bin (e_bin rfl rfl (ix_rws S2 ej |>.trans (by rw [ge]))) rfl (ix_lRV S2 (by omega))) (e_one (e_call (e_cons rfl (e_one (e_bin (e_bin rfl (e_bin rfl rfl (g50 S2)) (ix_rws S2 et |>.trans (by rw [getD_eq et, elimTo_top t1]))) rfl (ix_lRV S2 (by rw [divL_len]; omega))))) rfl rfl m1))) rfl rfl m2
            have f := frz_rS (subL Q[j] (Q[j].getD i 0) (divL (Q.getD t []) (en Q t i)))
            have eq : (List.range (n + 1)).map (fun i' => rS (Q[j].getD i' 0 - Q[j].getD i 0 * (divL (Q.getD t []) (en Q t i)).getD i' 0)) = (subL Q[j] (Q[j].getD i 0) (divL (Q.getD t []) (en Q t i))).map rS := by
              refine List.ext_getElem (by rw [List.length_map, List.length_range, List.length_map, subL_len _ (by rw [divL_len, zj, ltop]), zj]) fun x h1 h2 => ?_
              have hx : x < n + 1 := by simpa using h1
              have hx2 : x < Q[j].length := by omega
              have hx3 : x < (divL (Q.getD t []) (en Q t i)).length := by rw [divL_len]; omega
              simp only [List.getElem_map, List.getElem_range, subL, List.getElem_zip, getD_eq hx2, getD_eq hx3]
            rw [eq] at q
            refine wp_ifT (S1 := S2) (b_andT (b_cmp rfl (e_bin rfl rfl (g50 S2)) g1) (b_cmp (e_bin rfl rfl (ix_num S2 _)) rfl n1)) ⟨_, st_ix rfl (e_frz q f) rfl (by simpa using ej), _, _, .inl rfl, rfl, some (nI j), some (rS (Q[j].getD i 0)), s9, s10, s11, s12, s13, s14, rfl⟩
      · rintro ρ3 S3 ⟨rfl, s7, s8, s9, s10, s11, s12, s13, s14, rfl⟩
        rw [List.length_map, List.length_range, elimTo_all]
        refine ⟨_, app_own (ys := D.map fun p => SV.d (.tuple [.int (p.1 : Int), .int (p.2 : Int)])) (y := .d (.tuple [.int (t : Int), .int (i : Int)])) (S1 := S3) rfl (e_one (e_tup (e_cons (e_bin (z := nI t) rfl rfl (atI_mapN_V S3 t rest)) (e_one rfl)) rfl (by simp))) (by rw [List.length_map]; omega), _, _, .inl rfl, rfl, some (nI i), some (nS (t :: rest)), some (rS (en Q t i)), s7, s8, s9, s10, s11, s12, s13, s14, ?_⟩
        simp [dS]
  · rintro ρ2 S2 ⟨rfl, s4, s5, s6, s7, s8, s9, s10, s11, s12, s13, s14, rfl⟩
    rw [List.length_map, List.length_range]
    have hst := redL_ok hM rfl n (by omega)
    have el := redL_el hM n (Nat.le_refl _)
    have pl := redL_plen (R := aug R b) n
    have hsol : solL (aug R b) n = if restL (redL (aug R b) n).1 (redL (aug R b) n).2 n = [] then some (((redL (aug R b) n).2.map fun p => (p.2, p.1)).foldl (fun s p => s.set p.1 (en (redL (aug R b) n).1 p.2 n)) (List.replicate n 0)) else none := rfl
    rw [hsol] at hQ
    generalize redL (aug R b) n = st at *
    obtain ⟨Q, D⟩ := st
    obtain ⟨qm, ql⟩ := hst
    simp only at qm ql pl el hQ
    have pcol : ∀ p ∈ D, p.2 < n ∧ p.1 < Q.length := fun p hp => by
      obtain ⟨a, c, _⟩ := el.one _ hp
      rw [List.length_map] at a
      exact ⟨c, a⟩
    refine wp_set (x := .own ((List.replicate n (0 : Rat)).map rS)) (S1 := S2) (e_bin (e_lst (e_one (x := .d rD0) (e_tup (e_cons rfl (e_one rfl)) rfl (by simp))) (by simp)) rfl (rep_zero S2 n (by omega))) ?_
    have fz := frz_own (D.map fun p => .tuple [.int (p.1 : Int), .int (p.2 : Int)])
    rw [List.map_map] at fz
    refine wp_gh2 (x := dS D) (y := .d (.list (D.map fun p : Nat × Nat => .tuple [.int (p.1 : Int), .int (p.2 : Int)]))) rfl fz ?_
    refine wp_for (xs := D.map fun p => SV.d (.tuple [.int (p.1 : Int), .int (p.2 : Int)])) (fun i ρ S' => S' = S2 ∧ ∃ s4 s5 s6 s7 s8 s10 s11 s12 s13 s14, ρ = [some (rws Q), some (.d (kD kb (b.map rD))), some (nI n), some (.d (.list (D.map fun p : Nat × Nat => .tuple [.int (p.1 : Int), .int (p.2 : Int)]))), s4, s5, s6, s7, s8, some (.own ((((D.take i).map fun p => (p.2, p.1)).foldl (fun s p => s.set p.1 (en Q p.2 n)) (List.replicate n 0)).map rS)), s10, s11, s12, s13, s14]) (S1 := S2) ?_ ⟨rfl, _, _, _, _, _, _, _, _, _, _, rfl⟩ ?_ ?_
    · rw [iSeq_lst (ds := D.map fun p : Nat × Nat => .tuple [.int (p.1 : Int), .int (p.2 : Int)]) (S1 := S2) rfl, List.map_map]
      rfl
    · rintro i y hy ρ S' ⟨rfl, s4, s5, s6, s7, s8, s10, s11, s12, s13, s14, rfl⟩
      rw [List.getElem?_map, Option.map_eq_some_iff] at hy
      obtain ⟨⟨p, c⟩, hp, rfl⟩ := hy
      obtain ⟨hi, hp'⟩ := List.getElem?_eq_some_iff.mp hp
      obtain ⟨pc1, pc2⟩ := pcol _ (List.mem_of_getElem? hp)
      simp only at pc1 pc2
      rw [List.take_succ_eq_append_getElem hi, hp', List.map_append, List.foldl_append]
      have fl := fold_set_len (f := fun p => en Q p.2 n) ((D.take i).map fun p => (p.2, p.1)) (List.replicate n (0 : Rat))
      generalize ((D.take i).map fun p => (p.2, p.1)).foldl (fun s p => s.set p.1 (en Q p.2 n)) (List.replicate n (0 : Rat)) = s at fl ⊢
      rw [List.length_replicate] at fl
      refine ⟨[some (rws Q), some (.d (kD kb (b.map rD))), some (nI n), some (.d (.list (D.map fun p : Nat × Nat => .tuple [.int (p.1 : Int), .int (p.2 : Int)]))), some (nI c), s5, s6, s7, s8, some (.own (s.map rS)), some (nI p), s11, s12, s13, s14], by simp, ?_⟩
      refine ⟨_, st_ix (xs := s.map rS) (k := c) rfl (e_en qm rfl rfl rfl pc2 (by omega)) rfl (by rw [List.length_map, fl]; exact pc1), _, _, .inl rfl, rfl, some (nI c), s5, s6, s7, s8, some (nI p), s11, s12, s13, s14, ?_⟩
      simp only [List.map_cons, List.map_nil, List.foldl_cons, List.foldl_nil, List.map_set]
      rfl
    · rintro ρ2 S3 ⟨rfl, s4, s5, s6, s7, s8, s10, s11, s12, s13, s14, rfl⟩
      rw [List.length_map, List.take_length]
      refine wp_set (places_lc (D := D) ?_ rfl (by omega)) ?_
      · rw [iSeq_lst (ds := D.map fun p : Nat × Nat => .tuple [.int (p.1 : Int), .int (p.2 : Int)]) (S1 := S3) rfl, List.map_map]
        rfl
      have rl : (eLc (VL.iRng1 (aCons (eCal gLen (aCons (eVar 0) aNil)) aNil)) (gNm 7) (bAnd (bB (eBin (cB gNotIn) (eVar 7) (eVar 11))) (bB (eBin (cB gNe) (eBin gIxB (eBin gIxB (eBin gIxB (eVar 0) (eVar 7)) (eVar 2)) (eCon (.int 0))) (eCon (.int 0))))) (eVarV 7) [7]) [some (rws Q), some (.d (kD kb (b.map rD))), some (nI n), some (.d (.list (D.map fun p : Nat × Nat => .tuple [.int (p.1 : Int), .int (p.2 : Int)]))), s4, s5, s6, s7, s8, some (.own (((D.map fun p => (p.2, p.1)).foldl (fun s p => s.set p.1 (en Q p.2 n)) (List.replicate n 0)).map rS)), s10, some (nS (D.map (·.1))), s12, s13, s14] S3 = some (.ok (nS (restL Q D n)) S3) := by
        have e0 : nS (restL Q D n) = .own (((List.range Q.length).filter fun j => !(D.map (·.1)).contains j && !decide (en Q j n = 0)).map nI) := rfl
        rw [e0]
        refine lc_filter (ρ := [some (rws Q), some (.d (kD kb (b.map rD))), some (nI n), some (.d (.list (D.map fun p : Nat × Nat => .tuple [.int (p.1 : Int), .int (p.2 : Int)]))), s4, s5, s6, s7, s8, some (.own (((D.map fun p => (p.2, p.1)).foldl (fun s p => s.set p.1 (en Q p.2 n)) (List.replicate n 0)).map rS)), s10, some (nS (D.map (·.1))), s12, s13, s14]) (S := S3) (it := VL.iRng1 (aCons (eCal gLen (aCons (eVar 0) aNil)) aNil)) (List.range Q.length) nI nI (fun j => !(D.map (·.1)).contains j && !decide (en Q j n = 0)) (iRng_n (n := Q.length) (by exact e_cal (e_one rfl) (by simp)) (by omega)) (by rw [hz, List.length_range]; omega) fun j hj => ?_
        have hj := List.mem_range.mp hj
        refine ⟨[some (rws Q), some (.d (kD kb (b.map rD))), some (nI n), some (.d (.list (D.map fun p : Nat × Nat => .tuple [.int (p.1 : Int), .int (p.2 : Int)]))), s4, s5, s6, some (nI j), s8, some (.own (((D.map fun p => (p.2, p.1)).foldl (fun s p => s.set p.1 (en Q p.2 n)) (List.replicate n 0)).map rS)), s10, some (nS (D.map (·.1))), s12, s13, s14], rfl, ?_, fun _ => rfl⟩
        have t1 := b_cmp (ρ := [some (rws Q), some (.d (kD kb (b.map rD))), some (nI n), some (.d (.list (D.map fun p : Nat × Nat => .tuple [.int (p.1 : Int), .int (p.2 : Int)]))), s4, s5, s6, some (nI j), s8, some (.own (((D.map fun p => (p.2, p.1)).foldl (fun s p => s.set p.1 (en Q p.2 n)) (List.replicate n 0)).map rS)), s10, some (nS (D.map (·.1))), s12, s13, s14]) (S := S3) (f := eVar 7) (g := eVar 11) rfl rfl (gNotIn_nS S3 (D.map (·.1)) j)
        have t2 := b_en (ρ := [some (rws Q), some (.d (kD kb (b.map rD))), some (nI n), some (.d (.list (D.map fun p : Nat × Nat => .tuple [.int (p.1 : Int), .int (p.2 : Int)]))), s4, s5, s6, some (nI j), s8, some (.own (((D.map fun p => (p.2, p.1)).foldl (fun s p => s.set p.1 (en Q p.2 n)) (List.replicate n 0)).map rS)), s10, some (nS (D.map (·.1))), s12, s13, s14]) (S := S3) (k := 0) (fi := eVar 7) (fj := eVar 2) qm rfl rfl rfl (i := j) (j := n) hj (by omega)
        cases hcn : (D.map (·.1)).contains j with
        | true => rw [hcn] at t1; exact b_andF t1
        | false => rw [hcn] at t1; exact b_andT t1 t2
      have ne : gNe S3 (nS (restL Q D n)) (.own []) = some (!decide (restL Q D n = [])) := ne_nil S3 _
      by_cases hr : restL Q D n = []
      · rw [decide_eq_true hr] at ne
        rw [if_pos hr] at hQ
        exact wp_pass (b_cmp rl (e_lst e_nil (by simp)) ne) (wp_retV rfl (hQ _ rfl))
      · rw [decide_eq_false hr] at ne
        rw [if_neg hr] at hQ
        exact wp_retIf (b_cmp rl (e_lst e_nil (by simp)) ne) rfl (hQ _ rfl)
--# end
end M

end
section
set_option Elab.async false
set_option linter.all false
set_option maxRecDepth 100000
/-! A5: what all wires lead: the rows of a web. -/
namespace M
open PySem PySem.Spec PyProof.Rows L2 VL
/-- lists of one's own in a list of one's own -/
abbrev rwo (R : List (List Rat)) : SV := .own (R.map fun r => SV.own (r.map rS))
def updL (M : List (List Rat)) (i j : Nat) (v : Rat) : List (List Rat) := M.set i ((M.getD i []).set j v)
def ldStep (M : List (List Rat)) (w : Wi) : List (List Rat) :=
  let M1 := updL M w.1 w.1 (en M w.1 w.1 + w.2.2)
  let M2 := updL M1 w.2.1 w.2.1 (en M1 w.2.1 w.2.1 + w.2.2)
  let M3 := updL M2 w.1 w.2.1 (en M2 w.1 w.2.1 - w.2.2)
  updL M3 w.2.1 w.1 (en M3 w.2.1 w.1 - w.2.2)
def zeros (n : Nat) : List (List Rat) := List.replicate n (List.replicate n 0)
def leadL (n : Nat) (ws : List Wi) : List (List Rat) := ws.foldl ldStep (zeros n)
/-- n by n -/
structure Sq (n : Nat) (M : List (List Rat)) : Prop where
  len : M.length = n
  wid : ∀ r ∈ M, r.length = n
theorem sq_zeros (n : Nat) : Sq n (zeros n) := ⟨by simp [zeros], fun r hr => by rw [List.eq_of_mem_replicate hr]; simp⟩
theorem Sq.upd {n : Nat} {M : List (List Rat)} (h : Sq n M) {i j : Nat} (hi : i < n) (v : Rat) : Sq n (updL M i j v) := by
  refine ⟨by simp [updL, h.len], fun r hr => ?_⟩
  rcases List.mem_or_eq_of_mem_set hr with hr | rfl
  · exact h.wid r hr
  · rw [List.length_set]; exact h.wid _ (getD_mem (by rw [h.len]; exact hi))
theorem en_upd {n : Nat} {M : List (List Rat)} (h : Sq n M) {i j : Nat} (hi : i < n) (hj : j < n) (v : Rat) (a b : Nat) : en (updL M i j v) a b = if a = i ∧ b = j then v else en M a b := by
  have hi' : i < M.length := by rw [h.len]; exact hi
  have hr : (M.getD i []).length = n := h.wid _ (getD_mem hi')
  unfold en updL
  by_cases e : a = i
  · subst e
    have : (M.set a ((M.getD a []).set j v)).getD a [] = (M.getD a []).set j v := by
      rw [getD_eq (by simpa using hi'), List.getElem_set_self]
    rw [this]
    by_cases e2 : b = j
    · subst e2
      rw [getD_eq (by rw [List.length_set, hr]; exact hj), List.getElem_set_self, if_pos ⟨rfl, rfl⟩]
    · rw [if_neg (fun z => e2 z.2)]
      simp only [List.getD, List.getElem?_set, if_neg (fun z => e2 z.symm : ¬ j = b)]
  · rw [if_neg (fun z => e z.1)]
    simp only [List.getD, List.getElem?_set, if_neg (fun z => e z.symm : ¬ i = a)]
theorem Sq.step {n : Nat} {M : List (List Rat)} (h : Sq n M) {w : Wi} (h1 : w.1 < n) (h2 : w.2.1 < n) : Sq n (ldStep M w) := (((h.upd h1 _).upd h2 _).upd h1 _).upd h2 _
/-- what a wire leads between two joints -/
def wt (w : Wi) (a b : Nat) : Rat := if a = w.1 ∧ b = w.1 ∨ a = w.2.1 ∧ b = w.2.1 then w.2.2 else if a = w.1 ∧ b = w.2.1 ∨ a = w.2.1 ∧ b = w.1 then - w.2.2 else 0
theorem en_step {n : Nat} {M : List (List Rat)} (h : Sq n M) {w : Wi} (h0 : w.1 ≠ w.2.1) (h1 : w.1 < n) (h2 : w.2.1 < n) (a b : Nat) : en (ldStep M w) a b = en M a b + wt w a b := by
  have e1 := h.upd (j := w.1) h1 (en M w.1 w.1 + w.2.2)
  have E1 := en_upd h h1 h1 (en M w.1 w.1 + w.2.2)
  have e2 := e1.upd (j := w.2.1) h2 (en (updL M w.1 w.1 (en M w.1 w.1 + w.2.2)) w.2.1 w.2.1 + w.2.2)
  have E2 := en_upd e1 h2 h2 (en (updL M w.1 w.1 (en M w.1 w.1 + w.2.2)) w.2.1 w.2.1 + w.2.2)
  unfold ldStep
  simp only []
  generalize updL M w.1 w.1 (en M w.1 w.1 + w.2.2) = M1 at *
  generalize updL M1 w.2.1 w.2.1 (en M1 w.2.1 w.2.1 + w.2.2) = M2 at *
  have e3 := e2.upd (j := w.2.1) h1 (en M2 w.1 w.2.1 - w.2.2)
  have E3 := en_upd e2 h1 h2 (en M2 w.1 w.2.1 - w.2.2)
  have E4 := en_upd e3 h2 h1 (en (updL M2 w.1 w.2.1 (en M2 w.1 w.2.1 - w.2.2)) w.2.1 w.1 - w.2.2)
  rw [E4, E3, E3]
  simp only [E2, E1]
  unfold wt
  by_cases a1 : a = w.1
  · by_cases a2 : b = w.1
    · subst a1; subst a2
      simp [h0, Ne.symm h0]
    · by_cases a3 : b = w.2.1
      · subst a1; subst a3
        simp [h0, Ne.symm h0]; grind
      · subst a1
        simp [h0, Ne.symm h0, a2, a3]; grind
  · by_cases a2 : a = w.2.1
    · by_cases a3 : b = w.1
      · subst a2; subst a3
        simp [h0, Ne.symm h0]; grind
      · by_cases a4 : b = w.2.1
        · subst a2; subst a4
          simp [h0, Ne.symm h0]
        · subst a2
          simp [h0, Ne.symm h0, a3, a4]; grind
    · simp [a1, a2]; grind
theorem sq_fold {n : Nat} : ∀ (ws : List Wi) (M : List (List Rat)), (∀ w ∈ ws, w.1 < n ∧ w.2.1 < n) → Sq n M → Sq n (ws.foldl ldStep M)
  | [], _, _, h => h
  | w :: ws, M, hw, h => sq_fold ws _ (fun v m => hw v (List.mem_cons_of_mem _ m)) (h.step (hw w List.mem_cons_self).1 (hw w List.mem_cons_self).2)
/-- sizes: twelfths -/
def Tw (m : Nat) (x : Rat) : Prop := ∃ k : Int, x = Rat.divInt k 12 ∧ k.natAbs ≤ m
theorem Tw.add {a b : Nat} {x y : Rat} (h1 : Tw a x) (h2 : Tw b y) : Tw (a + b) (x + y) := by
  obtain ⟨k, rfl, hk⟩ := h1
  obtain ⟨l, rfl, hl⟩ := h2
  refine ⟨k + l, ?_, by omega⟩
  rw [Rat.divInt_eq_div, Rat.divInt_eq_div, Rat.divInt_eq_div, Rat.div_def, Rat.div_def, Rat.div_def, Rat.intCast_add]
  grind
theorem Tw.neg {a : Nat} {x : Rat} (h1 : Tw a x) : Tw a (-x) := by
  obtain ⟨k, rfl, hk⟩ := h1
  exact ⟨-k, by rw [Rat.neg_divInt], by omega⟩
theorem Tw.sub {a b : Nat} {x y : Rat} (h1 : Tw a x) (h2 : Tw b y) : Tw (a + b) (x - y) := by
  rw [Rat.sub_eq_add_neg]
  exact h1.add h2.neg
theorem Tw.mono {a b : Nat} {x : Rat} (h : Tw a x) (l : a ≤ b) : Tw b x := by
  obtain ⟨k, e, hk⟩ := h
  exact ⟨k, e, by omega⟩
theorem tw0 : Tw 0 0 := ⟨0, by simp, by decide⟩
theorem Tw.sz {m b : Nat} {x : Rat} (h : Tw m x) (hm : m < 2 ^ b) (hb : 4 ≤ b) : Sz b x := by
  obtain ⟨k, rfl, hk⟩ := h
  refine sz_div (by decide) (Nat.lt_of_le_of_lt hk hm) ?_
  show (12 : Int).natAbs < 2 ^ b
  have := two_mono hb
  show 12 < 2 ^ b
  omega
/-- a drawn wire leads at most 72 twelfths -/
theorem tw_den {x : Rat} (hn : x.num.natAbs ≤ 6) (hd : x.den ≤ 4) : Tw 72 x := by
  have h0 := x.den_pos
  have hx : x = Rat.divInt x.num x.den := (Rat.num_divInt_den x).symm
  obtain ⟨q, hq, hq2⟩ : ∃ q : Nat, x.den * q = 12 ∧ q ≤ 12 := by
    have : x.den = 1 ∨ x.den = 2 ∨ x.den = 3 ∨ x.den = 4 := by omega
    rcases this with e | e | e | e
    · exact ⟨12, by omega, by omega⟩
    · exact ⟨6, by omega, by omega⟩
    · exact ⟨4, by omega, by omega⟩
    · exact ⟨3, by omega, by omega⟩
  refine ⟨x.num * q, ?_, ?_⟩
  · conv => lhs; rw [hx]
    have q0 : (q : Int) ≠ 0 := by
      intro e
      have : q = 0 := by omega
      subst this
      simp at hq
    have := Rat.divInt_mul_right (n := x.num) (d := x.den) q0
    rw [← this]
    congr 1
    have : ((x.den * q : Nat) : Int) = 12 := by rw [hq]; rfl
    simpa using this
  · rw [Int.natAbs_mul]
    have : x.num.natAbs * (q : Int).natAbs ≤ 6 * 12 := Nat.mul_le_mul hn (by simpa using hq2)
    omega
theorem ok_tw {m : Nat} {x : Rat} (h : Tw m x) (hm : m ≤ 1000000) : Ok x := by
  have : (1000000 : Nat) < 2 ^ 20 := by decide
  exact (h.sz (b := 20) (by omega) (by omega)).ok (by omega)
/-- each entry of at most m twelfths -/
def TwM (m : Nat) (M : List (List Rat)) : Prop := ∀ a b, Tw m (en M a b)
theorem twM_zeros (n m : Nat) : TwM m (zeros n) := fun a b => by
  have : en (zeros n) a b = 0 := by
    unfold en zeros
    simp only [List.getD, List.getElem?_replicate]
    split
    · simp only [Option.getD_some, List.getElem?_replicate]
      split <;> rfl
    · simp
  rw [this]
  exact tw0.mono (by omega)
theorem tw_wt {m : Nat} {w : Wi} (h : Tw m w.2.2) (a b : Nat) : Tw m (wt w a b) := by
  unfold wt
  split
  · exact h
  · split
    · exact h.neg
    · exact tw0.mono (by omega)
theorem TwM.step {n m k : Nat} {M : List (List Rat)} (hs : Sq n M) (h : TwM m M) {w : Wi} (hw : Tw k w.2.2) (h0 : w.1 ≠ w.2.1) (h1 : w.1 < n) (h2 : w.2.1 < n) : TwM (m + k) (ldStep M w) := fun a b => by
  rw [en_step hs h0 h1 h2]
  exact (h a b).add (tw_wt hw a b)
theorem mem_en {n : Nat} {M : List (List Rat)} (h : Sq n M) {P : Rat → Prop} (hp : ∀ a b, P (en M a b)) : ∀ r ∈ M, ∀ x ∈ r, P x := fun r hr x hx => by
  obtain ⟨i, hi, rfl⟩ := List.getElem_of_mem hr
  obtain ⟨j, hj, rfl⟩ := List.getElem_of_mem hx
  have := hp i j
  unfold en at this
  rw [getD_eq hi, getD_eq hj] at this
  exact this
/-! own lists of own lists -/
theorem ix_rwo (S : Sto) {R : List (List Rat)} {i : Nat} (h : i < R.length) : gIxB S (rwo R) (nI i) = some (.own ((R.getD i []).map rS)) := atI_getD (fun r : List Rat => SV.own (r.map rS)) R [] h
theorem ix_oV (S : Sto) {r : List Rat} {j : Nat} (h : j < r.length) : gIx S (.own (r.map rS)) (nI j) = some (rS (r.getD j 0)) := by
  show (atI (r.map rS) (j : Int)).bind _ = _
  rw [atI_getD rS r 0 h]
  rfl
theorem e_enO {n : Nat} {ρ : Rho} {S : Sto} {M : List (List Rat)} {i j : Nat} {fi fj : Rho → Mo SV} {k : Nat} (hM : Sq n M) (hR : ρ[k]? = some (some (rwo M))) (hi : fi ρ S = some (.ok (nI i) S)) (hj : fj ρ S = some (.ok (nI j) S)) (h1 : i < n) (h2 : j < n) :
    (eBin gIx (eBin gIxB (eVar k) fi) fj) ρ S = some (.ok (rS (en M i j)) S) :=
  have h1' : i < M.length := by rw [hM.len]; exact h1
  e_bin (e_bin (e_var hR) hi (ix_rwo S h1')) hj (ix_oV S (by rw [hM.wid _ (getD_mem h1')]; exact h2))
theorem st_upd {n : Nat} {ρ : Rho} {S S1 : Sto} {M : List (List Rat)} {i j k : Nat} {v : Rat} {f fi fj : Rho → Mo SV} (hM : Sq n M) (hR : ρ[k]? = some (some (rwo M))) (hv : f ρ S = some (.ok (rS v) S1)) (hi : fi ρ S1 = some (.ok (nI i) S1)) (hj : fj ρ S1 = some (.ok (nI j) S1)) (h1 : i < n) (h2 : j < n) :
    sStore (lIx (lVar k) fi) fj f ρ S = some (.nx (ρ.set k (some (rwo (updL M i j v)))) S1) := by
  have h1' : i < M.length := by rw [hM.len]; exact h1
  have r1 : M.getD i [] = M[i] := getD_eq h1'
  rw [st_ix2 (ys := (M.getD i []).map rS) hR hv hi hj (by rw [List.getElem?_map, List.getElem?_eq_getElem h1', r1]; rfl) (by rw [List.length_map, hM.wid _ (getD_mem h1')]; exact h2)]
  congr 3
  unfold rwo updL
  rw [List.map_set, List.map_set]
theorem zeros_lc {ρ : Rho} {S : Sto} {n k : Nat} {it : Rho → Mo (List SV)} {f g : Rho → Mo SV} (hi : it ρ S = some (.ok ((List.range n).map nI) S)) (hn : n ≤ 1000) (h1 : ∀ ρ' : Rho, f ρ' S = some (.ok (.d rD0) S)) (h2 : ∀ j, g ((wipeR ρ [k]).set k (some (nI j))) S = some (.ok (nI n) S)) :
    (eLc it (gNm k) bYes (eBin gMulT (eLst (aCons f aNil)) g) [k]) ρ S = some (.ok (rwo (zeros n)) S) := by
  have q := lc_map (ρ := ρ) (S := S) (S1 := S) (it := it) (tf := gNm k) (vs := [k]) (elt := (eBin gMulT (eLst (aCons f aNil)) g)) (List.range n) nI (fun _ => SV.own ((List.replicate n (0 : Rat)).map rS)) hi (by rw [sizeLine_eq, List.length_range]; omega) fun j _ => ⟨_, rfl, e_bin (e_lst (e_one (h1 _)) (by simp)) (h2 j) (rep_zero S n hn)⟩
  rw [q]
  congr 2
  unfold rwo zeros
  congr 1
  refine List.ext_getElem (by simp) fun i h1 h2 => by simp
/-- the unit row -/
def unitL (n k : Nat) : List Rat := (List.range n).map fun j => if j = k then 1 else 0
structure LdOk (n : Nat) (ws : List Wi) : Prop where
  lt : ∀ w ∈ ws, w.1 < w.2.1 ∧ w.2.1 < n
  tw : ∀ w ∈ ws, Tw 72 w.2.2
  n1 : n ≤ 24
  len : ws.length ≤ 60
theorem LdOk.take {n : Nat} {ws : List Wi} (h : LdOk n ws) (i : Nat) : Sq n ((ws.take i).foldl ldStep (zeros n)) ∧ TwM (72 * i) ((ws.take i).foldl ldStep (zeros n)) := by
  induction i with
  | zero => exact ⟨sq_zeros n, twM_zeros n _⟩
  | succ i ih =>
    by_cases hi : i < ws.length
    · rw [List.take_succ_eq_append_getElem hi, List.foldl_append]
      obtain ⟨a, b⟩ := h.lt _ (List.getElem_mem hi)
      exact ⟨ih.1.step (by omega) b, (ih.2.step ih.1 (h.tw _ (List.getElem_mem hi)) (by omega) (by omega) b)⟩
    · rw [List.take_of_length_le (by omega)] at ih ⊢
      exact ⟨ih.1, fun a b => (ih.2 a b).mono (by omega)⟩
theorem LdOk.all {n : Nat} {ws : List Wi} (h : LdOk n ws) : Sq n (leadL n ws) ∧ TwM (72 * ws.length) (leadL n ws) := by
  have := h.take ws.length
  rw [List.take_length] at this
  exact this
--# end
end M

end
section
set_option Elab.async false
set_option linter.all false
set_option maxRecDepth 100000
/-! A6: no walk: potentials on a web; what is taken in; pieces. -/
namespace M
open PySem PySem.Spec PyProof.Rows L2 VL
/-- a sum over wires -/
def ls (f : Wi → Rat) : List Wi → Rat
  | [] => 0
  | w :: ws => f w + ls f ws
theorem ls_congr {f g : Wi → Rat} : ∀ {ws : List Wi}, (∀ w ∈ ws, f w = g w) → ls f ws = ls g ws
  | [], _ => rfl
  | w :: ws, h => by
    simp only [ls]
    rw [h w List.mem_cons_self, ls_congr fun v m => h v (List.mem_cons_of_mem _ m)]
theorem ls_zero {f : Wi → Rat} : ∀ {ws : List Wi}, (∀ w ∈ ws, f w = 0) → ls f ws = 0
  | [], _ => rfl
  | w :: ws, h => by
    simp only [ls]
    rw [h w List.mem_cons_self, ls_zero fun v m => h v (List.mem_cons_of_mem _ m)]
    grind
theorem ls_nn {f : Wi → Rat} : ∀ {ws : List Wi}, (∀ w ∈ ws, 0 ≤ f w) → 0 ≤ ls f ws
  | [], _ => Rat.le_refl
  | w :: ws, h => by
    simp only [ls]
    have h1 := h w List.mem_cons_self
    have h2 := ls_nn (f := f) fun v m => h v (List.mem_cons_of_mem _ m)
    grind
/-- a sum of what is not below nothing -/
theorem ls_null {f : Wi → Rat} : ∀ {ws : List Wi}, (∀ w ∈ ws, 0 ≤ f w) → ls f ws ≤ 0 → ∀ w ∈ ws, f w = 0
  | [], _, _, w, m => by cases m
  | w :: ws, h, h0, v, m => by
    simp only [ls] at h0
    have h1 := h w List.mem_cons_self
    have h2 := ls_nn (f := f) fun v m => h v (List.mem_cons_of_mem _ m)
    rcases List.mem_cons.mp m with rfl | m
    · grind
    · exact ls_null (fun v m => h v (List.mem_cons_of_mem _ m)) (by grind) v m
theorem ls_le {f g : Wi → Rat} : ∀ {ws : List Wi}, (∀ w ∈ ws, f w ≤ g w) → ls f ws ≤ ls g ws
  | [], _ => Rat.le_refl
  | w :: ws, h => by
    simp only [ls]
    have h1 := h w List.mem_cons_self
    have h2 := ls_le (f := f) (g := g) fun v m => h v (List.mem_cons_of_mem _ m)
    grind
theorem ls_neg (f : Wi → Rat) : ∀ ws, ls (fun w => - f w) ws = - ls f ws
  | [] => by simp only [ls]; grind
  | w :: ws => by simp only [ls]; rw [ls_neg f ws]; grind
theorem sm_ls (n : Nat) (f : Nat → Wi → Rat) : ∀ ws, sm n (fun i => ls (f i) ws) = ls (fun w => sm n fun i => f i w) ws
  | [] => by simp only [ls]; exact sm_zero fun _ _ => rfl
  | w :: ws => by simp only [ls]; rw [sm_add, sm_ls n f ws]
theorem ls_mulr (f : Wi → Rat) (c : Rat) : ∀ ws, ls (fun w => f w * c) ws = ls f ws * c
  | [] => by simp only [ls]; grind
  | w :: ws => by simp only [ls]; rw [ls_mulr f c ws]; grind
theorem en_fold {n : Nat} : ∀ (ws : List Wi) (M : List (List Rat)), (∀ w ∈ ws, w.1 < w.2.1 ∧ w.2.1 < n) → Sq n M → ∀ a b, en (ws.foldl ldStep M) a b = en M a b + ls (fun w => wt w a b) ws
  | [], M, _, _, a, b => by simp only [ls, List.foldl_nil]; grind
  | w :: ws, M, h, hs, a, b => by
    obtain ⟨h1, h2⟩ := h w List.mem_cons_self
    rw [List.foldl_cons, en_fold ws _ (fun v m => h v (List.mem_cons_of_mem _ m)) (hs.step (by omega) h2), en_step hs (by omega) (by omega) h2]
    simp only [ls]
    grind
theorem en_zeros (n a b : Nat) : en (zeros n) a b = 0 := by
  obtain ⟨k, e, hk⟩ := twM_zeros n 0 a b
  have : k = 0 := by omega
  rw [e, this]; simp
theorem en_lead {n : Nat} {ws : List Wi} (h : ∀ w ∈ ws, w.1 < w.2.1 ∧ w.2.1 < n) (a b : Nat) : en (leadL n ws) a b = ls (fun w => wt w a b) ws := by
  unfold leadL
  rw [en_fold ws _ h (sq_zeros n), en_zeros]
  grind
theorem wt_symm (w : Wi) (a b : Nat) : wt w a b = wt w b a := by
  unfold wt
  have e1 : (a = w.1 ∧ b = w.1 ∨ a = w.2.1 ∧ b = w.2.1) ↔ (b = w.1 ∧ a = w.1 ∨ b = w.2.1 ∧ a = w.2.1) := by constructor <;> (rintro (⟨h1, h2⟩ | ⟨h1, h2⟩); exact .inl ⟨h2, h1⟩; exact .inr ⟨h2, h1⟩)
  have e2 : (a = w.1 ∧ b = w.2.1 ∨ a = w.2.1 ∧ b = w.1) ↔ (b = w.1 ∧ a = w.2.1 ∨ b = w.2.1 ∧ a = w.1) := by constructor <;> (rintro (⟨h1, h2⟩ | ⟨h1, h2⟩); exact .inr ⟨h2, h1⟩; exact .inl ⟨h2, h1⟩)
  simp only [e1, e2]
/-- what currents with potentials u take in at a, of one wire -/
def wl (u : Nat → Rat) (a : Nat) (w : Wi) : Rat := if a = w.1 then w.2.2 * (u w.1 - u w.2.1) else if a = w.2.1 then w.2.2 * (u w.2.1 - u w.1) else 0
/-- of all -/
def lap (ws : List Wi) (u : Nat → Rat) (a : Nat) : Rat := ls (wl u a) ws
theorem sm_two {n p q : Nat} {f : Nat → Rat} (hp : p < n) (hq : q < n) (hpq : p ≠ q) (h : ∀ i, i < n → i ≠ p → i ≠ q → f i = 0) : sm n f = f p + f q := by
  have e : sm n f = sm n (fun i => (if i = p then f p else 0) + (if i = q then f q else 0)) := sm_congr fun i hi => by
    by_cases e1 : i = p
    · subst e1; simp [hpq]; grind
    · by_cases e2 : i = q
      · subst e2; simp [e1]; grind
      · simp [e1, e2, h i hi e1 e2]; grind
  rw [e, sm_add, sm_one hp (fun i _ hi => by simp [hi]), sm_one hq (fun i _ hi => by simp [hi])]
  simp
theorem wt_sum {n : Nat} {w : Wi} (h1 : w.1 < w.2.1) (h2 : w.2.1 < n) (u : Nat → Rat) (a : Nat) : sm n (fun b => wt w a b * u b) = wl u a w := by
  have ne : w.1 ≠ w.2.1 := by omega
  rw [sm_two (p := w.1) (q := w.2.1) (by omega) h2 ne fun i _ e1 e2 => by unfold wt; simp [e1, e2]]
  unfold wt wl
  by_cases e1 : a = w.1
  · have e3 : ¬ w.2.1 = a := by omega
    have e4 : ¬ a = w.2.1 := by omega
    subst e1
    simp [ne, Ne.symm ne]
    grind
  · by_cases e2 : a = w.2.1
    · subst e2
      simp [ne, Ne.symm ne]
      grind
    · simp [e1, e2]; grind
theorem lead_sum {n : Nat} {ws : List Wi} (h : ∀ w ∈ ws, w.1 < w.2.1 ∧ w.2.1 < n) (u : Nat → Rat) (a : Nat) : sm n (fun b => en (leadL n ws) a b * u b) = lap ws u a := by
  rw [sm_congr (g := fun b => ls (fun w => wt w a b * u b) ws) fun b _ => by rw [en_lead h, ls_mulr], sm_ls]
  exact ls_congr fun w m => wt_sum (h w m).1 (h w m).2 u a
theorem lead_sum' {n : Nat} {ws : List Wi} (h : ∀ w ∈ ws, w.1 < w.2.1 ∧ w.2.1 < n) (u : Nat → Rat) (a : Nat) : sm n (fun b => u b * en (leadL n ws) b a) = lap ws u a := by
  rw [← lead_sum h u a]
  exact sm_congr fun b _ => by rw [en_lead h, en_lead h, ls_congr fun w _ => wt_symm w b a]; grind
/-- the work of f -/
theorem work {n : Nat} {ws : List Wi} (h : ∀ w ∈ ws, w.1 < w.2.1 ∧ w.2.1 < n) (f u : Nat → Rat) : sm n (fun a => f a * lap ws u a) = ls (fun w => w.2.2 * ((f w.1 - f w.2.1) * (u w.1 - u w.2.1))) ws := by
  have e : sm n (fun a => f a * lap ws u a) = sm n fun a => ls (fun w => wl u a w * f a) ws := sm_congr fun a _ => by rw [ls_mulr]; unfold lap; grind
  rw [e, sm_ls]
  refine ls_congr fun w m => ?_
  obtain ⟨h1, h2⟩ := h w m
  have ne : w.1 ≠ w.2.1 := by omega
  rw [sm_two (p := w.1) (q := w.2.1) (by omega) h2 ne fun i _ e1 e2 => by unfold wl; simp [e1, e2]]
  unfold wl
  simp [Ne.symm ne]
  grind
/-! pieces -/
structure NmOk (n : Nat) (ns : List Nat) : Prop where
  len : ns.length = n
  le : ∀ j, j < n → gN ns j ≤ j
  idem : ∀ j, j < n → gN ns (gN ns j) = gN ns j
theorem NmOk.start (n : Nat) : NmOk n (List.range n) := by
  have e : ∀ j, j < n → gN (List.range n) j = j := fun j hj => by rw [gN_eq (by simpa using hj)]; simp
  exact ⟨by simp, fun j hj => by rw [e j hj]; omega, fun j hj => by rw [e j hj, e j hj]⟩
theorem gN_st {ns : List Nat} {a b j : Nat} (hj : j < ns.length) : gN (stN ns a b) j = if gN ns j = max (gN ns a) (gN ns b) then min (gN ns a) (gN ns b) else gN ns j := by
  rw [gN_eq (by simpa using hj), gN_eq hj]
  simp [stN, gN]
theorem NmOk.step {n : Nat} {ns : List Nat} (h : NmOk n ns) {a b : Nat} (ha : a < n) (hb : b < n) : NmOk n (stN ns a b) := by
  have gl : ∀ j, j < n → gN ns j < n := fun j hj => Nat.lt_of_le_of_lt (h.le j hj) hj
  have g : ∀ j, j < n → gN (stN ns a b) j = if gN ns j = max (gN ns a) (gN ns b) then min (gN ns a) (gN ns b) else gN ns j := fun j hj => gN_st (by rw [h.len]; exact hj)
  refine ⟨by rw [stN_len, h.len], fun j hj => ?_, fun j hj => ?_⟩
  · rw [g j hj]
    have := h.le j hj
    split <;> omega
  · rw [g j hj]
    have i1 := h.idem j hj
    have i2 := h.idem a ha
    have i3 := h.idem b hb
    split
    · rename_i e
      have ml : min (gN ns a) (gN ns b) < n := by have := gl a ha; omega
      rw [g _ ml]
      have : gN ns (min (gN ns a) (gN ns b)) = min (gN ns a) (gN ns b) := by
        rcases Nat.le_total (gN ns a) (gN ns b) with z | z
        · rw [Nat.min_eq_left z, i2]
        · rw [Nat.min_eq_right z, i3]
      rw [this]
      split <;> omega
    · rename_i e
      rw [g _ (gl j hj), i1, if_neg e]
theorem nms_ok {n : Nat} {ws : List Wi} (h : ∀ w ∈ ws, w.1 < w.2.1 ∧ w.2.1 < n) : NmOk n (nms n ws) := by
  rw [nms_fold]
  have : ∀ (ws : List Wi) (ns : List Nat), (∀ w ∈ ws, w.1 < w.2.1 ∧ w.2.1 < n) → NmOk n ns → NmOk n (ws.foldl (fun ns w => stN ns w.1 w.2.1) ns) := by
    intro ws
    induction ws with
    | nil => intro _ _ h; exact h
    | cons w ws ih =>
      intro ns hw hn
      obtain ⟨h1, h2⟩ := hw w List.mem_cons_self
      exact ih _ (fun v m => hw v (List.mem_cons_of_mem _ m)) (hn.step (by omega) h2)
  exact this ws _ h (NmOk.start n)
/-- joints of a wire have one name -/
theorem nms_wire {n : Nat} {ws : List Wi} (h : ∀ w ∈ ws, w.1 < w.2.1 ∧ w.2.1 < n) : ∀ w ∈ ws, gN (nms n ws) w.1 = gN (nms n ws) w.2.1 := by
  rw [nms_fold]
  have keep : ∀ (ws : List Wi) (ns : List Nat) (i j : Nat), ns.length = n → i < n → j < n → gN ns i = gN ns j → gN (ws.foldl (fun ns w => stN ns w.1 w.2.1) ns) i = gN (ws.foldl (fun ns w => stN ns w.1 w.2.1) ns) j := by
    intro ws
    induction ws with
    | nil => intro _ _ _ _ _ _ e; exact e
    | cons w ws ih =>
      intro ns i j hl hi hj e
      exact ih _ i j (by rw [stN_len, hl]) hi hj (by rw [gN_st (by omega), gN_st (by omega), e])
  have : ∀ (ws : List Wi) (ns : List Nat), ns.length = n → (∀ w ∈ ws, w.1 < w.2.1 ∧ w.2.1 < n) → ∀ w ∈ ws, gN (ws.foldl (fun ns w => stN ns w.1 w.2.1) ns) w.1 = gN (ws.foldl (fun ns w => stN ns w.1 w.2.1) ns) w.2.1 := by
    intro ws
    induction ws with
    | nil => intro _ _ _ w m; cases m
    | cons v ws ih =>
      intro ns hl hw w m
      obtain ⟨h1, h2⟩ := hw v List.mem_cons_self
      rcases List.mem_cons.mp m with rfl | m
      · refine keep ws _ _ _ (by rw [stN_len, hl]) (by omega) h2 ?_
        rw [gN_st (by omega), gN_st (by omega)]
        split <;> split <;> omega
      · exact ih _ (by rw [stN_len, hl]) (fun z mz => hw z (List.mem_cons_of_mem _ mz)) w m
  exact this ws _ (by simp) h
/-- what is alike at both joints of each wire is alike in each piece -/
theorem nms_const {n : Nat} {ws : List Wi} (h : ∀ w ∈ ws, w.1 < w.2.1 ∧ w.2.1 < n) {α : Type} {v : Nat → α} (hv : ∀ w ∈ ws, v w.1 = v w.2.1) : ∀ j, j < n → v j = v (gN (nms n ws) j) := by
  rw [nms_fold]
  have : ∀ (ws : List Wi) (ns : List Nat), NmOk n ns → (∀ w ∈ ws, w.1 < w.2.1 ∧ w.2.1 < n) → (∀ w ∈ ws, v w.1 = v w.2.1) → (∀ j, j < n → v j = v (gN ns j)) → ∀ j, j < n → v j = v (gN (ws.foldl (fun ns w => stN ns w.1 w.2.1) ns) j) := by
    intro ws
    induction ws with
    | nil => intro _ _ _ _ h; exact h
    | cons w ws ih =>
      intro ns hn hw hv hj
      obtain ⟨h1, h2⟩ := hw w List.mem_cons_self
      refine ih _ (hn.step (by omega) h2) (fun z m => hw z (List.mem_cons_of_mem _ m)) (fun z m => hv z (List.mem_cons_of_mem _ m)) fun j hjn => ?_
      rw [gN_st (by rw [hn.len]; exact hjn)]
      have e1 := hj j hjn
      have e2 := hj w.1 (by omega)
      have e3 := hj w.2.1 h2
      have e4 := hv w List.mem_cons_self
      split
      · rename_i e
        rw [e1, e]
        rcases Nat.le_total (gN ns w.1) (gN ns w.2.1) with z | z
        · rw [Nat.max_eq_right z, Nat.min_eq_left z, ← e3, ← e2, e4]
        · rw [Nat.max_eq_left z, Nat.min_eq_right z, ← e3, ← e2, e4]
      · exact e1
  exact this ws _ (NmOk.start n) h hv fun j hj => by rw [gN_eq (by simpa using hj)]; simp
/-! potentials -/
structure Web (n : Nat) (ws : List Wi) : Prop where
  lt : ∀ w ∈ ws, w.1 < w.2.1 ∧ w.2.1 < n
  pos : ∀ w ∈ ws, 0 < w.2.2
def Pot (n : Nat) (ws : List Wi) (s u : Nat → Rat) : Prop := ∀ a, a < n → lap ws u a = s a
theorem sq_nn (x : Rat) : 0 ≤ x * x := by
  rcases Rat.le_total (a := 0) (b := x) with h | h
  · exact Rat.mul_nonneg h h
  · have := Rat.mul_nonneg (show 0 ≤ -x by grind) (show 0 ≤ -x by grind)
    grind
theorem sq_zero {x : Rat} (h : x * x = 0) : x = 0 := by
  rcases Rat.mul_eq_zero.mp h with h | h <;> exact h
/-- nothing taken in anywhere: alike in each piece -/
theorem Web.harm {n : Nat} {ws : List Wi} (W : Web n ws) {u : Nat → Rat} (h : ∀ a, a < n → lap ws u a = 0) : ∀ w ∈ ws, u w.1 = u w.2.1 := by
  have e := work W.lt u u
  rw [sm_zero fun a ha => by rw [h a ha]; grind] at e
  intro w m
  have := ls_null (f := fun w => w.2.2 * ((u w.1 - u w.2.1) * (u w.1 - u w.2.1))) (fun v mv => Rat.mul_nonneg (Rat.le_of_lt (W.pos v mv)) (sq_nn _)) (by rw [← e]; exact Rat.le_refl) w m
  have hp := W.pos w m
  rcases Rat.mul_eq_zero.mp this with z | z
  · rw [z] at hp; exact absurd hp (by decide)
  · have := sq_zero z
    grind
theorem lap_sub (ws : List Wi) (u v : Nat → Rat) (a : Nat) : lap ws (fun i => u i - v i) a = lap ws u a - lap ws v a := by
  unfold lap
  induction ws with
  | nil => simp only [ls]; grind
  | cons w ws ih => simp only [ls]; rw [ih]; unfold wl; split <;> (try split) <;> grind
theorem lap_add (ws : List Wi) (u v : Nat → Rat) (a : Nat) : lap ws (fun i => u i + v i) a = lap ws u a + lap ws v a := by
  unfold lap
  induction ws with
  | nil => simp only [ls]; grind
  | cons w ws ih => simp only [ls]; rw [ih]; unfold wl; split <;> (try split) <;> grind
theorem lap_neg (ws : List Wi) (u : Nat → Rat) (a : Nat) : lap ws (fun i => - u i) a = - lap ws u a := by
  unfold lap
  induction ws with
  | nil => simp only [ls]; grind
  | cons w ws ih => simp only [ls]; rw [ih]; unfold wl; split <;> (try split) <;> grind
theorem Web.const {n : Nat} {ws : List Wi} (W : Web n ws) {v : Nat → Rat} (hv : ∀ w ∈ ws, v w.1 = v w.2.1) {a b : Nat} (ha : a < n) (hb : b < n) (e : gN (nms n ws) a = gN (nms n ws) b) : v a = v b := by
  rw [nms_const W.lt hv a ha, nms_const W.lt hv b hb, e]
theorem Web.diff {n : Nat} {ws : List Wi} (W : Web n ws) {s u v : Nat → Rat} (hu : Pot n ws s u) (hv : Pot n ws s v) {a b : Nat} (ha : a < n) (hb : b < n) (e : gN (nms n ws) a = gN (nms n ws) b) : u a - u b = v a - v b := by
  have h := W.harm (u := fun i => u i - v i) fun i hi => by rw [lap_sub, hu i hi, hv i hi]; grind
  have := W.const (v := fun i => u i - v i) h ha hb e
  grind
/-- in at a, out at b -/
def sab (a b : Nat) : Nat → Rat := fun i => (if i = a then 1 else 0) - (if i = b then 1 else 0)
theorem sm_sab {n a b : Nat} (ha : a < n) (hb : b < n) (f : Nat → Rat) : sm n (fun i => f i * sab a b i) = f a - f b := by
  have : (fun i => f i * sab a b i) = fun i => (if i = a then f a else 0) - (if i = b then f b else 0) := by
    funext i
    unfold sab
    split <;> split <;> grind
  rw [this, sm_sub, sm_one ha (fun i _ h => by simp [h]), sm_one hb (fun i _ h => by simp [h])]
  simp
/-- the joint that takes in has the greatest potential of its piece, the one that gives the least -/
theorem Web.least {n : Nat} {ws : List Wi} (W : Web n ws) {a c : Nat} (ha : a < n) (hc : c < n) {u : Nat → Rat} (hu : Pot n ws (sab a c) u) {j : Nat} (hj : j < n) (e : gN (nms n ws) j = gN (nms n ws) c) : u c ≤ u j := by
  let f : Nat → Rat := fun i => if u i ≤ u c then u c - u i else 0
  have f0 : ∀ i, 0 ≤ f i := fun i => by
    show 0 ≤ if u i ≤ u c then u c - u i else 0
    split
    · grind
    · exact Rat.le_refl
  have wk := work W.lt f u
  have lhs : sm n (fun i => f i * lap ws u i) = f a - f c := by
    rw [← sm_sab ha hc f]
    exact sm_congr fun i hi => by rw [hu i hi]
  have fc : f c = 0 := by
    show (if u c ≤ u c then u c - u c else 0) = 0
    rw [if_pos Rat.le_refl]; grind
  rw [lhs, fc] at wk
  have term : ∀ p q, (f p - f q) * (u p - u q) ≤ - ((f p - f q) * (f p - f q)) := fun p q => by
    have key : 0 ≤ (f p - f q) * ((u q - u p) - (f p - f q)) := by
      show 0 ≤ ((if u p ≤ u c then u c - u p else 0) - (if u q ≤ u c then u c - u q else 0)) * ((u q - u p) - ((if u p ≤ u c then u c - u p else 0) - (if u q ≤ u c then u c - u q else 0)))
      split
      · split
        · have : (u q - u p) - ((u c - u p) - (u c - u q)) = 0 := by grind
          rw [this, Rat.mul_zero]; exact Rat.le_refl
        · rename_i h1 h2
          exact Rat.mul_nonneg (by grind) (by grind)
      · split
        · rename_i h1 h2
          have := Rat.mul_nonneg (show 0 ≤ u c - u q by grind) (show 0 ≤ (u p - u q) - (u c - u q) by grind)
          grind
        · have : ((0 : Rat) - 0) = 0 := by grind
          rw [this, Rat.zero_mul]; exact Rat.le_refl
    grind
  have le : ls (fun w => w.2.2 * ((f w.1 - f w.2.1) * (u w.1 - u w.2.1))) ws ≤ - ls (fun w => w.2.2 * ((f w.1 - f w.2.1) * (f w.1 - f w.2.1))) ws := by
    rw [← ls_neg]
    refine ls_le fun w m => ?_
    have h1 := term w.1 w.2.1
    have h2 := Rat.mul_le_mul_of_nonneg_left h1 (Rat.le_of_lt (W.pos w m))
    grind
  have z0 : ls (fun w => w.2.2 * ((f w.1 - f w.2.1) * (f w.1 - f w.2.1))) ws ≤ 0 := by
    have := f0 a
    grind
  have hf : ∀ w ∈ ws, f w.1 = f w.2.1 := fun w m => by
    have := ls_null (f := fun w => w.2.2 * ((f w.1 - f w.2.1) * (f w.1 - f w.2.1))) (fun v mv => Rat.mul_nonneg (Rat.le_of_lt (W.pos v mv)) (sq_nn _)) z0 w m
    have hp := W.pos w m
    rcases Rat.mul_eq_zero.mp this with z | z
    · rw [z] at hp; exact absurd hp (by decide)
    · have := sq_zero z
      grind
  have := W.const hf hj hc e
  rw [fc] at this
  have this : (if u j ≤ u c then u c - u j else 0) = 0 := this
  split at this
  · grind
  · grind
theorem Web.most {n : Nat} {ws : List Wi} (W : Web n ws) {a c : Nat} (ha : a < n) (hc : c < n) {u : Nat → Rat} (hu : Pot n ws (sab a c) u) {j : Nat} (hj : j < n) (e : gN (nms n ws) j = gN (nms n ws) a) : u j ≤ u a := by
  have := W.least hc ha (u := fun i => - u i) (fun i hi => by rw [lap_neg, hu i hi]; unfold sab; grind) hj e
  grind
/-- the rule of three sides -/
theorem Web.sides {n : Nat} {ws : List Wi} (W : Web n ws) {a b c : Nat} (ha : a < n) (hb : b < n) (hc : c < n) {u v w : Nat → Rat} (hu : Pot n ws (sab a c) u) (hv : Pot n ws (sab c b) v) (hw : Pot n ws (sab a b) w)
    (e1 : gN (nms n ws) a = gN (nms n ws) b) (e2 : gN (nms n ws) c = gN (nms n ws) a) : w a - w b ≤ (u a - u c) + (v c - v b) := by
  have h : Pot n ws (sab a b) fun i => u i + v i := fun i hi => by rw [lap_add, hu i hi, hv i hi]; unfold sab; grind
  have d := W.diff hw h ha hb e1
  have l := W.least ha hc hu hb (by rw [e2, e1])
  have m := W.most hc hb hv ha e2.symm
  grind
/-- it is above nothing -/
theorem Web.rpos {n : Nat} {ws : List Wi} (W : Web n ws) {a b : Nat} (ha : a < n) (hb : b < n) (hab : a ≠ b) {u : Nat → Rat} (hu : Pot n ws (sab a b) u) : 0 < u a - u b := by
  have wk := work W.lt u u
  have lhs : sm n (fun i => u i * lap ws u i) = u a - u b := by
    rw [← sm_sab ha hb u]
    exact sm_congr fun i hi => by rw [hu i hi]
  rw [lhs] at wk
  have nn : 0 ≤ ls (fun w => w.2.2 * ((u w.1 - u w.2.1) * (u w.1 - u w.2.1))) ws := ls_nn fun v mv => Rat.mul_nonneg (Rat.le_of_lt (W.pos v mv)) (sq_nn _)
  by_cases h0 : u a - u b = 0
  · exfalso
    have z := ls_null (f := fun w => w.2.2 * ((u w.1 - u w.2.1) * (u w.1 - u w.2.1))) (fun v mv => Rat.mul_nonneg (Rat.le_of_lt (W.pos v mv)) (sq_nn _)) (by rw [← wk, h0]; exact Rat.le_refl)
    have l0 : lap ws u a = 0 := ls_zero fun w m => by
      have hp := W.pos w m
      have e : u w.1 - u w.2.1 = 0 := by
        rcases Rat.mul_eq_zero.mp (z w m) with y | y
        · rw [y] at hp; exact absurd hp (by decide)
        · exact sq_zero y
      unfold wl
      split
      · rw [e]; grind
      · split
        · have : u w.2.1 - u w.1 = 0 := by grind
          rw [this]; grind
        · rfl
    rw [hu a ha] at l0
    unfold sab at l0
    simp [hab] at l0
    grind
  · grind
/-! the rows of sources, solved -/
def rootsL (n : Nat) (ns : List Nat) : List Nat := (List.range n).filter fun j => gN ns j == j
def fedR (n : Nat) (ws : List Wi) : List (List Rat) := leadL n ws ++ (rootsL n (nms n ws)).map (unitL n)
def fedB (n : Nat) (ws : List Wi) (s : List Rat) : List Rat := s ++ List.replicate (rootsL n (nms n ws)).length 0
/-- what is taken in is nothing in each piece -/
def Bal (n : Nat) (ws : List Wi) (s : Nat → Rat) : Prop := ∀ v : Nat → Rat, (∀ j, j < n → v j = v (gN (nms n ws) j)) → sm n (fun i => v i * s i) = 0
theorem bal_sab {n : Nat} {ws : List Wi} {a b : Nat} (ha : a < n) (hb : b < n) (e : gN (nms n ws) a = gN (nms n ws) b) : Bal n ws (sab a b) := fun v hv => by
  rw [sm_sab ha hb, hv a ha, hv b hb, e]; grind
theorem sm_split (n m : Nat) (f : Nat → Rat) : sm (n + m) f = sm n f + sm m fun i => f (n + i) := by
  induction m with
  | zero => simp only [sm, Nat.add_zero]; grind
  | succ m ih => rw [← Nat.add_assoc]; simp only [sm]; rw [ih]; grind
theorem getD_app {α : Type} {xs ys : List α} {i : Nat} {d : α} : (xs ++ ys).getD i d = if i < xs.length then xs.getD i d else ys.getD (i - xs.length) d := by
  simp only [List.getD, List.getElem?_append]
  split <;> rfl
theorem unitL_get {n k j : Nat} (hj : j < n) : (unitL n k).getD j 0 = if j = k then 1 else 0 := by
  rw [getD_eq (by simp [unitL, hj])]
  simp [unitL]
theorem fed_len {n : Nat} {ws : List Wi} (h : ∀ w ∈ ws, w.1 < w.2.1 ∧ w.2.1 < n) {s : List Rat} (hs : s.length = n) : (fedR n ws).length = n + (rootsL n (nms n ws)).length ∧ (fedB n ws s).length = n + (rootsL n (nms n ws)).length := by
  have sq : Sq n (leadL n ws) := sq_fold ws _ (fun w m => ⟨by have := h w m; omega, (h w m).2⟩) (sq_zeros n)
  exact ⟨by simp [fedR, sq.len], by simp [fedB, hs]⟩
theorem en_aug {n : Nat} {R : List (List Rat)} {b : List Rat} (hw : ∀ r ∈ R, r.length = n) (hl : R.length = b.length) {i : Nat} (hi : i < R.length) (j : Nat) : en (aug R b) i j = if j < n then en R i j else if j = n then b.getD i 0 else 0 := by
  have hb : i < b.length := by omega
  have e : (aug R b).getD i [] = R[i] ++ [b[i]] := by
    rw [getD_eq (by rw [aug_len hl]; exact hi)]
    simp [aug]
  have w := hw _ (List.getElem_mem hi)
  unfold en
  rw [e, getD_app, w, getD_eq hi, getD_eq hb]
  split
  · rfl
  · by_cases e2 : j = n
    · subst e2; simp
    · rw [if_neg e2, List.getD, List.getElem?_eq_none (by simp; omega)]
      rfl
theorem fed_wid {n : Nat} {ws : List Wi} (h : ∀ w ∈ ws, w.1 < w.2.1 ∧ w.2.1 < n) : ∀ r ∈ fedR n ws, r.length = n := fun r hr => by
  have sq : Sq n (leadL n ws) := sq_fold ws _ (fun w m => ⟨by have := h w m; omega, (h w m).2⟩) (sq_zeros n)
  rcases List.mem_append.mp hr with hr | hr
  · exact sq.wid r hr
  · obtain ⟨k, _, rfl⟩ := List.mem_map.mp hr
    simp [unitL]
/-- there is a solution, and it is one of potentials -/
theorem fed_told {n : Nat} {ws : List Wi} (W : Web n ws) {s : List Rat} (hs : s.length = n) (hb : Bal n ws fun i => s.getD i 0) {r : Option (List Rat)} (ht : Told n (aug (fedR n ws) (fedB n ws s)) r) : ∃ x, r = some x ∧ x.length = n ∧ Pot n ws (fun i => s.getD i 0) (lrow x) := by
  have sq : Sq n (leadL n ws) := sq_fold ws _ (fun w m => ⟨by have := W.lt w m; omega, (W.lt w m).2⟩) (sq_zeros n)
  obtain ⟨l1, l2⟩ := fed_len W.lt hs
  have ll : (fedR n ws).length = (fedB n ws s).length := by rw [l1, l2]
  have al := aug_len ll
  have nk := nms_ok W.lt
  have e1 : ∀ i, i < n → ∀ j, j < n → en (aug (fedR n ws) (fedB n ws s)) i j = en (leadL n ws) i j := fun i hi j hj => by
    rw [en_aug (fed_wid W.lt) ll (by rw [l1]; omega), if_pos hj]
    unfold en fedR
    rw [getD_app, if_pos (by rw [sq.len]; exact hi)]
  have e2 : ∀ i, i < n → en (aug (fedR n ws) (fedB n ws s)) i n = s.getD i 0 := fun i hi => by
    rw [en_aug (fed_wid W.lt) ll (by rw [l1]; omega), if_neg (by omega), if_pos rfl]
    unfold fedB
    rw [getD_app, if_pos (by omega)]
  have e3 : ∀ t, t < (rootsL n (nms n ws)).length → ∀ j, j < n → en (aug (fedR n ws) (fedB n ws s)) (n + t) j = if j = (rootsL n (nms n ws)).getD t 0 then 1 else 0 := fun t ht j hj => by
    rw [en_aug (fed_wid W.lt) ll (by rw [l1]; omega), if_pos hj]
    unfold en fedR
    rw [getD_app, if_neg (by rw [sq.len]; omega), sq.len, Nat.add_sub_cancel_left, getD_eq (l := (rootsL n (nms n ws)).map (unitL n)) (by rw [List.length_map]; exact ht), List.getElem_map, unitL_get hj, getD_eq ht]
  have e4 : ∀ t, t < (rootsL n (nms n ws)).length → en (aug (fedR n ws) (fedB n ws s)) (n + t) n = 0 := fun t ht => by
    rw [en_aug (fed_wid W.lt) ll (by rw [l1]; omega), if_neg (by omega), if_pos rfl]
    unfold fedB
    rw [getD_app, if_neg (by omega), hs, Nat.add_sub_cancel_left, getD_eq (by simpa using ht)]
    simp
  have root : ∀ t, t < (rootsL n (nms n ws)).length → (rootsL n (nms n ws)).getD t 0 < n ∧ gN (nms n ws) ((rootsL n (nms n ws)).getD t 0) = (rootsL n (nms n ws)).getD t 0 := fun t ht => by
    have := getD_mem (d := 0) ht
    obtain ⟨a, b⟩ := List.mem_filter.mp this
    exact ⟨List.mem_range.mp a, by simpa using b⟩
  cases r with
  | none =>
    exfalso
    obtain ⟨_, y, y1, y2⟩ := ht.none rfl
    rw [al, l1] at y1 y2
    -- the unit rows count nothing
    let g : Nat → Rat := fun j => sm (rootsL n (nms n ws)).length fun t => y (n + t) * if j = (rootsL n (nms n ws)).getD t 0 then 1 else 0
    have q1 : ∀ j, j < n → lap ws y j + g j = 0 := fun j hj => by
      have := y1 j hj
      rw [sm_split] at this
      rw [← lead_sum' W.lt y j, ← this]
      congr 1
      · exact sm_congr fun i hi => by rw [e1 i hi j hj]
      · exact sm_congr fun t ht => by rw [e3 t ht j hj]
    have g0 : ∀ j, j < n → gN (nms n ws) j ≠ j → g j = 0 := fun j hj hne => sm_zero fun t ht => by
      obtain ⟨a, b⟩ := root t ht
      rw [if_neg (fun e => hne (by rw [e]; exact b))]
      grind
    have g1 : ∀ j, j < n → g j = 0 := fun j hj => by
      by_cases hne : gN (nms n ws) j = j
      · -- the piece of j
        let f : Nat → Rat := fun i => if gN (nms n ws) i = j then 1 else 0
        have wk := work W.lt f y
        rw [ls_zero fun w m => by
          have : f w.1 = f w.2.1 := by show (if _ then (1 : Rat) else 0) = if _ then 1 else 0; rw [nms_wire W.lt w m]
          rw [this]; grind] at wk
        have : sm n (fun i => f i * lap ws y i) = - g j := by
          rw [sm_congr (g := fun i => - (f i * g i)) fun i hi => by have := q1 i hi; grind, sm_neg]
          congr 1
          rw [sm_one hj fun i hi hij => ?_]
          · show (if gN (nms n ws) j = j then (1 : Rat) else 0) * g j = g j
            rw [if_pos hne]; grind
          · show (if gN (nms n ws) i = j then (1 : Rat) else 0) * g i = 0
            split
            · rename_i e
              rw [g0 i hi (fun z => hij (by rw [← e, z]))]; grind
            · grind
        rw [this] at wk
        grind
      · exact g0 j hj hne
    have hm := W.harm (u := y) fun j hj => by have := q1 j hj; rw [g1 j hj] at this; grind
    have bal := hb y (nms_const W.lt hm)
    refine y2 ?_
    rw [sm_split, sm_congr (g := fun i => y i * s.getD i 0) fun i hi => by rw [e2 i hi], bal, sm_zero fun t ht => by rw [e4 t ht]; grind]
    grind
  | some x =>
    obtain ⟨xl, hc⟩ := ht.some x rfl
    refine ⟨x, rfl, xl, fun a ha => ?_⟩
    have hr := hc.sol (lrow (aug (fedR n ws) (fedB n ws s))[a]) (List.mem_map_of_mem (List.getElem_mem (by rw [al, l1]; omega)))
    have ee : ∀ j, lrow (aug (fedR n ws) (fedB n ws s))[a] j = en (aug (fedR n ws) (fedB n ws s)) a j := fun j => by unfold en lrow; rw [getD_eq (show a < _ by rw [al, l1]; omega)]
    rw [ee, e2 a ha, sm_congr (g := fun j => en (leadL n ws) a j * lrow x j) fun j hj => by rw [ee, e1 a ha j hj], lead_sum W.lt] at hr
    exact hr
end M

end
section
set_option Elab.async false
set_option linter.all false
set_option maxRecDepth 100000
/-! A7: walks of what solves for sources; resistances. -/
namespace M
open PySem PySem.Spec PyProof.Rows L2 VL
theorem wp_retE {e : Rho → Mo SV} {ρ : Rho} {S S1 : Sto} {k : Str} {fv : List (Str × SV)} {Q : VL.Fl → Prop} (h : e ρ S = some (.exc k fv S1)) (q : Q (.exc k fv ρ S1)) : Wp (sRet e ρ S) Q := ⟨_, by show bindS ρ (e ρ S) _ = _; rw [h]; rfl, q⟩
theorem frz_rwo (R : List (List Rat)) : frz (rwo R) = some (.d (.list (R.map lR))) := by
  have h : ∀ R : List (List Rat), datOs (R.map fun r => SV.own (r.map rS)) = some (R.map lR) := by
    intro R
    induction R with
    | nil => rfl
    | cons r R ih =>
      have e : datO (.own (r.map rS)) = some (lR r) := by
        have := frz_rS r
        unfold frz at this
        split at this
        · rename_i q; simp [noOwn] at q
        · cases z : datO (.own (r.map rS)) with
          | none => rw [z] at this; cases this
          | some d => rw [z] at this; simp at this; rw [this]
      simp [datOs, e, ih]
  unfold frz
  have n : noOwn (rwo R) = false := rfl
  rw [n]
  simp [datO, h]
/-- in at a, out at b -/
def pairL (n a b : Nat) : List Rat := (List.range n).map (sab a b)
theorem pairL_len (n a b : Nat) : (pairL n a b).length = n := by simp [pairL]
theorem pairL_get {n a b j : Nat} (h : j < n) : (pairL n a b).getD j 0 = sab a b j := by
  rw [getD_eq (by simpa [pairL] using h)]
  simp [pairL]
theorem tw_one : Tw 12 1 := ⟨12, by decide +kernel, by decide⟩
theorem tw_sab (a b j : Nat) : Tw 24 (sab a b j) := by
  unfold sab
  split <;> split
  · exact (tw_one.sub tw_one).mono (by omega)
  · exact (tw_one.sub tw0).mono (by omega)
  · exact (tw0.sub tw_one).mono (by omega)
  · exact (tw0.sub tw0).mono (by omega)
theorem Tw.sz13 {m : Nat} {x : Rat} (h : Tw m x) (hm : m ≤ 4320) : Sz 13 x := h.sz (by omega) (by omega)
theorem fed_aug {n : Nat} {ws : List Wi} (h : LdOk n ws) (n1 : 1 ≤ n) (n9 : n ≤ 9) {s : List Rat} (hs : s.length = n) (sz : ∀ x ∈ s, Sz 13 x) : Aug n 13 (fedR n ws) (fedB n ws s) := by
  obtain ⟨sq, tw⟩ := h.all
  have hl := h.len
  have rl : (rootsL n (nms n ws)).length ≤ n := by
    unfold rootsL
    have := List.length_filter_le (fun j => gN (nms n ws) j == j) (List.range n)
    rw [List.length_range] at this
    exact this
  obtain ⟨l1, l2⟩ := fed_len h.lt hs
  have z0 : Sz 13 0 := tw0.sz13 (by omega)
  refine Aug.of (fed_wid h.lt) (fun r hr x hx => ?_) (fun x hx => ?_) (by rw [l1, l2]) (by omega) (by omega) (by omega) (Nat.le_trans (bnd_le n9) (by decide))
  · rcases List.mem_append.mp hr with hr | hr
    · exact mem_en sq (fun a b => (tw a b).sz13 (by omega)) r hr x hx
    · obtain ⟨k, _, rfl⟩ := List.mem_map.mp hr
      obtain ⟨j, _, rfl⟩ := List.mem_map.mp hx
      show Sz 13 (if j = k then 1 else 0)
      split
      · exact tw_one.sz13 (by omega)
      · exact z0
  · rcases List.mem_append.mp hx with hx | hx
    · exact sz x hx
    · rw [List.eq_of_mem_replicate hx]; exact z0
theorem Mx.en {w b : Nat} {R : List (List Rat)} (h : Mx w b R) (hb : 1 ≤ b) (i j : Nat) : Sz b (en R i j) := by
  unfold M.en
  by_cases hi : i < R.length
  · rw [getD_eq hi]
    by_cases hj : j < R[i].length
    · rw [getD_eq hj]; exact h.sz _ (List.getElem_mem hi) _ (List.getElem_mem hj)
    · rw [List.getD, List.getElem?_eq_none (by omega)]; exact sz0.mono hb
  · have e : R.getD i [] = [] := by rw [List.getD, List.getElem?_eq_none (show R.length ≤ i by omega)]; rfl
    rw [e]
    simpa using sz0.mono hb
theorem fold_set_all {P : Rat → Prop} {f : Nat × Nat → Rat} (hf : ∀ p, P (f p)) : ∀ (D : List (Nat × Nat)) (s : List Rat), (∀ x ∈ s, P x) → ∀ x ∈ D.foldl (fun s p => s.set p.1 (f p)) s, P x
  | [], s, h => h
  | p :: D, s, h => fold_set_all hf D _ fun x hx => by
    rcases List.mem_or_eq_of_mem_set hx with hx | rfl
    · exact h x hx
    · exact hf p
theorem solP_sz {n b : Nat} {A : List (List Rat)} (h : Mx (n + 1) b A) (hb : 1 ≤ b) {x : List Rat} (e : solP A n = some x) : ∀ v ∈ x, Sz (bnd b n) v := by
  have ok := (redP_ok h rfl n (by omega)).mx
  have b1 : 1 ≤ bnd b n := by
    have := bnd_le (b := b) (Nat.zero_le n)
    unfold bnd at this ⊢
    simp at this
    omega
  unfold solP at e
  split at e
  · cases e
  · cases e
    exact fold_set_all (fun p => ok.en b1 _ _) _ _ fun x hx => by
      rw [List.eq_of_mem_replicate hx]
      exact sz0.mono b1
/-! pieces' first joints -/
theorem nms_len' (n : Nat) (ws : List Wi) : (nms n ws).length = n := by unfold nms; rw [nmF_len]; simp
theorem pcs_heads {n : Nat} {ns : List Nat} (h : NmOk n ns) : pcs n ns = (rootsL n ns).map (grp ns) := by
  unfold pcs rootsL
  congr 1
  refine List.filter_congr fun k hk => ?_
  have hk := List.mem_range.mp hk
  rw [List.contains_eq_mem]
  by_cases e : gN ns k = k
  · have : k ∈ ns := by
      have hl : k < ns.length := by rw [h.len]; exact hk
      rw [gN_eq hl] at e
      rw [← e]
      exact List.getElem_mem hl
    simp [e, this]
  · have : k ∉ ns := fun m => by
      obtain ⟨j, hj, e2⟩ := List.getElem_of_mem m
      rw [← gN_eq hj] at e2
      have := h.idem j (by rw [← h.len]; exact hj)
      rw [e2] at this
      exact e this
    simp [e, this]
theorem grp_head {n : Nat} {ns : List Nat} (h : NmOk n ns) {k : Nat} (hk : k ∈ rootsL n ns) : ∃ r, grp ns k = k :: r := by
  unfold rootsL at hk
  obtain ⟨h1, h2⟩ := List.mem_filter.mp hk
  have h1 := List.mem_range.mp h1
  have h2 : gN ns k = k := by simpa using h2
  have e : (grp ns k).head? = some k := by
    unfold grp
    rw [List.head?_filter, h.len]
    rw [List.find?_range_eq_some]
    refine ⟨by simp [h2], List.mem_range.mpr h1, fun j hj => ?_⟩
    have := h.le j (by omega)
    simp
    omega
  cases q : grp ns k with
  | nil => rw [q] at e; cases e
  | cons a r =>
    rw [q] at e
    cases e
    exact ⟨r, rfl⟩
theorem rwo_snoc (R : List (List Rat)) (r : List Rat) : rwo (R ++ [r]) = .own ((R.map fun r => SV.own (r.map rS)) ++ [.own (r.map rS)]) := by simp [rwo]
theorem ownR_snoc (b : List Rat) (x : Rat) : (.own ((b ++ [x]).map rS) : SV) = .own (b.map rS ++ [rS x]) := by simp
theorem ixV_tupN (S : Sto) (j : Nat) (g : List Nat) : gIx S (.d (tupN (j :: g))) (.d (.int 0)) = some (nI j) := by
  show (atI (((j :: g).map fun j : Nat => PyData.int (j : Int)).map SV.d) ((0 : Nat) : Int)).bind _ = _
  rw [List.map_map]
  have := atI_mapN nI (j :: g) (j := 0) (by simp)
  rw [show atI (List.map (SV.d ∘ fun j : Nat => PyData.int (j : Int)) (j :: g)) ((0 : Nat) : Int) = some (nI j) from this]
  rfl
theorem gList_kR (S : Sto) (k : Bool) (s : List Rat) : gList S [.d (kD k (s.map rD))] = some (.own (s.map rS)) := by
  rw [gList_kD, List.map_map]; rfl
section
variable {n : Nat} {ws : List Wi} {s : List Rat} {S : Sto}
--# end
end
/-- the resistance, in numbers -/
def rsN (n : Nat) (ws : List Wi) (a b : Nat) : Rat := match solP (aug (fedR n ws) (fedB n ws (pairL n a b))) n with
  | some x => x.getD a 0 - x.getD b 0
  | none => 0
structure Rg (n : Nat) (ws : List Wi) : Prop where
  ld : LdOk n ws
  web : Web n ws
  n1 : 1 ≤ n
  n9 : n ≤ 9
theorem Rg.res {n : Nat} {ws : List Wi} (h : Rg n ws) {a b : Nat} (ha : a < n) (hb : b < n) (e : gN (nms n ws) a = gN (nms n ws) b) : ∃ x, solP (aug (fedR n ws) (fedB n ws (pairL n a b))) n = some x ∧ x.length = n ∧ Pot n ws (sab a b) (lrow x) ∧ (∀ v ∈ x, Sz 3670015 v) ∧ rsN n ws a b = x.getD a 0 - x.getD b 0 := by
  have ag := fed_aug (s := pairL n a b) h.ld h.n1 h.n9 (pairL_len n a b) fun x hx => by
    obtain ⟨j, _, rfl⟩ := List.mem_map.mp hx
    exact (tw_sab a b j).sz13 (by omega)
  have bal : Bal n ws fun i => (pairL n a b).getD i 0 := fun v hv => by
    rw [sm_congr (g := fun i => v i * sab a b i) fun i hi => by show v i * (pairL n a b).getD i 0 = _; rw [pairL_get hi]]
    exact bal_sab ha hb e v hv
  obtain ⟨x, x1, x2, x3⟩ := fed_told h.web (pairL_len n a b) bal (solP_told ag.mx)
  refine ⟨x, x1, x2, fun i hi => by rw [x3 i hi]; exact pairL_get hi, fun v hv => (solP_sz ag.mx (by omega) x1 v hv).mono (Nat.le_trans (bnd_le h.n9) (by decide)), ?_⟩
  unfold rsN
  rw [x1]
theorem Rg.sz {n : Nat} {ws : List Wi} (h : Rg n ws) {a b : Nat} (ha : a < n) (hb : b < n) (e : gN (nms n ws) a = gN (nms n ws) b) : Sz 7340031 (rsN n ws a b) := by
  obtain ⟨x, _, x2, _, x4, x5⟩ := h.res ha hb e
  rw [x5]
  exact ((x4 _ (getD_mem (by omega))).sub (x4 _ (getD_mem (by omega)))).mono (by omega)
theorem Rg.of {n : Nat} {ws : List Wi} (h : Rg n ws) {a b : Nat} (ha : a < n) (hb : b < n) (e : gN (nms n ws) a = gN (nms n ws) b) {u : Nat → Rat} (hu : Pot n ws (sab a b) u) : rsN n ws a b = u a - u b := by
  obtain ⟨x, _, x2, x3, x4, x5⟩ := h.res ha hb e
  rw [x5]
  exact h.web.diff x3 hu ha hb e
theorem Rg.pos {n : Nat} {ws : List Wi} (h : Rg n ws) {a b : Nat} (ha : a < n) (hb : b < n) (hab : a ≠ b) (e : gN (nms n ws) a = gN (nms n ws) b) : 0 < rsN n ws a b := by
  obtain ⟨x, _, x2, x3, x4, x5⟩ := h.res ha hb e
  rw [x5]
  exact h.web.rpos ha hb hab x3
theorem Rg.symm {n : Nat} {ws : List Wi} (h : Rg n ws) {a b : Nat} (ha : a < n) (hb : b < n) (e : gN (nms n ws) a = gN (nms n ws) b) : rsN n ws b a = rsN n ws a b := by
  obtain ⟨x, _, x2, x3, x4, x5⟩ := h.res ha hb e
  rw [x5, h.of hb ha e.symm (u := fun i => - lrow x i) fun i hi => by rw [lap_neg, x3 i hi]; unfold sab; grind]
  unfold lrow
  grind
theorem Rg.sides {n : Nat} {ws : List Wi} (h : Rg n ws) {a b c : Nat} (ha : a < n) (hb : b < n) (hc : c < n) (e1 : gN (nms n ws) a = gN (nms n ws) b) (e2 : gN (nms n ws) c = gN (nms n ws) a) : rsN n ws a b ≤ rsN n ws a c + rsN n ws c b := by
  obtain ⟨x, _, x2, x3, x4, x5⟩ := h.res ha hb e1
  obtain ⟨y, _, y2, y3, y4, y5⟩ := h.res ha hc e2.symm
  obtain ⟨z, _, z2, z3, z4, z5⟩ := h.res hc hb (e2.trans e1)
  rw [x5, y5, z5]
  exact h.web.sides ha hb hc y3 z3 x3 e1 e2
section
variable {n : Nat} {ws : List Wi} {S : Sto} {a b : Nat}
--# end
end
end M

end
section
set_option Elab.async false
set_option linter.all false
set_option maxRecDepth 100000
/-! A8: checks of joints and fractions; resistance, conductance, loss. -/
namespace M
open PySem PySem.Spec PyProof.Rows L2 VL
section
variable {ρ : Rho} {S S1 S2 : Sto} {f g : Rho → Mo SV} {r : Option (Res SV)}
theorem e_andT (h1 : f ρ S = some (.ok (.d (.bool true)) S1)) (h2 : g ρ S1 = r) : eAnd f g ρ S = r := by
  unfold eAnd; rw [h1, VL.bindM_ok]; exact h2
theorem e_andF (h1 : f ρ S = some (.ok (.d (.bool false)) S1)) : eAnd f g ρ S = some (.ok (.d (.bool false)) S1) := by
  unfold eAnd; rw [h1, VL.bindM_ok]; rfl
theorem e_isTup {i : Nat} {ds : List PyData} (h : ρ[i]? = some (some (.d (.tuple ds)))) : eIsi1 (eVar i) ["tuple"] ρ S = some (.ok (.d (.bool true)) S) := by
  simp only [a_eIsi1, e_var h, VL.bindM_ok]
  simp [tyOf, isB, refOk]
end
theorem eqv_refl : ∀ (k : Nat) (d : PyData), nd k d = true → PyData.eqv d d = true
  | k, .dict _, h => by cases k <;> cases h
  | k, .none, _ => by simp [PyData.eqv]
  | k, .bool _, _ => by simp [PyData.eqv]
  | k, .int _, _ => by simp [PyData.eqv]
  | k, .str _, _ => by simp [PyData.eqv]
  | 0, .tuple ds, h => by simp [nd, atomB] at h
  | 0, .list ds, h => by simp [nd, atomB] at h
  | k + 1, .tuple ds, h => by
    have hx := nd_tup h
    have : PyData.eqvAll ds ds = true := by
      clear h
      induction ds with
      | nil => simp [PyData.eqvAll]
      | cons d ds ih => simp [PyData.eqvAll, eqv_refl k d (hx d List.mem_cons_self), ih fun x m => hx x (List.mem_cons_of_mem _ m)]
    simp [PyData.eqv, this]
  | k + 1, .list ds, h => by
    have hx : ∀ x ∈ ds, nd k x = true := by simpa only [nd, List.all_eq_true] using h
    have : PyData.eqvAll ds ds = true := by
      clear h
      induction ds with
      | nil => simp [PyData.eqvAll]
      | cons d ds ih => simp [PyData.eqvAll, eqv_refl k d (hx d List.mem_cons_self), ih fun x m => hx x (List.mem_cons_of_mem _ m)]
    simp [PyData.eqv, this]
theorem ne_self (S : Sto) {k : Nat} {d : PyData} (h : nd k d = true) (hk : k ≤ 64) : gNe S (.d d) (.d d) = some false := by
  have s := nd_shaped h hk
  have e := eqv_refl k d h
  simp [gNe, s, e]
theorem eq_self (S : Sto) {k : Nat} {d : PyData} (h : nd k d = true) (hk : k ≤ 64) : gEq S (.d d) (.d d) = some true := by
  have s := nd_shaped h hk
  have e := eqv_refl k d h
  simp [gEq, s, e]
theorem ne_rS (S : Sto) (x : Rat) : gNe S (rS x) (rS x) = some false := ne_self S (k := 1) (nd_rD 0 x) (by omega)
theorem eq_rS (S : Sto) (x : Rat) : gEq S (rS x) (rS x) = some true := eq_self S (k := 1) (nd_rD 0 x) (by omega)
theorem ne_str (S : Sto) {s : Str} (h : PyData.strOk s = true) : gNe S (.d (.str s)) (.d (.str s)) = some false := ne_self S (k := 0) (nd_str h) (by omega)
/-! joints -/
def inJ (n : Nat) : PyData → Bool
  | .int i => decide (0 ≤ i) && decide (i ≤ (n : Int) - 1)
  | _ => false
def intOf : PyData → Int
  | .int i => i
  | _ => 0
def areJ (n : Nat) (ds : List PyData) : Bool := !ds.isEmpty && ds.all (inJ n) && decide ((ddI (ds.map intOf)).length = ds.length)
theorem inJ_int {n : Nat} : ∀ {d : PyData}, inJ n d = true → .int (intOf d) = d
  | .int i, _ => rfl
theorem ints_all {n : Nat} : ∀ {ds : List PyData}, ds.all (inJ n) = true → ints? (ds.map SV.d) = some (ds.map intOf)
  | [], _ => rfl
  | d :: ds, h => by
    rw [List.all_cons, Bool.and_eq_true] at h
    have e := inJ_int h.1
    have ih := ints_all h.2
    rw [← e]
    simp [ints?, ih, intOf]
--# _law_frac
theorem law_frac_eq {S : Sto} {m t : Nat} (h : Bs S m t) (ht : t ≤ 900000) : ∃ (x : Rat) (S' : Sto), Sz 4 x ∧ Bs S' m (t + 2) ∧ G.F__law_frac [.ref m] S = some (.ok (rS x) S') := by
  obtain ⟨r1, S1, k1, B1, e1⟩ := draw_bs h (by omega) (show (0 : Int) < 21 by omega)
  obtain ⟨r2, S2, k2, B2, e2⟩ := draw_bs B1 (by omega) (show (0 : Int) < 5 by omega)
  have f := lawf_eq (p := (r1 : Int) - 10) (q := 1 + (r2 : Int)) (b := 100) (by omega) (bd100 (by omega)) (bd100 (by omega)) (by omega) S2
  refine ⟨Rat.divInt ((r1 : Int) - 10) (1 + r2), S2, sz_div (by omega) ?_ ?_, B2, ?_⟩
  · show ((r1 : Int) - 10).natAbs < 2 ^ 4
    omega
  · show (1 + (r2 : Int)).natAbs < 2 ^ 4
    omega
  · unfold G.F__law_frac G.f__law_frac
    exact run_wp (wp_ret (e_call (e_cons (e_bin (e_call (e_cons rfl (e_one rfl)) rfl rfl e1) rfl rfl) (e_one (e_bin rfl (e_call (e_cons rfl (e_one rfl)) rfl rfl e2) rfl))) rfl rfl f) rfl)
--# end
end M

end
section
set_option Elab.async false
set_option linter.all false
set_option maxRecDepth 100000
/-! KB: no walk: the law's determinant, spelled out for up to four rows (printed by gendet.py). -/
namespace M
open PySem PySem.Spec PyProof.Rows L2 VL
def ordL (n : Nat) : List (List Nat) := (List.range n).foldl (fun F _ => F.foldl (fun acc row => acc ++ ((List.range n).filter fun j => !row.contains j).map fun j => row ++ [j]) []) [[]]
def turnN (o : List Nat) (j : Nat) : Nat := ((List.range j).filter fun i => decide (gN o j < gN o i)).length
def partL (n : Nat) (e : Nat → Nat → Rat) (o : List Nat) : Rat := (List.range n).foldl (fun p j => if turnN o j % 2 = 1 then -(p * e j (gN o j)) else p * e j (gN o j)) 1
def detE (n : Nat) (e : Nat → Nat → Rat) : Rat := (ordL n).foldl (fun f o => f + partL n e o) 0
def detL (n : Nat) (R : List (List Rat)) : Rat := detE n (en R)
theorem detE_0 (e : Nat → Nat → Rat) : detE 0 e = (0 + 1) := rfl
theorem detE_1 (e : Nat → Nat → Rat) : detE 1 e = (0 + (1 * e 0 0)) := rfl
theorem detE_2 (e : Nat → Nat → Rat) : detE 2 e = ((0 + ((1 * e 0 0) * e 1 1)) + (-((1 * e 0 1) * e 1 0))) := rfl
theorem detE_3 (e : Nat → Nat → Rat) : detE 3 e = ((((((0 + (((1 * e 0 0) * e 1 1) * e 2 2)) + (-(((1 * e 0 0) * e 1 2) * e 2 1))) + ((-((1 * e 0 1) * e 1 0)) * e 2 2)) + (((1 * e 0 1) * e 1 2) * e 2 0)) + (-((-((1 * e 0 2) * e 1 0)) * e 2 1))) + ((-((1 * e 0 2) * e 1 1)) * e 2 0)) := rfl
theorem detE_4 (e : Nat → Nat → Rat) : detE 4 e = ((((((((((((((((((((((((0 + ((((1 * e 0 0) * e 1 1) * e 2 2) * e 3 3)) + (-((((1 * e 0 0) * e 1 1) * e 2 3) * e 3 2))) + ((-(((1 * e 0 0) * e 1 2) * e 2 1)) * e 3 3)) + ((((1 * e 0 0) * e 1 2) * e 2 3) * e 3 1)) + (-((-(((1 * e 0 0) * e 1 3) * e 2 1)) * e 3 2))) + ((-(((1 * e 0 0) * e 1 3) * e 2 2)) * e 3 1)) + (((-((1 * e 0 1) * e 1 0)) * e 2 2) * e 3 3)) + (-(((-((1 * e 0 1) * e 1 0)) * e 2 3) * e 3 2))) + ((((1 * e 0 1) * e 1 2) * e 2 0) * e 3 3)) + (-((((1 * e 0 1) * e 1 2) * e 2 3) * e 3 0))) + (-((((1 * e 0 1) * e 1 3) * e 2 0) * e 3 2))) + (-((-(((1 * e 0 1) * e 1 3) * e 2 2)) * e 3 0))) + ((-((-((1 * e 0 2) * e 1 0)) * e 2 1)) * e 3 3)) + (((-((1 * e 0 2) * e 1 0)) * e 2 3) * e 3 1)) + (((-((1 * e 0 2) * e 1 1)) * e 2 0) * e 3 3)) + (-(((-((1 * e 0 2) * e 1 1)) * e 2 3) * e 3 0))) + ((((1 * e 0 2) * e 1 3) * e 2 0) * e 3 1)) + (-((((1 * e 0 2) * e 1 3) * e 2 1) * e 3 0))) + (-((-((-((1 * e 0 3) * e 1 0)) * e 2 1)) * e 3 2))) + ((-((-((1 * e 0 3) * e 1 0)) * e 2 2)) * e 3 1)) + (-(((-((1 * e 0 3) * e 1 1)) * e 2 0) * e 3 2))) + (-((-((-((1 * e 0 3) * e 1 1)) * e 2 2)) * e 3 0))) + (((-((1 * e 0 3) * e 1 2)) * e 2 0) * e 3 1)) + (-(((-((1 * e 0 3) * e 1 2)) * e 2 1) * e 3 0))) := rfl
def swpE (a b : Nat) (e : Nat → Nat → Rat) : Nat → Nat → Rat := fun i j => e (if i = b then a else if i = a then b else i) j
theorem swE_2_0_1 (e : Nat → Nat → Rat) : detE 2 (swpE 0 1 e) = -detE 2 e := by
  rw [detE_2, detE_2]
  show ((0 + ((1 * e 1 0) * e 0 1)) + (-((1 * e 1 1) * e 0 0))) = -((0 + ((1 * e 0 0) * e 1 1)) + (-((1 * e 0 1) * e 1 0)))
  grind
theorem swE_3_0_1 (e : Nat → Nat → Rat) : detE 3 (swpE 0 1 e) = -detE 3 e := by
  rw [detE_3, detE_3]
  show ((((((0 + (((1 * e 1 0) * e 0 1) * e 2 2)) + (-(((1 * e 1 0) * e 0 2) * e 2 1))) + ((-((1 * e 1 1) * e 0 0)) * e 2 2)) + (((1 * e 1 1) * e 0 2) * e 2 0)) + (-((-((1 * e 1 2) * e 0 0)) * e 2 1))) + ((-((1 * e 1 2) * e 0 1)) * e 2 0)) = -((((((0 + (((1 * e 0 0) * e 1 1) * e 2 2)) + (-(((1 * e 0 0) * e 1 2) * e 2 1))) + ((-((1 * e 0 1) * e 1 0)) * e 2 2)) + (((1 * e 0 1) * e 1 2) * e 2 0)) + (-((-((1 * e 0 2) * e 1 0)) * e 2 1))) + ((-((1 * e 0 2) * e 1 1)) * e 2 0))
  grind
theorem swE_3_0_2 (e : Nat → Nat → Rat) : detE 3 (swpE 0 2 e) = -detE 3 e := by
  rw [detE_3, detE_3]
  show ((((((0 + (((1 * e 2 0) * e 1 1) * e 0 2)) + (-(((1 * e 2 0) * e 1 2) * e 0 1))) + ((-((1 * e 2 1) * e 1 0)) * e 0 2)) + (((1 * e 2 1) * e 1 2) * e 0 0)) + (-((-((1 * e 2 2) * e 1 0)) * e 0 1))) + ((-((1 * e 2 2) * e 1 1)) * e 0 0)) = -((((((0 + (((1 * e 0 0) * e 1 1) * e 2 2)) + (-(((1 * e 0 0) * e 1 2) * e 2 1))) + ((-((1 * e 0 1) * e 1 0)) * e 2 2)) + (((1 * e 0 1) * e 1 2) * e 2 0)) + (-((-((1 * e 0 2) * e 1 0)) * e 2 1))) + ((-((1 * e 0 2) * e 1 1)) * e 2 0))
  grind
theorem swE_3_1_2 (e : Nat → Nat → Rat) : detE 3 (swpE 1 2 e) = -detE 3 e := by
  rw [detE_3, detE_3]
  show ((((((0 + (((1 * e 0 0) * e 2 1) * e 1 2)) + (-(((1 * e 0 0) * e 2 2) * e 1 1))) + ((-((1 * e 0 1) * e 2 0)) * e 1 2)) + (((1 * e 0 1) * e 2 2) * e 1 0)) + (-((-((1 * e 0 2) * e 2 0)) * e 1 1))) + ((-((1 * e 0 2) * e 2 1)) * e 1 0)) = -((((((0 + (((1 * e 0 0) * e 1 1) * e 2 2)) + (-(((1 * e 0 0) * e 1 2) * e 2 1))) + ((-((1 * e 0 1) * e 1 0)) * e 2 2)) + (((1 * e 0 1) * e 1 2) * e 2 0)) + (-((-((1 * e 0 2) * e 1 0)) * e 2 1))) + ((-((1 * e 0 2) * e 1 1)) * e 2 0))
  grind
theorem swE_4_0_1 (e : Nat → Nat → Rat) : detE 4 (swpE 0 1 e) = -detE 4 e := by
  rw [detE_4, detE_4]
  show ((((((((((((((((((((((((0 + ((((1 * e 1 0) * e 0 1) * e 2 2) * e 3 3)) + (-((((1 * e 1 0) * e 0 1) * e 2 3) * e 3 2))) + ((-(((1 * e 1 0) * e 0 2) * e 2 1)) * e 3 3)) + ((((1 * e 1 0) * e 0 2) * e 2 3) * e 3 1)) + (-((-(((1 * e 1 0) * e 0 3) * e 2 1)) * e 3 2))) + ((-(((1 * e 1 0) * e 0 3) * e 2 2)) * e 3 1)) + (((-((1 * e 1 1) * e 0 0)) * e 2 2) * e 3 3)) + (-(((-((1 * e 1 1) * e 0 0)) * e 2 3) * e 3 2))) + ((((1 * e 1 1) * e 0 2) * e 2 0) * e 3 3)) + (-((((1 * e 1 1) * e 0 2) * e 2 3) * e 3 0))) + (-((((1 * e 1 1) * e 0 3) * e 2 0) * e 3 2))) + (-((-(((1 * e 1 1) * e 0 3) * e 2 2)) * e 3 0))) + ((-((-((1 * e 1 2) * e 0 0)) * e 2 1)) * e 3 3)) + (((-((1 * e 1 2) * e 0 0)) * e 2 3) * e 3 1)) + (((-((1 * e 1 2) * e 0 1)) * e 2 0) * e 3 3)) + (-(((-((1 * e 1 2) * e 0 1)) * e 2 3) * e 3 0))) + ((((1 * e 1 2) * e 0 3) * e 2 0) * e 3 1)) + (-((((1 * e 1 2) * e 0 3) * e 2 1) * e 3 0))) + (-((-((-((1 * e 1 3) * e 0 0)) * e 2 1)) * e 3 2))) + ((-((-((1 * e 1 3) * e 0 0)) * e 2 2)) * e 3 1)) + (-(((-((1 * e 1 3) * e 0 1)) * e 2 0) * e 3 2))) + (-((-((-((1 * e 1 3) * e 0 1)) * e 2 2)) * e 3 0))) + (((-((1 * e 1 3) * e 0 2)) * e 2 0) * e 3 1)) + (-(((-((1 * e 1 3) * e 0 2)) * e 2 1) * e 3 0))) = -((((((((((((((((((((((((0 + ((((1 * e 0 0) * e 1 1) * e 2 2) * e 3 3)) + (-((((1 * e 0 0) * e 1 1) * e 2 3) * e 3 2))) + ((-(((1 * e 0 0) * e 1 2) * e 2 1)) * e 3 3)) + ((((1 * e 0 0) * e 1 2) * e 2 3) * e 3 1)) + (-((-(((1 * e 0 0) * e 1 3) * e 2 1)) * e 3 2))) + ((-(((1 * e 0 0) * e 1 3) * e 2 2)) * e 3 1)) + (((-((1 * e 0 1) * e 1 0)) * e 2 2) * e 3 3)) + (-(((-((1 * e 0 1) * e 1 0)) * e 2 3) * e 3 2))) + ((((1 * e 0 1) * e 1 2) * e 2 0) * e 3 3)) + (-((((1 * e 0 1) * e 1 2) * e 2 3) * e 3 0))) + (-((((1 * e 0 1) * e 1 3) * e 2 0) * e 3 2))) + (-((-(((1 * e 0 1) * e 1 3) * e 2 2)) * e 3 0))) + ((-((-((1 * e 0 2) * e 1 0)) * e 2 1)) * e 3 3)) + (((-((1 * e 0 2) * e 1 0)) * e 2 3) * e 3 1)) + (((-((1 * e 0 2) * e 1 1)) * e 2 0) * e 3 3)) + (-(((-((1 * e 0 2) * e 1 1)) * e 2 3) * e 3 0))) + ((((1 * e 0 2) * e 1 3) * e 2 0) * e 3 1)) + (-((((1 * e 0 2) * e 1 3) * e 2 1) * e 3 0))) + (-((-((-((1 * e 0 3) * e 1 0)) * e 2 1)) * e 3 2))) + ((-((-((1 * e 0 3) * e 1 0)) * e 2 2)) * e 3 1)) + (-(((-((1 * e 0 3) * e 1 1)) * e 2 0) * e 3 2))) + (-((-((-((1 * e 0 3) * e 1 1)) * e 2 2)) * e 3 0))) + (((-((1 * e 0 3) * e 1 2)) * e 2 0) * e 3 1)) + (-(((-((1 * e 0 3) * e 1 2)) * e 2 1) * e 3 0)))
  grind
theorem swE_4_0_2 (e : Nat → Nat → Rat) : detE 4 (swpE 0 2 e) = -detE 4 e := by
  rw [detE_4, detE_4]
  show ((((((((((((((((((((((((0 + ((((1 * e 2 0) * e 1 1) * e 0 2) * e 3 3)) + (-((((1 * e 2 0) * e 1 1) * e 0 3) * e 3 2))) + ((-(((1 * e 2 0) * e 1 2) * e 0 1)) * e 3 3)) + ((((1 * e 2 0) * e 1 2) * e 0 3) * e 3 1)) + (-((-(((1 * e 2 0) * e 1 3) * e 0 1)) * e 3 2))) + ((-(((1 * e 2 0) * e 1 3) * e 0 2)) * e 3 1)) + (((-((1 * e 2 1) * e 1 0)) * e 0 2) * e 3 3)) + (-(((-((1 * e 2 1) * e 1 0)) * e 0 3) * e 3 2))) + ((((1 * e 2 1) * e 1 2) * e 0 0) * e 3 3)) + (-((((1 * e 2 1) * e 1 2) * e 0 3) * e 3 0))) + (-((((1 * e 2 1) * e 1 3) * e 0 0) * e 3 2))) + (-((-(((1 * e 2 1) * e 1 3) * e 0 2)) * e 3 0))) + ((-((-((1 * e 2 2) * e 1 0)) * e 0 1)) * e 3 3)) + (((-((1 * e 2 2) * e 1 0)) * e 0 3) * e 3 1)) + (((-((1 * e 2 2) * e 1 1)) * e 0 0) * e 3 3)) + (-(((-((1 * e 2 2) * e 1 1)) * e 0 3) * e 3 0))) + ((((1 * e 2 2) * e 1 3) * e 0 0) * e 3 1)) + (-((((1 * e 2 2) * e 1 3) * e 0 1) * e 3 0))) + (-((-((-((1 * e 2 3) * e 1 0)) * e 0 1)) * e 3 2))) + ((-((-((1 * e 2 3) * e 1 0)) * e 0 2)) * e 3 1)) + (-(((-((1 * e 2 3) * e 1 1)) * e 0 0) * e 3 2))) + (-((-((-((1 * e 2 3) * e 1 1)) * e 0 2)) * e 3 0))) + (((-((1 * e 2 3) * e 1 2)) * e 0 0) * e 3 1)) + (-(((-((1 * e 2 3) * e 1 2)) * e 0 1) * e 3 0))) = -((((((((((((((((((((((((0 + ((((1 * e 0 0) * e 1 1) * e 2 2) * e 3 3)) + (-((((1 * e 0 0) * e 1 1) * e 2 3) * e 3 2))) + ((-(((1 * e 0 0) * e 1 2) * e 2 1)) * e 3 3)) + ((((1 * e 0 0) * e 1 2) * e 2 3) * e 3 1)) + (-((-(((1 * e 0 0) * e 1 3) * e 2 1)) * e 3 2))) + ((-(((1 * e 0 0) * e 1 3) * e 2 2)) * e 3 1)) + (((-((1 * e 0 1) * e 1 0)) * e 2 2) * e 3 3)) + (-(((-((1 * e 0 1) * e 1 0)) * e 2 3) * e 3 2))) + ((((1 * e 0 1) * e 1 2) * e 2 0) * e 3 3)) + (-((((1 * e 0 1) * e 1 2) * e 2 3) * e 3 0))) + (-((((1 * e 0 1) * e 1 3) * e 2 0) * e 3 2))) + (-((-(((1 * e 0 1) * e 1 3) * e 2 2)) * e 3 0))) + ((-((-((1 * e 0 2) * e 1 0)) * e 2 1)) * e 3 3)) + (((-((1 * e 0 2) * e 1 0)) * e 2 3) * e 3 1)) + (((-((1 * e 0 2) * e 1 1)) * e 2 0) * e 3 3)) + (-(((-((1 * e 0 2) * e 1 1)) * e 2 3) * e 3 0))) + ((((1 * e 0 2) * e 1 3) * e 2 0) * e 3 1)) + (-((((1 * e 0 2) * e 1 3) * e 2 1) * e 3 0))) + (-((-((-((1 * e 0 3) * e 1 0)) * e 2 1)) * e 3 2))) + ((-((-((1 * e 0 3) * e 1 0)) * e 2 2)) * e 3 1)) + (-(((-((1 * e 0 3) * e 1 1)) * e 2 0) * e 3 2))) + (-((-((-((1 * e 0 3) * e 1 1)) * e 2 2)) * e 3 0))) + (((-((1 * e 0 3) * e 1 2)) * e 2 0) * e 3 1)) + (-(((-((1 * e 0 3) * e 1 2)) * e 2 1) * e 3 0)))
  grind
theorem swE_4_0_3 (e : Nat → Nat → Rat) : detE 4 (swpE 0 3 e) = -detE 4 e := by
  rw [detE_4, detE_4]
  show ((((((((((((((((((((((((0 + ((((1 * e 3 0) * e 1 1) * e 2 2) * e 0 3)) + (-((((1 * e 3 0) * e 1 1) * e 2 3) * e 0 2))) + ((-(((1 * e 3 0) * e 1 2) * e 2 1)) * e 0 3)) + ((((1 * e 3 0) * e 1 2) * e 2 3) * e 0 1)) + (-((-(((1 * e 3 0) * e 1 3) * e 2 1)) * e 0 2))) + ((-(((1 * e 3 0) * e 1 3) * e 2 2)) * e 0 1)) + (((-((1 * e 3 1) * e 1 0)) * e 2 2) * e 0 3)) + (-(((-((1 * e 3 1) * e 1 0)) * e 2 3) * e 0 2))) + ((((1 * e 3 1) * e 1 2) * e 2 0) * e 0 3)) + (-((((1 * e 3 1) * e 1 2) * e 2 3) * e 0 0))) + (-((((1 * e 3 1) * e 1 3) * e 2 0) * e 0 2))) + (-((-(((1 * e 3 1) * e 1 3) * e 2 2)) * e 0 0))) + ((-((-((1 * e 3 2) * e 1 0)) * e 2 1)) * e 0 3)) + (((-((1 * e 3 2) * e 1 0)) * e 2 3) * e 0 1)) + (((-((1 * e 3 2) * e 1 1)) * e 2 0) * e 0 3)) + (-(((-((1 * e 3 2) * e 1 1)) * e 2 3) * e 0 0))) + ((((1 * e 3 2) * e 1 3) * e 2 0) * e 0 1)) + (-((((1 * e 3 2) * e 1 3) * e 2 1) * e 0 0))) + (-((-((-((1 * e 3 3) * e 1 0)) * e 2 1)) * e 0 2))) + ((-((-((1 * e 3 3) * e 1 0)) * e 2 2)) * e 0 1)) + (-(((-((1 * e 3 3) * e 1 1)) * e 2 0) * e 0 2))) + (-((-((-((1 * e 3 3) * e 1 1)) * e 2 2)) * e 0 0))) + (((-((1 * e 3 3) * e 1 2)) * e 2 0) * e 0 1)) + (-(((-((1 * e 3 3) * e 1 2)) * e 2 1) * e 0 0))) = -((((((((((((((((((((((((0 + ((((1 * e 0 0) * e 1 1) * e 2 2) * e 3 3)) + (-((((1 * e 0 0) * e 1 1) * e 2 3) * e 3 2))) + ((-(((1 * e 0 0) * e 1 2) * e 2 1)) * e 3 3)) + ((((1 * e 0 0) * e 1 2) * e 2 3) * e 3 1)) + (-((-(((1 * e 0 0) * e 1 3) * e 2 1)) * e 3 2))) + ((-(((1 * e 0 0) * e 1 3) * e 2 2)) * e 3 1)) + (((-((1 * e 0 1) * e 1 0)) * e 2 2) * e 3 3)) + (-(((-((1 * e 0 1) * e 1 0)) * e 2 3) * e 3 2))) + ((((1 * e 0 1) * e 1 2) * e 2 0) * e 3 3)) + (-((((1 * e 0 1) * e 1 2) * e 2 3) * e 3 0))) + (-((((1 * e 0 1) * e 1 3) * e 2 0) * e 3 2))) + (-((-(((1 * e 0 1) * e 1 3) * e 2 2)) * e 3 0))) + ((-((-((1 * e 0 2) * e 1 0)) * e 2 1)) * e 3 3)) + (((-((1 * e 0 2) * e 1 0)) * e 2 3) * e 3 1)) + (((-((1 * e 0 2) * e 1 1)) * e 2 0) * e 3 3)) + (-(((-((1 * e 0 2) * e 1 1)) * e 2 3) * e 3 0))) + ((((1 * e 0 2) * e 1 3) * e 2 0) * e 3 1)) + (-((((1 * e 0 2) * e 1 3) * e 2 1) * e 3 0))) + (-((-((-((1 * e 0 3) * e 1 0)) * e 2 1)) * e 3 2))) + ((-((-((1 * e 0 3) * e 1 0)) * e 2 2)) * e 3 1)) + (-(((-((1 * e 0 3) * e 1 1)) * e 2 0) * e 3 2))) + (-((-((-((1 * e 0 3) * e 1 1)) * e 2 2)) * e 3 0))) + (((-((1 * e 0 3) * e 1 2)) * e 2 0) * e 3 1)) + (-(((-((1 * e 0 3) * e 1 2)) * e 2 1) * e 3 0)))
  grind
theorem swE_4_1_2 (e : Nat → Nat → Rat) : detE 4 (swpE 1 2 e) = -detE 4 e := by
  rw [detE_4, detE_4]
  show ((((((((((((((((((((((((0 + ((((1 * e 0 0) * e 2 1) * e 1 2) * e 3 3)) + (-((((1 * e 0 0) * e 2 1) * e 1 3) * e 3 2))) + ((-(((1 * e 0 0) * e 2 2) * e 1 1)) * e 3 3)) + ((((1 * e 0 0) * e 2 2) * e 1 3) * e 3 1)) + (-((-(((1 * e 0 0) * e 2 3) * e 1 1)) * e 3 2))) + ((-(((1 * e 0 0) * e 2 3) * e 1 2)) * e 3 1)) + (((-((1 * e 0 1) * e 2 0)) * e 1 2) * e 3 3)) + (-(((-((1 * e 0 1) * e 2 0)) * e 1 3) * e 3 2))) + ((((1 * e 0 1) * e 2 2) * e 1 0) * e 3 3)) + (-((((1 * e 0 1) * e 2 2) * e 1 3) * e 3 0))) + (-((((1 * e 0 1) * e 2 3) * e 1 0) * e 3 2))) + (-((-(((1 * e 0 1) * e 2 3) * e 1 2)) * e 3 0))) + ((-((-((1 * e 0 2) * e 2 0)) * e 1 1)) * e 3 3)) + (((-((1 * e 0 2) * e 2 0)) * e 1 3) * e 3 1)) + (((-((1 * e 0 2) * e 2 1)) * e 1 0) * e 3 3)) + (-(((-((1 * e 0 2) * e 2 1)) * e 1 3) * e 3 0))) + ((((1 * e 0 2) * e 2 3) * e 1 0) * e 3 1)) + (-((((1 * e 0 2) * e 2 3) * e 1 1) * e 3 0))) + (-((-((-((1 * e 0 3) * e 2 0)) * e 1 1)) * e 3 2))) + ((-((-((1 * e 0 3) * e 2 0)) * e 1 2)) * e 3 1)) + (-(((-((1 * e 0 3) * e 2 1)) * e 1 0) * e 3 2))) + (-((-((-((1 * e 0 3) * e 2 1)) * e 1 2)) * e 3 0))) + (((-((1 * e 0 3) * e 2 2)) * e 1 0) * e 3 1)) + (-(((-((1 * e 0 3) * e 2 2)) * e 1 1) * e 3 0))) = -((((((((((((((((((((((((0 + ((((1 * e 0 0) * e 1 1) * e 2 2) * e 3 3)) + (-((((1 * e 0 0) * e 1 1) * e 2 3) * e 3 2))) + ((-(((1 * e 0 0) * e 1 2) * e 2 1)) * e 3 3)) + ((((1 * e 0 0) * e 1 2) * e 2 3) * e 3 1)) + (-((-(((1 * e 0 0) * e 1 3) * e 2 1)) * e 3 2))) + ((-(((1 * e 0 0) * e 1 3) * e 2 2)) * e 3 1)) + (((-((1 * e 0 1) * e 1 0)) * e 2 2) * e 3 3)) + (-(((-((1 * e 0 1) * e 1 0)) * e 2 3) * e 3 2))) + ((((1 * e 0 1) * e 1 2) * e 2 0) * e 3 3)) + (-((((1 * e 0 1) * e 1 2) * e 2 3) * e 3 0))) + (-((((1 * e 0 1) * e 1 3) * e 2 0) * e 3 2))) + (-((-(((1 * e 0 1) * e 1 3) * e 2 2)) * e 3 0))) + ((-((-((1 * e 0 2) * e 1 0)) * e 2 1)) * e 3 3)) + (((-((1 * e 0 2) * e 1 0)) * e 2 3) * e 3 1)) + (((-((1 * e 0 2) * e 1 1)) * e 2 0) * e 3 3)) + (-(((-((1 * e 0 2) * e 1 1)) * e 2 3) * e 3 0))) + ((((1 * e 0 2) * e 1 3) * e 2 0) * e 3 1)) + (-((((1 * e 0 2) * e 1 3) * e 2 1) * e 3 0))) + (-((-((-((1 * e 0 3) * e 1 0)) * e 2 1)) * e 3 2))) + ((-((-((1 * e 0 3) * e 1 0)) * e 2 2)) * e 3 1)) + (-(((-((1 * e 0 3) * e 1 1)) * e 2 0) * e 3 2))) + (-((-((-((1 * e 0 3) * e 1 1)) * e 2 2)) * e 3 0))) + (((-((1 * e 0 3) * e 1 2)) * e 2 0) * e 3 1)) + (-(((-((1 * e 0 3) * e 1 2)) * e 2 1) * e 3 0)))
  grind
theorem swE_4_1_3 (e : Nat → Nat → Rat) : detE 4 (swpE 1 3 e) = -detE 4 e := by
  rw [detE_4, detE_4]
  show ((((((((((((((((((((((((0 + ((((1 * e 0 0) * e 3 1) * e 2 2) * e 1 3)) + (-((((1 * e 0 0) * e 3 1) * e 2 3) * e 1 2))) + ((-(((1 * e 0 0) * e 3 2) * e 2 1)) * e 1 3)) + ((((1 * e 0 0) * e 3 2) * e 2 3) * e 1 1)) + (-((-(((1 * e 0 0) * e 3 3) * e 2 1)) * e 1 2))) + ((-(((1 * e 0 0) * e 3 3) * e 2 2)) * e 1 1)) + (((-((1 * e 0 1) * e 3 0)) * e 2 2) * e 1 3)) + (-(((-((1 * e 0 1) * e 3 0)) * e 2 3) * e 1 2))) + ((((1 * e 0 1) * e 3 2) * e 2 0) * e 1 3)) + (-((((1 * e 0 1) * e 3 2) * e 2 3) * e 1 0))) + (-((((1 * e 0 1) * e 3 3) * e 2 0) * e 1 2))) + (-((-(((1 * e 0 1) * e 3 3) * e 2 2)) * e 1 0))) + ((-((-((1 * e 0 2) * e 3 0)) * e 2 1)) * e 1 3)) + (((-((1 * e 0 2) * e 3 0)) * e 2 3) * e 1 1)) + (((-((1 * e 0 2) * e 3 1)) * e 2 0) * e 1 3)) + (-(((-((1 * e 0 2) * e 3 1)) * e 2 3) * e 1 0))) + ((((1 * e 0 2) * e 3 3) * e 2 0) * e 1 1)) + (-((((1 * e 0 2) * e 3 3) * e 2 1) * e 1 0))) + (-((-((-((1 * e 0 3) * e 3 0)) * e 2 1)) * e 1 2))) + ((-((-((1 * e 0 3) * e 3 0)) * e 2 2)) * e 1 1)) + (-(((-((1 * e 0 3) * e 3 1)) * e 2 0) * e 1 2))) + (-((-((-((1 * e 0 3) * e 3 1)) * e 2 2)) * e 1 0))) + (((-((1 * e 0 3) * e 3 2)) * e 2 0) * e 1 1)) + (-(((-((1 * e 0 3) * e 3 2)) * e 2 1) * e 1 0))) = -((((((((((((((((((((((((0 + ((((1 * e 0 0) * e 1 1) * e 2 2) * e 3 3)) + (-((((1 * e 0 0) * e 1 1) * e 2 3) * e 3 2))) + ((-(((1 * e 0 0) * e 1 2) * e 2 1)) * e 3 3)) + ((((1 * e 0 0) * e 1 2) * e 2 3) * e 3 1)) + (-((-(((1 * e 0 0) * e 1 3) * e 2 1)) * e 3 2))) + ((-(((1 * e 0 0) * e 1 3) * e 2 2)) * e 3 1)) + (((-((1 * e 0 1) * e 1 0)) * e 2 2) * e 3 3)) + (-(((-((1 * e 0 1) * e 1 0)) * e 2 3) * e 3 2))) + ((((1 * e 0 1) * e 1 2) * e 2 0) * e 3 3)) + (-((((1 * e 0 1) * e 1 2) * e 2 3) * e 3 0))) + (-((((1 * e 0 1) * e 1 3) * e 2 0) * e 3 2))) + (-((-(((1 * e 0 1) * e 1 3) * e 2 2)) * e 3 0))) + ((-((-((1 * e 0 2) * e 1 0)) * e 2 1)) * e 3 3)) + (((-((1 * e 0 2) * e 1 0)) * e 2 3) * e 3 1)) + (((-((1 * e 0 2) * e 1 1)) * e 2 0) * e 3 3)) + (-(((-((1 * e 0 2) * e 1 1)) * e 2 3) * e 3 0))) + ((((1 * e 0 2) * e 1 3) * e 2 0) * e 3 1)) + (-((((1 * e 0 2) * e 1 3) * e 2 1) * e 3 0))) + (-((-((-((1 * e 0 3) * e 1 0)) * e 2 1)) * e 3 2))) + ((-((-((1 * e 0 3) * e 1 0)) * e 2 2)) * e 3 1)) + (-(((-((1 * e 0 3) * e 1 1)) * e 2 0) * e 3 2))) + (-((-((-((1 * e 0 3) * e 1 1)) * e 2 2)) * e 3 0))) + (((-((1 * e 0 3) * e 1 2)) * e 2 0) * e 3 1)) + (-(((-((1 * e 0 3) * e 1 2)) * e 2 1) * e 3 0)))
  grind
theorem swE_4_2_3 (e : Nat → Nat → Rat) : detE 4 (swpE 2 3 e) = -detE 4 e := by
  rw [detE_4, detE_4]
  show ((((((((((((((((((((((((0 + ((((1 * e 0 0) * e 1 1) * e 3 2) * e 2 3)) + (-((((1 * e 0 0) * e 1 1) * e 3 3) * e 2 2))) + ((-(((1 * e 0 0) * e 1 2) * e 3 1)) * e 2 3)) + ((((1 * e 0 0) * e 1 2) * e 3 3) * e 2 1)) + (-((-(((1 * e 0 0) * e 1 3) * e 3 1)) * e 2 2))) + ((-(((1 * e 0 0) * e 1 3) * e 3 2)) * e 2 1)) + (((-((1 * e 0 1) * e 1 0)) * e 3 2) * e 2 3)) + (-(((-((1 * e 0 1) * e 1 0)) * e 3 3) * e 2 2))) + ((((1 * e 0 1) * e 1 2) * e 3 0) * e 2 3)) + (-((((1 * e 0 1) * e 1 2) * e 3 3) * e 2 0))) + (-((((1 * e 0 1) * e 1 3) * e 3 0) * e 2 2))) + (-((-(((1 * e 0 1) * e 1 3) * e 3 2)) * e 2 0))) + ((-((-((1 * e 0 2) * e 1 0)) * e 3 1)) * e 2 3)) + (((-((1 * e 0 2) * e 1 0)) * e 3 3) * e 2 1)) + (((-((1 * e 0 2) * e 1 1)) * e 3 0) * e 2 3)) + (-(((-((1 * e 0 2) * e 1 1)) * e 3 3) * e 2 0))) + ((((1 * e 0 2) * e 1 3) * e 3 0) * e 2 1)) + (-((((1 * e 0 2) * e 1 3) * e 3 1) * e 2 0))) + (-((-((-((1 * e 0 3) * e 1 0)) * e 3 1)) * e 2 2))) + ((-((-((1 * e 0 3) * e 1 0)) * e 3 2)) * e 2 1)) + (-(((-((1 * e 0 3) * e 1 1)) * e 3 0) * e 2 2))) + (-((-((-((1 * e 0 3) * e 1 1)) * e 3 2)) * e 2 0))) + (((-((1 * e 0 3) * e 1 2)) * e 3 0) * e 2 1)) + (-(((-((1 * e 0 3) * e 1 2)) * e 3 1) * e 2 0))) = -((((((((((((((((((((((((0 + ((((1 * e 0 0) * e 1 1) * e 2 2) * e 3 3)) + (-((((1 * e 0 0) * e 1 1) * e 2 3) * e 3 2))) + ((-(((1 * e 0 0) * e 1 2) * e 2 1)) * e 3 3)) + ((((1 * e 0 0) * e 1 2) * e 2 3) * e 3 1)) + (-((-(((1 * e 0 0) * e 1 3) * e 2 1)) * e 3 2))) + ((-(((1 * e 0 0) * e 1 3) * e 2 2)) * e 3 1)) + (((-((1 * e 0 1) * e 1 0)) * e 2 2) * e 3 3)) + (-(((-((1 * e 0 1) * e 1 0)) * e 2 3) * e 3 2))) + ((((1 * e 0 1) * e 1 2) * e 2 0) * e 3 3)) + (-((((1 * e 0 1) * e 1 2) * e 2 3) * e 3 0))) + (-((((1 * e 0 1) * e 1 3) * e 2 0) * e 3 2))) + (-((-(((1 * e 0 1) * e 1 3) * e 2 2)) * e 3 0))) + ((-((-((1 * e 0 2) * e 1 0)) * e 2 1)) * e 3 3)) + (((-((1 * e 0 2) * e 1 0)) * e 2 3) * e 3 1)) + (((-((1 * e 0 2) * e 1 1)) * e 2 0) * e 3 3)) + (-(((-((1 * e 0 2) * e 1 1)) * e 2 3) * e 3 0))) + ((((1 * e 0 2) * e 1 3) * e 2 0) * e 3 1)) + (-((((1 * e 0 2) * e 1 3) * e 2 1) * e 3 0))) + (-((-((-((1 * e 0 3) * e 1 0)) * e 2 1)) * e 3 2))) + ((-((-((1 * e 0 3) * e 1 0)) * e 2 2)) * e 3 1)) + (-(((-((1 * e 0 3) * e 1 1)) * e 2 0) * e 3 2))) + (-((-((-((1 * e 0 3) * e 1 1)) * e 2 2)) * e 3 0))) + (((-((1 * e 0 3) * e 1 2)) * e 2 0) * e 3 1)) + (-(((-((1 * e 0 3) * e 1 2)) * e 2 1) * e 3 0)))
  grind
def subE (i c : Nat) (f : Rat) (e : Nat → Nat → Rat) : Nat → Nat → Rat := fun k j => if k = i then e i j - f * e c j else e k j
theorem suE_2_1_0 (f : Rat) (e : Nat → Nat → Rat) : detE 2 (subE 1 0 f e) = detE 2 e := by
  rw [detE_2, detE_2]
  show ((0 + ((1 * e 0 0) * (e 1 1 - f * e 0 1))) + (-((1 * e 0 1) * (e 1 0 - f * e 0 0)))) = ((0 + ((1 * e 0 0) * e 1 1)) + (-((1 * e 0 1) * e 1 0)))
  grind
theorem suE_3_1_0 (f : Rat) (e : Nat → Nat → Rat) : detE 3 (subE 1 0 f e) = detE 3 e := by
  rw [detE_3, detE_3]
  show ((((((0 + (((1 * e 0 0) * (e 1 1 - f * e 0 1)) * e 2 2)) + (-(((1 * e 0 0) * (e 1 2 - f * e 0 2)) * e 2 1))) + ((-((1 * e 0 1) * (e 1 0 - f * e 0 0))) * e 2 2)) + (((1 * e 0 1) * (e 1 2 - f * e 0 2)) * e 2 0)) + (-((-((1 * e 0 2) * (e 1 0 - f * e 0 0))) * e 2 1))) + ((-((1 * e 0 2) * (e 1 1 - f * e 0 1))) * e 2 0)) = ((((((0 + (((1 * e 0 0) * e 1 1) * e 2 2)) + (-(((1 * e 0 0) * e 1 2) * e 2 1))) + ((-((1 * e 0 1) * e 1 0)) * e 2 2)) + (((1 * e 0 1) * e 1 2) * e 2 0)) + (-((-((1 * e 0 2) * e 1 0)) * e 2 1))) + ((-((1 * e 0 2) * e 1 1)) * e 2 0))
  grind
theorem suE_3_2_0 (f : Rat) (e : Nat → Nat → Rat) : detE 3 (subE 2 0 f e) = detE 3 e := by
  rw [detE_3, detE_3]
  show ((((((0 + (((1 * e 0 0) * e 1 1) * (e 2 2 - f * e 0 2))) + (-(((1 * e 0 0) * e 1 2) * (e 2 1 - f * e 0 1)))) + ((-((1 * e 0 1) * e 1 0)) * (e 2 2 - f * e 0 2))) + (((1 * e 0 1) * e 1 2) * (e 2 0 - f * e 0 0))) + (-((-((1 * e 0 2) * e 1 0)) * (e 2 1 - f * e 0 1)))) + ((-((1 * e 0 2) * e 1 1)) * (e 2 0 - f * e 0 0))) = ((((((0 + (((1 * e 0 0) * e 1 1) * e 2 2)) + (-(((1 * e 0 0) * e 1 2) * e 2 1))) + ((-((1 * e 0 1) * e 1 0)) * e 2 2)) + (((1 * e 0 1) * e 1 2) * e 2 0)) + (-((-((1 * e 0 2) * e 1 0)) * e 2 1))) + ((-((1 * e 0 2) * e 1 1)) * e 2 0))
  grind
theorem suE_3_2_1 (f : Rat) (e : Nat → Nat → Rat) : detE 3 (subE 2 1 f e) = detE 3 e := by
  rw [detE_3, detE_3]
  show ((((((0 + (((1 * e 0 0) * e 1 1) * (e 2 2 - f * e 1 2))) + (-(((1 * e 0 0) * e 1 2) * (e 2 1 - f * e 1 1)))) + ((-((1 * e 0 1) * e 1 0)) * (e 2 2 - f * e 1 2))) + (((1 * e 0 1) * e 1 2) * (e 2 0 - f * e 1 0))) + (-((-((1 * e 0 2) * e 1 0)) * (e 2 1 - f * e 1 1)))) + ((-((1 * e 0 2) * e 1 1)) * (e 2 0 - f * e 1 0))) = ((((((0 + (((1 * e 0 0) * e 1 1) * e 2 2)) + (-(((1 * e 0 0) * e 1 2) * e 2 1))) + ((-((1 * e 0 1) * e 1 0)) * e 2 2)) + (((1 * e 0 1) * e 1 2) * e 2 0)) + (-((-((1 * e 0 2) * e 1 0)) * e 2 1))) + ((-((1 * e 0 2) * e 1 1)) * e 2 0))
  grind
theorem suE_4_1_0 (f : Rat) (e : Nat → Nat → Rat) : detE 4 (subE 1 0 f e) = detE 4 e := by
  rw [detE_4, detE_4]
  show ((((((((((((((((((((((((0 + ((((1 * e 0 0) * (e 1 1 - f * e 0 1)) * e 2 2) * e 3 3)) + (-((((1 * e 0 0) * (e 1 1 - f * e 0 1)) * e 2 3) * e 3 2))) + ((-(((1 * e 0 0) * (e 1 2 - f * e 0 2)) * e 2 1)) * e 3 3)) + ((((1 * e 0 0) * (e 1 2 - f * e 0 2)) * e 2 3) * e 3 1)) + (-((-(((1 * e 0 0) * (e 1 3 - f * e 0 3)) * e 2 1)) * e 3 2))) + ((-(((1 * e 0 0) * (e 1 3 - f * e 0 3)) * e 2 2)) * e 3 1)) + (((-((1 * e 0 1) * (e 1 0 - f * e 0 0))) * e 2 2) * e 3 3)) + (-(((-((1 * e 0 1) * (e 1 0 - f * e 0 0))) * e 2 3) * e 3 2))) + ((((1 * e 0 1) * (e 1 2 - f * e 0 2)) * e 2 0) * e 3 3)) + (-((((1 * e 0 1) * (e 1 2 - f * e 0 2)) * e 2 3) * e 3 0))) + (-((((1 * e 0 1) * (e 1 3 - f * e 0 3)) * e 2 0) * e 3 2))) + (-((-(((1 * e 0 1) * (e 1 3 - f * e 0 3)) * e 2 2)) * e 3 0))) + ((-((-((1 * e 0 2) * (e 1 0 - f * e 0 0))) * e 2 1)) * e 3 3)) + (((-((1 * e 0 2) * (e 1 0 - f * e 0 0))) * e 2 3) * e 3 1)) + (((-((1 * e 0 2) * (e 1 1 - f * e 0 1))) * e 2 0) * e 3 3)) + (-(((-((1 * e 0 2) * (e 1 1 - f * e 0 1))) * e 2 3) * e 3 0))) + ((((1 * e 0 2) * (e 1 3 - f * e 0 3)) * e 2 0) * e 3 1)) + (-((((1 * e 0 2) * (e 1 3 - f * e 0 3)) * e 2 1) * e 3 0))) + (-((-((-((1 * e 0 3) * (e 1 0 - f * e 0 0))) * e 2 1)) * e 3 2))) + ((-((-((1 * e 0 3) * (e 1 0 - f * e 0 0))) * e 2 2)) * e 3 1)) + (-(((-((1 * e 0 3) * (e 1 1 - f * e 0 1))) * e 2 0) * e 3 2))) + (-((-((-((1 * e 0 3) * (e 1 1 - f * e 0 1))) * e 2 2)) * e 3 0))) + (((-((1 * e 0 3) * (e 1 2 - f * e 0 2))) * e 2 0) * e 3 1)) + (-(((-((1 * e 0 3) * (e 1 2 - f * e 0 2))) * e 2 1) * e 3 0))) = ((((((((((((((((((((((((0 + ((((1 * e 0 0) * e 1 1) * e 2 2) * e 3 3)) + (-((((1 * e 0 0) * e 1 1) * e 2 3) * e 3 2))) + ((-(((1 * e 0 0) * e 1 2) * e 2 1)) * e 3 3)) + ((((1 * e 0 0) * e 1 2) * e 2 3) * e 3 1)) + (-((-(((1 * e 0 0) * e 1 3) * e 2 1)) * e 3 2))) + ((-(((1 * e 0 0) * e 1 3) * e 2 2)) * e 3 1)) + (((-((1 * e 0 1) * e 1 0)) * e 2 2) * e 3 3)) + (-(((-((1 * e 0 1) * e 1 0)) * e 2 3) * e 3 2))) + ((((1 * e 0 1) * e 1 2) * e 2 0) * e 3 3)) + (-((((1 * e 0 1) * e 1 2) * e 2 3) * e 3 0))) + (-((((1 * e 0 1) * e 1 3) * e 2 0) * e 3 2))) + (-((-(((1 * e 0 1) * e 1 3) * e 2 2)) * e 3 0))) + ((-((-((1 * e 0 2) * e 1 0)) * e 2 1)) * e 3 3)) + (((-((1 * e 0 2) * e 1 0)) * e 2 3) * e 3 1)) + (((-((1 * e 0 2) * e 1 1)) * e 2 0) * e 3 3)) + (-(((-((1 * e 0 2) * e 1 1)) * e 2 3) * e 3 0))) + ((((1 * e 0 2) * e 1 3) * e 2 0) * e 3 1)) + (-((((1 * e 0 2) * e 1 3) * e 2 1) * e 3 0))) + (-((-((-((1 * e 0 3) * e 1 0)) * e 2 1)) * e 3 2))) + ((-((-((1 * e 0 3) * e 1 0)) * e 2 2)) * e 3 1)) + (-(((-((1 * e 0 3) * e 1 1)) * e 2 0) * e 3 2))) + (-((-((-((1 * e 0 3) * e 1 1)) * e 2 2)) * e 3 0))) + (((-((1 * e 0 3) * e 1 2)) * e 2 0) * e 3 1)) + (-(((-((1 * e 0 3) * e 1 2)) * e 2 1) * e 3 0)))
  grind
theorem suE_4_2_0 (f : Rat) (e : Nat → Nat → Rat) : detE 4 (subE 2 0 f e) = detE 4 e := by
  rw [detE_4, detE_4]
  show ((((((((((((((((((((((((0 + ((((1 * e 0 0) * e 1 1) * (e 2 2 - f * e 0 2)) * e 3 3)) + (-((((1 * e 0 0) * e 1 1) * (e 2 3 - f * e 0 3)) * e 3 2))) + ((-(((1 * e 0 0) * e 1 2) * (e 2 1 - f * e 0 1))) * e 3 3)) + ((((1 * e 0 0) * e 1 2) * (e 2 3 - f * e 0 3)) * e 3 1)) + (-((-(((1 * e 0 0) * e 1 3) * (e 2 1 - f * e 0 1))) * e 3 2))) + ((-(((1 * e 0 0) * e 1 3) * (e 2 2 - f * e 0 2))) * e 3 1)) + (((-((1 * e 0 1) * e 1 0)) * (e 2 2 - f * e 0 2)) * e 3 3)) + (-(((-((1 * e 0 1) * e 1 0)) * (e 2 3 - f * e 0 3)) * e 3 2))) + ((((1 * e 0 1) * e 1 2) * (e 2 0 - f * e 0 0)) * e 3 3)) + (-((((1 * e 0 1) * e 1 2) * (e 2 3 - f * e 0 3)) * e 3 0))) + (-((((1 * e 0 1) * e 1 3) * (e 2 0 - f * e 0 0)) * e 3 2))) + (-((-(((1 * e 0 1) * e 1 3) * (e 2 2 - f * e 0 2))) * e 3 0))) + ((-((-((1 * e 0 2) * e 1 0)) * (e 2 1 - f * e 0 1))) * e 3 3)) + (((-((1 * e 0 2) * e 1 0)) * (e 2 3 - f * e 0 3)) * e 3 1)) + (((-((1 * e 0 2) * e 1 1)) * (e 2 0 - f * e 0 0)) * e 3 3)) + (-(((-((1 * e 0 2) * e 1 1)) * (e 2 3 - f * e 0 3)) * e 3 0))) + ((((1 * e 0 2) * e 1 3) * (e 2 0 - f * e 0 0)) * e 3 1)) + (-((((1 * e 0 2) * e 1 3) * (e 2 1 - f * e 0 1)) * e 3 0))) + (-((-((-((1 * e 0 3) * e 1 0)) * (e 2 1 - f * e 0 1))) * e 3 2))) + ((-((-((1 * e 0 3) * e 1 0)) * (e 2 2 - f * e 0 2))) * e 3 1)) + (-(((-((1 * e 0 3) * e 1 1)) * (e 2 0 - f * e 0 0)) * e 3 2))) + (-((-((-((1 * e 0 3) * e 1 1)) * (e 2 2 - f * e 0 2))) * e 3 0))) + (((-((1 * e 0 3) * e 1 2)) * (e 2 0 - f * e 0 0)) * e 3 1)) + (-(((-((1 * e 0 3) * e 1 2)) * (e 2 1 - f * e 0 1)) * e 3 0))) = ((((((((((((((((((((((((0 + ((((1 * e 0 0) * e 1 1) * e 2 2) * e 3 3)) + (-((((1 * e 0 0) * e 1 1) * e 2 3) * e 3 2))) + ((-(((1 * e 0 0) * e 1 2) * e 2 1)) * e 3 3)) + ((((1 * e 0 0) * e 1 2) * e 2 3) * e 3 1)) + (-((-(((1 * e 0 0) * e 1 3) * e 2 1)) * e 3 2))) + ((-(((1 * e 0 0) * e 1 3) * e 2 2)) * e 3 1)) + (((-((1 * e 0 1) * e 1 0)) * e 2 2) * e 3 3)) + (-(((-((1 * e 0 1) * e 1 0)) * e 2 3) * e 3 2))) + ((((1 * e 0 1) * e 1 2) * e 2 0) * e 3 3)) + (-((((1 * e 0 1) * e 1 2) * e 2 3) * e 3 0))) + (-((((1 * e 0 1) * e 1 3) * e 2 0) * e 3 2))) + (-((-(((1 * e 0 1) * e 1 3) * e 2 2)) * e 3 0))) + ((-((-((1 * e 0 2) * e 1 0)) * e 2 1)) * e 3 3)) + (((-((1 * e 0 2) * e 1 0)) * e 2 3) * e 3 1)) + (((-((1 * e 0 2) * e 1 1)) * e 2 0) * e 3 3)) + (-(((-((1 * e 0 2) * e 1 1)) * e 2 3) * e 3 0))) + ((((1 * e 0 2) * e 1 3) * e 2 0) * e 3 1)) + (-((((1 * e 0 2) * e 1 3) * e 2 1) * e 3 0))) + (-((-((-((1 * e 0 3) * e 1 0)) * e 2 1)) * e 3 2))) + ((-((-((1 * e 0 3) * e 1 0)) * e 2 2)) * e 3 1)) + (-(((-((1 * e 0 3) * e 1 1)) * e 2 0) * e 3 2))) + (-((-((-((1 * e 0 3) * e 1 1)) * e 2 2)) * e 3 0))) + (((-((1 * e 0 3) * e 1 2)) * e 2 0) * e 3 1)) + (-(((-((1 * e 0 3) * e 1 2)) * e 2 1) * e 3 0)))
  grind
theorem suE_4_3_0 (f : Rat) (e : Nat → Nat → Rat) : detE 4 (subE 3 0 f e) = detE 4 e := by
  rw [detE_4, detE_4]
  show ((((((((((((((((((((((((0 + ((((1 * e 0 0) * e 1 1) * e 2 2) * (e 3 3 - f * e 0 3))) + (-((((1 * e 0 0) * e 1 1) * e 2 3) * (e 3 2 - f * e 0 2)))) + ((-(((1 * e 0 0) * e 1 2) * e 2 1)) * (e 3 3 - f * e 0 3))) + ((((1 * e 0 0) * e 1 2) * e 2 3) * (e 3 1 - f * e 0 1))) + (-((-(((1 * e 0 0) * e 1 3) * e 2 1)) * (e 3 2 - f * e 0 2)))) + ((-(((1 * e 0 0) * e 1 3) * e 2 2)) * (e 3 1 - f * e 0 1))) + (((-((1 * e 0 1) * e 1 0)) * e 2 2) * (e 3 3 - f * e 0 3))) + (-(((-((1 * e 0 1) * e 1 0)) * e 2 3) * (e 3 2 - f * e 0 2)))) + ((((1 * e 0 1) * e 1 2) * e 2 0) * (e 3 3 - f * e 0 3))) + (-((((1 * e 0 1) * e 1 2) * e 2 3) * (e 3 0 - f * e 0 0)))) + (-((((1 * e 0 1) * e 1 3) * e 2 0) * (e 3 2 - f * e 0 2)))) + (-((-(((1 * e 0 1) * e 1 3) * e 2 2)) * (e 3 0 - f * e 0 0)))) + ((-((-((1 * e 0 2) * e 1 0)) * e 2 1)) * (e 3 3 - f * e 0 3))) + (((-((1 * e 0 2) * e 1 0)) * e 2 3) * (e 3 1 - f * e 0 1))) + (((-((1 * e 0 2) * e 1 1)) * e 2 0) * (e 3 3 - f * e 0 3))) + (-(((-((1 * e 0 2) * e 1 1)) * e 2 3) * (e 3 0 - f * e 0 0)))) + ((((1 * e 0 2) * e 1 3) * e 2 0) * (e 3 1 - f * e 0 1))) + (-((((1 * e 0 2) * e 1 3) * e 2 1) * (e 3 0 - f * e 0 0)))) + (-((-((-((1 * e 0 3) * e 1 0)) * e 2 1)) * (e 3 2 - f * e 0 2)))) + ((-((-((1 * e 0 3) * e 1 0)) * e 2 2)) * (e 3 1 - f * e 0 1))) + (-(((-((1 * e 0 3) * e 1 1)) * e 2 0) * (e 3 2 - f * e 0 2)))) + (-((-((-((1 * e 0 3) * e 1 1)) * e 2 2)) * (e 3 0 - f * e 0 0)))) + (((-((1 * e 0 3) * e 1 2)) * e 2 0) * (e 3 1 - f * e 0 1))) + (-(((-((1 * e 0 3) * e 1 2)) * e 2 1) * (e 3 0 - f * e 0 0)))) = ((((((((((((((((((((((((0 + ((((1 * e 0 0) * e 1 1) * e 2 2) * e 3 3)) + (-((((1 * e 0 0) * e 1 1) * e 2 3) * e 3 2))) + ((-(((1 * e 0 0) * e 1 2) * e 2 1)) * e 3 3)) + ((((1 * e 0 0) * e 1 2) * e 2 3) * e 3 1)) + (-((-(((1 * e 0 0) * e 1 3) * e 2 1)) * e 3 2))) + ((-(((1 * e 0 0) * e 1 3) * e 2 2)) * e 3 1)) + (((-((1 * e 0 1) * e 1 0)) * e 2 2) * e 3 3)) + (-(((-((1 * e 0 1) * e 1 0)) * e 2 3) * e 3 2))) + ((((1 * e 0 1) * e 1 2) * e 2 0) * e 3 3)) + (-((((1 * e 0 1) * e 1 2) * e 2 3) * e 3 0))) + (-((((1 * e 0 1) * e 1 3) * e 2 0) * e 3 2))) + (-((-(((1 * e 0 1) * e 1 3) * e 2 2)) * e 3 0))) + ((-((-((1 * e 0 2) * e 1 0)) * e 2 1)) * e 3 3)) + (((-((1 * e 0 2) * e 1 0)) * e 2 3) * e 3 1)) + (((-((1 * e 0 2) * e 1 1)) * e 2 0) * e 3 3)) + (-(((-((1 * e 0 2) * e 1 1)) * e 2 3) * e 3 0))) + ((((1 * e 0 2) * e 1 3) * e 2 0) * e 3 1)) + (-((((1 * e 0 2) * e 1 3) * e 2 1) * e 3 0))) + (-((-((-((1 * e 0 3) * e 1 0)) * e 2 1)) * e 3 2))) + ((-((-((1 * e 0 3) * e 1 0)) * e 2 2)) * e 3 1)) + (-(((-((1 * e 0 3) * e 1 1)) * e 2 0) * e 3 2))) + (-((-((-((1 * e 0 3) * e 1 1)) * e 2 2)) * e 3 0))) + (((-((1 * e 0 3) * e 1 2)) * e 2 0) * e 3 1)) + (-(((-((1 * e 0 3) * e 1 2)) * e 2 1) * e 3 0)))
  grind
theorem suE_4_2_1 (f : Rat) (e : Nat → Nat → Rat) : detE 4 (subE 2 1 f e) = detE 4 e := by
  rw [detE_4, detE_4]
  show ((((((((((((((((((((((((0 + ((((1 * e 0 0) * e 1 1) * (e 2 2 - f * e 1 2)) * e 3 3)) + (-((((1 * e 0 0) * e 1 1) * (e 2 3 - f * e 1 3)) * e 3 2))) + ((-(((1 * e 0 0) * e 1 2) * (e 2 1 - f * e 1 1))) * e 3 3)) + ((((1 * e 0 0) * e 1 2) * (e 2 3 - f * e 1 3)) * e 3 1)) + (-((-(((1 * e 0 0) * e 1 3) * (e 2 1 - f * e 1 1))) * e 3 2))) + ((-(((1 * e 0 0) * e 1 3) * (e 2 2 - f * e 1 2))) * e 3 1)) + (((-((1 * e 0 1) * e 1 0)) * (e 2 2 - f * e 1 2)) * e 3 3)) + (-(((-((1 * e 0 1) * e 1 0)) * (e 2 3 - f * e 1 3)) * e 3 2))) + ((((1 * e 0 1) * e 1 2) * (e 2 0 - f * e 1 0)) * e 3 3)) + (-((((1 * e 0 1) * e 1 2) * (e 2 3 - f * e 1 3)) * e 3 0))) + (-((((1 * e 0 1) * e 1 3) * (e 2 0 - f * e 1 0)) * e 3 2))) + (-((-(((1 * e 0 1) * e 1 3) * (e 2 2 - f * e 1 2))) * e 3 0))) + ((-((-((1 * e 0 2) * e 1 0)) * (e 2 1 - f * e 1 1))) * e 3 3)) + (((-((1 * e 0 2) * e 1 0)) * (e 2 3 - f * e 1 3)) * e 3 1)) + (((-((1 * e 0 2) * e 1 1)) * (e 2 0 - f * e 1 0)) * e 3 3)) + (-(((-((1 * e 0 2) * e 1 1)) * (e 2 3 - f * e 1 3)) * e 3 0))) + ((((1 * e 0 2) * e 1 3) * (e 2 0 - f * e 1 0)) * e 3 1)) + (-((((1 * e 0 2) * e 1 3) * (e 2 1 - f * e 1 1)) * e 3 0))) + (-((-((-((1 * e 0 3) * e 1 0)) * (e 2 1 - f * e 1 1))) * e 3 2))) + ((-((-((1 * e 0 3) * e 1 0)) * (e 2 2 - f * e 1 2))) * e 3 1)) + (-(((-((1 * e 0 3) * e 1 1)) * (e 2 0 - f * e 1 0)) * e 3 2))) + (-((-((-((1 * e 0 3) * e 1 1)) * (e 2 2 - f * e 1 2))) * e 3 0))) + (((-((1 * e 0 3) * e 1 2)) * (e 2 0 - f * e 1 0)) * e 3 1)) + (-(((-((1 * e 0 3) * e 1 2)) * (e 2 1 - f * e 1 1)) * e 3 0))) = ((((((((((((((((((((((((0 + ((((1 * e 0 0) * e 1 1) * e 2 2) * e 3 3)) + (-((((1 * e 0 0) * e 1 1) * e 2 3) * e 3 2))) + ((-(((1 * e 0 0) * e 1 2) * e 2 1)) * e 3 3)) + ((((1 * e 0 0) * e 1 2) * e 2 3) * e 3 1)) + (-((-(((1 * e 0 0) * e 1 3) * e 2 1)) * e 3 2))) + ((-(((1 * e 0 0) * e 1 3) * e 2 2)) * e 3 1)) + (((-((1 * e 0 1) * e 1 0)) * e 2 2) * e 3 3)) + (-(((-((1 * e 0 1) * e 1 0)) * e 2 3) * e 3 2))) + ((((1 * e 0 1) * e 1 2) * e 2 0) * e 3 3)) + (-((((1 * e 0 1) * e 1 2) * e 2 3) * e 3 0))) + (-((((1 * e 0 1) * e 1 3) * e 2 0) * e 3 2))) + (-((-(((1 * e 0 1) * e 1 3) * e 2 2)) * e 3 0))) + ((-((-((1 * e 0 2) * e 1 0)) * e 2 1)) * e 3 3)) + (((-((1 * e 0 2) * e 1 0)) * e 2 3) * e 3 1)) + (((-((1 * e 0 2) * e 1 1)) * e 2 0) * e 3 3)) + (-(((-((1 * e 0 2) * e 1 1)) * e 2 3) * e 3 0))) + ((((1 * e 0 2) * e 1 3) * e 2 0) * e 3 1)) + (-((((1 * e 0 2) * e 1 3) * e 2 1) * e 3 0))) + (-((-((-((1 * e 0 3) * e 1 0)) * e 2 1)) * e 3 2))) + ((-((-((1 * e 0 3) * e 1 0)) * e 2 2)) * e 3 1)) + (-(((-((1 * e 0 3) * e 1 1)) * e 2 0) * e 3 2))) + (-((-((-((1 * e 0 3) * e 1 1)) * e 2 2)) * e 3 0))) + (((-((1 * e 0 3) * e 1 2)) * e 2 0) * e 3 1)) + (-(((-((1 * e 0 3) * e 1 2)) * e 2 1) * e 3 0)))
  grind
theorem suE_4_3_1 (f : Rat) (e : Nat → Nat → Rat) : detE 4 (subE 3 1 f e) = detE 4 e := by
  rw [detE_4, detE_4]
  show ((((((((((((((((((((((((0 + ((((1 * e 0 0) * e 1 1) * e 2 2) * (e 3 3 - f * e 1 3))) + (-((((1 * e 0 0) * e 1 1) * e 2 3) * (e 3 2 - f * e 1 2)))) + ((-(((1 * e 0 0) * e 1 2) * e 2 1)) * (e 3 3 - f * e 1 3))) + ((((1 * e 0 0) * e 1 2) * e 2 3) * (e 3 1 - f * e 1 1))) + (-((-(((1 * e 0 0) * e 1 3) * e 2 1)) * (e 3 2 - f * e 1 2)))) + ((-(((1 * e 0 0) * e 1 3) * e 2 2)) * (e 3 1 - f * e 1 1))) + (((-((1 * e 0 1) * e 1 0)) * e 2 2) * (e 3 3 - f * e 1 3))) + (-(((-((1 * e 0 1) * e 1 0)) * e 2 3) * (e 3 2 - f * e 1 2)))) + ((((1 * e 0 1) * e 1 2) * e 2 0) * (e 3 3 - f * e 1 3))) + (-((((1 * e 0 1) * e 1 2) * e 2 3) * (e 3 0 - f * e 1 0)))) + (-((((1 * e 0 1) * e 1 3) * e 2 0) * (e 3 2 - f * e 1 2)))) + (-((-(((1 * e 0 1) * e 1 3) * e 2 2)) * (e 3 0 - f * e 1 0)))) + ((-((-((1 * e 0 2) * e 1 0)) * e 2 1)) * (e 3 3 - f * e 1 3))) + (((-((1 * e 0 2) * e 1 0)) * e 2 3) * (e 3 1 - f * e 1 1))) + (((-((1 * e 0 2) * e 1 1)) * e 2 0) * (e 3 3 - f * e 1 3))) + (-(((-((1 * e 0 2) * e 1 1)) * e 2 3) * (e 3 0 - f * e 1 0)))) + ((((1 * e 0 2) * e 1 3) * e 2 0) * (e 3 1 - f * e 1 1))) + (-((((1 * e 0 2) * e 1 3) * e 2 1) * (e 3 0 - f * e 1 0)))) + (-((-((-((1 * e 0 3) * e 1 0)) * e 2 1)) * (e 3 2 - f * e 1 2)))) + ((-((-((1 * e 0 3) * e 1 0)) * e 2 2)) * (e 3 1 - f * e 1 1))) + (-(((-((1 * e 0 3) * e 1 1)) * e 2 0) * (e 3 2 - f * e 1 2)))) + (-((-((-((1 * e 0 3) * e 1 1)) * e 2 2)) * (e 3 0 - f * e 1 0)))) + (((-((1 * e 0 3) * e 1 2)) * e 2 0) * (e 3 1 - f * e 1 1))) + (-(((-((1 * e 0 3) * e 1 2)) * e 2 1) * (e 3 0 - f * e 1 0)))) = ((((((((((((((((((((((((0 + ((((1 * e 0 0) * e 1 1) * e 2 2) * e 3 3)) + (-((((1 * e 0 0) * e 1 1) * e 2 3) * e 3 2))) + ((-(((1 * e 0 0) * e 1 2) * e 2 1)) * e 3 3)) + ((((1 * e 0 0) * e 1 2) * e 2 3) * e 3 1)) + (-((-(((1 * e 0 0) * e 1 3) * e 2 1)) * e 3 2))) + ((-(((1 * e 0 0) * e 1 3) * e 2 2)) * e 3 1)) + (((-((1 * e 0 1) * e 1 0)) * e 2 2) * e 3 3)) + (-(((-((1 * e 0 1) * e 1 0)) * e 2 3) * e 3 2))) + ((((1 * e 0 1) * e 1 2) * e 2 0) * e 3 3)) + (-((((1 * e 0 1) * e 1 2) * e 2 3) * e 3 0))) + (-((((1 * e 0 1) * e 1 3) * e 2 0) * e 3 2))) + (-((-(((1 * e 0 1) * e 1 3) * e 2 2)) * e 3 0))) + ((-((-((1 * e 0 2) * e 1 0)) * e 2 1)) * e 3 3)) + (((-((1 * e 0 2) * e 1 0)) * e 2 3) * e 3 1)) + (((-((1 * e 0 2) * e 1 1)) * e 2 0) * e 3 3)) + (-(((-((1 * e 0 2) * e 1 1)) * e 2 3) * e 3 0))) + ((((1 * e 0 2) * e 1 3) * e 2 0) * e 3 1)) + (-((((1 * e 0 2) * e 1 3) * e 2 1) * e 3 0))) + (-((-((-((1 * e 0 3) * e 1 0)) * e 2 1)) * e 3 2))) + ((-((-((1 * e 0 3) * e 1 0)) * e 2 2)) * e 3 1)) + (-(((-((1 * e 0 3) * e 1 1)) * e 2 0) * e 3 2))) + (-((-((-((1 * e 0 3) * e 1 1)) * e 2 2)) * e 3 0))) + (((-((1 * e 0 3) * e 1 2)) * e 2 0) * e 3 1)) + (-(((-((1 * e 0 3) * e 1 2)) * e 2 1) * e 3 0)))
  grind
theorem suE_4_3_2 (f : Rat) (e : Nat → Nat → Rat) : detE 4 (subE 3 2 f e) = detE 4 e := by
  rw [detE_4, detE_4]
  show ((((((((((((((((((((((((0 + ((((1 * e 0 0) * e 1 1) * e 2 2) * (e 3 3 - f * e 2 3))) + (-((((1 * e 0 0) * e 1 1) * e 2 3) * (e 3 2 - f * e 2 2)))) + ((-(((1 * e 0 0) * e 1 2) * e 2 1)) * (e 3 3 - f * e 2 3))) + ((((1 * e 0 0) * e 1 2) * e 2 3) * (e 3 1 - f * e 2 1))) + (-((-(((1 * e 0 0) * e 1 3) * e 2 1)) * (e 3 2 - f * e 2 2)))) + ((-(((1 * e 0 0) * e 1 3) * e 2 2)) * (e 3 1 - f * e 2 1))) + (((-((1 * e 0 1) * e 1 0)) * e 2 2) * (e 3 3 - f * e 2 3))) + (-(((-((1 * e 0 1) * e 1 0)) * e 2 3) * (e 3 2 - f * e 2 2)))) + ((((1 * e 0 1) * e 1 2) * e 2 0) * (e 3 3 - f * e 2 3))) + (-((((1 * e 0 1) * e 1 2) * e 2 3) * (e 3 0 - f * e 2 0)))) + (-((((1 * e 0 1) * e 1 3) * e 2 0) * (e 3 2 - f * e 2 2)))) + (-((-(((1 * e 0 1) * e 1 3) * e 2 2)) * (e 3 0 - f * e 2 0)))) + ((-((-((1 * e 0 2) * e 1 0)) * e 2 1)) * (e 3 3 - f * e 2 3))) + (((-((1 * e 0 2) * e 1 0)) * e 2 3) * (e 3 1 - f * e 2 1))) + (((-((1 * e 0 2) * e 1 1)) * e 2 0) * (e 3 3 - f * e 2 3))) + (-(((-((1 * e 0 2) * e 1 1)) * e 2 3) * (e 3 0 - f * e 2 0)))) + ((((1 * e 0 2) * e 1 3) * e 2 0) * (e 3 1 - f * e 2 1))) + (-((((1 * e 0 2) * e 1 3) * e 2 1) * (e 3 0 - f * e 2 0)))) + (-((-((-((1 * e 0 3) * e 1 0)) * e 2 1)) * (e 3 2 - f * e 2 2)))) + ((-((-((1 * e 0 3) * e 1 0)) * e 2 2)) * (e 3 1 - f * e 2 1))) + (-(((-((1 * e 0 3) * e 1 1)) * e 2 0) * (e 3 2 - f * e 2 2)))) + (-((-((-((1 * e 0 3) * e 1 1)) * e 2 2)) * (e 3 0 - f * e 2 0)))) + (((-((1 * e 0 3) * e 1 2)) * e 2 0) * (e 3 1 - f * e 2 1))) + (-(((-((1 * e 0 3) * e 1 2)) * e 2 1) * (e 3 0 - f * e 2 0)))) = ((((((((((((((((((((((((0 + ((((1 * e 0 0) * e 1 1) * e 2 2) * e 3 3)) + (-((((1 * e 0 0) * e 1 1) * e 2 3) * e 3 2))) + ((-(((1 * e 0 0) * e 1 2) * e 2 1)) * e 3 3)) + ((((1 * e 0 0) * e 1 2) * e 2 3) * e 3 1)) + (-((-(((1 * e 0 0) * e 1 3) * e 2 1)) * e 3 2))) + ((-(((1 * e 0 0) * e 1 3) * e 2 2)) * e 3 1)) + (((-((1 * e 0 1) * e 1 0)) * e 2 2) * e 3 3)) + (-(((-((1 * e 0 1) * e 1 0)) * e 2 3) * e 3 2))) + ((((1 * e 0 1) * e 1 2) * e 2 0) * e 3 3)) + (-((((1 * e 0 1) * e 1 2) * e 2 3) * e 3 0))) + (-((((1 * e 0 1) * e 1 3) * e 2 0) * e 3 2))) + (-((-(((1 * e 0 1) * e 1 3) * e 2 2)) * e 3 0))) + ((-((-((1 * e 0 2) * e 1 0)) * e 2 1)) * e 3 3)) + (((-((1 * e 0 2) * e 1 0)) * e 2 3) * e 3 1)) + (((-((1 * e 0 2) * e 1 1)) * e 2 0) * e 3 3)) + (-(((-((1 * e 0 2) * e 1 1)) * e 2 3) * e 3 0))) + ((((1 * e 0 2) * e 1 3) * e 2 0) * e 3 1)) + (-((((1 * e 0 2) * e 1 3) * e 2 1) * e 3 0))) + (-((-((-((1 * e 0 3) * e 1 0)) * e 2 1)) * e 3 2))) + ((-((-((1 * e 0 3) * e 1 0)) * e 2 2)) * e 3 1)) + (-(((-((1 * e 0 3) * e 1 1)) * e 2 0) * e 3 2))) + (-((-((-((1 * e 0 3) * e 1 1)) * e 2 2)) * e 3 0))) + (((-((1 * e 0 3) * e 1 2)) * e 2 0) * e 3 1)) + (-(((-((1 * e 0 3) * e 1 2)) * e 2 1) * e 3 0)))
  grind
theorem trE_0 (e : Nat → Nat → Rat)  : detE 0 e = 1 := by
  rw [detE_0]
  grind
theorem trE_1 (e : Nat → Nat → Rat)  : detE 1 e = (1 * e 0 0) := by
  rw [detE_1]
  grind
theorem trE_2 (e : Nat → Nat → Rat) (h10 : e 1 0 = 0) : detE 2 e = ((1 * e 0 0) * e 1 1) := by
  rw [detE_2]
  simp only [h10]
  grind
theorem trE_3 (e : Nat → Nat → Rat) (h10 : e 1 0 = 0) (h20 : e 2 0 = 0) (h21 : e 2 1 = 0) : detE 3 e = (((1 * e 0 0) * e 1 1) * e 2 2) := by
  rw [detE_3]
  simp only [h10, h20, h21]
  grind
theorem trE_4 (e : Nat → Nat → Rat) (h10 : e 1 0 = 0) (h20 : e 2 0 = 0) (h30 : e 3 0 = 0) (h21 : e 2 1 = 0) (h31 : e 3 1 = 0) (h32 : e 3 2 = 0) : detE 4 e = ((((1 * e 0 0) * e 1 1) * e 2 2) * e 3 3) := by
  rw [detE_4]
  simp only [h10, h20, h30, h21, h31, h32]
  grind
theorem siE_1_0 (e : Nat → Nat → Rat) (h00 : e 0 0 = 0) : detE 1 e = 0 := by
  rw [detE_1]
  simp only [h00]
  grind
theorem siE_2_0 (e : Nat → Nat → Rat) (h00 : e 0 0 = 0) (h10 : e 1 0 = 0) : detE 2 e = 0 := by
  rw [detE_2]
  simp only [h00, h10]
  grind
theorem siE_2_1 (e : Nat → Nat → Rat) (h10 : e 1 0 = 0) (h11 : e 1 1 = 0) : detE 2 e = 0 := by
  rw [detE_2]
  simp only [h10, h11]
  grind
theorem siE_3_0 (e : Nat → Nat → Rat) (h00 : e 0 0 = 0) (h10 : e 1 0 = 0) (h20 : e 2 0 = 0) : detE 3 e = 0 := by
  rw [detE_3]
  simp only [h00, h10, h20]
  grind
theorem siE_3_1 (e : Nat → Nat → Rat) (h10 : e 1 0 = 0) (h20 : e 2 0 = 0) (h11 : e 1 1 = 0) (h21 : e 2 1 = 0) : detE 3 e = 0 := by
  rw [detE_3]
  simp only [h10, h20, h11, h21]
  grind
theorem siE_3_2 (e : Nat → Nat → Rat) (h10 : e 1 0 = 0) (h20 : e 2 0 = 0) (h21 : e 2 1 = 0) (h22 : e 2 2 = 0) : detE 3 e = 0 := by
  rw [detE_3]
  simp only [h10, h20, h21, h22]
  grind
theorem siE_4_0 (e : Nat → Nat → Rat) (h00 : e 0 0 = 0) (h10 : e 1 0 = 0) (h20 : e 2 0 = 0) (h30 : e 3 0 = 0) : detE 4 e = 0 := by
  rw [detE_4]
  simp only [h00, h10, h20, h30]
  grind
theorem siE_4_1 (e : Nat → Nat → Rat) (h10 : e 1 0 = 0) (h20 : e 2 0 = 0) (h30 : e 3 0 = 0) (h11 : e 1 1 = 0) (h21 : e 2 1 = 0) (h31 : e 3 1 = 0) : detE 4 e = 0 := by
  rw [detE_4]
  simp only [h10, h20, h30, h11, h21, h31]
  grind
theorem siE_4_2 (e : Nat → Nat → Rat) (h10 : e 1 0 = 0) (h20 : e 2 0 = 0) (h30 : e 3 0 = 0) (h21 : e 2 1 = 0) (h31 : e 3 1 = 0) (h22 : e 2 2 = 0) (h32 : e 3 2 = 0) : detE 4 e = 0 := by
  rw [detE_4]
  simp only [h10, h20, h30, h21, h31, h22, h32]
  grind
theorem siE_4_3 (e : Nat → Nat → Rat) (h10 : e 1 0 = 0) (h20 : e 2 0 = 0) (h30 : e 3 0 = 0) (h21 : e 2 1 = 0) (h31 : e 3 1 = 0) (h32 : e 3 2 = 0) (h33 : e 3 3 = 0) : detE 4 e = 0 := by
  rw [detE_4]
  simp only [h10, h20, h30, h21, h31, h32, h33]
  grind
end M

end
section
set_option Elab.async false
set_option linter.all false
set_option maxRecDepth 100000
/-! KA: no walk: the rank, counted by columns; the determinant by elimination. -/
namespace M
open PySem PySem.Spec PyProof.Rows L2 VL
def cutR (c : Nat) (R : List (List Rat)) : List (List Rat) := R.map (List.take c)
theorem cut_getD (c : Nat) (R : List (List Rat)) (i : Nat) : (cutR c R).getD i [] = (R.getD i []).take c := by
  unfold cutR
  simp only [List.getD, List.getElem?_map]
  cases R[i]? <;> simp
theorem cut_len (c : Nat) (R : List (List Rat)) : (cutR c R).length = R.length := by simp [cutR]
theorem take_getD {r : List Rat} {k c : Nat} (h : k < c) : (r.take c).getD k 0 = r.getD k 0 := by
  simp only [List.getD, List.getElem?_take, h, if_true]
theorem en_cut {R : List (List Rat)} {i k c : Nat} (h : k < c) : en (cutR c R) i k = en R i k := by
  unfold en
  rw [cut_getD, take_getD h]
theorem swap_cut (c : Nat) (R : List (List Rat)) (a b : Nat) : swapL (cutR c R) a b = cutR c (swapL R a b) := by
  unfold swapL
  rw [cut_getD, cut_getD]
  simp [cutR, List.map_set]
theorem divL_take (r : List Rat) (x : Rat) (c : Nat) : (divL r x).take c = divL (r.take c) x := by
  unfold divL
  rw [List.map_take]
theorem subL_take (r p : List Rat) (f : Rat) (c : Nat) : (subL r f p).take c = subL (r.take c) f (p.take c) := by
  unfold subL
  rw [← List.map_take]
  congr 1
  simp [List.zip, List.take_zipWith]
theorem elim_cut {R : List (List Rat)} {t k c : Nat} (h : k < c) : elimL (cutR c R) t k = cutR c (elimL R t k) := by
  refine List.ext_getElem (by simp [elimL, cutR]) fun i h1 h2 => ?_
  have hi : i < R.length := by simpa [elimL, cutR] using h1
  have e1 := cut_getD c R t
  have e2 : en (cutR c R) t k = en R t k := en_cut h
  simp only [elimL, List.getElem_mapIdx, e1, e2]
  simp only [cutR, List.getElem_map, List.getElem_mapIdx, take_getD h]
  split
  · rw [divL_take]
  · split
    · rfl
    · rw [subL_take, divL_take]
theorem findP_cut {R : List (List Rat)} {k c : Nat} (h : k < c) (l : List Nat) : findP (cutR c R) k l = findP R k l := by
  unfold findP
  congr 1
  funext i
  rw [en_cut h]
theorem step_cut {R : List (List Rat)} {P : List Nat} {k c : Nat} (h : k < c) : stepP (cutR c R, P) k = (cutR c (stepP (R, P) k).1, (stepP (R, P) k).2) := by
  unfold stepP
  simp only [cut_len, findP_cut h]
  cases findP R k (List.range' P.length (R.length - P.length)) with
  | none => rfl
  | some f => simp only [swap_cut, elim_cut h]
theorem redP_cut (R : List (List Rat)) (c : Nat) : ∀ k, k ≤ c → redP (cutR c R) k = (cutR c (redP R k).1, (redP R k).2)
  | 0, _ => rfl
  | k + 1, h => by
    rw [redP_succ, redP_succ, redP_cut R c k (by omega), step_cut (by omega)]
theorem solP_none {A : List (List Rat)} {n : Nat} : (solP A n).isNone = (findP (redP A n).1 n (List.range' (redP A n).2.length ((redP A n).1.length - (redP A n).2.length))).isSome := by
  unfold solP
  generalize redP A n = st
  obtain ⟨Q, P⟩ := st
  simp only
  cases h : findP Q n (List.range' P.length (Q.length - P.length)) with
  | some f =>
    obtain ⟨f1, f2⟩ := findP_some h
    rw [List.mem_range'_1] at f1
    have : (Q.drop P.length).any (fun r => !decide (r.getD n 0 = 0)) = true := by
      rw [List.any_eq_true]
      refine ⟨Q[f]'(by omega), ?_, ?_⟩
      · rw [List.mem_drop_iff_getElem]
        exact ⟨f - P.length, by omega, by congr 1; omega⟩
      · unfold en at f2
        rw [getD_eq (show f < Q.length by omega)] at f2
        simpa using f2
    rw [if_pos this]
    rfl
  | none =>
    have : ¬ (Q.drop P.length).any (fun r => !decide (r.getD n 0 = 0)) = true := by
      rw [List.any_eq_true]
      rintro ⟨r, hr, h0⟩
      rw [List.mem_drop_iff_getElem] at hr
      obtain ⟨k, hk, rfl⟩ := hr
      have := List.find?_eq_none.mp h (P.length + k) (by rw [List.mem_range'_1]; omega)
      simp only [decide_eq_true_eq, Classical.not_not] at this
      unfold en at this
      rw [getD_eq (show P.length + k < Q.length by omega)] at this
      rw [decide_eq_true this] at h0
      cases h0
    rw [if_neg this]
    rfl
/-- column j is none of those ahead -/
def grownL (R : List (List Rat)) (j : Nat) : Bool := if j = 0 then R.any fun r => !decide (r.getD 0 0 = 0) else (solL (aug (R.map (List.take j)) (R.map fun r => r.getD j 0)) j).isNone
theorem aug_cut {w j : Nat} {R : List (List Rat)} (h : ∀ r ∈ R, r.length = w) (hj : j < w) : aug (R.map (List.take j)) (R.map fun r => r.getD j 0) = cutR (j + 1) R := by
  unfold aug cutR
  rw [List.zip_map', List.map_map]
  refine List.map_congr_left fun r hr => ?_
  show r.take j ++ [r.getD j 0] = r.take (j + 1)
  have hl := h r hr
  rw [List.take_succ_eq_append_getElem (by omega), getD_eq (by omega)]
theorem Mx.cut {w b : Nat} {R : List (List Rat)} (h : Mx w b R) {c : Nat} (hc : c ≤ w) : Mx c b (cutR c R) := by
  constructor
  · intro r hr
    obtain ⟨s, hs, rfl⟩ := List.mem_map.mp hr
    rw [List.length_take, h.wid s hs]; omega
  · intro r hr x hx
    obtain ⟨s, hs, rfl⟩ := List.mem_map.mp hr
    exact h.sz s hs x (List.mem_of_mem_take hx)
theorem grown_step {w b j : Nat} {R : List (List Rat)} (h : Mx w b R) (hj : j < w) : (redP R (j + 1)).2.length = (redP R j).2.length + (if grownL R j then 1 else 0) := by
  have key : grownL R j = (findP (redP R j).1 j (List.range' (redP R j).2.length ((redP R j).1.length - (redP R j).2.length))).isSome := by
    unfold grownL
    split
    · rename_i e
      subst e
      show _ = (findP R 0 (List.range' 0 (R.length - 0))).isSome
      cases hf : findP R 0 (List.range' 0 (R.length - 0)) with
      | some f =>
        obtain ⟨f1, f2⟩ := findP_some hf
        rw [List.mem_range'_1] at f1
        refine List.any_eq_true.mpr ⟨R[f]'(by omega), List.getElem_mem _, ?_⟩
        unfold en at f2
        rw [getD_eq (show f < R.length by omega)] at f2
        simpa using f2
      | none =>
        show _ = false
        rw [List.any_eq_false]
        intro r hr
        obtain ⟨i, hi, rfl⟩ := List.getElem_of_mem hr
        have := List.find?_eq_none.mp hf i (by rw [List.mem_range'_1]; omega)
        simp only [decide_eq_true_eq, Classical.not_not] at this
        unfold en at this
        rw [getD_eq hi] at this
        rw [decide_eq_true this]
        decide
    · rw [aug_cut h.wid hj, ← sol_same (h.cut (show j + 1 ≤ w by omega)), solP_none, redP_cut R (j + 1) j (by omega), cut_len, findP_cut (by omega)]
  rw [key, redP_succ]
  generalize redP R j = st
  obtain ⟨Q, P⟩ := st
  unfold stepP
  simp only
  cases findP Q j (List.range' P.length (Q.length - P.length)) with
  | none => rfl
  | some f => simp
theorem rank_count {w b : Nat} {R : List (List Rat)} (h : Mx w b R) : ∀ n, n ≤ w → (redP R n).2.length = (List.range n).countP (grownL R)
  | 0, _ => rfl
  | n + 1, hn => by
    rw [grown_step h (by omega), rank_count h n (by omega), List.range_succ, List.countP_append, List.countP_singleton]
/-! determinants -/
theorem en_swpE {R : List (List Rat)} {a b : Nat} (ha : a < R.length) (hb : b < R.length) : en (swapL R a b) = swpE a b (en R) := by
  funext i j
  unfold en swpE swapL
  simp only [List.getD, List.getElem?_set]
  by_cases e1 : b = i
  · subst e1; simp [ha, hb]
  · by_cases e2 : a = i
    · subst e2; simp [ha, hb, e1, Ne.symm e1]
    · simp [e1, e2, Ne.symm e1, Ne.symm e2]
def addL (R : List (List Rat)) (i c : Nat) (f : Rat) : List (List Rat) := R.set i (subL (R.getD i []) f (R.getD c []))
theorem en_subE {n : Nat} {R : List (List Rat)} (hw : ∀ r ∈ R, r.length = n) {i c : Nat} (hi : i < R.length) (hc : c < R.length) (f : Rat) : en (addL R i c f) = subE i c f (en R) := by
  funext k j
  have l : (R.getD i []).length = (R.getD c []).length := by rw [hw _ (getD_mem hi), hw _ (getD_mem hc)]
  have := congrFun (lrow_sub f l) j
  unfold en subE addL
  by_cases e : k = i
  · subst e
    rw [if_pos rfl]
    have e2 : (R.set k (subL (R.getD k []) f (R.getD c []))).getD k [] = subL (R.getD k []) f (R.getD c []) := by
      rw [getD_eq (by simpa using hi)]; simp
    rw [e2]
    exact this
  · rw [if_neg e]
    congr 1
    simp [List.getD, List.getElem?_set, Ne.symm e]
theorem det_swap {n a b : Nat} {R : List (List Rat)} (hn : n ≤ 4) (hl : R.length = n) (hab : a < b) (hb : b < n) : detL n (swapL R a b) = -detL n R := by
  unfold detL
  rw [en_swpE (by omega) (by omega)]
  have hn : n = 0 ∨ n = 1 ∨ n = 2 ∨ n = 3 ∨ n = 4 := by omega
  have ha : a = 0 ∨ a = 1 ∨ a = 2 := by omega
  have hb' : b = 1 ∨ b = 2 ∨ b = 3 := by omega
  clear hl
  rcases hn with rfl | rfl | rfl | rfl | rfl <;> rcases ha with rfl | rfl | rfl <;> rcases hb' with rfl | rfl | rfl <;> first | omega | rw [swE_2_0_1] | rw [swE_3_0_1] | rw [swE_3_0_2] | rw [swE_3_1_2] | rw [swE_4_0_1] | rw [swE_4_0_2] | rw [swE_4_0_3] | rw [swE_4_1_2] | rw [swE_4_1_3] | rw [swE_4_2_3]
theorem det_add {n c i : Nat} {R : List (List Rat)} (hn : n ≤ 4) (hl : R.length = n) (hw : ∀ r ∈ R, r.length = n) (hci : c < i) (hi : i < n) (f : Rat) : detL n (addL R i c f) = detL n R := by
  unfold detL
  rw [en_subE hw (by omega) (by omega)]
  have hn : n = 0 ∨ n = 1 ∨ n = 2 ∨ n = 3 ∨ n = 4 := by omega
  have hc : c = 0 ∨ c = 1 ∨ c = 2 := by omega
  have hi' : i = 1 ∨ i = 2 ∨ i = 3 := by omega
  clear hl hw
  rcases hn with rfl | rfl | rfl | rfl | rfl <;> rcases hc with rfl | rfl | rfl <;> rcases hi' with rfl | rfl | rfl <;> first | omega | rw [suE_2_1_0] | rw [suE_3_1_0] | rw [suE_3_2_0] | rw [suE_3_2_1] | rw [suE_4_1_0] | rw [suE_4_2_0] | rw [suE_4_3_0] | rw [suE_4_2_1] | rw [suE_4_3_1] | rw [suE_4_3_2]
/-- the product of the diagonal -/
def diaE (c : Nat) (e : Nat → Nat → Rat) : Rat := (List.range c).foldl (fun p k => p * e k k) 1
theorem diaE_succ (c : Nat) (e : Nat → Nat → Rat) : diaE (c + 1) e = diaE c e * e c c := by
  unfold diaE
  rw [List.range_succ, List.foldl_append]
  rfl
theorem det_tri {n : Nat} {R : List (List Rat)} (hn : n ≤ 4) (h : ∀ k i, k < i → i < n → en R i k = 0) : detL n R = diaE n (en R) := by
  unfold detL
  have hn : n = 0 ∨ n = 1 ∨ n = 2 ∨ n = 3 ∨ n = 4 := by omega
  rcases hn with rfl | rfl | rfl | rfl | rfl
  · exact trE_0 _
  · exact trE_1 _
  · exact trE_2 _ (h 0 1 (by omega) (by omega))
  · exact trE_3 _ (h 0 1 (by omega) (by omega)) (h 0 2 (by omega) (by omega)) (h 1 2 (by omega) (by omega))
  · exact trE_4 _ (h 0 1 (by omega) (by omega)) (h 0 2 (by omega) (by omega)) (h 0 3 (by omega) (by omega)) (h 1 2 (by omega) (by omega)) (h 1 3 (by omega) (by omega)) (h 2 3 (by omega) (by omega))
theorem det_sing {n c : Nat} {R : List (List Rat)} (hn : n ≤ 4) (hc : c < n) (h : ∀ k i, k < c → k < i → i < n → en R i k = 0) (h2 : ∀ i, c ≤ i → i < n → en R i c = 0) : detL n R = 0 := by
  unfold detL
  have hn : n = 0 ∨ n = 1 ∨ n = 2 ∨ n = 3 ∨ n = 4 := by omega
  have hc' : c = 0 ∨ c = 1 ∨ c = 2 ∨ c = 3 := by omega
  rcases hn with rfl | rfl | rfl | rfl | rfl <;> rcases hc' with rfl | rfl | rfl | rfl
  · omega
  · omega
  · omega
  · omega
  · exact siE_1_0 _ (h2 0 (by omega) (by omega))
  · omega
  · omega
  · omega
  · exact siE_2_0 _ (h2 0 (by omega) (by omega)) (h2 1 (by omega) (by omega))
  · exact siE_2_1 _ (h 0 1 (by omega) (by omega) (by omega)) (h2 1 (by omega) (by omega))
  · omega
  · omega
  · exact siE_3_0 _ (h2 0 (by omega) (by omega)) (h2 1 (by omega) (by omega)) (h2 2 (by omega) (by omega))
  · exact siE_3_1 _ (h 0 1 (by omega) (by omega) (by omega)) (h 0 2 (by omega) (by omega) (by omega)) (h2 1 (by omega) (by omega)) (h2 2 (by omega) (by omega))
  · exact siE_3_2 _ (h 0 1 (by omega) (by omega) (by omega)) (h 0 2 (by omega) (by omega) (by omega)) (h 1 2 (by omega) (by omega) (by omega)) (h2 2 (by omega) (by omega))
  · omega
  · exact siE_4_0 _ (h2 0 (by omega) (by omega)) (h2 1 (by omega) (by omega)) (h2 2 (by omega) (by omega)) (h2 3 (by omega) (by omega))
  · exact siE_4_1 _ (h 0 1 (by omega) (by omega) (by omega)) (h 0 2 (by omega) (by omega) (by omega)) (h 0 3 (by omega) (by omega) (by omega)) (h2 1 (by omega) (by omega)) (h2 2 (by omega) (by omega)) (h2 3 (by omega) (by omega))
  · exact siE_4_2 _ (h 0 1 (by omega) (by omega) (by omega)) (h 0 2 (by omega) (by omega) (by omega)) (h 0 3 (by omega) (by omega) (by omega)) (h 1 2 (by omega) (by omega) (by omega)) (h 1 3 (by omega) (by omega) (by omega)) (h2 2 (by omega) (by omega)) (h2 3 (by omega) (by omega))
  · exact siE_4_3 _ (h 0 1 (by omega) (by omega) (by omega)) (h 0 2 (by omega) (by omega) (by omega)) (h 0 3 (by omega) (by omega) (by omega)) (h 1 2 (by omega) (by omega) (by omega)) (h 1 3 (by omega) (by omega) (by omega)) (h 2 3 (by omega) (by omega) (by omega)) (h2 3 (by omega) (by omega))
end M

end
section
set_option Elab.async false
set_option linter.all false
set_option maxRecDepth 100000
/-! K1: the program's determinant. -/
namespace M
open PySem PySem.Spec PyProof.Rows L2 VL
/-- a for that may hand back -/
theorem forL_invR {tf : TgF} {body : Stm} {Q : VL.Fl → Prop} (I : Nat → Rho → Sto → Prop) : ∀ (xs : List SV) (k : Nat), (∀ (i : Nat) x, xs[i]? = some x → ∀ ρ S, I (k + i) ρ S → ∃ ρ', tf x ρ = some ρ' ∧ Wp (body ρ' S) fun r => (∃ ρ2 S2, (r = .nx ρ2 S2 ∨ r = .ct ρ2 S2) ∧ I (k + i + 1) ρ2 S2) ∨ (∃ x S2, r = .rt x S2 ∧ Q r)) → ∀ ρ S, I k ρ S → Wp (forL tf body xs ρ S) fun r => (∃ ρ2 S2, r = .nx ρ2 S2 ∧ I (k + xs.length) ρ2 S2) ∨ (∃ x S2, r = .rt x S2 ∧ Q r)
  | [], k, _, ρ, S, h0 => ⟨.nx ρ S, rfl, .inl ⟨ρ, S, rfl, h0⟩⟩
  | x :: xs, k, h, ρ, S, h0 => by
    obtain ⟨ρ', t, r, e, z⟩ := h 0 x rfl ρ S h0
    rcases z with ⟨ρ2, S2, z, hI⟩ | ⟨y, S2, rfl, q⟩
    · obtain ⟨r3, e3, q3⟩ := forL_invR I xs (k + 1) (fun i y hy ρ S hI => by
        have := h (i + 1) y (by simpa using hy) ρ S (by rwa [show k + (i + 1) = k + 1 + i by omega])
        rwa [show k + (i + 1) + 1 = k + 1 + i + 1 by omega] at this) ρ2 S2 hI
      refine ⟨r3, ?_, ?_⟩
      · unfold forL
        rcases z with rfl | rfl <;> simp [t, e, e3]
      · rw [List.length_cons, show k + (xs.length + 1) = k + 1 + xs.length by omega]
        exact q3
    · exact ⟨.rt y S2, by unfold forL; simp [t, e], .inr ⟨y, S2, rfl, q⟩⟩
theorem wp_forR {tf : TgF} {body t : Stm} {Q : VL.Fl → Prop} {it : Rho → Mo (List SV)} {xs : List SV} {ρ : Rho} {S S1 : Sto} (I : Nat → Rho → Sto → Prop) (hi : it ρ S = some (.ok xs S1)) (h0 : I 0 ρ S1) (hb : ∀ (i : Nat) x, xs[i]? = some x → ∀ ρ S, I i ρ S → ∃ ρ', tf x ρ = some ρ' ∧ Wp (body ρ' S) fun r => (∃ ρ2 S2, (r = .nx ρ2 S2 ∨ r = .ct ρ2 S2) ∧ I (i + 1) ρ2 S2) ∨ (∃ x S2, r = .rt x S2 ∧ Q r))
    (hr : ∀ ρ2 S2, I xs.length ρ2 S2 → Wp (t ρ2 S2) Q) : Wp (sSeq (sFor it tf body) t ρ S) Q := by
  obtain ⟨r, e, z⟩ := forL_invR (Q := Q) I xs 0 (fun i x hx ρ S hI => by
    rw [Nat.zero_add] at hI ⊢
    exact hb i x hx ρ S hI) ρ S1 h0
  have e' : sFor it tf body ρ S = some r := by show bindS ρ (it ρ S) _ = _; rw [hi]; exact e
  rcases z with ⟨ρ2, S2, rfl, hI⟩ | ⟨x, S2, rfl, q⟩
  · rw [Nat.zero_add] at hI
    exact wp_nx e' (hr ρ2 S2 hI)
  · exact wp_seq ⟨_, e', .inr ⟨fun _ _ => by simp, q⟩⟩
theorem iSeq_kD {f : Rho → Mo SV} {ρ : Rho} {S S1 : Sto} {k : Bool} {ds : List PyData} (h : f ρ S = some (.ok (.d (kD k ds)) S1)) : (VL.iSeq f) ρ S = some (.ok (ds.map SV.d) S1) := by
  cases k
  · exact iSeq_lst h
  · exact iSeq_tup h
/-- rows c turned so far -/
structure Lw (n B c t : Nat) (R1 R : List (List Rat)) : Prop where
  len : R.length = n
  wid : ∀ r ∈ R, r.length = n
  same : ∀ i, i ≤ c ∨ c + 1 + t ≤ i → R.getD i [] = R1.getD i []
  sz : ∀ r ∈ R, ∀ x ∈ r, Sz (4 * B + 1) x
  zc : ∀ i, c < i → i < c + 1 + t → i < n → en R i c = 0
  z : ∀ k i, k < c → k < i → i < n → en R i k = 0
  det : detL n R = detL n R1
structure Dt (n B c : Nat) (d0 f : Rat) (R : List (List Rat)) : Prop where
  len : R.length = n
  mx : Mx n B R
  z : ∀ k i, k < c → k < i → i < n → en R i k = 0
  fd : ∃ s : Rat, s * diaE c (en R) = f ∧ s * detL n R = d0
theorem Lw.start {n B c : Nat} {R : List (List Rat)} (len : R.length = n) (mx : Mx n B R) (z : ∀ k i, k < c → k < i → i < n → en R i k = 0) : Lw n B c 0 R R :=
  ⟨len, mx.wid, fun _ _ => rfl, fun r hr x hx => (mx.sz r hr x hx).mono (by omega), fun i h1 h2 _ => by omega, z, rfl⟩
theorem en_add {n : Nat} {R : List (List Rat)} (hw : ∀ r ∈ R, r.length = n) {i c : Nat} (hi : i < R.length) (hc : c < R.length) (f : Rat) (k j : Nat) : en (addL R i c f) k j = if k = i then en R i j - f * en R c j else en R k j := by
  rw [en_subE hw hi hc f]
  rfl
theorem en_row {R R1 : List (List Rat)} {i : Nat} (h : R.getD i [] = R1.getD i []) (j : Nat) : en R i j = en R1 i j := by unfold en; rw [h]
theorem Lw.step {n B c t : Nat} {R1 R : List (List Rat)} (hn : n ≤ 4) (h : Lw n B c t R1 R) (m1 : Mx n B R1) (l1 : R1.length = n) (hi : c + 1 + t < n) (p0 : en R c c ≠ 0) : Lw n B c (t + 1) R1 (addL R (c + 1 + t) c (en R (c + 1 + t) c / en R c c)) := by
  obtain ⟨len, wid, same, sz, zc, z, det⟩ := h
  have il : c + 1 + t < R.length := by omega
  have cl : c < R.length := by omega
  have ea := en_add wid il cl (en R (c + 1 + t) c / en R c c)
  have si := same (c + 1 + t) (by omega)
  have sc := same c (by omega)
  have li : (R.getD (c + 1 + t) []).length = (R.getD c []).length := by rw [wid _ (getD_mem il), wid _ (getD_mem cl)]
  refine ⟨by simp [addL, len], fun r hr => ?_, fun i hh => ?_, fun r hr x hx => ?_, fun i h1 h2 h3 => ?_, fun k i h1 h2 h3 => ?_, by rw [det_add hn len wid (by omega) hi, det]⟩
  · rcases List.mem_or_eq_of_mem_set hr with hr | rfl
    · exact wid r hr
    · rw [subL_len _ li, wid _ (getD_mem il)]
  · rw [← same i (by omega)]
    simp [addL, List.getD, List.getElem?_set, show ¬ c + 1 + t = i by omega]
  · rcases List.mem_or_eq_of_mem_set hr with hr | rfl
    · exact sz r hr x hx
    · obtain ⟨q, hq, rfl⟩ := List.mem_map.mp hx
      have q1 := (List.of_mem_zip hq).1
      have q2 := (List.of_mem_zip hq).2
      rw [si] at q1
      rw [sc] at q2
      have b1 := m1.sz _ (getD_mem (by omega)) _ q1
      have b2 := m1.sz _ (getD_mem (by omega)) _ q2
      have b3 : Sz B (en R (c + 1 + t) c) := by rw [en_row si]; exact m1.sz _ (getD_mem (by omega)) _ (getD_mem (by rw [m1.wid _ (getD_mem (by omega))]; omega))
      have b4 : Sz B (en R c c) := by rw [en_row sc]; exact m1.sz _ (getD_mem (by omega)) _ (getD_mem (by rw [m1.wid _ (getD_mem (by omega))]; omega))
      exact (b1.sub ((b3.div b4 p0).mul b2)).mono (by omega)
  · rw [ea]
    by_cases e : i = c + 1 + t
    · rw [if_pos e, Rat.div_mul_cancel p0]
      grind
    · rw [if_neg e]
      exact zc i h1 (by omega) h3
  · rw [ea]
    split
    · rename_i e
      rw [z k _ h1 (by omega) hi, z k c h1 (by omega) (by omega)]
      grind
    · exact z k i h1 h2 h3
theorem Lw.stay {n B c t : Nat} {R1 R : List (List Rat)} (h : Lw n B c t R1 R) (h0 : en R (c + 1 + t) c = 0) : Lw n B c (t + 1) R1 R :=
  ⟨h.len, h.wid, fun i hh => h.same i (by omega), h.sz, fun i h1 h2 h3 => by
    by_cases e : i = c + 1 + t
    · rw [e]; exact h0
    · exact h.zc i h1 (by omega) h3, h.z, h.det⟩
theorem diaE_congr {e g : Nat → Nat → Rat} : ∀ {c : Nat}, (∀ k, k < c → e k k = g k k) → diaE c e = diaE c g
  | 0, _ => rfl
  | c + 1, h => by rw [diaE_succ, diaE_succ, diaE_congr fun k hk => h k (by omega), h c (by omega)]
theorem swapL_self {R : List (List Rat)} {a : Nat} (ha : a < R.length) : swapL R a a = R := by
  unfold swapL
  rw [getD_eq ha, List.set_set]
  simp
/-- the row with the lead put in its place -/
theorem Dt.swap {n B c l : Nat} {d0 f : Rat} {R : List (List Rat)} (hn : n ≤ 4) (h : Dt n B c d0 f R) (hc : c < l) (hl : l < n) : Dt n B c d0 (-f) (swapL R c l) := by
  obtain ⟨len, mx, z, s, s1, s2⟩ := h
  have e := en_swpE (R := R) (a := c) (b := l) (by omega) (by omega)
  refine ⟨by rw [swapL_len, len], mx.swap (by omega) (by omega), fun k i h1 h2 h3 => ?_, -s, ?_, ?_⟩
  · rw [e]
    unfold swpE
    split
    · exact z k c h1 (by omega) (by omega)
    · split
      · exact z k l h1 (by omega) hl
      · exact z k i h1 h2 h3
  · rw [diaE_congr (g := en R) fun k hk => by rw [e]; unfold swpE; rw [if_neg (by omega), if_neg (by omega)], ← s1]
    grind
  · rw [det_swap hn len hc hl, ← s2]
    grind
theorem Dt.next {n B c : Nat} {d0 f : Rat} {R R2 : List (List Rat)} (h : Dt n B c d0 f R) (hc : c < n) {t : Nat} (ht : n ≤ c + 1 + t) (l : Lw n B c t R R2) : Dt n (4 * B + 1) (c + 1) d0 (f * en R c c) R2 := by
  obtain ⟨len, mx, z, s, s1, s2⟩ := h
  refine ⟨l.len, ⟨l.wid, l.sz⟩, fun k i h1 h2 h3 => ?_, s, ?_, by rw [l.det]; exact s2⟩
  · by_cases e : k = c
    · subst e; exact l.zc i h2 (by omega) h3
    · exact l.z k i (by omega) h2 h3
  · rw [diaE_congr (g := en R) fun k hk => en_row (l.same k (by omega)) k, diaE_succ, ← s1]
    grind
theorem Dt.done {n B : Nat} {d0 f : Rat} {R : List (List Rat)} (hn : n ≤ 4) (h : Dt n B n d0 f R) : f = d0 := by
  obtain ⟨len, mx, z, s, s1, s2⟩ := h
  rw [det_tri hn fun k i h1 h2 => z k i (by omega) h1 h2] at s2
  rw [← s1, ← s2]
theorem Dt.none {n B c : Nat} {d0 f : Rat} {R : List (List Rat)} (hn : n ≤ 4) (h : Dt n B c d0 f R) (hc : c < n) (h2 : ∀ i, c ≤ i → i < n → en R i c = 0) : d0 = 0 := by
  obtain ⟨len, mx, z, s, s1, s2⟩ := h
  rw [det_sing hn hc z h2] at s2
  rw [← s2]
  grind
--# determinant
noncomputable abbrev detB : Stm := (sSeq (sSet 5 (eCall 2 G.F_over [] (aCons (eBin gIx (eBin gIxB (eVar 0) (eVar 4)) (eVar 2)) (aCons (eBin gIx (eBin gIxB (eVar 0) (eVar 2)) (eVar 2)) aNil)))) (sIf (bB (eBin (cB gNe) (eBin gIxB (eVar 5) (eCon (.int 0))) (eCon (.int 0)))) (sStore (lVar 0) (eVar 4) (eFrz (eLc (VL.iZip2 (aCons (eBin gIxB (eVar 0) (eVar 4)) (aCons (eBin gIxB (eVar 0) (eVar 2)) aNil))) (gTp 2 (gsCons (gNm 7) (gsCons (gNm 8) gsNil))) bYes (eCall 2 G.F_minus [] (aCons (eVarV 7) (aCons (eCall 2 G.F_times [] (aCons (eVarV 5) (aCons (eVarV 8) aNil))) aNil))) [7, 8]))) sNil))
theorem determinant_eq {k kr : Bool} {n b : Nat} {R : List (List Rat)} (mx : Mx n b R) (len : R.length = n) (hn : n ≤ 4) (b1 : 1 ≤ b) (hb : b ≤ 100) (S : Sto) : G.F_determinant [.d (kD k (R.map fun r => kD kr (r.map rD)))] S = some (.ok (rS (detL n R)) S) := by
  have hz := sizeLine_eq
  have bn : ∀ c, c ≤ n → bnd b c ≤ 30000 := fun c hc => Nat.le_trans (bnd_le (show c ≤ 4 by omega)) (by unfold bnd; omega)
  unfold G.F_determinant G.f_determinant
  refine run_wp ?_
  refine wp_set (x := rws R) (S1 := S) ?_ ?_
  · refine lc_map (ρ := rho0 9 [.d (kD k (R.map fun r => kD kr (r.map rD)))]) (S := S) (S1 := S) (it := VL.iSeq (eVar 0)) (tf := gNm 6) (vs := [6]) (elt := eFrz (eCal gList (aCons (eVar 6) aNil))) R (fun r => SV.d (kD kr (r.map rD))) (fun r => SV.d (lR r)) ((iSeq_kD (S1 := S) rfl).trans (by rw [List.map_map]; rfl)) (by omega) fun r hr => ⟨[some (.d (kD k (R.map fun r => kD kr (r.map rD)))), none, none, none, none, none, some (SV.d (kD kr (r.map rD))), none, none], rfl, e_frz (e_cal (e_one rfl) (gList_kR S kr r)) (frz_rS r)⟩
  refine wp_set (x := rS 1) (S1 := S) rfl ?_
  refine wp_forR (xs := (List.range n).map nI) (S1 := S) (fun c ρ S' => S' = S ∧ ∃ s2 s3 s4 s5 s6 s7 s8, ∃ Q f, Dt n (bnd b c) c (detL n R) f Q ∧ Sz (1 + 30000 * c) f ∧ ρ = [some (rws Q), some (rS f), s2, s3, s4, s5, s6, s7, s8]) (iRng_n (n := n) (e_cal (e_one rfl) (by simp [len])) (by omega)) ⟨rfl, _, _, _, _, _, _, _, R, 1, ⟨len, mx.mono (by unfold bnd; simp), fun k i h1 _ _ => by omega, 1, by simp [diaE], by grind⟩, sz1, rfl⟩ ?_ ?_
  · rintro c x hx ρ S' ⟨rfl, s2, s3, s4, s5, s6, s7, s8, Q, f, D, szf, rfl⟩
    rw [List.getElem?_map, Option.map_eq_some_iff] at hx
    obtain ⟨c', hc', rfl⟩ := hx
    obtain ⟨hc, rfl⟩ := List.getElem?_eq_some_iff.mp hc'
    rw [List.length_range] at hc
    rw [List.getElem_range]
    have Bc := bn c (by omega)
    have bs := bnd_step b c
    have Bc1 := bn (c + 1) (by omega)
    have B1 : 1 ≤ bnd b c := by
      have := bnd_le (b := b) (Nat.zero_le c)
      unfold bnd at this ⊢
      simp at this
      omega
    generalize bnd b c = B at *
    refine ⟨[some (rws Q), some (rS f), some (nI c), s3, s4, s5, s6, s7, s8], rfl, ?_⟩
    refine wp_set (x := oN none) (S1 := S') rfl ?_
    refine wp_fold nI (List.range' c (n - c)) (fun s j => if s.isNone && decide (¬ en Q j c = 0) then some j else s) (fun o ρ => ∃ s4, ρ = [some (rws Q), some (rS f), some (nI c), some (oN o), s4, s5, s6, s7, s8]) none (S1 := S') (rng2_n (a := c) (b := n) rfl (e_cal (e_one rfl) (by simp [D.len])) (by omega) (by omega)) ⟨_, rfl⟩ ?_ ?_
    · rintro j hj o ρ ⟨s4, rfl⟩
      rw [List.mem_range'_1] at hj
      refine ⟨[some (rws Q), some (rS f), some (nI c), some (oN o), some (nI j), s5, s6, s7, s8], rfl, ?_⟩
      have t1 : (bB (eBin (cB gIsN) (eVar 3) (eCon (.none)))) [some (rws Q), some (rS f), some (nI c), some (oN o), some (nI j), s5, s6, s7, s8] S' = some (.ok o.isNone S') := b_cmp rfl rfl (oN_isN S' o)
      have t2 := b_en (ρ := [some (rws Q), some (rS f), some (nI c), some (oN o), some (nI j), s5, s6, s7, s8]) (S := S') (k := 0) (fi := eVar 4) (fj := eVar 2) D.mx rfl rfl rfl (i := j) (j := c) (by have := D.len; omega) hc
      cases o with
      | some v => exact wp_ifF (b_andF t1) (wp_nil ⟨_, .inl rfl, some (nI j), rfl⟩)
      | none =>
        by_cases h0 : en Q j c = 0
        · rw [decide_eq_true h0] at t2
          refine wp_ifF (b_andT t1 t2) (wp_nil ⟨_, .inl rfl, some (nI j), ?_⟩)
          simp [h0]
        · rw [decide_eq_false h0] at t2
          refine wp_ifT (b_andT t1 t2) (wp_set1 (x := nI j) (S1 := S') rfl ⟨_, .inl rfl, some (nI j), ?_⟩)
          simp [h0, oN]
    rintro ρ ⟨s4, rfl⟩
    rw [fold_find]
    simp only []
    have e1 : ((List.range' c (n - c)).find? fun j => decide (¬ en Q j c = 0)) = findP Q c (List.range' c (n - c)) := rfl
    show Wp (sSeq _ _ _ _) _
    rw [e1]
    cases hf : findP Q c (List.range' c (n - c)) with
    | none =>
      have d0 := D.none hn hc fun i h1 h2 => by
        have := List.find?_eq_none.mp hf i (by rw [List.mem_range'_1]; omega)
        simpa using this
      refine wp_retIf (S1 := S') (S2 := S') (b_cmp rfl rfl (oN_isN S' none)) rfl (.inr ⟨_, _, rfl, ?_⟩)
      rw [d0]
      rfl
    | some l =>
      obtain ⟨f1, f2⟩ := findP_some hf
      rw [List.mem_range'_1] at f1
      refine wp_pass (S1 := S') (b_cmp rfl rfl (oN_isN S' (some l))) ?_
      -- the row put in its place
      obtain ⟨Q1, g1, D1, p0, zg, st⟩ : ∃ Q1 g1, Dt n B c (detL n R) g1 Q1 ∧ en Q1 c c ≠ 0 ∧ Sz (1 + 30000 * c) g1 ∧ (sIf (bB (eBin (cB gNe) (eVar 3) (eVar 2))) (sSeq (sSwp (lVar 0) (eVar 2) (lVar 0) (eVar 3) (eTup (aCons (eBin gIx (eVar 0) (eVar 3)) (aCons (eBin gIx (eVar 0) (eVar 2)) aNil)))) (sSet 1 (eCall 2 G.F_fraction [] (aCons (eUn gNeg (eBin gIxB (eVar 1) (eCon (.int 0)))) (aCons (eBin gIx (eVar 1) (eCon (.int 1))) aNil))))) sNil) [some (rws Q), some (rS f), some (nI c), some (nI l), s4, s5, s6, s7, s8] S' = some (.nx [some (rws Q1), some (rS g1), some (nI c), some (nI l), s4, s5, s6, s7, s8] S') := by
        have g := gNe_nn S' l c
        by_cases e : l = c
        · rw [decide_eq_true e] at g
          have c1 : (bB (eBin (cB gNe) (eVar 3) (eVar 2))) [some (rws Q), some (rS f), some (nI c), some (nI l), s4, s5, s6, s7, s8] S' = some (.ok false S') := b_cmp rfl rfl g
          exact ⟨Q, f, D, by rw [← e]; rw [← e] at f2; exact f2, szf, by show bindS _ _ _ = _; rw [c1]; rfl⟩
        · rw [decide_eq_false e] at g
          have c1 : (bB (eBin (cB gNe) (eVar 3) (eVar 2))) [some (rws Q), some (rS f), some (nI c), some (nI l), s4, s5, s6, s7, s8] S' = some (.ok true S') := b_cmp rfl rfl g
          have tl : c < Q.length := by rw [D.len]; exact hc
          have fl : l < Q.length := by rw [D.len]; omega
          refine ⟨swapL Q c l, -f, D.swap hn (by omega) (by omega), by rw [en_swap tl fl]; exact f2, szf.neg, ?_⟩
          have sw := st_swp (ρ := [some (rws Q), some (rS f), some (nI c), some (nI l), s4, s5, s6, s7, s8]) (S := S') (i := 0) (a := c) (b := l) (f := eTup (aCons (eBin gIx (eVar 0) (eVar 3)) (aCons (eBin gIx (eVar 0) (eVar 2)) aNil))) (fa := eVar 2) (fb := eVar 3) (p := lR (Q.getD l [])) (q := lR (Q.getD c [])) rfl (e_tup (e_cons (e_bin rfl rfl (ix_rwsV S' fl)) (e_one (e_bin rfl rfl (ix_rwsV S' tl)))) rfl (by simp)) rfl rfl (by simpa using tl) (by simpa using fl)
          rw [← List.map_set (f := fun r => SV.d (lR r)), ← List.map_set (f := fun r => SV.d (lR r))] at sw
          have sw2 : sSwp (lVar 0) (eVar 2) (lVar 0) (eVar 3) (eTup (aCons (eBin gIx (eVar 0) (eVar 3)) (aCons (eBin gIx (eVar 0) (eVar 2)) aNil))) [some (rws Q), some (rS f), some (nI c), some (nI l), s4, s5, s6, s7, s8] S' = some (.nx [some (rws (swapL Q c l)), some (rS f), some (nI c), some (nI l), s4, s5, s6, s7, s8] S') := sw
          have ng : Rat.divInt (-f.num) f.den = -f := by
            rw [← Rat.neg_divInt, Rat.num_divInt_den]
          have fr := fraction_eq (p := -f.num) (q := f.den) (by have := dpos f; omega) S'
          rw [ng] at fr
          have cl : (eCall 2 G.F_fraction [] (aCons (eUn gNeg (eBin gIxB (eVar 1) (eCon (.int 0)))) (aCons (eBin gIx (eVar 1) (eCon (.int 1))) aNil))) [some (rws (swapL Q c l)), some (rS f), some (nI c), some (nI l), s4, s5, s6, s7, s8] S' = some (.ok (rS (-f)) S') := e_call (e_cons (x := .d (.int (-f.num))) (e_un (x := .d (.int f.num)) (e_bin rfl rfl rfl) rfl) (e_one (x := .d (.int (f.den : Int))) (e_bin rfl rfl rfl))) rfl rfl fr
          show bindS _ _ _ = _
          rw [c1]
          show (match sSwp _ _ _ _ _ _ _ with | some (.nx ρ' S') => sSet 1 _ ρ' S' | r => r) = _
          rw [sw2]
          show bindS _ _ _ = _
          rw [cl]
          rfl
      refine wp_nx st ?_
      have l1 := D1.len
      have cl1 : c < Q1.length := by omega
      have sp : Sz B (en Q1 c c) := D1.mx.en B1 c c
      refine wp_set (x := rS (g1 * en Q1 c c)) (S1 := S') (e_call (e_cons rfl (e_one (e_en D1.mx rfl rfl rfl cl1 hc))) rfl rfl (times_eq (zg.ok (by omega)) (sp.ok (by omega)) S')) ?_
      have lw0 := Lw.start l1 D1.mx D1.z
      have it : (VL.iRng2 (aCons (eBin gAdd (eVar 2) (eCon (.int 1))) (aCons (eCal gLen (aCons (eVar 0) aNil)) aNil))) [some (rws Q1), some (rS (g1 * en Q1 c c)), some (nI c), some (nI l), s4, s5, s6, s7, s8] S' = some (.ok ((List.range' (c + 1) (n - (c + 1))).map nI) S') := rng2_n (a := c + 1) (b := n) (e_bin (x := nI c) rfl rfl rfl) (e_cal (e_one rfl) (by simp [l1])) (by omega) (by omega)
      have fin : Wp (forL (gNm 4) detB ((List.range' (c + 1) (n - (c + 1))).map nI) [some (rws Q1), some (rS (g1 * en Q1 c c)), some (nI c), some (nI l), s4, s5, s6, s7, s8] S') fun r => ∃ R2 s4 s5, r = .nx [some (rws R2), some (rS (g1 * en Q1 c c)), some (nI c), some (nI l), s4, s5, s6, s7, s8] S' ∧ Lw n B c (n - (c + 1)) Q1 R2 := by
        obtain ⟨ρ3, S3, ⟨rfl, R2, s4, s5, rfl, L⟩, e⟩ := forL_inv (tf := gNm 4) (body := detB) (fun t ρ S2 => S2 = S' ∧ ∃ R2 s4 s5, ρ = [some (rws R2), some (rS (g1 * en Q1 c c)), some (nI c), some (nI l), s4, s5, s6, s7, s8] ∧ Lw n B c t Q1 R2) ((List.range' (c + 1) (n - (c + 1))).map nI) (by
          rintro t y hy ρ S2 ⟨rfl, R2, s4, s5, rfl, L⟩
          rw [List.getElem?_map, Option.map_eq_some_iff] at hy
          obtain ⟨i, hi, rfl⟩ := hy
          obtain ⟨ht, rfl⟩ := List.getElem?_eq_some_iff.mp hi
          rw [List.length_range'] at ht
          rw [List.getElem_range']
          have ei : c + 1 + 1 * t = c + 1 + t := by omega
          rw [ei]
          have l2 := L.len
          have il : c + 1 + t < R2.length := by omega
          have cl2 : c < R2.length := by omega
          have m2 : Mx n (4 * B + 1) R2 := ⟨L.wid, L.sz⟩
          have ec : en R2 c c = en Q1 c c := en_row (L.same c (by omega)) c
          have eI : en R2 (c + 1 + t) c = en Q1 (c + 1 + t) c := en_row (L.same (c + 1 + t) (by omega)) c
          have p2 : en R2 c c ≠ 0 := by rw [ec]; exact p0
          have z1 : Sz B (en R2 (c + 1 + t) c) := by rw [eI]; exact D1.mx.en B1 _ _
          have z2 : Sz B (en R2 c c) := by rw [ec]; exact sp
          refine ⟨[some (rws R2), some (rS (g1 * en Q1 c c)), some (nI c), some (nI l), some (nI (c + 1 + t)), s5, s6, s7, s8], rfl, ?_⟩
          refine wp_set (x := rS (en R2 (c + 1 + t) c / en R2 c c)) (S1 := S2) (e_call (e_cons (e_en m2 rfl rfl rfl il hc) (e_one (e_en m2 rfl rfl rfl cl2 hc))) rfl rfl (over_eq (z1.ok (by omega)) (z2.ok (by omega)) p2 S2)) ?_
          have zf := z1.div z2 p2
          have n0 := ne0_num S2 (en R2 (c + 1 + t) c / en R2 c c)
          by_cases h0 : en R2 (c + 1 + t) c / en R2 c c = 0
          · rw [decide_eq_true h0] at n0
            have hh : en R2 (c + 1 + t) c = 0 := by
              have := Rat.div_mul_cancel (a := en R2 (c + 1 + t) c) p2
              rw [h0] at this
              grind
            exact wp_ifF (S1 := S2) (b_cmp (e_bin rfl rfl (ix_num S2 _)) rfl n0) (wp_nil ⟨_, _, .inl rfl, rfl, R2, _, _, rfl, L.stay hh⟩)
          · rw [decide_eq_false h0] at n0
            have Ls := L.step hn D1.mx l1 (by omega) p2
            generalize en R2 (c + 1 + t) c / en R2 c c = F at *
            have row1 : (R2.getD (c + 1 + t) []).length = n := L.wid _ (getD_mem il)
            have ss := st_ix (ρ := [some (rws R2), some (rS (g1 * en Q1 c c)), some (nI c), some (nI l), some (nI (c + 1 + t)), some (rS F), s6, s7, s8]) (S := S2) (S1 := S2) (i := 0) (k := c + 1 + t) (fi := eVar 4) rfl (sub_lc (l := 5) (j := 7) (k := 8) (fs := (aCons (eBin gIxB (eVar 0) (eVar 4)) (aCons (eBin gIxB (eVar 0) (eVar 2)) aNil))) (r := R2.getD (c + 1 + t) []) (p := R2.getD c []) (b := 2 * B) (e_cons (e_bin rfl rfl (ix_rws S2 il)) (e_one (e_bin rfl rfl (ix_rws S2 cl2)))) (by omega) (by simp) (by simp) (by decide) (by decide) (by decide) rfl (zf.mono (by omega)) (fun x hx => by
              rw [L.same (c + 1 + t) (by omega)] at hx
              exact (D1.mx.sz _ (getD_mem (by omega)) x hx).mono (by omega)) (fun x hx => by
              rw [L.same c (by omega)] at hx
              exact (D1.mx.sz _ (getD_mem (by omega)) x hx).mono (by omega)) (by omega)) rfl (by simpa using il)
            rw [rws_set] at ss
            exact wp_ifT (S1 := S2) (b_cmp (e_bin rfl rfl (ix_num S2 _)) rfl n0) ⟨_, ss, _, _, .inl rfl, rfl, _, _, _, rfl, Ls⟩) _ S' ⟨rfl, Q1, s4, s5, rfl, lw0⟩
        rw [List.length_map, List.length_range'] at L
        exact ⟨_, e, R2, s4, s5, rfl, L⟩
      obtain ⟨r, er, R2, s4', s5', rfl, L⟩ := fin
      have fe : (sFor (VL.iRng2 (aCons (eBin gAdd (eVar 2) (eCon (.int 1))) (aCons (eCal gLen (aCons (eVar 0) aNil)) aNil))) (gNm 4) detB) [some (rws Q1), some (rS (g1 * en Q1 c c)), some (nI c), some (nI l), s4, s5, s6, s7, s8] S' = some (.nx [some (rws R2), some (rS (g1 * en Q1 c c)), some (nI c), some (nI l), s4', s5', s6, s7, s8] S') := by
        show bindS _ _ _ = _
        rw [it]
        exact er
      refine ⟨_, fe, .inl ⟨_, _, .inl rfl, rfl, some (nI c), some (nI l), s4', s5', s6, s7, s8, R2, g1 * en Q1 c c, ?_, ?_, rfl⟩⟩
      · have := D1.next hc (t := n - (c + 1)) (by omega) L
        exact ⟨this.len, this.mx.mono bs, this.z, this.fd⟩
      · refine (zg.mul sp).mono ?_
        rw [Nat.mul_add]
        omega
  · rintro ρ2 S2 ⟨rfl, s2, s3, s4, s5, s6, s7, s8, Q, f, D, szf, rfl⟩
    rw [List.length_map, List.length_range] at D
    refine wp_retV rfl ?_
    rw [D.done hn]
--# end
end M

end
section
set_option Elab.async false
set_option linter.all false
set_option maxRecDepth 100000
/-! K2: the law's orders, its determinant; the rank; sums. -/
namespace M
open PySem PySem.Spec PyProof.Rows L2 VL
abbrev oD (o : List Nat) : PyData := .list (o.map fun j : Nat => .int (j : Int))
abbrev ordD (F : List (List Nat)) : PyData := .list (F.map oD)
def ordI (n i : Nat) : List (List Nat) := (List.range i).foldl (fun F _ => F.foldl (fun acc row => acc ++ ((List.range n).filter fun j => !row.contains j).map fun j => row ++ [j]) []) [[]]
theorem ordI_succ (n i : Nat) : ordI n (i + 1) = (ordI n i).foldl (fun acc row => acc ++ ((List.range n).filter fun j => !row.contains j).map fun j => row ++ [j]) [] := by
  unfold ordI
  rw [List.range_succ, List.foldl_append]
  rfl
theorem ordI_all (n : Nat) : ordI n n = ordL n := rfl
theorem ordI_len : ∀ n, n < 5 → ∀ i, i < 5 → (ordI n i).length ≤ 256 := by decide +kernel
theorem ordI_row : ∀ n, n < 5 → ∀ i, i < 5 → ∀ o ∈ ordI n i, o.length ≤ 4 := by decide +kernel
theorem ordL_ok : ∀ n, n < 5 → ∀ o ∈ ordL n, o.length = n ∧ ∀ j ∈ o, j < n := by decide +kernel
theorem ordL_len : ∀ n, n < 5 → (ordL n).length ≤ 24 := by decide +kernel
theorem frz_oD (o : List Nat) : frz (nS o) = some (.d (oD o)) := by
  have := frz_own (o.map fun j : Nat => .int (j : Int))
  rw [List.map_map] at this
  exact this
theorem frz_ordD (F : List (List Nat)) : frz (.own (F.map fun o => SV.d (oD o))) = some (.d (ordD F)) := by
  have := frz_own (F.map oD)
  rw [List.map_map] at this
  exact this
theorem gNotIn_oD (S : Sto) (o : List Nat) (j : Nat) : gNotIn S (nI j) (.d (oD o)) = some (!o.contains j) := by
  have := gNotIn_nS S o j
  rw [← this]
  have a1 : dat? S (nS o) = some (oD o) := by
    have := allD_map' (fun x : Nat => PyData.int (x : Int)) o
    simp only [dat?]
    rw [show allD (List.map nI o) = _ from this]
    rfl
  unfold gNotIn
  rw [a1]
  rfl
theorem add_own' (S : Sto) {xs ys : List PyData} (h : xs.length + ys.length ≤ 100000) : gAdd S (.own (xs.map SV.d)) (.own (ys.map SV.d)) = some (.own ((xs ++ ys).map SV.d)) := by
  have h1 : ∀ zs : List PyData, (zs.map SV.d).all noOwn = true := fun zs => by
    rw [List.all_map, List.all_eq_true]; exact fun _ _ => rfl
  show (if (xs.map SV.d).all noOwn && (ys.map SV.d).all noOwn && decide ((xs.map SV.d).length + (ys.map SV.d).length ≤ sizeLine) then some (SV.own ((xs.map SV.d) ++ (ys.map SV.d))) else none) = _
  rw [h1, h1, List.length_map, List.length_map, decide_eq_true (show xs.length + ys.length ≤ sizeLine by rw [sizeLine_eq]; omega)]
  simp
theorem add_ord (S : Sto) {F G : List (List Nat)} (h : F.length + G.length ≤ 100000) : gAdd S (.own (F.map fun o => SV.d (oD o))) (.own (G.map fun o => SV.d (oD o))) = some (.own ((F ++ G).map fun o => SV.d (oD o))) := by
  have := add_own' S (xs := F.map oD) (ys := G.map oD) (by simpa using h)
  rw [← List.map_append, List.map_map, List.map_map, List.map_map] at this
  exact this
theorem add_row (S : Sto) {o : List Nat} {j : Nat} (h : o.length ≤ 1000) : gAdd S (.d (oD o)) (.own [nI j]) = some (nS (o ++ [j])) := by
  have h1 : ((o.map fun j : Nat => PyData.int (j : Int)).map SV.d).all noOwn = true := by
    rw [List.all_map, List.all_eq_true]; exact fun _ _ => rfl
  show (if ((o.map fun j : Nat => PyData.int (j : Int)).map SV.d).all noOwn && [nI j].all noOwn && decide (((o.map fun j : Nat => PyData.int (j : Int)).map SV.d).length + 1 ≤ sizeLine) then some (SV.own (((o.map fun j : Nat => PyData.int (j : Int)).map SV.d) ++ [nI j])) else none) = _
  rw [h1, List.length_map, List.length_map, decide_eq_true (show o.length + 1 ≤ sizeLine by rw [sizeLine_eq]; omega)]
  simp [noOwn, nS]
--# _law_orders
theorem law_orders_eq {n : Nat} (hn : n ≤ 4) (S : Sto) : ∃ x, G.F__law_orders [nI n] S = some (.ok x S) ∧ frz x = some (.d (ordD (ordL n))) := by
  have hz := sizeLine_eq
  suffices h : Wp (G.f__law_orders (rho0 6 [nI n]) S) fun r => ∃ x S', r = .rt x S' ∧ (frz x = some (.d (ordD (ordL n))) ∧ S' = S) by
    obtain ⟨x, S', e, q, rfl⟩ := run_wp2 (P := fun x S' => frz x = some (.d (ordD (ordL n))) ∧ S' = S) h
    exact ⟨x, e, q⟩
  unfold G.f__law_orders
  refine wp_set (x := .own [.own []]) (S1 := S) (e_lst (e_one (e_lst e_nil (by simp))) (by simp)) ?_
  refine wp_for (xs := (List.range n).map nI) (S1 := S) (fun i ρ S' => S' = S ∧ ∃ x s2 s3 s4 s5, frz x = some (.d (ordD (ordI n i))) ∧ ρ = [some (nI n), some x, s2, s3, s4, s5]) (iRng_n rfl (by omega)) ⟨rfl, _, _, _, _, _, rfl, rfl⟩ ?_ ?_
  · rintro i y hy ρ S' ⟨rfl, x, s2, s3, s4, s5, hx, rfl⟩
    rw [List.getElem?_map, Option.map_eq_some_iff] at hy
    obtain ⟨i', hi', rfl⟩ := hy
    have hi := (List.getElem?_eq_some_iff.mp hi').1
    rw [List.length_range] at hi
    have ol := ordI_len n (by omega) (i + 1) (by omega)
    have orw := ordI_row n (by omega) i (by omega)
    have os := ordI_succ n i
    generalize ordI n i = F at *
    refine ⟨[some (nI n), some x, some (nI i'), s3, s4, s5], rfl, ?_⟩
    refine wp_set (x := .own []) (S1 := S') (e_lst e_nil (by simp)) ?_
    refine wp_gh2 (i := 1) (y := .d (ordD F)) rfl hx ?_
    have mono : ∀ (F : List (List Nat)) (acc : List (List Nat)), acc.length ≤ (F.foldl (fun acc row => acc ++ ((List.range n).filter fun j => !row.contains j).map fun j => row ++ [j]) acc).length := by
      intro F
      induction F with
      | nil => intro acc; exact Nat.le_refl _
      | cons o F ih =>
        intro acc
        rw [List.foldl_cons]
        refine Nat.le_trans ?_ (ih _)
        rw [List.length_append]; omega
    refine wp_for (xs := F.map fun o => SV.d (oD o)) (S1 := S') (fun t ρ S2 => S2 = S' ∧ ∃ s4 s5, ρ = [some (nI n), some (.d (ordD F)), some (nI i'), some (.own (((F.take t).foldl (fun acc row => acc ++ ((List.range n).filter fun j => !row.contains j).map fun j => row ++ [j]) []).map fun o => SV.d (oD o))), s4, s5]) ((iSeq_lst (ds := F.map oD) (S1 := S') rfl).trans (by rw [List.map_map]; rfl)) ⟨rfl, _, _, rfl⟩ ?_ ?_
    · rintro t y hy ρ S2 ⟨rfl, s4, s5, rfl⟩
      rw [List.getElem?_map, Option.map_eq_some_iff] at hy
      obtain ⟨o, ho, rfl⟩ := hy
      obtain ⟨ht, ho'⟩ := List.getElem?_eq_some_iff.mp ho
      have olen := orw o (List.mem_of_getElem? ho)
      have tk : (F.take (t + 1)).foldl (fun acc row => acc ++ ((List.range n).filter fun j => !row.contains j).map fun j => row ++ [j]) [] = (F.take t).foldl (fun acc row => acc ++ ((List.range n).filter fun j => !row.contains j).map fun j => row ++ [j]) [] ++ ((List.range n).filter fun j => !o.contains j).map fun j => o ++ [j] := by
        rw [List.take_succ_eq_append_getElem ht, ho', List.foldl_append]
        rfl
      have bound : ((F.take (t + 1)).foldl (fun acc row => acc ++ ((List.range n).filter fun j => !row.contains j).map fun j => row ++ [j]) []).length ≤ 256 := by
        refine Nat.le_trans ?_ ol
        rw [os]
        conv => rhs; rw [← List.take_append_drop (t + 1) F, List.foldl_append]
        exact mono _ _
      rw [tk] at bound ⊢
      rw [List.length_append] at bound
      generalize (F.take t).foldl (fun acc row => acc ++ ((List.range n).filter fun j => !row.contains j).map fun j => row ++ [j]) [] = acc at *
      refine ⟨[some (nI n), some (.d (ordD F)), some (nI i'), some (.own (acc.map fun o => SV.d (oD o))), some (.d (oD o)), s5], rfl, ?_⟩
      have lc : (eLc (VL.iRng1 (aCons (eVar 0) aNil)) (gNm 5) (bB (eBin (cB gNotIn) (eVar 5) (eVar 4))) (eFrz (eBin gAdd (eVar 4) (eLst (aCons (eVarV 5) aNil)))) [5]) [some (nI n), some (.d (ordD F)), some (nI i'), some (.own (acc.map fun o => SV.d (oD o))), some (.d (oD o)), s5] S2 = some (.ok (.own ((((List.range n).filter fun j => !o.contains j).map fun j => o ++ [j]).map fun o => SV.d (oD o))) S2) := by
        rw [List.map_map]
        exact lc_filter (ρ := [some (nI n), some (.d (ordD F)), some (nI i'), some (.own (acc.map fun o => SV.d (oD o))), some (.d (oD o)), s5]) (S := S2) (it := VL.iRng1 (aCons (eVar 0) aNil)) (List.range n) nI (fun j => SV.d (oD (o ++ [j]))) (fun j => !o.contains j) (iRng_n (n := n) rfl (by omega)) (by rw [hz, List.length_range]; omega) fun j hj => ⟨[some (nI n), some (.d (ordD F)), some (nI i'), some (.own (acc.map fun o => SV.d (oD o))), some (.d (oD o)), some (nI j)], rfl, b_cmp rfl rfl (gNotIn_oD S2 o j), fun _ => e_frz (e_bin rfl (e_lst (e_one rfl) (by simp)) (add_row S2 (by omega))) (frz_oD _)⟩
      have ad := add_ord S2 (F := acc) (G := ((List.range n).filter fun j => !o.contains j).map fun j => o ++ [j]) (by omega)
      exact wp_set1 (e_bin rfl lc ad) ⟨_, _, .inl rfl, rfl, _, _, rfl⟩
    · rintro ρ2 S2 ⟨rfl, s4, s5, rfl⟩
      rw [List.length_map, List.take_length, ← os]
      refine wp_gh1 (i := 3) rfl (frz_ordD _) (wp_set1 (x := .d (ordD (ordI n (i + 1)))) (S1 := S2) rfl ⟨_, _, .inl rfl, rfl, _, some (nI i'), _, s4, s5, rfl, rfl⟩)
  · rintro ρ2 S2 ⟨rfl, x, s2, s3, s4, s5, hx, rfl⟩
    rw [List.length_map, List.length_range] at hx
    exact wp_retV rfl ⟨_, _, rfl, hx, rfl⟩
--# _law_determinant
theorem part_step (n : Nat) (e : Nat → Nat → Rat) (o : List Nat) (j : Nat) : partL (j + 1) e o = if turnN o j % 2 = 1 then -(partL j e o * e j (gN o j)) else partL j e o * e j (gN o j) := by
  unfold partL
  rw [List.range_succ, List.foldl_append]
  rfl
theorem part_sz {b : Nat} {e : Nat → Nat → Rat} (h : ∀ i j, Sz b (e i j)) (o : List Nat) : ∀ n, Sz (1 + b * n) (partL n e o)
  | 0 => sz1
  | n + 1 => by
    rw [part_step n]
    have := (part_sz h o n).mul (h n (gN o n))
    split
    · exact this.neg.mono (by rw [Nat.mul_succ]; omega)
    · exact this.mono (by rw [Nat.mul_succ]; omega)
theorem law_determinant_eq {k kr : Bool} {n b : Nat} {R : List (List Rat)} (mx : Mx n b R) (len : R.length = n) (hn : n ≤ 4) (b1 : 1 ≤ b) (hb : b ≤ 100) (S : Sto) : G.F__law_determinant [.d (kD k (R.map fun r => kD kr (r.map rD)))] S = some (.ok (rS (detL n R)) S) := by
  have hz := sizeLine_eq
  obtain ⟨ox, oe, of⟩ := law_orders_eq hn S
  have lo := ordL_len n (by omega)
  have oo := ordL_ok n (by omega)
  have psz := part_sz (b := b) (e := en R) (fun i j => mx.en b1 i j)
  unfold G.F__law_determinant G.f__law_determinant
  refine run_wp ?_
  refine wp_set (x := rS 0) (S1 := S) (e_tup (e_cons rfl (e_one rfl)) rfl (by simp)) ?_
  refine wp_for (xs := (ordL n).map fun o => SV.d (oD o)) (S1 := S) (fun t ρ S' => S' = S ∧ Sz (1 + 500 * t) (((ordL n).take t).foldl (fun f o => f + partL n (en R) o) 0) ∧ ∃ s2 s3 s4 s5 s6, ρ = [some (.d (kD k (R.map fun r => kD kr (r.map rD)))), some (rS (((ordL n).take t).foldl (fun f o => f + partL n (en R) o) 0)), s2, s3, s4, s5, s6]) ?_ ⟨rfl, sz0, _, _, _, _, _, rfl⟩ ?_ ?_
  · refine (iSeq_lst (ds := (ordL n).map oD) (S1 := S) (e_frz (e_call (e_one (e_cal (z := nI n) (e_one rfl) (by simp [len]))) rfl rfl oe) of)).trans ?_
    rw [List.map_map]
    rfl
  · rintro t y hy ρ S' ⟨rfl, sz, s2, s3, s4, s5, s6, rfl⟩
    rw [List.getElem?_map, Option.map_eq_some_iff] at hy
    obtain ⟨o, ho, rfl⟩ := hy
    obtain ⟨ht, ho'⟩ := List.getElem?_eq_some_iff.mp ho
    obtain ⟨ol, oj⟩ := oo o (List.mem_of_getElem? ho)
    have tk : ((ordL n).take (t + 1)).foldl (fun f o => f + partL n (en R) o) 0 = ((ordL n).take t).foldl (fun f o => f + partL n (en R) o) 0 + partL n (en R) o := by
      rw [List.take_succ_eq_append_getElem ht, ho', List.foldl_append]
      rfl
    rw [tk]
    generalize ((ordL n).take t).foldl (fun f o => f + partL n (en R) o) 0 = F at *
    have pn := psz o n
    have pn' : Sz 401 (partL n (en R) o) := pn.mono (by
      have : b * n ≤ 100 * 4 := Nat.mul_le_mul hb hn
      omega)
    refine ⟨[some (.d (kD k (R.map fun r => kD kr (r.map rD)))), some (rS F), some (.d (oD o)), s3, s4, s5, s6], rfl, ?_⟩
    refine wp_set (x := rS 1) (S1 := S') (e_tup (e_cons rfl (e_one rfl)) rfl (by simp)) ?_
    refine wp_for (xs := (List.range n).map nI) (S1 := S') (fun j ρ S2 => S2 = S' ∧ ∃ s4 s5 s6, ρ = [some (.d (kD k (R.map fun r => kD kr (r.map rD)))), some (rS F), some (.d (oD o)), some (rS (partL j (en R) o)), s4, s5, s6]) (iRng_n (n := n) (e_cal (e_one rfl) (by simp [len])) (by omega)) ⟨rfl, _, _, _, rfl⟩ ?_ ?_
    · rintro j y hy ρ S2 ⟨rfl, s4, s5, s6, rfl⟩
      rw [List.getElem?_map, Option.map_eq_some_iff] at hy
      obtain ⟨j', hj', rfl⟩ := hy
      obtain ⟨hj, rfl⟩ := List.getElem?_eq_some_iff.mp hj'
      rw [List.length_range] at hj
      rw [List.getElem_range]
      have pj := psz o j
      have pj' : Sz 401 (partL j (en R) o) := pj.mono (by
        have : b * j ≤ 100 * 4 := Nat.mul_le_mul hb (by omega)
        omega)
      have ez : Sz b (en R j (gN o j)) := mx.en b1 _ _
      have og : ∀ i, i < n → gIxB S2 (.d (oD o)) (nI i) = some (nI (gN o i)) := fun i hi => by
        have := ix_kD S2 false (fun x : Nat => PyData.int (x : Int)) o 0 (i := i) (by omega)
        exact this
      have gl : gN o j < n := oj _ (by rw [gN_eq (by omega)]; exact List.getElem_mem _)
      have rw1 : gIxB S2 (.d (kD k (R.map fun r => kD kr (r.map rD)))) (nI j) = some (.d (kD kr ((R.getD j []).map rD))) := ix_kD S2 k (fun r : List Rat => kD kr (r.map rD)) R [] (by omega)
      have rw2 : gIx S2 (.d (kD kr ((R.getD j []).map rD))) (nI (gN o j)) = some (rS (en R j (gN o j))) := ixV_kD S2 kr rD (R.getD j []) 0 (by rw [mx.wid _ (getD_mem (by omega))]; exact gl)
      refine ⟨[some (.d (kD k (R.map fun r => kD kr (r.map rD)))), some (rS F), some (.d (oD o)), some (rS (partL j (en R) o)), some (nI j), s5, s6], rfl, ?_⟩
      refine wp_set (x := rS (partL j (en R) o * en R j (gN o j))) (S1 := S2) (e_call (e_cons rfl (e_one (e_bin (e_bin rfl rfl rw1) (e_bin rfl rfl (og j hj)) rw2))) rfl rfl (lmul_eq (pj'.ok (by omega)) (ez.ok (by omega)) S2)) ?_
      have lc : (eLc (VL.iRng1 (aCons (eVar 4) aNil)) (gNm 6) (bB (eBin (cB gGt) (eBin gIxB (eVar 2) (eVar 6)) (eBin gIxB (eVar 2) (eVar 4)))) (eVarV 6) [6]) [some (.d (kD k (R.map fun r => kD kr (r.map rD)))), some (rS F), some (.d (oD o)), some (rS (partL j (en R) o * en R j (gN o j))), some (nI j), s5, s6] S2 = some (.ok (nS ((List.range j).filter fun i => decide (gN o j < gN o i))) S2) := by
        exact lc_filter (ρ := [some (.d (kD k (R.map fun r => kD kr (r.map rD)))), some (rS F), some (.d (oD o)), some (rS (partL j (en R) o * en R j (gN o j))), some (nI j), s5, s6]) (S := S2) (it := VL.iRng1 (aCons (eVar 4) aNil)) (List.range j) nI nI (fun i => decide (gN o j < gN o i)) (iRng_n (n := j) rfl (by omega)) (by rw [hz, List.length_range]; omega) fun i hi => ⟨[some (.d (kD k (R.map fun r => kD kr (r.map rD)))), some (rS F), some (.d (oD o)), some (rS (partL j (en R) o * en R j (gN o j))), some (nI j), s5, some (nI i)], rfl, b_cmp (e_bin rfl rfl (og i (by have := List.mem_range.mp hi; omega))) (e_bin rfl rfl (og j hj)) (by
          rw [nI_eq, nI_eq, gGt_i]
          congr 1
          exact decide_eq_decide.mpr (by omega)), fun _ => rfl⟩
      refine wp_set (x := nI (turnN o j)) (S1 := S2) (e_cal (e_one lc) (by simp [turnN])) ?_
      have tl : turnN o j ≤ j := by
        unfold turnN
        have := List.length_filter_le (fun i => decide (gN o j < gN o i)) (List.range j)
        rw [List.length_range] at this
        exact this
      have ps := part_step j (en R) o j
      have zp := pj'.mul ez
      generalize partL j (en R) o * en R j (gN o j) = P at *
      generalize turnN o j = T at *
      have g2 := gNe_nn S2 (T / 2 * 2) T
      have c1 : (bB (eBin (cB gNe) (eBin gMulT (eBin gFdivS (eVar 5) (eCon (.int 2))) (eCon (.int 2))) (eVar 5))) [some (.d (kD k (R.map fun r => kD kr (r.map rD)))), some (rS F), some (.d (oD o)), some (rS P), some (nI j), some (nI T), s6] S2 = some (.ok (!decide (T / 2 * 2 = T)) S2) := by
        refine b_cmp (x := nI (T / 2 * 2)) (e_bin (x := nI (T / 2)) (y := nI 2) (e_bin (x := nI T) (y := nI 2) rfl rfl ?_) rfl ?_) rfl g2
        · rcases (show T = 0 ∨ T = 1 ∨ T = 2 ∨ T = 3 by omega) with e | e | e | e <;> subst e <;> simp
        · rcases (show T = 0 ∨ T = 1 ∨ T = 2 ∨ T = 3 by omega) with e | e | e | e <;> subst e <;> rfl
      by_cases odd : T % 2 = 1
      · rw [decide_eq_false (by omega)] at c1
        rw [if_pos odd] at ps
        rw [ps]
        refine wp_ifT c1 (wp_set1 (x := rS (-P)) (S1 := S2) (e_tup (ds := [.int (-P.num), .int (P.den : Int)]) (e_cons (e_un (x := .d (.int P.num)) (e_bin rfl rfl rfl) rfl) (e_one (e_bin rfl rfl rfl))) rfl (by simp)) ⟨_, _, .inl rfl, rfl, _, _, _, rfl⟩)
      · rw [decide_eq_true (by omega)] at c1
        rw [if_neg odd] at ps
        rw [ps]
        exact wp_ifF c1 (wp_nil ⟨_, _, .inl rfl, rfl, _, _, _, rfl⟩)
    · rintro ρ2 S2 ⟨rfl, s4, s5, s6, rfl⟩
      rw [List.length_map, List.length_range]
      exact wp_set1 (e_call (e_cons rfl (e_one rfl)) rfl rfl (ladd_eq (sz.ok (by omega)) (pn'.ok (by omega)) S2)) ⟨_, _, .inl rfl, rfl, (sz.add pn').mono (by omega), _, _, _, _, _, rfl⟩
  · rintro ρ2 S2 ⟨rfl, sz, s2, s3, s4, s5, s6, rfl⟩
    rw [List.length_map, List.take_length]
    exact wp_retV rfl rfl
--# rank
theorem rank_eq {k kr : Bool} {w b m : Nat} {R : List (List Rat)} (mx : Mx w b R) (len : R.length = m) (h0 : 0 < m) (hw : w ≤ 100) (hm : m ≤ 100) (hb : bnd b w ≤ 6000000) (S : Sto) : G.F_rank [.d (kD k (R.map fun r => kD kr (r.map rD)))] S = some (.ok (nI ((List.range w).countP (grownL R))) S) := by
  have hz := sizeLine_eq
  have g := gEq_nn S R.length 0
  rw [decide_eq_false (by omega)] at g
  have rd := reduced_eq (x := .d (kD k (R.map fun r => kD kr (r.map rD)))) (sq := fun r => kD kr (r.map rD)) (S := S) mx len (Nat.le_refl w) hw hm hb ((iSeq_kD (S1 := S) rfl).trans (by rw [List.map_map]; rfl)) (fun r => gList_kR S kr r) rfl
  have rk := rank_count mx w (Nat.le_refl w)
  have r0 : gIxB S (.d (kD k (R.map fun r => kD kr (r.map rD)))) (nI 0) = some (.d (kD kr ((R.getD 0 []).map rD))) := ix_kD S k (fun r : List Rat => kD kr (r.map rD)) R [] (by omega)
  unfold G.F_rank G.f_rank
  refine run_wp ?_
  refine wp_pass (S1 := S) (b_cmp (e_cal (z := nI R.length) (e_one rfl) (by simp)) rfl g) ?_
  have ln : (eCal gLen (aCons (eBin gIxB (eVar 0) (eCon (.int 0))) aNil)) (rho0 3 [.d (kD k (R.map fun r => kD kr (r.map rD)))]) S = some (.ok (nI w) S) := by
    refine e_cal (e_one (e_bin (y := nI 0) rfl rfl r0)) ?_
    rw [len_kD, List.length_map, mx.wid _ (getD_mem (show 0 < R.length by omega))]
  refine wp_nx (st_asg (e_call (e_cons rfl (e_one ln)) rfl rfl rd) (y := .d (.tuple [.list ((redP R w).1.map lR), .list ((redP R w).2.map fun k : Nat => .int (k : Int))])) rfl (ρ2 := [some (.d (kD k (R.map fun r => kD kr (r.map rD)))), some (.d (.list ((redP R w).1.map lR))), some (.d (.list ((redP R w).2.map fun k : Nat => .int (k : Int))))]) (by simp [rho0])) ?_
  exact wp_ret (e_cal (e_one rfl) (by simp [← rk])) rfl
--# sums
/-- a sum from the left -/
def sumL (xs : List Rat) : Rat := xs.foldl (fun f x => f + x) 0
theorem sumL_sz {b : Nat} {xs : List Rat} (h : ∀ x ∈ xs, Sz b x) (i : Nat) (hi : i ≤ xs.length) : Sz (1 + (b + 1) * i) (sumL (xs.take i)) := by
  induction i with
  | zero => exact sz0
  | succ i ih =>
    have hi' : i < xs.length := by omega
    unfold sumL at ih ⊢
    rw [List.take_succ_eq_append_getElem hi', List.foldl_append]
    have := (ih (by omega)).add (h _ (List.getElem_mem hi'))
    exact this.mono (by rw [Nat.mul_succ]; omega)
--# total
theorem total_eq {k : Bool} {b : Nat} {xs : List Rat} (h : ∀ x ∈ xs, Sz b x) (hb : b ≤ 100000) (hl : xs.length ≤ 100) (S : Sto) : G.F_total [.d (kD k (xs.map rD))] S = some (.ok (rS (sumL xs)) S) := by
  unfold G.F_total G.f_total
  refine run_wp ?_
  refine wp_set (x := rS 0) (S1 := S) rfl ?_
  refine wp_for (xs := xs.map rS) (S1 := S) (fun i ρ S' => S' = S ∧ ∃ s2, ρ = [some (.d (kD k (xs.map rD))), some (rS (sumL (xs.take i))), s2]) ((iSeq_kD (S1 := S) rfl).trans (by rw [List.map_map]; rfl)) ⟨rfl, _, rfl⟩ ?_ ?_
  · rintro i y hy ρ S' ⟨rfl, s2, rfl⟩
    rw [List.getElem?_map, Option.map_eq_some_iff] at hy
    obtain ⟨x, hx, rfl⟩ := hy
    obtain ⟨hi, hx'⟩ := List.getElem?_eq_some_iff.mp hx
    have sz := sumL_sz h i (by omega)
    have st : sumL (xs.take (i + 1)) = sumL (xs.take i) + x := by
      unfold sumL
      rw [List.take_succ_eq_append_getElem hi, hx', List.foldl_append]
      rfl
    rw [st]
    have ok1 : Ok (sumL (xs.take i)) := sz.ok (by
      have : (b + 1) * i ≤ 100001 * 100 := Nat.mul_le_mul (by omega) (by omega)
      omega)
    refine ⟨[some (.d (kD k (xs.map rD))), some (rS (sumL (xs.take i))), some (rS x)], rfl, ?_⟩
    exact wp_set1 (e_call (e_cons rfl (e_one rfl)) rfl rfl (plus_eq ok1 ((h x (List.mem_of_getElem? hx)).ok (by omega)) S')) ⟨_, _, .inl rfl, rfl, _, rfl⟩
  · rintro ρ2 S2 ⟨rfl, s2, rfl⟩
    rw [List.length_map, List.take_length]
    exact wp_retV rfl rfl
--# _law_sum
theorem law_sum_eq {k : Bool} {b : Nat} {xs : List Rat} (h : ∀ x ∈ xs, Sz b x) (hb : b ≤ 100000) (hl : xs.length ≤ 100) (S : Sto) : G.F__law_sum [.d (kD k (xs.map rD))] S = some (.ok (rS (sumL xs)) S) := by
  unfold G.F__law_sum G.f__law_sum
  refine run_wp ?_
  refine wp_set (x := rS 0) (S1 := S) (e_tup (e_cons rfl (e_one rfl)) rfl (by simp)) ?_
  refine wp_for (xs := xs.map rS) (S1 := S) (fun i ρ S' => S' = S ∧ ∃ s2, ρ = [some (.d (kD k (xs.map rD))), some (rS (sumL (xs.take i))), s2]) ((iSeq_kD (S1 := S) rfl).trans (by rw [List.map_map]; rfl)) ⟨rfl, _, rfl⟩ ?_ ?_
  · rintro i y hy ρ S' ⟨rfl, s2, rfl⟩
    rw [List.getElem?_map, Option.map_eq_some_iff] at hy
    obtain ⟨x, hx, rfl⟩ := hy
    obtain ⟨hi, hx'⟩ := List.getElem?_eq_some_iff.mp hx
    have sz := sumL_sz h i (by omega)
    have st : sumL (xs.take (i + 1)) = sumL (xs.take i) + x := by
      unfold sumL
      rw [List.take_succ_eq_append_getElem hi, hx', List.foldl_append]
      rfl
    rw [st]
    have ok1 : Ok (sumL (xs.take i)) := sz.ok (by
      have : (b + 1) * i ≤ 100001 * 100 := Nat.mul_le_mul (by omega) (by omega)
      omega)
    refine ⟨[some (.d (kD k (xs.map rD))), some (rS (sumL (xs.take i))), some (rS x)], rfl, ?_⟩
    exact wp_set1 (e_call (e_cons rfl (e_one rfl)) rfl rfl (ladd_eq ok1 ((h x (List.mem_of_getElem? hx)).ok (by omega)) S')) ⟨_, _, .inl rfl, rfl, _, rfl⟩
  · rintro ρ2 S2 ⟨rfl, s2, rfl⟩
    rw [List.length_map, List.take_length]
    exact wp_retV rfl rfl
--# end
end M

end
section
set_option Elab.async false
set_option linter.all false
set_option maxRecDepth 100000
/-! K3: parts of the law. -/
namespace M
open PySem PySem.Spec PyProof.Rows L2 VL
noncomputable abbrev DT : List (Str × (List SV → Mo SV)) := [("fraction", G.F_fraction), ("over", G.F_over), ("solved", G.F_solved)]
theorem mv1 : G.mt "BadValue" "BadValue" = some true := by decide +kernel
theorem mn1 : G.mt "NoSuch" "BadValue" = some false := by decide +kernel
theorem mn2 : G.mt "NoSuch" "NoSuch" = some true := by decide +kernel
section
variable {nm : Str} {Fn : List SV → Mo SV} {d e : PyData} {z : SV} {S S' : Sto}
theorem told_ok (hL : DT.lookup nm = some Fn) (h : Fn [.d d, .d e] S = some (.ok z S')) : G.F__law_told [.fn nm, .d d, .d e] S = some (.ok z S') := by
  unfold G.F__law_told runF rho0 G.f__law_told sTryM
  simp [eCallL, hL, h]
theorem told_value (hL : DT.lookup nm = some Fn) (h : Fn [.d d, .d e] S = some (.exc "BadValue" [] S')) : G.F__law_told [.fn nm, .d d, .d e] S = some (.ok (.d (.str "value")) S') := by
  unfold G.F__law_told runF rho0 G.f__law_told sTryM
  simp [eCallL, hL, h, exM, mv1, noX]
theorem told_none (hL : DT.lookup nm = some Fn) (h : Fn [.d d, .d e] S = some (.exc "NoSuch" [] S')) : G.F__law_told [.fn nm, .d d, .d e] S = some (.ok (.d (.str "none")) S') := by
  unfold G.F__law_told runF rho0 G.f__law_told sTryM
  simp [eCallL, hL, h, exM, mn1, mn2, noX]
end
theorem look_f : DT.lookup (α := Str) "fraction" = some G.F_fraction := rfl
theorem look_v : DT.lookup (α := Str) "over" = some G.F_over := rfl
theorem look_s : DT.lookup (α := Str) "solved" = some G.F_solved := rfl
theorem okx_none : PyData.strOk "none" = true := by decide +kernel
theorem okx_value : PyData.strOk "value" = true := by decide +kernel
theorem okx_bool (b : Bool) : PyData.strOk (if b then "True" else "False" : Str) = true := by cases b <;> decide +kernel
section
variable {S : Sto} {ρ : Rho}
theorem fraction_no (p : Int) : G.F_fraction [.d (.int p), .d (.int 0)] S = some (.exc "BadValue" [] S) := by
  unfold G.F_fraction G.f_fraction
  exact run_wpE (wp_raiseT (S1 := S) (b_cmp rfl rfl (gEq_i S 0 0)) ⟨_, rfl⟩)
theorem over_no {x : Rat} (hx : Ok x) : G.F_over [rS x, rS 0] S = some (.exc "BadValue" [] S) := by
  obtain ⟨b, hb, h1, h2, h3, h4⟩ := ok_parts hx ok0
  have m1 := mulOk_bd h1 h4 (by omega)
  have m2 := mulOk_bd h2 h3 (by omega)
  unfold G.F_over G.f_over
  refine run_wpE (wp_retE (e_call (xs := [.d (.int (x.num * ((0 : Rat).den : Int))), .d (.int ((x.den : Int) * (0 : Rat).num))]) (e_cons (e_bin (x := .d (.int x.num)) (y := .d (.int ((0 : Rat).den : Int))) (e_bin rfl rfl rfl) (e_bin rfl rfl rfl) (by rw [gMulT_i, if_pos m1])) (e_one (e_bin (x := .d (.int (x.den : Int))) (y := .d (.int (0 : Rat).num)) (e_bin rfl rfl rfl) (e_bin rfl rfl rfl) (by rw [gMulT_i, if_pos m2])))) rfl rfl ?_) ⟨_, rfl⟩)
  have e : (x.den : Int) * (0 : Rat).num = 0 := Int.mul_zero _
  rw [e]
  exact fraction_no _
/-- the sign -/
def sgN (x : Rat) : Int := (if decide (0 < x.num) then 1 else 0) - (if decide (x.num < 0) then 1 else 0)
theorem e_sgn {v : Nat} {x : Rat} (h : ρ[v]? = some (some (rS x))) : (eBin gSub (eCal gInt (aCons (eBin (cB gGt) (eBin gIxB (eVar v) (eCon (.int 0))) (eCon (.int 0))) aNil)) (eCal gInt (aCons (eBin (cB gLt) (eBin gIxB (eVar v) (eCon (.int 0))) (eCon (.int 0))) aNil))) ρ S = some (.ok (.d (.int (sgN x))) S) :=
  e_bin (x := .d (.int (if decide (0 < x.num) then 1 else 0))) (y := .d (.int (if decide (x.num < 0) then 1 else 0))) (e_cal (e_one (e_cmp (x := .d (.int x.num)) (e_bin (e_var h) rfl rfl) rfl (gGt_i S _ _))) rfl) (e_cal (e_one (e_cmp (x := .d (.int x.num)) (e_bin (e_var h) rfl rfl) rfl (gLt_i S _ _))) rfl) rfl
theorem sign_eq (x : Rat) : G.F_sign [rS x] S = some (.ok (.d (.int (sgN x))) S) := by
  unfold G.F_sign G.f_sign
  exact run_wp (wp_ret (e_sgn rfl) rfl)
theorem e_less {u v : Nat} {x y : Rat} (hx : Ok x) (hy : Ok y) (h1 : ρ[u]? = some (some (rS x))) (h2 : ρ[v]? = some (some (rS y))) : (eBin (cB gLt) (eBin gMulT (eBin gIxB (eVar u) (eCon (.int 0))) (eBin gIxB (eVar v) (eCon (.int 1)))) (eBin gMulT (eBin gIxB (eVar v) (eCon (.int 0))) (eBin gIxB (eVar u) (eCon (.int 1))))) ρ S = some (.ok (.d (.bool (decide (x < y)))) S) := by
  obtain ⟨b, hb, b1, b2, b3, b4⟩ := ok_parts hx hy
  have m1 := mulOk_bd b1 b4 (by omega)
  have m2 := mulOk_bd b3 b2 (by omega)
  refine e_cmp (e_bin (x := .d (.int x.num)) (y := .d (.int (y.den : Int))) (z := .d (.int (x.num * y.den))) (e_bin (e_var h1) rfl rfl) (e_bin (e_var h2) rfl rfl) (by rw [gMulT_i, if_pos m1])) (e_bin (x := .d (.int y.num)) (y := .d (.int (x.den : Int))) (z := .d (.int (y.num * x.den))) (e_bin (e_var h2) rfl rfl) (e_bin (e_var h1) rfl rfl) (by rw [gMulT_i, if_pos m2])) ?_
  rw [gLt_i]
  congr 1
  exact decide_eq_decide.mpr (Rat.lt_iff x y).symm
theorem six (x : Rat) : Rat.divInt (6 * x.num) (-6 * x.den) = -x := by
  have : (-6 * (x.den : Int)) = -(6 * (x.den : Int)) := by omega
  rw [this, Rat.divInt_neg', show -(6 * x.num) = 6 * (-x.num) by omega, Rat.divInt_mul_left (by decide), ← Rat.neg_divInt, Rat.num_divInt_den]
theorem ne_ownD (S : Sto) {k : Nat} {ds : List PyData} (h : ∀ d ∈ ds, nd k d = true) (hk : k ≤ 60) : gNe S (.own (ds.map SV.d)) (.own (ds.map SV.d)) = some false := by
  have a1 : allD (ds.map SV.d) = some ds := (allD_map' (fun d => d) ds).trans (by rw [List.map_id'])
  have hn : nd (k + 1) (.list ds) = true := by simpa only [nd, List.all_eq_true] using h
  have s := nd_shaped hn (by omega)
  have e := eqv_refl (k + 1) _ hn
  simp only [gNe, dat?, a1, Option.map_some, Option.bind_some, s, Bool.and_self, if_true, e]
  rfl
/-! what is drawn -/
/-- e draws a fraction -/
def Drw (m : Nat) (e : Rho → Mo SV) : Prop := ∀ (ρ : Rho) (S : Sto) (t : Nat), ρ[2]? = some (some (.ref m)) → Bs S m t → t ≤ 800000 → ∃ (x : Rat) (S2 : Sto), Sz 4 x ∧ Bs S2 m (t + 3) ∧ e ρ S = some (.ok (rS x) S2)
theorem drw_frac (m : Nat) : Drw m (eCall 1 G.F__law_frac [] (aCons (eVarV 2) aNil)) := fun ρ S t h2 B ht => by
  obtain ⟨x, S2, x1, B2, e2⟩ := law_frac_eq B (by omega)
  exact ⟨x, S2, x1, B2.mono (by omega), e_call (e_one (e_varV h2 rfl)) rfl rfl e2⟩
theorem sz40 : Sz 4 0 := sz0.mono (by omega)
theorem drw_a (m : Nat) : Drw m (eIf (bB (eBin (cB gGt) (eCall 2 G.F__law_draw [] (aCons (eVarV 2) (aCons (eCon (.int 3)) aNil))) (eCon (.int 0)))) (eCall 1 G.F__law_frac [] (aCons (eVarV 2) aNil)) (eTup (aCons (eCon (.int 0)) (aCons (eCon (.int 1)) aNil)))) := fun ρ S t h2 B ht => by
  obtain ⟨r, S1, r1, B1, e1⟩ := draw_bs B (by omega) (show (0 : Int) < 3 by omega)
  have c := b_cmp (ρ := ρ) (S := S) (g := eCon (.int 0)) (e_call (n := 2) (e_cons (e_varV (i := 2) h2 rfl) (e_one (f := eCon (.int 3)) rfl)) rfl rfl e1) rfl (gGt_i S1 r 0)
  by_cases h : (0 : Int) < (r : Int)
  · rw [decide_eq_true h] at c
    obtain ⟨x, S2, x1, B2, e2⟩ := law_frac_eq B1 (by omega)
    exact ⟨x, S2, x1, B2.mono (by omega), e_ifT c (e_call (e_one (e_varV h2 rfl)) rfl rfl e2)⟩
  · rw [decide_eq_false h] at c
    exact ⟨0, S1, sz40, B1.mono (by omega), e_ifF c (e_tup (e_cons rfl (e_one rfl)) rfl (by simp))⟩
theorem drw_b (m : Nat) : Drw m (eIf (bB (eBin (cB gEq) (eCall 2 G.F__law_draw [] (aCons (eVarV 2) (aCons (eCon (.int 2)) aNil))) (eCon (.int 0)))) (eCall 1 G.F__law_frac [] (aCons (eVarV 2) aNil)) (eTup (aCons (eCon (.int 0)) (aCons (eCon (.int 1)) aNil)))) := fun ρ S t h2 B ht => by
  obtain ⟨r, S1, r1, B1, e1⟩ := draw_bs B (by omega) (show (0 : Int) < 2 by omega)
  have c := b_cmp (ρ := ρ) (S := S) (g := eCon (.int 0)) (e_call (n := 2) (e_cons (e_varV (i := 2) h2 rfl) (e_one (f := eCon (.int 2)) rfl)) rfl rfl e1) rfl (gEq_i S1 r 0)
  cases h : ((r : Int) == 0) with
  | true =>
    rw [h] at c
    obtain ⟨x, S2, x1, B2, e2⟩ := law_frac_eq B1 (by omega)
    exact ⟨x, S2, x1, B2.mono (by omega), e_ifT c (e_call (e_one (e_varV h2 rfl)) rfl rfl e2)⟩
  | false =>
    rw [h] at c
    exact ⟨0, S1, sz40, B1.mono (by omega), e_ifF c (e_tup (e_cons rfl (e_one rfl)) rfl (by simp))⟩
/-- a row of drawn fractions -/
theorem row_eq {m t n v w : Nat} {e : Rho → Mo SV} (he : Drw m e) (B : Bs S m t) (ht : t ≤ 700000) (hn : n ≤ 20) (h2 : ρ[2]? = some (some (.ref m))) (hv : ρ[v]? = some (some (nI n))) (hw : w ≠ 2) (hwl : w < ρ.length) : ∃ (xs : List Rat) (S2 : Sto), xs.length = n ∧ (∀ x ∈ xs, Sz 4 x) ∧ Bs S2 m (t + 3 * n) ∧ (eCal gTuple (aCons (eLc (VL.iRng1 (aCons (eVar v) aNil)) (gNm w) bYes e [w]) aNil)) ρ S = some (.ok (.d (tR xs)) S2) := by
  obtain ⟨ys, S2, e, k⟩ := lc_draw (ρ := ρ) (S := S) (S1 := S) (it := VL.iRng1 (aCons (eVar v) aNil)) (tf := gNm w) (vs := [w]) (elt := e) (xs := (List.range n).map nI) (fun j acc S => ∃ ps : List Rat, ps.length = j ∧ (∀ x ∈ ps, Sz 4 x) ∧ acc = ps.map rS ∧ Bs S m (t + 3 * j) ∧ j ≤ n) (iRng_n (e_var hv) (by omega)) (by rw [sizeLine_eq, List.length_map, List.length_range]; omega) ⟨[], rfl, (fun _ m => by cases m), rfl, B, by omega⟩ (by
    rintro j x hx acc S ⟨ps, hps, hz, rfl, B, hjn⟩
    rw [List.getElem?_map, Option.map_eq_some_iff] at hx
    obtain ⟨k, hk, rfl⟩ := hx
    obtain ⟨hj, rfl⟩ := List.getElem?_eq_some_iff.mp hk
    rw [List.length_range] at hj
    obtain ⟨x, S2, x1, B2, e2⟩ := he ((wipeR ρ [w]).set w (some (nI (List.range n)[j]))) S (t + 3 * j) (by simp [wipeR, hw, h2]) B (by omega)
    refine ⟨_, rS x, S2, rfl, e2, ps ++ [x], by simp [hps], fun y hy => ?_, by simp, B2.mono (by omega), by omega⟩
    rcases List.mem_append.mp hy with hy | hy
    · exact hz y hy
    · rw [List.mem_singleton.mp hy]; exact x1)
  rw [List.length_map, List.length_range] at k
  obtain ⟨ps, hps, hz, rfl, B2, _⟩ := k
  exact ⟨ps, S2, hps, hz, B2, e_cal (e_one e) (gTuple_o S2 rD ps)⟩
/-- rows of them -/
theorem rows_eq {m t n c u v : Nat} {e : Rho → Mo SV} (he : Drw m e) (B : Bs S m t) (ht : t ≤ 600000) (hn : n ≤ 20) (hc : c ≤ 20) (h2 : ρ[2]? = some (some (.ref m))) (hu : ρ[u]? = some (some (nI n))) (hv : ρ[v]? = some (some (nI c))) (hv2 : v ≠ 11) (hl : ρ.length = 18) : ∃ (R : List (List Rat)) (S2 : Sto), R.length = n ∧ Mx c 4 R ∧ Bs S2 m (t + 3 * c * n) ∧ (eLc (VL.iRng1 (aCons (eVar u) aNil)) (gNm 11) bYes (eCal gTuple (aCons (eLc (VL.iRng1 (aCons (eVar v) aNil)) (gNm 13) bYes e [13]) aNil)) [11]) ρ S = some (.ok (.own (R.map fun r => SV.d (tR r))) S2) := by
  obtain ⟨ys, S2, e, k⟩ := lc_draw (ρ := ρ) (S := S) (S1 := S) (it := VL.iRng1 (aCons (eVar u) aNil)) (tf := gNm 11) (vs := [11]) (elt := (eCal gTuple (aCons (eLc (VL.iRng1 (aCons (eVar v) aNil)) (gNm 13) bYes e [13]) aNil))) (xs := (List.range n).map nI) (fun j acc S => ∃ R : List (List Rat), R.length = j ∧ Mx c 4 R ∧ acc = (R.map fun r => SV.d (tR r)) ∧ Bs S m (t + 3 * c * j) ∧ j ≤ n) (iRng_n (e_var hu) (by omega)) (by rw [sizeLine_eq, List.length_map, List.length_range]; omega) ⟨[], rfl, ⟨(fun _ m => by cases m), (fun _ m => by cases m)⟩, rfl, B, by omega⟩ (by
    rintro j x hx acc S ⟨R, hR, mx, rfl, B, hjn⟩
    rw [List.getElem?_map, Option.map_eq_some_iff] at hx
    obtain ⟨k, hk, rfl⟩ := hx
    obtain ⟨hj, rfl⟩ := List.getElem?_eq_some_iff.mp hk
    rw [List.length_range] at hj
    have tb : 3 * c * j ≤ 60 * 20 := Nat.mul_le_mul (by omega) (by omega)
    obtain ⟨xs, S2, x1, x2, B2, e2⟩ := row_eq (ρ := (wipeR ρ [11]).set 11 (some (nI (List.range n)[j]))) (v := v) (w := 13) he B (by omega) hc (by simp [wipeR, h2]) (by simp [wipeR, Ne.symm hv2, hv]) (by decide) (by simp [wipeR, hl])
    refine ⟨_, .d (tR xs), S2, rfl, e2, R ++ [xs], by simp [hR], ⟨fun r hr => ?_, fun r hr => ?_⟩, by simp, B2.mono (by rw [Nat.mul_succ]; omega), by omega⟩
    · rcases List.mem_append.mp hr with hr | hr
      · exact mx.wid r hr
      · rw [List.mem_singleton.mp hr]; exact x1
    · rcases List.mem_append.mp hr with hr | hr
      · exact mx.sz r hr
      · rw [List.mem_singleton.mp hr]; exact x2)
  rw [List.length_map, List.length_range] at k
  obtain ⟨R, hR, mx, rfl, B2, _⟩ := k
  exact ⟨R, S2, hR, mx, B2, e⟩
theorem sumL_sm (f : Nat → Rat) : ∀ n, sumL ((List.range n).map f) = sm n f
  | 0 => rfl
  | n + 1 => by
    have := sumL_sm f n
    unfold sumL at this ⊢
    rw [List.range_succ, List.map_append, List.foldl_append, this]
    rfl
end
end M

end
section
set_option Elab.async false
set_option linter.all false
set_option maxRecDepth 100000
/-! K4: more parts of the law. -/
namespace M
open PySem PySem.Spec PyProof.Rows L2 VL
theorem wp_seqI {s t : Stm} {ρ : Rho} {S : Sto} {Q : VL.Fl → Prop} (h : Wp (s ρ S) fun r => ∃ ρ2 S2, r = .nx ρ2 S2 ∧ Wp (t ρ2 S2) Q) : Wp (sSeq s t ρ S) Q := by
  obtain ⟨r, e, ρ2, S2, rfl, q⟩ := h
  exact wp_nx e q
theorem wp_forE {tf : TgF} {body : Stm} {it : Rho → Mo (List SV)} {xs : List SV} {ρ : Rho} {S S1 : Sto} (I : Nat → Rho → Sto → Prop) (hi : it ρ S = some (.ok xs S1)) (h0 : I 0 ρ S1) (hb : ∀ (i : Nat) x, xs[i]? = some x → ∀ ρ S, I i ρ S → ∃ ρ', tf x ρ = some ρ' ∧ Wp (body ρ' S) fun r => ∃ ρ2 S2, (r = .nx ρ2 S2 ∨ r = .ct ρ2 S2) ∧ I (i + 1) ρ2 S2) : Wp (sFor it tf body ρ S) fun r => ∃ ρ2 S2, r = .nx ρ2 S2 ∧ I xs.length ρ2 S2 := by
  obtain ⟨ρ2, S2, k, e⟩ := forL_inv I xs hb ρ S1 h0
  exact ⟨_, by show bindS ρ (it ρ S) _ = _; rw [hi]; exact e, ρ2, S2, rfl, k⟩
theorem st_ixZ {ρ : Rho} {S S1 : Sto} {i j : Nat} {k : Int} {xs : List SV} {y : SV} {f fi : Rho → Mo SV} (hx : ρ[i]? = some (some (.own xs))) (hv : f ρ S = some (.ok y S1)) (hk : fi ρ S1 = some (.ok (.d (.int k)) S1)) (h : ixN xs.length k = some j) : sStore (lVar i) fi f ρ S = some (.nx (ρ.set i (some (.own (xs.set j y)))) S1) := by
  unfold sStore lVar
  simp only [hv, bindS, hx, hk, Lo.get, Lo.put, getP, putP, Option.bind_some, Option.map_some, h]
theorem ixN_m {n k : Nat} (h : k ≤ n) (h0 : 0 < k) : ixN n (-(k : Int)) = some (n - k) := by
  unfold ixN
  rw [if_neg (by omega), if_pos (by omega)]
  congr 1
  omega
section
variable {S : Sto} {ρ : Rho} {R : List (List Rat)} {c m : Nat}
abbrev rowsO (R : List (List Rat)) : SV := .own (R.map fun r => SV.d (tR r))
abbrev rowsD (R : List (List Rat)) : SV := .d (kD false (R.map fun r => kD true (r.map rD)))
theorem frz_rowsO (R : List (List Rat)) : frz (rowsO R) = some (rowsD R) := by
  have := frz_own (R.map tR)
  rw [List.map_map] at this
  exact this
theorem ix_rowsO (S : Sto) {i : Nat} (h : i < R.length) : gIxB S (rowsO R) (nI i) = some (.d (tR (R.getD i []))) := atI_getD (fun r : List Rat => SV.d (tR r)) R [] h
theorem ix_rowsM (S : Sto) {k : Nat} (h : k ≤ R.length) (h0 : 0 < k) : gIxB S (rowsO R) (.d (.int (-(k : Int)))) = some (.d (tR (R.getD (R.length - k) []))) := by
  show atI (R.map fun r => SV.d (tR r)) (-(k : Int)) = _
  unfold atI
  rw [List.length_map, ixN_m h h0, Option.bind_some, List.getElem?_map, List.getElem?_eq_getElem (by omega), getD_eq (show R.length - k < R.length by omega)]
  rfl
theorem ix_tR (S : Sto) {r : List Rat} {j : Nat} (h : j < r.length) : gIx S (.d (tR r)) (nI j) = some (rS (r.getD j 0)) := ixV_kD S true rD r 0 h
theorem ixB_tR (S : Sto) {r : List Rat} {j : Nat} (h : j < r.length) : gIxB S (.d (tR r)) (nI j) = some (rS (r.getD j 0)) := ix_kD S true rD r 0 h
/-- the first row and twice the last but one -/
def lastL (R : List (List Rat)) (c : Nat) : List Rat := (List.range c).map fun j => en R 0 j + 2 * en R (R.length - 2) j
theorem last_sz (mx : Mx c 4 R) : ∀ x ∈ lastL R c, Sz 11 x := fun x hx => by
  obtain ⟨j, _, rfl⟩ := List.mem_map.mp hx
  have two : Sz 2 2 := ⟨show (2 : Int).natAbs < 4 by decide, show (1 : Int).natAbs < 4 by decide⟩
  exact (mx.en (by omega) 0 j).add (two.mul (mx.en (by omega) _ j)) |>.mono (by omega)
theorem last_eq (mx : Mx c 4 R) (h2 : 2 ≤ R.length) (hc : c ≤ 20) (h6 : ρ[6]? = some (some (nI c))) (h7 : ρ[7]? = some (some (rowsO R))) (hl : ρ.length = 18) : (eCal gTuple (aCons (eLc (VL.iRng1 (aCons (eVar 6) aNil)) (gNm 13) bYes (eCall 2 G.F__law_add [] (aCons (eBin gIx (eBin gIxB (eVar 7) (eCon (.int 0))) (eVar 13)) (aCons (eCall 2 G.F__law_mul [] (aCons (eTup (aCons (eCon (.int 2)) (aCons (eCon (.int 1)) aNil))) (aCons (eBin gIx (eBin gIxB (eVar 7) (eUn gNeg (eCon (.int 2)))) (eVar 13)) aNil))) aNil))) [13]) aNil)) ρ S = some (.ok (.d (tR (lastL R c))) S) := by
  have lc : (eLc (VL.iRng1 (aCons (eVar 6) aNil)) (gNm 13) bYes (eCall 2 G.F__law_add [] (aCons (eBin gIx (eBin gIxB (eVar 7) (eCon (.int 0))) (eVar 13)) (aCons (eCall 2 G.F__law_mul [] (aCons (eTup (aCons (eCon (.int 2)) (aCons (eCon (.int 1)) aNil))) (aCons (eBin gIx (eBin gIxB (eVar 7) (eUn gNeg (eCon (.int 2)))) (eVar 13)) aNil))) aNil))) [13]) ρ S = some (.ok (.own ((lastL R c).map rS)) S) := by
    rw [lastL, List.map_map]
    refine lc_map (ρ := ρ) (S := S) (S1 := S) (it := VL.iRng1 (aCons (eVar 6) aNil)) (tf := gNm 13) (vs := [13]) (List.range c) nI (fun j => rS (en R 0 j + 2 * en R (R.length - 2) j)) (iRng_n (e_var h6) (by omega)) (by rw [sizeLine_eq, List.length_range]; omega) fun j hj => ⟨(wipeR ρ [13]).set 13 (some (nI j)), rfl, ?_⟩
    have hj := List.mem_range.mp hj
    have e7 : ((wipeR ρ [13]).set 13 (some (nI j)))[7]? = some (some (rowsO R)) := by simp [wipeR, h7]
    have e13 : ((wipeR ρ [13]).set 13 (some (nI j)))[13]? = some (some (nI j)) := by simp [wipeR, hl]
    have z1 : Sz 4 (en R 0 j) := mx.en (by omega) 0 j
    have z2 : Sz 4 (en R (R.length - 2) j) := mx.en (by omega) _ j
    have two : Sz 2 2 := ⟨show (2 : Int).natAbs < 4 by decide, show (1 : Int).natAbs < 4 by decide⟩
    have i1 := ix_rowsO (R := R) S (i := 0) (by omega)
    have i2 := ix_rowsM (R := R) S (k := 2) h2 (by omega)
    have j1 := ix_tR S (r := R.getD 0 []) (j := j) (by rw [mx.wid _ (getD_mem (by omega))]; exact hj)
    have j2 := ix_tR S (r := R.getD (R.length - 2) []) (j := j) (by rw [mx.wid _ (getD_mem (by omega))]; exact hj)
    exact e_call (e_cons (e_bin (e_bin (y := nI 0) (e_var e7) rfl i1) (e_var e13) j1) (e_one (e_call (e_cons (x := rS 2) (e_tup (e_cons rfl (e_one rfl)) rfl (by simp)) (e_one (e_bin (e_bin (y := .d (.int (-((2 : Nat) : Int)))) (e_var e7) (e_un rfl rfl) i2) (e_var e13) j2))) rfl rfl (lmul_eq (two.ok (by omega)) (z2.ok (by omega)) S)))) rfl rfl (ladd_eq (z1.ok (by omega)) ((two.mul z2).ok (by omega)) S)
  exact e_cal (e_one lc) (gTuple_o S rD (lastL R c))
/-- a row put at the end -/
theorem Mx.last {b : Nat} (mx : Mx c b R) {r : List Rat} (hl : r.length = c) (hr : ∀ x ∈ r, Sz b x) (i : Nat) : Mx c b (R.set i r) := by
  constructor
  · intro q hq
    rcases List.mem_or_eq_of_mem_set hq with hq | rfl
    · exact mx.wid q hq
    · exact hl
  · intro q hq
    rcases List.mem_or_eq_of_mem_set hq with hq | rfl
    · exact mx.sz q hq
    · exact hr
/-- what is counted -/
theorem cnt_b (S : Sto) (bs : List Bool) : gCnt S (.own (bs.map fun b => SV.d (.bool b))) (.d (.bool true)) = some (nI (bs.countP id)) := by
  have a1 : allD (bs.map fun b => SV.d (.bool b)) = some (bs.map PyData.bool) := allD_bools bs
  have s1 : SeqAt.shaped (.list (bs.map PyData.bool)) = true := nd_shaped (k := 1) (by
    simp only [nd, List.all_map, List.all_eq_true]
    exact fun b _ => nd_bool 0 b) (by omega)
  have s2 : SeqAt.shaped (.bool true) = true := nd_shaped (k := 0) (nd_bool 0 true) (by omega)
  have e : (bs.map PyData.bool).countP (fun z => PyData.eqv z (.bool true)) = bs.countP id := by
    rw [List.countP_map]
    congr 1
    funext b
    cases b <;> simp [PyData.eqv]
  unfold gCnt
  simp only [lst?, Option.bind_some, a1, s1, s2, Bool.and_self, if_true, e]
theorem e_cnt {f : Rho → Mo SV} {bs : List Bool} (h : f ρ S = some (.ok (.own (bs.map fun b => SV.d (.bool b))) S)) : eCnt f (eCon (.bool true)) ρ S = some (.ok (nI (bs.countP id)) S) := by
  unfold eCnt
  rw [h, VL.bindM_ok]
  rw [if_pos (by rfl)]
  rw [show (eCon (.bool true)) ρ S = some (Res.ok (SV.d (.bool true)) S) from rfl]
  rw [VL.bindM_ok, cnt_b]
  rfl
/-- is the first column anything -/
theorem grown0_eq (mx : Mx c 11 R) (hc : 0 < c) (hm : R.length ≤ 20) (h7 : ρ[7]? = some (some (rowsD R))) (hl : ρ.length = 18) : (eBin (cB gGt) (eCnt (eLc (VL.iSeq (eVar 7)) (gNm 17) bYes (eBin (cB gNe) (eBin gIxB (eBin gIxB (eVar 17) (eCon (.int 0))) (eCon (.int 0))) (eCon (.int 0))) [17]) (eCon (.bool true))) (eCon (.int 0))) ρ S = some (.ok (.d (.bool (grownL R 0))) S) := by
  have lc : (eLc (VL.iSeq (eVar 7)) (gNm 17) bYes (eBin (cB gNe) (eBin gIxB (eBin gIxB (eVar 17) (eCon (.int 0))) (eCon (.int 0))) (eCon (.int 0))) [17]) ρ S = some (.ok (.own ((R.map fun r => !decide (r.getD 0 0 = 0)).map fun b => SV.d (.bool b))) S) := by
    rw [List.map_map]
    refine lc_map (ρ := ρ) (S := S) (S1 := S) (it := VL.iSeq (eVar 7)) (tf := gNm 17) (vs := [17]) R (fun r => SV.d (tR r)) (fun r => SV.d (.bool (!decide (r.getD 0 0 = 0)))) ((iSeq_kD (S1 := S) (e_var h7)).trans (by rw [List.map_map]; rfl)) (by rw [sizeLine_eq]; omega) fun r hr => ⟨(wipeR ρ [17]).set 17 (some (.d (tR r))), rfl, ?_⟩
    have e17 : ((wipeR ρ [17]).set 17 (some (SV.d (tR r))))[17]? = some (some (.d (tR r))) := by simp [wipeR, hl]
    exact e_cmp (e_bin (y := .d (.int 0)) (e_bin (y := nI 0) (e_var e17) rfl (ixB_tR S (by rw [mx.wid r hr]; exact hc))) rfl (ix_num S _)) rfl (ne0_num S _)
  refine (e_cmp (e_cnt lc) rfl (gGt_i S _ _)).trans ?_
  congr 5
  unfold grownL
  rw [if_pos rfl, List.countP_map]
  cases h : R.any fun r => !decide (r.getD 0 0 = 0) with
  | true =>
    obtain ⟨r, hr, h1⟩ := List.any_eq_true.mp h
    have := List.countP_pos_iff (p := fun r : List Rat => !decide (r.getD 0 0 = 0)).mpr ⟨r, hr, h1⟩
    refine decide_eq_true ?_
    show (0 : Int) < ((R.countP fun r => !decide (r.getD 0 0 = 0) : Nat) : Int)
    omega
  | false =>
    have : R.countP (fun r => !decide (r.getD 0 0 = 0)) = 0 := by
      rw [List.countP_eq_zero]
      intro r hr h1
      rw [List.any_eq_false] at h
      exact h r hr h1
    refine decide_eq_false ?_
    show ¬ (0 : Int) < ((R.countP fun r => !decide (r.getD 0 0 = 0) : Nat) : Int)
    omega
/-- is column j one more -/
theorem grownJ_eq {j : Nat} (mx : Mx c 11 R) (hc : c ≤ 5) (m1 : 1 ≤ R.length) (hm : R.length ≤ 20) (j0 : j ≠ 0) (hj : j < c) (h7 : ρ[7]? = some (some (rowsD R))) (h13 : ρ[13]? = some (some (nI j))) (hl : ρ.length = 18) : (eBin (cB gIsN) (eCall 2 G.F__law_solve [] (aCons (eLc (VL.iSeq (eVar 7)) (gNm 17) bYes (eSl (eVar 17) pNone (pSome (eVar 13))) [17]) (aCons (eLc (VL.iSeq (eVar 7)) (gNm 17) bYes (eBin gIx (eVar 17) (eVar 13)) [17]) aNil))) (eCon (.none))) ρ S = some (.ok (.d (.bool (grownL R j))) S) := by
  have it : (VL.iSeq (eVar 7)) ρ S = some (.ok (R.map fun r => SV.d (tR r)) S) := (iSeq_kD (S1 := S) (e_var h7)).trans (by rw [List.map_map]; rfl)
  have l1 : (eLc (VL.iSeq (eVar 7)) (gNm 17) bYes (eSl (eVar 17) pNone (pSome (eVar 13))) [17]) ρ S = some (.ok (rowsO (R.map (List.take j))) S) := by
    show _ = some (Res.ok (SV.own ((R.map (List.take j)).map fun r => SV.d (tR r))) S)
    rw [List.map_map]
    refine lc_map (ρ := ρ) (S := S) (S1 := S) (it := VL.iSeq (eVar 7)) (tf := gNm 17) (vs := [17]) R (fun r => SV.d (tR r)) (fun r => SV.d (tR (r.take j))) it (by rw [sizeLine_eq]; omega) fun r hr => ⟨(wipeR ρ [17]).set 17 (some (.d (tR r))), rfl, ?_⟩
    have e17 : ((wipeR ρ [17]).set 17 (some (SV.d (tR r))))[17]? = some (some (.d (tR r))) := by simp [wipeR, hl]
    have e13 : ((wipeR ρ [17]).set 17 (some (SV.d (tR r))))[13]? = some (some (nI j)) := by simp [wipeR, h13]
    refine e_sl (e_var e17) rfl (o_some' (e_var e13)) ?_
    show some (SV.d (.tuple (cutL (r.map rD) none (some (j : Int))))) = _
    rw [cut_to _ (by omega), Int.toNat_natCast, ← List.map_take]
  have l2 : (eLc (VL.iSeq (eVar 7)) (gNm 17) bYes (eBin gIx (eVar 17) (eVar 13)) [17]) ρ S = some (.ok (.own ((R.map fun r => r.getD j 0).map rS)) S) := by
    rw [List.map_map]
    refine lc_map (ρ := ρ) (S := S) (S1 := S) (it := VL.iSeq (eVar 7)) (tf := gNm 17) (vs := [17]) R (fun r => SV.d (tR r)) (fun r => rS (r.getD j 0)) it (by rw [sizeLine_eq]; omega) fun r hr => ⟨(wipeR ρ [17]).set 17 (some (.d (tR r))), rfl, ?_⟩
    have e17 : ((wipeR ρ [17]).set 17 (some (SV.d (tR r))))[17]? = some (some (.d (tR r))) := by simp [wipeR, hl]
    have e13 : ((wipeR ρ [17]).set 17 (some (SV.d (tR r))))[13]? = some (some (nI j)) := by simp [wipeR, h13]
    exact e_bin (e_var e17) (e_var e13) (ix_tR S (by rw [mx.wid r hr]; exact hj))
  have ag : Aug j 11 (R.map (List.take j)) (R.map fun r => r.getD j 0) := Aug.of (fun r hr => by
    obtain ⟨q, hq, rfl⟩ := List.mem_map.mp hr
    rw [List.length_take, mx.wid q hq]; omega) (fun r hr x hx => by
    obtain ⟨q, hq, rfl⟩ := List.mem_map.mp hr
    exact mx.sz q hq x (List.mem_of_mem_take hx)) (fun x hx => by
    obtain ⟨q, hq, rfl⟩ := List.mem_map.mp hx
    exact mx.sz q hq _ (getD_mem (by rw [mx.wid q hq]; exact hj))) (by simp) (by simp; omega) (by simp; omega) (by omega) (Nat.le_trans (bnd_le (show j ≤ 5 by omega)) (by decide))
  have sv := law_solve_eq (k := false) (kr := true) (kb := false) ag S
  have f1 := frz_rowsO (R.map (List.take j))
  have f2 := frz_rS (R.map fun r => r.getD j 0)
  have gr : grownL R j = (solL (aug (R.map (List.take j)) (R.map fun r => r.getD j 0)) j).isNone := by
    unfold grownL
    rw [if_neg j0]
  rw [gr]
  generalize hx : solL (aug (R.map (List.take j)) (R.map fun r => r.getD j 0)) j = o at sv
  have fz : frzs [rowsO (R.map (List.take j)), .own ((R.map fun r => r.getD j 0).map rS)] = some [rowsD (R.map (List.take j)), .d (lR (R.map fun r => r.getD j 0))] := by
    rw [frzs_cons, f1, Option.bind_some, frzs_cons, f2]
    rfl
  cases o with
  | none => exact e_cmp (e_call (e_cons l1 (e_one l2)) rfl fz sv) rfl rfl
  | some x => exact e_cmp (e_call (e_cons l1 (e_one l2)) rfl fz sv) rfl rfl
/-- the told solution solves -/
theorem solves {x b : List Rat} (ag : Aug c 11 R b) (h : solL (aug R b) c = some x) : x.length = c ∧ ∀ i, i < R.length → sm c (fun j => en R i j * x.getD j 0) = b.getD i 0 := by
  obtain ⟨xl, cn⟩ := (solL_told ag.mx).some x h
  refine ⟨xl, fun i hi => ?_⟩
  have al := aug_len ag.len
  have hr := cn.sol (lrow (aug R b)[i]) (List.mem_map_of_mem (List.getElem_mem (by omega)))
  have ee : ∀ j, lrow (aug R b)[i] j = en (aug R b) i j := fun j => by unfold en lrow; rw [getD_eq (show i < _ by omega)]
  have e1 := fun j => en_aug ag.wid ag.len hi j
  rw [ee, e1, if_neg (by omega), if_pos rfl] at hr
  rw [← hr]
  exact sm_congr fun j hj => by rw [ee, e1, if_pos hj]; rfl
end
end M

end
section
set_option Elab.async false
set_option linter.all false
set_option maxRecDepth 100000
/-! K5: the law. -/
namespace M
open PySem PySem.Spec PyProof.Rows L2 VL
theorem wp_ghA {i : Nat} {s : Stm} {ρ : Rho} {S : Sto} {Q : VL.Fl → Prop} {zs ys : List SV} (h : ρ[i]? = some (some (.own zs))) (hf : frzs zs = some ys) (q : Wp (s (ρ.set i (some (.ref S.length))) (S ++ [ys])) Q) : Wp (ghA i s ρ S) Q := by
  obtain ⟨r, e, z⟩ := q
  exact ⟨r, by unfold ghA; simp only [h, hf, Option.bind_some]; exact e, z⟩
theorem sdB_rD' (x : Rat) : sdB 1 (rD x) = true := by simp [sdB, rD]
/-- what is told of over -/
theorem over_told {x y : Rat} (zx : Sz 4 x) (zy : Sz 4 y) (S : Sto) {ρ : Rho} (h3 : ρ[3]? = some (some (rS x))) (h4 : ρ[4]? = some (some (rS y))) : ∃ d, nd 1 d = true ∧ (eCall 3 G.F__law_told [] (aCons (eFn "over") (aCons (eVarV 3) (aCons (eVarV 4) aNil)))) ρ S = some (.ok (.d d) S) ∧
    (eIf (bB (eBin (cB gNe) (eBin gIxB (eVar 4) (eCon (.int 0))) (eCon (.int 0)))) (eCall 2 G.F__law_div [] (aCons (eVarV 3) (aCons (eVarV 4) aNil))) (eCon (.str "value"))) ρ S = some (.ok (.d d) S) := by
  have n0 := ne0_num S y
  have c := b_cmp (ρ := ρ) (S := S) (f := eBin gIxB (eVar 4) (eCon (.int 0))) (g := eCon (.int 0)) (e_bin (e_var h4) rfl (ix_num S y)) rfl n0
  have args : (aCons (eFn "over") (aCons (eVarV 3) (aCons (eVarV 4) aNil))) ρ S = some (.ok [.fn "over", rS x, rS y] S) := e_cons rfl (e_cons (e_varV h3 rfl) (e_one (e_varV h4 rfl)))
  have args2 : (aCons (eVarV 3) (aCons (eVarV 4) aNil)) ρ S = some (.ok [rS x, rS y] S) := e_cons (e_varV h3 rfl) (e_one (e_varV h4 rfl))
  by_cases h0 : y = 0
  · rw [decide_eq_true h0] at c
    have no := over_no (S := S) (x := x) (zx.ok (by omega))
    rw [← h0] at no
    exact ⟨.str "value", nd_str okx_value, e_call args rfl rfl (told_value look_v no), e_ifF c rfl⟩
  · rw [decide_eq_false h0] at c
    exact ⟨rD (x / y), nd_rD 0 _, e_call args rfl rfl (told_ok look_v (over_eq (zx.ok (by omega)) (zy.ok (by omega)) h0 S)), e_ifT c (e_call args2 rfl rfl (ldiv_eq (zx.ok (by omega)) (zy.ok (by omega)) h0 S))⟩
theorem law_true (ns : List Int) (hl : ns.length ≤ 63) (hb : ∀ z ∈ ns, Bd 2000000 z) : ∃ S, G.F_law [.scr ns] [] = some (.ok (.d (.bool true)) S) := by
  have hz := sizeLine_eq
  suffices h : Wp (G.f_law (rho0 18 [.scr ns]) []) fun r => ∃ x S', r = .rt x S' ∧ x = .d (.bool true) by
    obtain ⟨x, S', e, rfl⟩ := run_wp2 (P := fun x S' => x = .d (.bool true)) h
    exact ⟨S', e⟩
  unfold G.f_law
  have hN : ∃ N : Nat, N ≤ 6 ∧ (VL.iRng1 (aCons (eCal gMax2 (aCons (eCon (.int 1)) (aCons (eCal gMin2 (aCons (eCon (.int 6)) (aCons (eCal gLen (aCons (eVar 0) aNil)) aNil))) aNil))) aNil)) (rho0 18 [.scr ns]) [] = some (.ok ((List.range N).map nI) []) := by
    have g1 := gMin_n [] 6 ns.length
    have g2 := gMax_n [] 1 (min 6 ns.length)
    refine ⟨max 1 (min 6 ns.length), by omega, iRng_n (e_cal (e_cons rfl (e_one (e_cal (e_cons rfl (e_one (e_cal (z := nI ns.length) (e_one rfl) (by simp)))) g1))) g2) (by omega)⟩
  obtain ⟨N, hN, e0⟩ := hN
  refine wp_for (fun _ ρ _ => ∃ s1 s2 s3 s4 s5 s6 s7 s8 s9 s10 s11 s12 s13 s14 s15 s16 s17, ρ = [some (.scr ns), s1, s2, s3, s4, s5, s6, s7, s8, s9, s10, s11, s12, s13, s14, s15, s16, s17]) e0 ⟨_, _, _, _, _, _, _, _, _, _, _, _, _, _, _, _, _, rfl⟩ ?_ ?_
  · rintro k x hx ρ S ⟨s1, s2, s3, s4, s5, s6, s7, s8, s9, s10, s11, s12, s13, s14, s15, s16, s17, rfl⟩
    rw [List.getElem?_map, Option.map_eq_some_iff] at hx
    obtain ⟨k', hk, rfl⟩ := hx
    obtain ⟨hj, rfl⟩ := List.getElem?_eq_some_iff.mp hk
    rw [List.length_range] at hj
    rw [List.getElem_range]
    refine ⟨[some (.scr ns), some (nI k), s2, s3, s4, s5, s6, s7, s8, s9, s10, s11, s12, s13, s14, s15, s16, s17], rfl, ?_⟩
    obtain ⟨b, d, hb1, hd1, e1⟩ := bag_eq ns k (by omega) hb S
    refine wp_set (x := .own (bagL 0 b 0 d)) (S1 := S) (e_call (e_cons rfl (e_one rfl)) rfl rfl e1) ?_
    refine wp_ghA (zs := bagL 0 b 0 d) rfl rfl ?_
    have B0 : Bs (S ++ [bagL 0 b 0 d]) S.length 0 := ⟨0, b, 0, d, by simp, hb1, by omega, by omega, hd1⟩
    generalize hm : S.length = m at *
    generalize S ++ [bagL 0 b 0 d] = S1 at B0
    obtain ⟨x, S2, zx, B2, e2⟩ := law_frac_eq B0 (by omega)
    obtain ⟨y, S3, zy, B3, e3⟩ := law_frac_eq B2 (by omega)
    have ox := zx.ok (by omega)
    have oy := zy.ok (by omega)
    refine wp_set (x := rS x) (S1 := S2) (e_call (e_one rfl) rfl rfl e2) ?_
    refine wp_set (x := rS y) (S1 := S3) (e_call (e_one rfl) rfl rfl e3) ?_
    refine wp_pass (S1 := S3) (b_cmp (e_lst (e_cons (e_call (e_cons rfl (e_one rfl)) rfl rfl (plus_eq ox oy S3)) (e_cons (e_call (e_cons rfl (e_one rfl)) rfl rfl (minus_eq ox oy S3)) (e_one (e_call (e_cons rfl (e_one rfl)) rfl rfl (times_eq ox oy S3))))) (by simp)) (e_lst (e_cons (e_call (e_cons rfl (e_one rfl)) rfl rfl (ladd_eq ox oy S3)) (e_cons (e_call (e_cons rfl (e_one rfl)) rfl rfl (lsub_eq ox oy S3)) (e_one (e_call (e_cons rfl (e_one rfl)) rfl rfl (lmul_eq ox oy S3))))) (by simp)) (ne_ownD S3 (k := 1) (ds := [rD (x + y), rD (x - y), rD (x * y)]) (fun q hq => by
      simp only [List.mem_cons, List.not_mem_nil, or_false] at hq
      rcases hq with rfl | rfl | rfl <;> exact nd_rD 0 _) (by omega))) ?_
    obtain ⟨od, ond, oe1, oe2⟩ := over_told zx zy S3 (ρ := [some (.scr ns), some (nI k), some (.ref m), some (rS x), some (rS y), s5, s6, s7, s8, s9, s10, s11, s12, s13, s14, s15, s16, s17]) rfl rfl
    have b6 : Bd 4 x.num := zx.1
    have b7 : Bd 4 (x.den : Int) := zx.2
    have m1 : mulOk 6 x.num = true := mulOk_bd (a := 100) (b := 100) (bd100 (by decide)) (b6.mono (by omega)) (by omega)
    have m2 : mulOk (-6) (x.den : Int) = true := mulOk_bd (a := 100) (b := 100) (bd100 (by decide)) (b7.mono (by omega)) (by omega)
    have fr := fraction_eq (p := 6 * x.num) (q := -6 * (x.den : Int)) (by have := dpos x; omega) S3
    rw [six] at fr
    refine wp_pass (S1 := S3) (b_orF (b_cmp oe1 oe2 (ne_self S3 ond (by omega))) (b_cmp (x := rS (-x)) (y := rS (-x)) (e_call (e_cons (x := .d (.int (6 * x.num))) (e_bin (x := .d (.int 6)) (y := .d (.int x.num)) rfl (e_bin rfl rfl rfl) (by rw [gMulT_i, if_pos m1])) (e_one (x := .d (.int (-6 * (x.den : Int)))) (e_bin (x := .d (.int (-6))) (y := .d (.int (x.den : Int))) (e_un rfl rfl) (e_bin rfl rfl rfl) (by rw [gMulT_i, if_pos m2])))) rfl rfl fr) (e_tup (ds := [.int (-x.num), .int (x.den : Int)]) (e_cons (e_un (x := .d (.int x.num)) (e_bin rfl rfl rfl) rfl) (e_one (e_bin rfl rfl rfl))) rfl (by simp)) (ne_rS S3 _))) ?_
    have tot := total_eq (k := false) (b := 4) (xs := [x, y, x]) (fun q hq => by
      simp only [List.mem_cons, List.not_mem_nil, or_false] at hq
      rcases hq with rfl | rfl | rfl <;> assumption) (by omega) (by simp) S3
    have lsm := law_sum_eq (k := false) (b := 4) (xs := [x, y, x]) (fun q hq => by
      simp only [List.mem_cons, List.not_mem_nil, or_false] at hq
      rcases hq with rfl | rfl | rfl <;> assumption) (by omega) (by simp) S3
    refine wp_pass (S1 := S3) ?_ ?_
    · refine b_orF (b_cmp (e_call (e_one rfl) rfl rfl (sign_eq x)) (e_sgn (v := 3) rfl) (ne_self S3 (k := 0) (nd_int 0 _) (by omega))) ?_
      refine b_orF (b_cmp (x := .d (.str (if decide (x < y) then "True" else "False"))) (y := .d (.str (if decide (x < y) then "True" else "False"))) (e_cal (e_one (e_call (e_cons rfl (e_one rfl)) rfl rfl (less_eq ox oy S3))) rfl) (e_cal (e_one (e_less (u := 3) (v := 4) ox oy rfl rfl)) rfl) (ne_self S3 (k := 0) (nd_str (okx_bool _)) (by omega))) ?_
      exact b_cmp (e_call (e_one (e_lst (e_cons rfl (e_cons rfl (e_one rfl))) (by simp))) rfl rfl tot) (e_call (e_one (e_lst (e_cons rfl (e_cons rfl (e_one rfl))) (by simp))) rfl rfl lsm) (ne_rS S3 _)
    -- rows
    obtain ⟨r, S4, r1, B4, e4⟩ := draw_bs B3 (by omega) (show (0 : Int) < 4 by omega)
    obtain ⟨r', S5, r1', B5, e5⟩ := draw_bs B4 (by omega) (show (0 : Int) < 5 by omega)
    obtain ⟨n, hn⟩ : ∃ n, n = 1 + r := ⟨_, rfl⟩
    obtain ⟨c, hc⟩ : ∃ c, c = 1 + r' := ⟨_, rfl⟩
    have n1 : 1 ≤ n := by omega
    have n4 : n ≤ 4 := by omega
    have c1 : 1 ≤ c := by omega
    have c5 : c ≤ 5 := by omega
    refine wp_set (x := nI n) (S1 := S4) (e_bin (x := nI 1) rfl (e_call (e_cons rfl (e_one rfl)) rfl rfl e4) (by show some (SV.d (.int (1 + (r : Int)))) = _; congr 3; omega)) ?_
    refine wp_set (x := nI c) (S1 := S5) (e_bin (x := nI 1) rfl (e_call (e_cons rfl (e_one rfl)) rfl rfl e5) (by show some (SV.d (.int (1 + (r' : Int)))) = _; congr 3; omega)) ?_
    obtain ⟨R0, S6, l0, mx0, B6, e6⟩ := rows_eq (ρ := [some (.scr ns), some (nI k), some (.ref m), some (rS x), some (rS y), some (nI n), some (nI c), s7, s8, s9, s10, s11, s12, s13, s14, s15, s16, s17]) (u := 5) (v := 6) (drw_a m) B5 (by omega) (show n ≤ 20 by omega) (show c ≤ 20 by omega) rfl rfl rfl (by decide) rfl
    refine wp_set (x := rowsO R0) (S1 := S6) e6 ?_
    have tb : 3 * c * n ≤ 15 * 4 := Nat.mul_le_mul (by omega) (by omega)
    obtain ⟨q, S7, q1, B7, e7⟩ := draw_bs B6 (by omega) (show (0 : Int) < 2 by omega)
    obtain ⟨R, S8, l1, mx, B8, e8⟩ : ∃ R S8, R.length = n ∧ Mx c 11 R ∧ Bs S8 m (200 : Nat) ∧ (sIf (bAnd (bB (eBin (cB gGt) (eVar 5) (eCon (.int 1)))) (bB (eBin (cB gEq) (eCall 2 G.F__law_draw [] (aCons (eVarV 2) (aCons (eCon (.int 2)) aNil))) (eCon (.int 0))))) (sStore (lVar 7) (eUn gNeg (eCon (.int 1))) (eCal gTuple (aCons (eLc (VL.iRng1 (aCons (eVar 6) aNil)) (gNm 13) bYes (eCall 2 G.F__law_add [] (aCons (eBin gIx (eBin gIxB (eVar 7) (eCon (.int 0))) (eVar 13)) (aCons (eCall 2 G.F__law_mul [] (aCons (eTup (aCons (eCon (.int 2)) (aCons (eCon (.int 1)) aNil))) (aCons (eBin gIx (eBin gIxB (eVar 7) (eUn gNeg (eCon (.int 2)))) (eVar 13)) aNil))) aNil))) [13]) aNil))) sNil) [some (.scr ns), some (nI k), some (.ref m), some (rS x), some (rS y), some (nI n), some (nI c), some (rowsO R0), s8, s9, s10, s11, s12, s13, s14, s15, s16, s17] S6 = some (.nx [some (.scr ns), some (nI k), some (.ref m), some (rS x), some (rS y), some (nI n), some (nI c), some (rowsO R), s8, s9, s10, s11, s12, s13, s14, s15, s16, s17] S8) := by
      have g1 : (bB (eBin (cB gGt) (eVar 5) (eCon (.int 1)))) [some (.scr ns), some (nI k), some (.ref m), some (rS x), some (rS y), some (nI n), some (nI c), some (rowsO R0), s8, s9, s10, s11, s12, s13, s14, s15, s16, s17] S6 = some (.ok (decide ((1 : Int) < (n : Int))) S6) := b_cmp (x := nI n) (y := nI 1) rfl rfl (gGt_i S6 _ _)
      by_cases h1 : (1 : Int) < (n : Int)
      · rw [decide_eq_true h1] at g1
        have g2 : (bB (eBin (cB gEq) (eCall 2 G.F__law_draw [] (aCons (eVarV 2) (aCons (eCon (.int 2)) aNil))) (eCon (.int 0)))) [some (.scr ns), some (nI k), some (.ref m), some (rS x), some (rS y), some (nI n), some (nI c), some (rowsO R0), s8, s9, s10, s11, s12, s13, s14, s15, s16, s17] S6 = some (.ok ((q : Int) == 0) S7) := b_cmp (e_call (e_cons rfl (e_one rfl)) rfl rfl e7) rfl (gEq_i S7 q 0)
        cases hq : ((q : Int) == 0) with
        | true =>
          rw [hq] at g2
          have le := last_eq (S := S7) (ρ := [some (.scr ns), some (nI k), some (.ref m), some (rS x), some (rS y), some (nI n), some (nI c), some (rowsO R0), s8, s9, s10, s11, s12, s13, s14, s15, s16, s17]) mx0 (by omega) (by omega) rfl rfl rfl
          refine ⟨R0.set (n - 1) (lastL R0 c), S7, by simp [l0], (mx0.mono (by omega)).last (by simp [lastL]) (last_sz mx0) _, B7.mono (by omega), ?_⟩
          show bindS _ _ _ = _
          rw [b_andT g1 g2]
          refine (st_ixZ (k := -((1 : Nat) : Int)) (j := n - 1) rfl le (e_un rfl rfl) (by rw [List.length_map, ixN_m (by omega) (by omega), l0])).trans ?_
          have : (R0.map fun r => SV.d (tR r)).set (n - 1) (.d (tR (lastL R0 c))) = (R0.set (n - 1) (lastL R0 c)).map fun r => SV.d (tR r) := by rw [List.map_set]
          rw [this]
          rfl
        | false =>
          rw [hq] at g2
          exact ⟨R0, S7, l0, mx0.mono (by omega), B7.mono (by omega), by show bindS _ _ _ = _; rw [b_andT g1 g2]; rfl⟩
      · rw [decide_eq_false h1] at g1
        exact ⟨R0, S6, l0, mx0.mono (by omega), B6.mono (by omega), by show bindS _ _ _ = _; rw [b_andF g1]; rfl⟩
    refine wp_nx e8 ?_
    obtain ⟨bs, S9, bl, bz, B9, e9⟩ := row_eq (ρ := [some (.scr ns), some (nI k), some (.ref m), some (rS x), some (rS y), some (nI n), some (nI c), some (rowsO R), s8, s9, s10, s11, s12, s13, s14, s15, s16, s17]) (v := 5) (w := 11) (drw_b m) B8 (by omega) (show n ≤ 20 by omega) rfl rfl (by decide) (by simp)
    refine wp_set (x := .d (tR bs)) (S1 := S9) e9 ?_
    have ag : Aug c 11 R bs := Aug.of mx.wid mx.sz (fun z hz => (bz z hz).mono (by omega)) (by omega) (by omega) (by omega) (by omega) (Nat.le_trans (bnd_le c5) (by decide))
    have sl := law_solve_eq (k := false) (kr := true) (kb := true) ag S9
    have sp := solved_eq (k := true) (kr := true) ag S9
    rw [sol_same ag.mx] at sp
    have sz9 : ∀ w, solL (aug R bs) c = some w → ∀ v ∈ w, Sz 12287 v := fun w hw v hv => by
      rw [← sol_same ag.mx] at hw
      exact (solP_sz ag.mx (by omega) hw v hv).mono (Nat.le_trans (bnd_le c5) (by decide))
    have slv := fun w => solves (x := w) ag
    generalize solL (aug R bs) c = o at *
    obtain ⟨y9, hy9⟩ : ∃ y9 : SV, y9 = match o with | none => .d .none | some w => .own (w.map rS) := ⟨_, rfl⟩
    obtain ⟨y10, hy10⟩ : ∃ y10 : PyData, y10 = match o with | none => .str "none" | some w => tR w := ⟨_, rfl⟩
    refine wp_gh2 (i := 7) rfl (frz_rowsO R) ?_
    refine wp_set (x := y9) (S1 := S9) (e_call (e_cons rfl (e_one rfl)) rfl rfl (sl.trans (by rw [hy9]; cases o <;> rfl))) ?_
    have gt : gTuple S9 [rowsD R] = some (.d (kD true (R.map fun r => kD true (r.map rD)))) := gTuple_kD S9 false _
    have td : G.F__law_told [.fn "solved", .d (kD true (R.map fun r => kD true (r.map rD))), .d (kD true (bs.map rD))] S9 = some (.ok (.d y10) S9) := by
      rw [hy10]
      cases o with
      | none => exact told_none look_s sp
      | some w => exact told_ok look_s sp
    refine wp_set (x := .d y10) (S1 := S9) (e_call (e_cons rfl (e_cons (e_cal (e_one rfl) gt) (e_one rfl))) rfl rfl td) ?_
    refine wp_pass (S1 := S9) ?_ ?_
    · cases o with
      | none =>
        rw [hy9, hy10]
        exact b_cmp rfl (e_ifT (S1 := S9) (b_cmp rfl rfl rfl) rfl) (ne_self S9 (k := 0) (nd_str okx_none) (by omega))
      | some w =>
        rw [hy9, hy10]
        exact b_cmp rfl (e_ifF (S1 := S9) (b_cmp rfl rfl rfl) (e_cal (e_one rfl) (gTuple_o S9 rD w))) (ne_self S9 (k := 2) (nd_mk fun z hz => by
          obtain ⟨v, _, rfl⟩ := List.mem_map.mp hz
          exact nd_rD 0 v) (by omega))
    -- the solution solves
    refine wp_seqI ?_
    refine Wp.mono (Q := fun r => ∃ s11 s13, r = .nx [some (.scr ns), some (nI k), some (.ref m), some (rS x), some (rS y), some (nI n), some (nI c), some (rowsD R), some (.d (tR bs)), some y9, some (.d y10), s11, s12, s13, s14, s15, s16, s17] S9) ?_ ?_
    · cases o with
      | none =>
        rw [hy9]
        exact wp_ifF (S1 := S9) (b_cmp rfl rfl rfl) (wp_nil ⟨_, _, rfl⟩)
      | some w =>
        obtain ⟨wl, ws⟩ := slv w rfl
        have wz := sz9 w rfl
        rw [hy9, hy10]
        refine wp_ifT (S1 := S9) (b_cmp rfl rfl rfl) (Wp.mono (Q := fun r => ∃ ρ2 S2, r = .nx ρ2 S2 ∧ S2 = S9 ∧ ∃ s11 s13, ρ2 = [some (.scr ns), some (nI k), some (.ref m), some (rS x), some (rS y), some (nI n), some (nI c), some (rowsD R), some (.d (tR bs)), some (.own (w.map rS)), some (.d (tR w)), s11, s12, s13, s14, s15, s16, s17]) (wp_forE (xs := (List.range n).map nI) (S1 := S9) (fun _ ρ S => S = S9 ∧ ∃ s11 s13, ρ = [some (.scr ns), some (nI k), some (.ref m), some (rS x), some (rS y), some (nI n), some (nI c), some (rowsD R), some (.d (tR bs)), some (.own (w.map rS)), some (.d (tR w)), s11, s12, s13, s14, s15, s16, s17]) (iRng_n rfl (by omega)) ⟨rfl, _, _, rfl⟩ ?_) ?_)
        · rintro i z hi ρ S' ⟨rfl, s11, s13, rfl⟩
          rw [List.getElem?_map, Option.map_eq_some_iff] at hi
          obtain ⟨i', hi', rfl⟩ := hi
          obtain ⟨hi2, rfl⟩ := List.getElem?_eq_some_iff.mp hi'
          rw [List.length_range] at hi2
          rw [List.getElem_range]
          refine ⟨[some (.scr ns), some (nI k), some (.ref m), some (rS x), some (rS y), some (nI n), some (nI c), some (rowsD R), some (.d (tR bs)), some (.own (w.map rS)), some (.d (tR w)), some (nI i), s12, s13, s14, s15, s16, s17], rfl, ?_⟩
          have lc : (eLc (VL.iRng1 (aCons (eVar 6) aNil)) (gNm 13) bYes (eCall 2 G.F__law_mul [] (aCons (eBin gIx (eBin gIxB (eVar 7) (eVar 11)) (eVar 13)) (aCons (eBin gIx (eVar 10) (eVar 13)) aNil))) [13]) [some (.scr ns), some (nI k), some (.ref m), some (rS x), some (rS y), some (nI n), some (nI c), some (rowsD R), some (.d (tR bs)), some (.own (w.map rS)), some (.d (tR w)), some (nI i), s12, s13, s14, s15, s16, s17] S' = some (.ok (.own (((List.range c).map fun j => en R i j * w.getD j 0).map rS)) S') := by
            rw [List.map_map]
            refine lc_map (ρ := [some (.scr ns), some (nI k), some (.ref m), some (rS x), some (rS y), some (nI n), some (nI c), some (rowsD R), some (.d (tR bs)), some (.own (w.map rS)), some (.d (tR w)), some (nI i), s12, s13, s14, s15, s16, s17]) (S := S') (S1 := S') (it := VL.iRng1 (aCons (eVar 6) aNil)) (tf := gNm 13) (vs := [13]) (List.range c) nI (fun j => rS (en R i j * w.getD j 0)) (iRng_n rfl (by omega)) (by rw [hz, List.length_range]; omega) fun j hj => ⟨[some (.scr ns), some (nI k), some (.ref m), some (rS x), some (rS y), some (nI n), some (nI c), some (rowsD R), some (.d (tR bs)), some (.own (w.map rS)), some (.d (tR w)), some (nI i), s12, some (nI j), s14, s15, s16, s17], rfl, ?_⟩
            have hj := List.mem_range.mp hj
            have i1 : gIxB S' (rowsD R) (nI i) = some (.d (tR (R.getD i []))) := ix_kD S' false (fun r : List Rat => kD true (r.map rD)) R [] (by omega)
            have i2 := ix_tR S' (r := R.getD i []) (j := j) (by rw [mx.wid _ (getD_mem (by omega))]; exact hj)
            have i3 := ix_tR S' (r := w) (j := j) (by omega)
            exact e_call (e_cons (e_bin (e_bin rfl rfl i1) rfl i2) (e_one (e_bin rfl rfl i3))) rfl rfl (lmul_eq ((mx.en (by omega) i j).ok (by omega)) ((wz _ (getD_mem (by omega))).ok (by omega)) S')
          have sm1 := law_sum_eq (k := false) (b := 20000) (xs := (List.range c).map fun j => en R i j * w.getD j 0) (fun z hz' => by
            obtain ⟨j, hj, rfl⟩ := List.mem_map.mp hz'
            have hj := List.mem_range.mp hj
            exact ((mx.en (by omega) i j).mul (wz _ (getD_mem (by omega)))).mono (by omega)) (by omega) (by simp; omega) S'
          rw [sumL_sm, ws i (by omega)] at sm1
          have fz := frz_rS ((List.range c).map fun j => en R i j * w.getD j 0)
          have i4 := ixB_tR S' (r := bs) (j := i) (by omega)
          exact wp_ifF (S1 := S') (b_cmp (e_call (e_one lc) rfl (by rw [frzs_cons, fz]; rfl) sm1) (e_bin rfl rfl i4) (ne_rS S' _)) (wp_nil ⟨_, _, .inl rfl, rfl, _, _, rfl⟩)
        · rintro r ⟨ρ2, S2, rfl, rfl, s11, s13, rfl⟩
          exact ⟨s11, s13, rfl⟩
    rintro r ⟨s11, s13, rfl⟩
    refine ⟨_, _, rfl, ?_⟩
    -- the rank
    refine wp_set (x := .own []) (S1 := S9) (e_lst e_nil (by simp)) ?_
    refine wp_for (xs := (List.range c).map nI) (S1 := S9) (fun j ρ S => S = S9 ∧ j ≤ c ∧ ∃ s13 s14, ρ = [some (.scr ns), some (nI k), some (.ref m), some (rS x), some (rS y), some (nI n), some (nI c), some (rowsD R), some (.d (tR bs)), some y9, some (.d y10), s11, some (.own (((List.range j).map (grownL R)).map fun b => SV.d (.bool b))), s13, s14, s15, s16, s17]) (iRng_n rfl (by omega)) ⟨rfl, by omega, _, _, rfl⟩ ?_ ?_
    · rintro j z hj ρ S' ⟨rfl, hjc, s13, s14, rfl⟩
      rw [List.getElem?_map, Option.map_eq_some_iff] at hj
      obtain ⟨j', hj', rfl⟩ := hj
      obtain ⟨hj2, rfl⟩ := List.getElem?_eq_some_iff.mp hj'
      rw [List.length_range] at hj2
      rw [List.getElem_range]
      refine ⟨[some (.scr ns), some (nI k), some (.ref m), some (rS x), some (rS y), some (nI n), some (nI c), some (rowsD R), some (.d (tR bs)), some y9, some (.d y10), s11, some (.own (((List.range j).map (grownL R)).map fun b => SV.d (.bool b))), some (nI j), s14, s15, s16, s17], rfl, ?_⟩
      refine wp_seqI ?_
      have fin : Wp (sAppend (lVar 12) (aCons (eVarV 14) aNil) [some (.scr ns), some (nI k), some (.ref m), some (rS x), some (rS y), some (nI n), some (nI c), some (rowsD R), some (.d (tR bs)), some y9, some (.d y10), s11, some (.own (((List.range j).map (grownL R)).map fun b => SV.d (.bool b))), some (nI j), some (.d (.bool (grownL R j))), s15, s16, s17] S') fun r => ∃ ρ2 S2, (r = .nx ρ2 S2 ∨ r = .ct ρ2 S2) ∧ S2 = S' ∧ j + 1 ≤ c ∧ ∃ s13 s14, ρ2 = [some (.scr ns), some (nI k), some (.ref m), some (rS x), some (rS y), some (nI n), some (nI c), some (rowsD R), some (.d (tR bs)), some y9, some (.d y10), s11, some (.own (((List.range (j + 1)).map (grownL R)).map fun b => SV.d (.bool b))), s13, s14, s15, s16, s17] := by
        refine ⟨_, app_own (y := .d (.bool (grownL R j))) (S1 := S') rfl (e_one rfl) (by simp; omega), _, _, .inl rfl, rfl, by omega, some (nI j), some (.d (.bool (grownL R j))), ?_⟩
        rw [List.range_succ, List.map_append, List.map_append]
        rfl
      have g0 := gEq_nn S' j 0
      by_cases j0 : j = 0
      · rw [decide_eq_true j0] at g0
        have ge := grown0_eq (S := S') (ρ := [some (.scr ns), some (nI k), some (.ref m), some (rS x), some (rS y), some (nI n), some (nI c), some (rowsD R), some (.d (tR bs)), some y9, some (.d y10), s11, some (.own (((List.range j).map (grownL R)).map fun b => SV.d (.bool b))), some (nI j), s14, s15, s16, s17]) mx (by omega) (by omega) rfl rfl
        refine wp_ifT (S1 := S') (b_cmp rfl rfl g0) (wp_set1 ge ⟨_, _, rfl, ?_⟩)
        rw [← j0]
        exact fin
      · rw [decide_eq_false j0] at g0
        have ge := grownJ_eq (S := S') (ρ := [some (.scr ns), some (nI k), some (.ref m), some (rS x), some (rS y), some (nI n), some (nI c), some (rowsD R), some (.d (tR bs)), some y9, some (.d y10), s11, some (.own (((List.range j).map (grownL R)).map fun b => SV.d (.bool b))), some (nI j), s14, s15, s16, s17]) mx c5 (by omega) (by omega) j0 hj2 rfl rfl rfl
        exact wp_ifF (S1 := S') (b_cmp rfl rfl g0) (wp_set1 ge ⟨_, _, rfl, fin⟩)
    rintro ρ2 S10 ⟨rfl, _, s13, s14, rfl⟩
    rw [List.length_map, List.length_range]
    have rk := rank_eq (k := true) (kr := true) mx l1 (by omega) (by omega) (by omega) (Nat.le_trans (bnd_le c5) (by decide)) S10
    have gt : gTuple S10 [rowsD R] = some (.d (kD true (R.map fun r => kD true (r.map rD)))) := gTuple_kD S10 false _
    have gn := gNe_nn S10 ((List.range c).countP (grownL R)) ((List.range c).countP (grownL R))
    rw [decide_eq_true rfl] at gn
    have ec := e_cnt (S := S10) (ρ := [some (.scr ns), some (nI k), some (.ref m), some (rS x), some (rS y), some (nI n), some (nI c), some (rowsD R), some (.d (tR bs)), some y9, some (.d y10), s11, some (.own (((List.range c).map (grownL R)).map fun b => SV.d (.bool b))), s13, s14, s15, s16, s17]) (f := eVar 12) (bs := (List.range c).map (grownL R)) rfl
    rw [List.countP_map, show (id ∘ grownL R) = grownL R from rfl] at ec
    refine wp_pass (S1 := S10) (b_cmp (e_call (e_one (e_cal (e_one rfl) gt)) rfl rfl rk) ec gn) ?_
    -- the determinant
    obtain ⟨w, S11, w1, B11, e11⟩ := draw_n B9 (by omega) (show 0 < 5 by omega)
    obtain ⟨Q, S12, ql, mq, B12, e12⟩ := rows_eq (ρ := [some (.scr ns), some (nI k), some (.ref m), some (rS x), some (rS y), some (nI n), some (nI c), some (rowsD R), some (.d (tR bs)), some y9, some (.d y10), s11, some (.own (((List.range c).map (grownL R)).map fun b => SV.d (.bool b))), s13, s14, some (nI w), s16, s17]) (u := 15) (v := 15) (drw_frac m) B11 (by omega) (show w ≤ 20 by omega) (show w ≤ 20 by omega) rfl rfl rfl (by decide) rfl
    refine wp_set (x := nI w) (S1 := S11) (e_call (e_cons rfl (e_one (x := nI 5) rfl)) rfl rfl e11) ?_
    have gq : gTuple S12 [rowsO Q] = some (.d (kD true (Q.map fun r => kD true (r.map rD)))) := gTuple_o S12 tR Q
    refine wp_set (x := .d (kD true (Q.map fun r => kD true (r.map rD)))) (S1 := S12) (e_cal (e_one e12) gq) ?_
    exact wp_ifF (S1 := S12) (b_not (b_valB (e_call (e_cons (e_call (e_one rfl) rfl rfl (law_determinant_eq (k := true) (kr := true) mq ql (by omega) (by omega) (by omega) S12)) (e_one (e_call (e_one rfl) rfl rfl (determinant_eq (k := true) (kr := true) mq ql (by omega) (by omega) (by omega) S12)))) rfl rfl (same_eq (k := 1) (sdB_rD' _) (by omega) S12)))) (wp_nil ⟨_, _, .inl rfl, _, _, _, _, _, _, _, _, _, _, _, _, _, _, _, _, _, rfl⟩)
  · rintro ρ2 S2 ⟨s1, s2, s3, s4, s5, s6, s7, s8, s9, s10, s11, s12, s13, s14, s15, s16, s17, rfl⟩
    have d0 := determinant_eq (k := true) (kr := true) (n := 0) (b := 4) (R := []) ⟨(fun _ m => by cases m), (fun _ m => by cases m)⟩ rfl (by omega) (by omega) (by omega) S2
    have d1 : detL 0 [] = 1 := by rw [detL, detE_0]; decide +kernel
    rw [d1] at d0
    have t0 := total_eq (k := true) (b := 4) (xs := []) (fun _ m => by cases m) (by omega) (by simp) S2
    refine wp_ret (x := .d (.bool true)) (S1 := S2) ?_ ⟨_, _, rfl, rfl⟩
    refine e_andT (e_cmp (e_call (e_cons rfl (e_cons (x := .d (.int 5)) rfl (e_one (x := .d (.int 0)) rfl))) rfl rfl (told_value look_f (fraction_no 5))) rfl (eq_self S2 (k := 0) (nd_str okx_value) (by omega))) ?_
    refine e_andT (e_cmp (e_call (e_one (x := .d (.tuple [])) (e_tup e_nil rfl (by simp))) rfl rfl t0) (e_tup (e_cons rfl (e_one rfl)) rfl (by simp)) (eq_rS S2 0)) ?_
    exact e_cmp (e_call (e_one (x := .d (.tuple [])) (e_tup e_nil rfl (by simp))) rfl rfl d0) (e_tup (e_cons rfl (e_one rfl)) rfl (by simp)) (eq_rS S2 1)
end M

end
section
set_option Elab.async false
set_option linter.all false
open PySem
theorem M.bits {z : Int} (h : PySem.Builtin.Int.intBits z ≤ 1048576) : M.Bd 2000000 z := by
  apply M.Bd.of_log
  unfold PySem.Builtin.Int.intBits at h
  split at h <;> first | omega | simp_all
theorem PySem.Challenge.cw_currentwebs_k03_fractions_and_equations_holds : PySem.Challenge.rw_currentwebs_k03_fractions_and_equations.Holds :=
  G.holds fun ns hl hb => M.law_true ns hl fun z m => M.bits (hb z m)

end
