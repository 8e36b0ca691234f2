import PyProof.Rows.All
import HandS.ForMost
import HandS.Exc
import HandS.TryOnly
import HandS.TryMany
import HandS.ExcOwn
import HandS.WordsExc
import HandS.Flow
import HandS.Deep
import HandS.Conv
import HandS.CallLocal
import HandS.CallSlots
import HandS.Small
import HandS.NoneIn
import HandS.TupAny
import KE.LtData
import HandS.Codes
import HandS.IsInst
import HandS.Defaults
import HandS.Words
import HandS.Ends
import HandS.EndBits
import HandS.HeadEnd
import HandS.Head0
import HandS.Head1
import HandS.Head2
import HandS.HeadHook1
import HandS.HeadHook2
import HandS.Style
import HandS.HeadHook3
import HandS.HeadHook4
import HandS.TupMul
import HandS.WideBits
import HandS.Zip
import HandS.Iter
import HandS.Walk
import HandS.RaiseMore
import KE.SortData
import KE.DataCmp
import HandS.SetKeys
import HandS.More
import PySem.Challenge.RW_currentwebs_k01_fractions_and_webs
section
set_option Elab.async false
set_option linter.all false
set_option maxRecDepth 100000
/-! VL1: the value layer: deep data in slots, a store of shared lists; a def's body as a function of these. -/
namespace VL
open PySem PySem.Spec PyProof.Rows L2

/-- what a slot holds: data; a shared list by its number; a def of the module by its name; the script; a list of one's own -/
inductive SV where
  | d (x : PyData)
  | ref (n : Nat)
  | fn (x : Str)
  | scr (ns : List Int)
  | own (xs : List SV)
  | dic (ks : List Int) (xs : List SV)
abbrev Rho := List (Option SV)
abbrev Sto := List (List SV)
inductive Res (α : Type) where
  | ok (a : α) (S : Sto)
  | exc (c : Str) (fs : List (Str × SV)) (S : Sto)
abbrev Mo (α : Type) := Sto → Option (Res α)
inductive Fl where
  | nx (ρ : Rho) (S : Sto)
  | rt (x : SV) (S : Sto)
  | bk (ρ : Rho) (S : Sto)
  | ct (ρ : Rho) (S : Sto)
  | exc (c : Str) (fs : List (Str × SV)) (ρ : Rho) (S : Sto)

/-! ### data in the heap -/
mutual
inductive Dq (K : PySem.W.Frag) (H : Hp) (F : Addr → Prop) : PyData → V → Prop
  | non : Dq K H F .none .non
  | bl (b : Bool) : Dq K H F (.bool b) (.bl b)
  | int (i : Int) : Dq K H F (.int i) (.int i)
  | str (x : Str) : Dq K H F (.str x) (.str x)
  | lst {a : Addr} {xs : List V} {ds : List PyData} : H a = some (.lst xs) → ¬ F a → xs.length ≤ sizeLine → DqL K H F ds xs → Dq K H F (.list ds) (.ref a)
  | tup {a : Addr} {xs : List V} {ds : List PyData} : H a = some (.tup xs) → ¬ F a → xs.length ≤ sizeLine → DqL K H F ds xs → Dq K H F (.tuple ds) (.ref a)
  | ctup {a : Addr} {xs : List V} {ds : List PyData} : SqT K (fun _ => none) a xs → xs.length ≤ sizeLine → DqL K H F ds xs → Dq K H F (.tuple ds) (.ref a)
inductive DqL (K : PySem.W.Frag) (H : Hp) (F : Addr → Prop) : List PyData → List V → Prop
  | nil : DqL K H F [] []
  | cons {d : PyData} {ds : List PyData} {v : V} {vs : List V} : Dq K H F d v → DqL K H F ds vs → DqL K H F (d :: ds) (v :: vs)
end

theorem SqT.const {K : PySem.W.Frag} {a : Addr} {xs : List V} (h : SqT K (fun _ => none) a xs) (H : Hp) : SqT K H a xs := by
  rcases h with h | h
  · rcases h with h | ⟨o, h⟩ <;> cases h
  · exact .inr h

theorem SqL.const {K : PySem.W.Frag} {a : Addr} {xs : List V} (h : SqL K (fun _ => none) a xs) (H : Hp) : SqL K H a xs := by
  rcases h with h | h
  · rcases h with h | ⟨o, h⟩ <;> cases h
  · exact .inr h

section
variable {K : PySem.W.Frag} {H H' : Hp} {F F' : Addr → Prop}
mutual
theorem Dq.mono (hF : ∀ a, F' a → F a ∨ H a = none) (hH : ∀ a o, H a = some o → ¬ F a → H' a = some o) : ∀ (d : PyData) (v : V), Dq K H F d v → Dq K H' F' d v
  | .none, _, h => by cases h; exact .non
  | .bool b, _, h => by cases h; exact .bl b
  | .int i, _, h => by cases h; exact .int i
  | .str x, _, h => by cases h; exact .str x
  | .list ds, _, h => by
    cases h with
    | lst r n l q =>
      refine .lst (hH _ _ r n) (fun z => ?_) l (DqL.mono hF hH ds _ q)
      rcases hF _ z with z | z
      · exact n z
      · rw [r] at z; cases z
  | .tuple ds, _, h => by
    cases h with
    | tup r n l q =>
      refine .tup (hH _ _ r n) (fun z => ?_) l (DqL.mono hF hH ds _ q)
      rcases hF _ z with z | z
      · exact n z
      · rw [r] at z; cases z
    | ctup r l q => exact .ctup r l (DqL.mono hF hH ds _ q)
  | .dict _, _, h => by cases h
theorem DqL.mono (hF : ∀ a, F' a → F a ∨ H a = none) (hH : ∀ a o, H a = some o → ¬ F a → H' a = some o) : ∀ (ds : List PyData) (vs : List V), DqL K H F ds vs → DqL K H' F' ds vs
  | [], _, h => by cases h; exact .nil
  | d :: ds, _, h => by
    cases h with
    | cons h1 h2 => exact .cons (Dq.mono hF hH d _ h1) (DqL.mono hF hH ds _ h2)
end
mutual
theorem Dq.dp : ∀ (d : PyData) (v : V), Dq K H F d v → Dp K H v d
  | .none, _, h => by cases h; exact .non
  | .bool b, _, h => by cases h; exact .bl b
  | .int i, _, h => by cases h; exact .int i
  | .str x, _, h => by cases h; exact .str x
  | .list ds, _, h => by
    cases h with
    | lst r n l q => exact .lst (.inl (.inl r)) (DqL.dp ds _ q)
  | .tuple ds, _, h => by
    cases h with
    | tup r n l q => exact .tup (.inl (.inl r)) (DqL.dp ds _ q)
    | ctup r l q => exact .tup (SqT.const r H) (DqL.dp ds _ q)
  | .dict _, _, h => by cases h
theorem DqL.dp : ∀ (ds : List PyData) (vs : List V), DqL K H F ds vs → DpAll K H vs ds
  | [], _, h => by cases h; exact .nil
  | d :: ds, _, h => by
    cases h with
    | cons h1 h2 => exact .cons (Dq.dp d _ h1) (DqL.dp ds _ h2)
end
theorem DqL.length : ∀ {ds : List PyData} {vs : List V}, DqL K H F ds vs → vs.length = ds.length
  | [], _, h => by cases h; rfl
  | d :: ds, _, h => by
    cases h with
    | cons h1 h2 => simp [DqL.length h2]
theorem DqL.get : ∀ {ds : List PyData} {vs : List V} {i : Nat} {d : PyData}, DqL K H F ds vs → ds[i]? = some d → ∃ v, vs[i]? = some v ∧ Dq K H F d v
  | [], _, _, _, _, e => by simp at e
  | d :: ds, _, i, x, h, e => by
    cases h with
    | cons h1 h2 =>
      cases i with
      | zero => simp at e; subst e; exact ⟨_, rfl, h1⟩
      | succ i => simpa using DqL.get h2 (by simpa using e)
theorem DqL.get' : ∀ {ds : List PyData} {vs : List V} {i : Nat} {v : V}, DqL K H F ds vs → vs[i]? = some v → ∃ d, ds[i]? = some d ∧ Dq K H F d v
  | [], _, i, _, h, e => by cases h; simp at e
  | d :: ds, _, i, x, h, e => by
    cases h with
    | cons h1 h2 =>
      cases i with
      | zero => simp at e; subst e; exact ⟨_, rfl, h1⟩
      | succ i => simpa using DqL.get' h2 (by simpa using e)
theorem DqL.app : ∀ {ds es : List PyData} {vs us : List V}, DqL K H F ds vs → DqL K H F es us → DqL K H F (ds ++ es) (vs ++ us)
  | [], _, _, _, h, q => by cases h; exact q
  | d :: ds, _, _, _, h, q => by
    cases h with
    | cons h1 h2 => exact .cons h1 (DqL.app h2 q)
theorem DqL.drop : ∀ {ds : List PyData} {vs : List V} (n : Nat), DqL K H F ds vs → DqL K H F (ds.drop n) (vs.drop n)
  | _, _, 0, h => h
  | [], _, n + 1, h => by cases h; exact .nil
  | d :: ds, _, n + 1, h => by
    cases h with
    | cons h1 h2 => exact DqL.drop n h2
theorem DqL.take : ∀ {ds : List PyData} {vs : List V} (n : Nat), DqL K H F ds vs → DqL K H F (ds.take n) (vs.take n)
  | _, _, 0, _ => .nil
  | [], _, n + 1, h => by cases h; exact .nil
  | d :: ds, _, n + 1, h => by
    cases h with
    | cons h1 h2 => exact .cons h1 (DqL.take n h2)
/-- it is one value's data only: two readings of the ints -/
theorem DqL.ints : ∀ {ns : List Int} {vs : List V}, DqL K H F (ns.map PyData.int) vs → vs = ns.map V.int
  | [], _, h => by cases h; rfl
  | n :: ns, _, h => by
    cases h with
    | cons h1 h2 => cases h1; simp [DqL.ints h2]
end

/-! ### slots' values in the heap: g the addresses of one's own lists within -/
mutual
inductive Rs (K : PySem.W.Frag) (mg : Str → Option Value) (H : Hp) (A : List Addr) (F : Addr → Prop) : SV → V → List Addr → Prop
  | d {x : PyData} {v : V} : Dq K H F x v → Rs K mg H A F (.d x) v []
  | ref {n : Nat} {a : Addr} : A[n]? = some a → Rs K mg H A F (.ref n) (.ref a) []
  | fn {x : Str} {a : Addr} : mg x = some (.ref a) → Rs K mg H A F (.fn x) (.ref a) []
  | scr {a : Addr} {o : Obj} {ns : List Int} : H a = some (.frz o (.lst (ns.map V.int))) → ¬ F a → ns.length ≤ sizeLine → Rs K mg H A F (.scr ns) (.ref a) []
  | scrK {a : Addr} {ns : List Int} : SqL K (fun _ => none) a (ns.map V.int) → ns.length ≤ sizeLine → Rs K mg H A F (.scr ns) (.ref a) []
  | own {a : Addr} {xs : List SV} {vs : List V} {g : List Addr} : H a = some (.lst vs) → vs.length ≤ sizeLine → RsL K mg H A F xs vs g → Rs K mg H A F (.own xs) (.ref a) (a :: g)
  | dic {a : Addr} {ks : List Int} {xs : List SV} {vs : List V} {g : List Addr} : H a = some (.dK ((ks.map Sum.inl).zip vs)) → vs.length = ks.length → vs.length ≤ sizeLine → RsL K mg H A F xs vs g → Rs K mg H A F (.dic ks xs) (.ref a) (a :: g)
inductive RsL (K : PySem.W.Frag) (mg : Str → Option Value) (H : Hp) (A : List Addr) (F : Addr → Prop) : List SV → List V → List Addr → Prop
  | nil : RsL K mg H A F [] [] []
  | cons {x : SV} {xs : List SV} {v : V} {vs : List V} {g g' : List Addr} : Rs K mg H A F x v g → RsL K mg H A F xs vs g' → RsL K mg H A F (x :: xs) (v :: vs) (g ++ g')
end
section
variable {K : PySem.W.Frag} {mg : Str → Option Value} {H H' : Hp} {A A' : List Addr} {F F' : Addr → Prop}
mutual
theorem Rs.mono (hA : ∀ (n : Nat) a, A[n]? = some a → A'[n]? = some a) (hF : ∀ a, F' a → F a ∨ H a = none) (hH : ∀ a o, H a = some o → ¬ F a → H' a = some o) :
    ∀ (x : SV) (v : V) (g : List Addr), (∀ a ∈ g, ∀ o, H a = some o → H' a = some o) → Rs K mg H A F x v g → Rs K mg H' A' F' x v g
  | .d x, _, _, _, h => by cases h with | d h => exact .d (Dq.mono hF hH _ _ h)
  | .ref n, _, _, _, h => by cases h with | ref h => exact .ref (hA _ _ h)
  | .fn x, _, _, _, h => by cases h with | fn h => exact .fn h
  | .scr ns, _, _, _, h => by
    cases h with
    | scr r n l =>
      refine .scr (hH _ _ r n) (fun z => ?_) l
      rcases hF _ z with z | z
      · exact n z
      · rw [r] at z; cases z
    | scrK r l => exact .scrK r l
  | .own xs, _, _, hg, h => by
    cases h with
    | own e l h => exact .own (hg _ List.mem_cons_self _ e) l (RsL.mono hA hF hH xs _ _ (fun a m o q => hg a (List.mem_cons_of_mem _ m) o q) h)
  | .dic ks xs, _, _, hg, h => by
    cases h with
    | dic e k l h => exact .dic (hg _ List.mem_cons_self _ e) k l (RsL.mono hA hF hH xs _ _ (fun a m o q => hg a (List.mem_cons_of_mem _ m) o q) h)
theorem RsL.mono (hA : ∀ (n : Nat) a, A[n]? = some a → A'[n]? = some a) (hF : ∀ a, F' a → F a ∨ H a = none) (hH : ∀ a o, H a = some o → ¬ F a → H' a = some o) :
    ∀ (xs : List SV) (vs : List V) (g : List Addr), (∀ a ∈ g, ∀ o, H a = some o → H' a = some o) → RsL K mg H A F xs vs g → RsL K mg H' A' F' xs vs g
  | [], _, _, _, h => by cases h; exact .nil
  | x :: xs, _, _, hg, h => by
    cases h with
    | cons h1 h2 => exact .cons (Rs.mono hA hF hH x _ _ (fun a m => hg a (List.mem_append_left _ m)) h1) (RsL.mono hA hF hH xs _ _ (fun a m => hg a (List.mem_append_right _ m)) h2)
end
theorem RsL.length : ∀ {xs : List SV} {vs : List V} {g : List Addr}, RsL K mg H A F xs vs g → vs.length = xs.length
  | [], _, _, h => by cases h; rfl
  | x :: xs, _, _, h => by
    cases h with
    | cons h1 h2 => simp [RsL.length h2]
theorem RsL.app : ∀ {xs ys : List SV} {vs us : List V} {g g' : List Addr}, RsL K mg H A F xs vs g → RsL K mg H A F ys us g' → RsL K mg H A F (xs ++ ys) (vs ++ us) (g ++ g')
  | [], _, _, _, _, _, h, q => by cases h; exact q
  | x :: xs, _, _, _, _, _, h, q => by
    cases h with
    | cons h1 h2 => rw [List.append_assoc]; exact .cons h1 (RsL.app h2 q)
/-- data alone -/
def allD : List SV → Option (List PyData)
  | [] => some []
  | .d x :: r => (allD r).map (x :: ·)
  | _ :: _ => none
theorem RsL.ofD : ∀ {ds : List PyData} {vs : List V}, DqL K H F ds vs → RsL K mg H A F (ds.map SV.d) vs []
  | [], _, h => by cases h; exact .nil
  | d :: ds, _, h => by
    cases h with
    | cons h1 h2 => exact .cons (g := []) (g' := []) (.d h1) (RsL.ofD h2)
theorem RsL.toD : ∀ {xs : List SV} {ds : List PyData} {vs : List V} {g : List Addr}, RsL K mg H A F xs vs g → allD xs = some ds → DqL K H F ds vs ∧ g = []
  | [], _, _, _, h, e => by cases h; cases e; exact ⟨.nil, rfl⟩
  | .d x :: xs, _, _, _, h, e => by
    cases h with
    | cons h1 h2 =>
      cases h1 with
      | d h1 =>
        simp only [allD, Option.map_eq_some_iff] at e
        obtain ⟨r, e, rfl⟩ := e
        obtain ⟨q, rfl⟩ := RsL.toD h2 e
        exact ⟨.cons h1 q, rfl⟩
  | .ref _ :: _, _, _, _, _, e => by cases e
  | .fn _ :: _, _, _, _, _, e => by cases e
  | .scr _ :: _, _, _, _, _, e => by cases e
  | .own _ :: _, _, _, _, _, e => by cases e
  | .dic _ _ :: _, _, _, _, _, e => by cases e
theorem allD_map : ∀ ds : List PyData, allD (ds.map SV.d) = some ds
  | [] => rfl
  | d :: ds => by simp [allD, allD_map ds]
theorem Rs.nil_d {x : PyData} {v : V} {g : List Addr} (h : Rs K mg H A F (.d x) v g) : g = [] ∧ Dq K H F x v := by cases h with | d h => exact ⟨rfl, h⟩
end

/-! ### the state -/
structure Ct where
  K : PySem.W.Frag
  mg : Str → Option Value
  E0 : Hp
  A0 : List Addr
  Pr : Addr → Prop

/-- with other things that are left alone -/
def Ct.pr (C : Ct) (P : Addr → Prop) : Ct := { C with Pr := P }
def Fs (C : Ct) (A : List Addr) (G : List (List Addr)) : Addr → Prop := fun a => a ∈ A ∨ a ∈ G.flatten ∨ C.Pr a

structure Sim (C : Ct) (ρ : Rho) (S : Sto) (A : List Addr) (G : List (List Addr)) (σ : L2.St) (H : Hp) : Prop where
  pre : C.A0 <+: A
  lr : ρ.length = σ.length
  lg : G.length = ρ.length
  ls : S.length = A.length
  nd : (A ++ G.flatten).Nodup
  trk : ∀ a ∈ A ++ G.flatten, H a ≠ none
  prot : ∀ a, C.Pr a → a ∉ A ++ G.flatten ∧ H a ≠ none
  slots : ∀ (i : Nat) x, ρ[i]? = some (some x) → ∃ v g, σ[i]? = some (some v) ∧ Rs C.K C.mg H A (Fs C A G) x v g ∧ g.Sublist (G[i]?.getD [])
  sto : ∀ (n : Nat) xs, S[n]? = some xs → ∃ a vs, A[n]? = some a ∧ H a = some (.lst vs) ∧ vs.length ≤ sizeLine ∧ RsL C.K C.mg H A (Fs C A G) xs vs []
  frame : ∀ a o, C.E0 a = some o → a ∉ C.A0 → H a = some o
  fresh : ∀ a ∈ A ++ G.flatten, a ∈ C.A0 ∨ C.E0 a = none
  a0 : ∀ a ∈ C.A0, C.E0 a ≠ none

/-- what an expression may do to the heap -/
structure Ext (A : List Addr) (H : Hp) (A' : List Addr) (H' : Hp) : Prop where
  pre : A <+: A'
  new : ∀ a ∈ A', a ∈ A ∨ H a = none
  keep : ∀ a o, H a = some o → a ∉ A → H' a = some o
  there : ∀ a, H a ≠ none → H' a ≠ none
theorem Ext.refl {A : List Addr} {H : Hp} : Ext A H A H := ⟨List.prefix_refl _, fun _ h => .inl h, fun _ _ h _ => h, fun _ h => h⟩
theorem Ext.trans {A A1 A2 : List Addr} {H H1 H2 : Hp} (x : Ext A H A1 H1) (y : Ext A1 H1 A2 H2) : Ext A H A2 H2 := by
  refine ⟨x.pre.trans y.pre, fun a h => ?_, fun a o e n => ?_, fun a h => y.there a (x.there a h)⟩
  · rcases y.new a h with z | z
    · exact x.new a z
    · refine .inr ?_
      cases q : H a with
      | none => rfl
      | some o => exact absurd z (x.there a (by rw [q]; simp))
  · refine y.keep a o (x.keep a o e n) fun z => ?_
    rcases x.new a z with z | z
    · exact n z
    · rw [e] at z; cases z
theorem prefix_get {A A' : List Addr} (h : A <+: A') : ∀ (n : Nat) a, A[n]? = some a → A'[n]? = some a := fun n a e => by
  obtain ⟨t, rfl⟩ := h
  rw [List.getElem?_append_left]
  · exact e
  · exact (List.getElem?_eq_some_iff.mp e).1
/-- a heap that grows by new objects alone -/
theorem Ext.upd {A : List Addr} {H : Hp} {p : Addr} {o : HO} (h : H p = none) : Ext A H A (upd H p o) := by
  refine ⟨List.prefix_refl _, fun _ h => .inl h, fun a u e _ => ?_, fun a e => ?_⟩
  · rw [upd_ne (ne_of_none e h)]; exact e
  · unfold L2.upd; split
    · simp
    · exact e
section
variable {C : Ct} {ρ : Rho} {S S' : Sto} {A A' : List Addr} {G : List (List Addr)} {σ : L2.St} {H H' : Hp}
theorem Sim.len (I : Sim C ρ S A G σ H) : G.length = σ.length := I.lg.trans I.lr
theorem Sim.notPr (I : Sim C ρ S A G σ H) {a : Addr} (p : C.Pr a) : a ∉ A ++ G.flatten := (I.prot a p).1
theorem Sim.prTrk (I : Sim C ρ S A G σ H) {a : Addr} (p : C.Pr a) : H a ≠ none := (I.prot a p).2
theorem Sim.fsTrk (I : Sim C ρ S A G σ H) {a : Addr} (p : Fs C A G a) : H a ≠ none := by
  rcases p with p | p | p
  · exact I.trk a (List.mem_append_left _ p)
  · exact I.trk a (List.mem_append_right _ p)
  · exact I.prTrk p
/-- the slots stay through what an expression does; the store may have changed -/
theorem Sim.ext (I : Sim C ρ S A G σ H) (x : Ext A H A' H') (ls : S'.length = A'.length) (nd : A'.Nodup) (trk : ∀ a ∈ A', H' a ≠ none)
    (sto : ∀ (n : Nat) xs, S'[n]? = some xs → ∃ a vs, A'[n]? = some a ∧ H' a = some (.lst vs) ∧ vs.length ≤ sizeLine ∧ RsL C.K C.mg H' A' (Fs C A' G) xs vs []) : Sim C ρ S' A' G σ H' := by
  have kG : ∀ a ∈ G.flatten, a ∉ A := fun a h z => (List.nodup_append.mp I.nd).2.2 a z a h rfl
  have kept : ∀ a ∈ G.flatten, ∀ o, H a = some o → H' a = some o := fun a h o e => x.keep a o e (kG a h)
  have e0 : ∀ a, H a = none → C.E0 a = none := fun a h => by
    cases q : C.E0 a with
    | none => rfl
    | some o =>
      by_cases z : a ∈ C.A0
      · exact absurd h (I.trk a (List.mem_append_left _ (I.pre.subset z)))
      · rw [I.frame a o q z] at h; cases h
  refine ⟨I.pre.trans x.pre, I.lr, I.lg, ls, ?_, fun a h => ?_, fun a p => ⟨fun z => ?_, x.there a (I.prot a p).2⟩, fun i y e => ?_, sto, fun a o e n => ?_, fun a h => ?_, I.a0⟩
  · refine List.nodup_append.mpr ⟨nd, (List.nodup_append.mp I.nd).2.1, fun a h b h' e => ?_⟩
    subst e
    rcases x.new a h with z | z
    · exact kG a h' z
    · exact I.trk a (List.mem_append_right _ h') z
  · rcases List.mem_append.mp h with h | h
    · exact trk a h
    · exact x.there a (I.trk a (List.mem_append_right _ h))
  · rcases List.mem_append.mp z with z | z
    · rcases x.new a z with z | z
      · exact (I.prot a p).1 (List.mem_append_left _ z)
      · exact (I.prot a p).2 z
    · exact (I.prot a p).1 (List.mem_append_right _ z)
  · obtain ⟨v, g, e1, r, sb⟩ := I.slots i y e
    refine ⟨v, g, e1, Rs.mono (prefix_get x.pre) (fun a z => ?_) (fun a o q n => ?_) _ _ _ (fun a m o q => ?_) r, sb⟩
    · rcases z with z | z | z
      · rcases x.new a z with z | z
        · exact .inl (.inl z)
        · exact .inr z
      · exact .inl (.inr (.inl z))
      · exact .inl (.inr (.inr z))
    · exact x.keep a o q fun z => n (.inl z)
    · have m := sb.subset m
      refine kept a ?_ o q
      cases hg : G[i]? with
      | none => rw [hg] at m; cases m
      | some g => rw [hg] at m; exact List.mem_flatten.mpr ⟨g, List.mem_of_getElem? hg, m⟩
  · refine x.keep a o (I.frame a o e n) fun z => ?_
    rcases I.fresh a (List.mem_append_left _ z) with q | q
    · exact n q
    · rw [e] at q; cases q
  · rcases List.mem_append.mp h with h | h
    · rcases x.new a h with z | z
      · exact I.fresh a (List.mem_append_left _ z)
      · exact .inr (e0 a z)
    · exact I.fresh a (List.mem_append_right _ h)
theorem Sim.e0 (I : Sim C ρ S A G σ H) : ∀ a, H a = none → C.E0 a = none := fun a h => by
  cases q : C.E0 a with
  | none => rfl
  | some o =>
    by_cases z : a ∈ C.A0
    · exact absurd h (I.trk a (List.mem_append_left _ (I.pre.subset z)))
    · rw [I.frame a o q z] at h; cases h
/-- .. where the store is as it was -/
theorem Sim.grow (I : Sim C ρ S A G σ H) (x : Ext A H A H') (kp : ∀ a ∈ A, ∀ o, H a = some o → H' a = some o) : Sim C ρ S A G σ H' := by
  refine I.ext x I.ls (List.nodup_append.mp I.nd).1 (fun a h => x.there a (I.trk a (List.mem_append_left _ h))) fun n xs e => ?_
  obtain ⟨a, vs, e1, e2, l, r⟩ := I.sto n xs e
  refine ⟨a, vs, e1, kp a (List.mem_of_getElem? e1) _ e2, l, RsL.mono (fun _ _ h => h) (fun a h => .inl h) (fun a o q n => x.keep a o q fun z => n (.inl z)) _ _ _ (fun a m => by cases m) r⟩
theorem Sim.new (I : Sim C ρ S A G σ H) {p : Addr} {o : HO} (h : H p = none) : Sim C ρ S A G σ (upd H p o) := I.grow (Ext.upd h) fun a _ u e => by rw [upd_ne (ne_of_none e h)]; exact e
end

theorem Sim.prw {C : Ct} {P : Addr → Prop} {ρ : Rho} {S : Sto} {A : List Addr} {G : List (List Addr)} {σ : L2.St} {H : Hp} (I : Sim (C.pr P) ρ S A G σ H) (h : ∀ a, C.Pr a → P a) : Sim C ρ S A G σ H := by
  have hF : ∀ a, Fs C A G a → Fs (C.pr P) A G a := fun a z => z.elim .inl fun z => z.elim (fun z => .inr (.inl z)) fun z => .inr (.inr (h a z))
  refine ⟨I.pre, I.lr, I.lg, I.ls, I.nd, I.trk, fun a p => I.prot a (h a p), fun i x e => ?_, fun n xs e => ?_, I.frame, I.fresh, I.a0⟩
  · obtain ⟨v, g, e1, r, sb⟩ := I.slots i x e
    exact ⟨v, g, e1, Rs.mono (fun _ _ q => q) (fun a z => .inl (hF a z)) (fun a o q n => q) _ _ _ (fun a m o q => q) r, sb⟩
  · obtain ⟨a, vs, e1, e2, l, r⟩ := I.sto n xs e
    exact ⟨a, vs, e1, e2, l, RsL.mono (fun _ _ q => q) (fun a z => .inl (hF a z)) (fun a o q n => q) _ _ _ (fun a m o q => q) r⟩
theorem Sim.prc {C : Ct} {P : Addr → Prop} {ρ : Rho} {S : Sto} {A : List Addr} {G : List (List Addr)} {σ : L2.St} {H : Hp} (I : Sim C ρ S A G σ H) (h : ∀ a, P a → C.Pr a) : Sim (C.pr P) ρ S A G σ H := by
  have hF : ∀ a, Fs (C.pr P) A G a → Fs C A G a := fun a z => z.elim .inl fun z => z.elim (fun z => .inr (.inl z)) fun z => .inr (.inr (h a z))
  refine ⟨I.pre, I.lr, I.lg, I.ls, I.nd, I.trk, fun a p => I.prot a (h a p), fun i x e => ?_, fun n xs e => ?_, I.frame, I.fresh, I.a0⟩
  · obtain ⟨v, g, e1, r, sb⟩ := I.slots i x e
    exact ⟨v, g, e1, Rs.mono (fun _ _ q => q) (fun a z => .inl (hF a z)) (fun a o q n => q) _ _ _ (fun a m o q => q) r, sb⟩
  · obtain ⟨a, vs, e1, e2, l, r⟩ := I.sto n xs e
    exact ⟨a, vs, e1, e2, l, RsL.mono (fun _ _ q => q) (fun a z => .inl (hF a z)) (fun a o q n => q) _ _ _ (fun a m o q => q) r⟩
/-! ### what an expression hands on -/
/-- be: looked at now; fe: one's own from here on (data, a shared list's number, or a new list that nobody else has) -/
inductive Kd | be | fe
def Rk (C : Ct) (kd : Kd) (g : List Addr) (A' : List Addr) (G : List (List Addr)) (H H' : Hp) (x : SV) (v : V) : Prop :=
  match kd with
  | .be => Rs C.K C.mg H' A' (Fs C A' G) x v g ∧ ∀ a ∈ g, a ∉ A' ∧ H' a ≠ none
  | .fe => Rs C.K C.mg H' A' (fun a => Fs C A' G a ∨ a ∈ g) x v g ∧ g.Nodup ∧ ∀ a ∈ g, H a = none ∧ H' a ≠ none ∧ a ∉ A'
/-- new lists of one's own are left alone by what comes next -/
def Ct.pg (C : Ct) (kd : Kd) (g : List Addr) : Ct :=
  match kd with
  | .be => C
  | .fe => C.pr fun a => C.Pr a ∨ a ∈ g
def EPost (C : Ct) (kd : Kd) (ρ : Rho) (A : List Addr) (G : List (List Addr)) (σ : L2.St) (H : Hp) (x : SV) (S' : Sto) (v : V) (H' : Hp) : Prop :=
  ∃ A' g, Ext A H A' H' ∧ Sim (C.pg kd g) ρ S' A' G σ H' ∧ Rk C kd g A' G H H' x v
/-- an exception's class, its fields -/
def XRep (C : Ct) (H' : Hp) (c : Str) (fs : List (Str × SV)) (cls : Value) (d : Option Addr) : Prop :=
  ∃ Ca, C.mg c = some (.ref Ca) ∧ cls = .ref Ca ∧ ((fs = [] ∧ d = none) ∨ ∃ dx vs, d = some dx ∧ H' dx = some (.xd vs) ∧ vs.map (·.1) = fs.map (·.1) ∧ RsL C.K C.mg H' [] (fun _ => True) (fs.map (·.2)) (vs.map (·.2)) [])
def XPost (C : Ct) (ρ : Rho) (A : List Addr) (G : List (List Addr)) (σ : L2.St) (H : Hp) (c : Str) (fs : List (Str × SV)) (S' : Sto) (cls : Value) (d : Option Addr) (H' : Hp) : Prop :=
  ∃ A', Ext A H A' H' ∧ Sim C ρ S' A' G σ H' ∧ XRep C H' c fs cls d
def EGood {α V' : Type} (post : α → Sto → V' → Hp → Prop) (xpost : Str → List (Str × SV) → Sto → Value → Option Addr → Hp → Prop) (W : WX) (σ : L2.St) (Q : V' → Hp → Prop) : Option (Res α) → Prop
  | none => False
  | some (.ok x S') => ∀ v H', post x S' v H' → Q v H'
  | some (.exc c fs S') => ∀ cls d H', xpost c fs S' cls d H' → W cls d σ H'
/-- an expression's reading by its function -/
def tV (C : Ct) (W : WX) (kd : Kd) (f : Rho → Mo SV) : TE := fun σ H Q => ∃ P ρ S A G, (∀ a, C.Pr a → P a) ∧ Sim (C.pr P) ρ S A G σ H ∧ EGood (EPost (C.pr P) kd ρ A G σ H) (XPost C ρ A G σ H) W σ Q (f ρ S)
/-- a list of expressions, each of the same kind -/
def RkL (C : Ct) (kd : Kd) (g : List Addr) (A' : List Addr) (G : List (List Addr)) (H H' : Hp) (xs : List SV) (vs : List V) : Prop :=
  match kd with
  | .be => RsL C.K C.mg H' A' (Fs C A' G) xs vs g ∧ ∀ a ∈ g, a ∉ A' ∧ H' a ≠ none
  | .fe => RsL C.K C.mg H' A' (fun a => Fs C A' G a ∨ a ∈ g) xs vs g ∧ g.Nodup ∧ ∀ a ∈ g, H a = none ∧ H' a ≠ none ∧ a ∉ A'
def APost (C : Ct) (kd : Kd) (ρ : Rho) (A : List Addr) (G : List (List Addr)) (σ : L2.St) (H : Hp) (xs : List SV) (S' : Sto) (vs : List V) (H' : Hp) : Prop :=
  ∃ A' g, Ext A H A' H' ∧ Sim (C.pg kd g) ρ S' A' G σ H' ∧ RkL C kd g A' G H H' xs vs
def tVs (C : Ct) (W : WX) (kd : Kd) (f : Rho → Mo (List SV)) : TA := fun σ H Q => ∃ P ρ S A G, (∀ a, C.Pr a → P a) ∧ Sim (C.pr P) ρ S A G σ H ∧ EGood (APost (C.pr P) kd ρ A G σ H) (XPost C ρ A G σ H) W σ Q (f ρ S)
/-- a test -/
def BPost (C : Ct) (ρ : Rho) (A : List Addr) (G : List (List Addr)) (σ : L2.St) (H : Hp) (b : Bool) (S' : Sto) (b' : Bool) (H' : Hp) : Prop :=
  b' = b ∧ ∃ A', Ext A H A' H' ∧ Sim C ρ S' A' G σ H'
def tTs (C : Ct) (W : WX) (f : Rho → Mo Bool) : TT := fun σ H Q => ∃ P ρ S A G, (∀ a, C.Pr a → P a) ∧ Sim (C.pr P) ρ S A G σ H ∧ EGood (BPost (C.pr P) ρ A G σ H) (XPost C ρ A G σ H) W σ Q (f ρ S)

/-! ### what a statement hands on -/
structure ExtS (A : List Addr) (G : List (List Addr)) (H : Hp) (A' : List Addr) (G' : List (List Addr)) (H' : Hp) : Prop where
  pre : A <+: A'
  new : ∀ a ∈ A' ++ G'.flatten, a ∈ A ++ G.flatten ∨ H a = none
  keep : ∀ a o, H a = some o → a ∉ A ++ G.flatten → H' a = some o
  there : ∀ a, H a ≠ none → H' a ≠ none
theorem ExtS.refl {A : List Addr} {G : List (List Addr)} {H : Hp} : ExtS A G H A G H := ⟨List.prefix_refl _, fun _ h => .inl h, fun _ _ h _ => h, fun _ h => h⟩
theorem ExtS.trans {A A1 A2 : List Addr} {G G1 G2 : List (List Addr)} {H H1 H2 : Hp} (x : ExtS A G H A1 G1 H1) (y : ExtS A1 G1 H1 A2 G2 H2) : ExtS A G H A2 G2 H2 := by
  refine ⟨x.pre.trans y.pre, fun a h => ?_, fun a o e n => ?_, fun a h => y.there a (x.there a h)⟩
  · rcases y.new a h with z | z
    · exact x.new a z
    · refine .inr ?_
      cases q : H a with
      | none => rfl
      | some o => exact absurd z (x.there a (by rw [q]; simp))
  · refine y.keep a o (x.keep a o e n) fun z => ?_
    rcases x.new a z with z | z
    · exact n z
    · rw [e] at z; cases z
theorem Ext.s {A A' : List Addr} {G : List (List Addr)} {H H' : Hp} (x : Ext A H A' H') : ExtS A G H A' G H' := by
  refine ⟨x.pre, fun a h => ?_, fun a o e n => x.keep a o e fun z => n (List.mem_append_left _ z), x.there⟩
  rcases List.mem_append.mp h with h | h
  · rcases x.new a h with z | z
    · exact .inl (List.mem_append_left _ z)
    · exact .inr z
  · exact .inl (List.mem_append_right _ h)
/-- what a def leaves: the store, what is one's own in what it hands back -/
structure RSto (C : Ct) (A' g : List Addr) (S' : Sto) (H' : Hp) : Prop where
  pre : C.A0 <+: A'
  ls : S'.length = A'.length
  nd : (A' ++ g).Nodup
  trk : ∀ a ∈ A' ++ g, H' a ≠ none ∧ (a ∈ C.A0 ∨ C.E0 a = none)
  own : ∀ a ∈ g, C.E0 a = none
  sto : ∀ (n : Nat) xs, S'[n]? = some xs → ∃ a vs, A'[n]? = some a ∧ H' a = some (.lst vs) ∧ vs.length ≤ sizeLine ∧ RsL C.K C.mg H' A' (fun a => a ∈ A' ∨ a ∈ g ∨ C.Pr a) xs vs []
  frame : ∀ a o, C.E0 a = some o → a ∉ C.A0 → H' a = some o
  there : ∀ a, C.E0 a ≠ none → H' a ≠ none
def RPost (C : Ct) (x : SV) (S' : Sto) (v : V) (H' : Hp) : Prop := ∃ A' g, RSto C A' g S' H' ∧ Rs C.K C.mg H' A' (fun a => a ∈ A' ∨ a ∈ g ∨ C.Pr a) x v g
def SGood (C : Ct) (W : WX) (A : List Addr) (G : List (List Addr)) (H : Hp) (D : Ends) : Option Fl → Prop
  | none => False
  | some (.nx ρ' S') => ∀ A' G' σ' H', ExtS A G H A' G' H' → Sim C ρ' S' A' G' σ' H' → D.nx σ' H'
  | some (.bk ρ' S') => ∀ A' G' σ' H', ExtS A G H A' G' H' → Sim C ρ' S' A' G' σ' H' → D.bk σ' H'
  | some (.ct ρ' S') => ∀ A' G' σ' H', ExtS A G H A' G' H' → Sim C ρ' S' A' G' σ' H' → D.ct σ' H'
  | some (.rt x S') => ∀ v H', RPost C x S' v H' → D.rt v H'
  | some (.exc c fs ρ' S') => ∀ A' G' σ' H' cls d, ExtS A G H A' G' H' → Sim C ρ' S' A' G' σ' H' → XRep C H' c fs cls d → W cls d σ' H'
def tS (C : Ct) (W : WX) (f : Rho → Sto → Option Fl) : TS := fun D σ H => ∃ ρ S A G, Sim C ρ S A G σ H ∧ SGood C W A G H D (f ρ S)
theorem SGood.ext {C : Ct} {W : WX} {A A1 : List Addr} {G G1 : List (List Addr)} {H H1 : Hp} {D : Ends} {r : Option Fl} (x : ExtS A G H A1 G1 H1) (h : SGood C W A G H D r) : SGood C W A1 G1 H1 D r := by
  cases r with
  | none => exact h
  | some f =>
    cases f with
    | nx ρ' S' => exact fun A' G' σ' H' y s => h A' G' σ' H' (x.trans y) s
    | bk ρ' S' => exact fun A' G' σ' H' y s => h A' G' σ' H' (x.trans y) s
    | ct ρ' S' => exact fun A' G' σ' H' y s => h A' G' σ' H' (x.trans y) s
    | rt z S' => exact h
    | exc c fs ρ' S' => exact fun A' G' σ' H' cls d y s => h A' G' σ' H' cls d (x.trans y) s
end VL

end
section
set_option Elab.async false
set_option linter.all false
set_option maxRecDepth 100000
/-! VL2: expressions: names, constants, operators, comparisons, tests. -/
namespace VL
open PySem PySem.Spec PyProof.Rows L2

def bindM {α β : Type} (m : Option (Res α)) (k : α → Sto → Option (Res β)) : Option (Res β) :=
  match m with
  | none => none
  | some (.ok a S) => k a S
  | some (.exc c fs S) => some (.exc c fs S)
@[simp] theorem bindM_ok {α β : Type} (a : α) (S : Sto) (k : α → Sto → Option (Res β)) : bindM (some (.ok a S)) k = k a S := rfl
@[simp] theorem bindM_none {α β : Type} (k : α → Sto → Option (Res β)) : bindM none k = none := rfl
@[simp] theorem bindM_exc {α β : Type} (c : Str) (fs : List (Str × SV)) (S : Sto) (k : α → Sto → Option (Res β)) : bindM (some (.exc c fs S)) k = some (.exc c fs S) := rfl

theorem pe_imp {X : Cx} {e : Expr} {t t' : TE} (h : PE X e t) (i : ∀ σ H Q, t' σ H Q → t σ H Q) : PE X e t' := ⟨fun pins s σ H Q I q => h.run pins s σ H Q I (i σ H Q q)⟩
theorem pt_imp {X : Cx} {e : Expr} {t t' : TT} (h : PT X e t) (i : ∀ σ H Q, t' σ H Q → t σ H Q) : PT X e t' := ⟨fun pins s σ H Q I q => h.run pins s σ H Q I (i σ H Q q)⟩
theorem pw_imp {X : Cx} {e : Expr} {t t' : TT} (h : PW X e t) (i : ∀ σ H Q, t' σ H Q → t σ H Q) : PW X e t' := ⟨fun wh pins s σ H Q I q => h.run wh pins s σ H Q I (i σ H Q q)⟩
theorem pa_imp {X : Cx} {es : List Expr} {t t' : TA} (h : PA X es t) (i : ∀ σ H Q, t' σ H Q → t σ H Q) : PA X es t' := ⟨fun pos pins s σ H Q I q => h.run pos pins s σ H Q I (i σ H Q q)⟩
theorem ps_imp {X : Cx} {st : Stmt} {t t' : TS} (h : PS X st t) (i : ∀ D σ H, t' D σ H → t D σ H) : PS X st t' := ⟨fun pins s σ H D I q => h.run pins s σ H D I (i D σ H q)⟩
theorem pss_imp {X : Cx} {st : List Stmt} {t t' : TS} (h : PSs X st t) (i : ∀ D σ H, t' D σ H → t D σ H) : PSs X st t' := ⟨fun pins s σ H D I q => h.run pins s σ H D I (i D σ H q)⟩

section
variable {C : Ct} {W : WX} {kd ka kb : Kd} {ρ : Rho} {S S1 : Sto} {A A1 A2 : List Addr} {G : List (List Addr)} {σ : L2.St} {H H0 H1 H2 : Hp} {x y z : SV} {v u w : V} {g g' : List Addr} {xs : List SV} {vs : List V}

theorem fs_ext (x : Ext A1 H1 A2 H2) : ∀ a, Fs C A2 G a → Fs C A1 G a ∨ H1 a = none := fun a z => by
  rcases z with z | z | z
  · rcases x.new a z with z | z
    · exact .inl (.inl z)
    · exact .inr z
  · exact .inl (.inr (.inl z))
  · exact .inl (.inr (.inr z))
theorem Rk.ext (e : Ext A1 H1 A2 H2) (r : Rk C kd g A1 G H H1 x v) : Rk C kd g A2 G H H2 x v := by
  cases kd with
  | be =>
    obtain ⟨r, hg⟩ := r
    refine ⟨Rs.mono (prefix_get e.pre) (fs_ext e) (fun a o q n => e.keep a o q fun z => n (.inl z)) _ _ _ (fun a m o q => e.keep a o q (hg a m).1) r, fun a m => ⟨fun z => ?_, e.there a (hg a m).2⟩⟩
    rcases e.new a z with z | z
    · exact (hg a m).1 z
    · exact (hg a m).2 z
  | fe =>
    obtain ⟨r, nd, hg⟩ := r
    refine ⟨Rs.mono (prefix_get e.pre) (fun a z => ?_) (fun a o q n => e.keep a o q fun z => n (.inl (.inl z))) _ _ _ (fun a m o q => e.keep a o q (hg a m).2.2) r, nd, fun a m => ⟨(hg a m).1, e.there a (hg a m).2.1, fun z => ?_⟩⟩
    · rcases z with z | z
      · rcases fs_ext e a z with z | z
        · exact .inl (.inl z)
        · exact .inr z
      · exact .inl (.inr z)
    · rcases e.new a z with z | z
      · exact (hg a m).2.2 z
      · exact (hg a m).2.1 z
theorem RkL.ext (e : Ext A1 H1 A2 H2) (r : RkL C kd g A1 G H H1 xs vs) : RkL C kd g A2 G H H2 xs vs := by
  cases kd with
  | be =>
    obtain ⟨r, hg⟩ := r
    refine ⟨RsL.mono (prefix_get e.pre) (fs_ext e) (fun a o q n => e.keep a o q fun z => n (.inl z)) _ _ _ (fun a m o q => e.keep a o q (hg a m).1) r, fun a m => ⟨fun z => ?_, e.there a (hg a m).2⟩⟩
    rcases e.new a z with z | z
    · exact (hg a m).1 z
    · exact (hg a m).2 z
  | fe =>
    obtain ⟨r, nd, hg⟩ := r
    refine ⟨RsL.mono (prefix_get e.pre) (fun a z => ?_) (fun a o q n => e.keep a o q fun z => n (.inl (.inl z))) _ _ _ (fun a m o q => e.keep a o q (hg a m).2.2) r, nd, fun a m => ⟨(hg a m).1, e.there a (hg a m).2.1, fun z => ?_⟩⟩
    · rcases z with z | z
      · rcases fs_ext e a z with z | z
        · exact .inl (.inl z)
        · exact .inr z
      · exact .inl (.inr z)
    · rcases e.new a z with z | z
      · exact (hg a m).2.2 z
      · exact (hg a m).2.1 z
theorem none_back (e : Ext A H A1 H1) {a : Addr} (h : H1 a = none) : H a = none := by
  cases q : H a with
  | none => rfl
  | some o => exact absurd h (e.there a (by rw [q]; simp))
theorem Rk.from (h : ∀ a, H0 a = none → H a = none) (r : Rk C kd g A1 G H0 H1 x v) : Rk C kd g A1 G H H1 x v := by
  cases kd with
  | be => exact r
  | fe =>
    obtain ⟨r, nd, hg⟩ := r
    exact ⟨r, nd, fun a m => ⟨h a (hg a m).1, (hg a m).2⟩⟩
theorem RkL.from (h : ∀ a, H0 a = none → H a = none) (r : RkL C kd g A1 G H0 H1 xs vs) : RkL C kd g A1 G H H1 xs vs := by
  cases kd with
  | be => exact r
  | fe =>
    obtain ⟨r, nd, hg⟩ := r
    exact ⟨r, nd, fun a m => ⟨h a (hg a m).1, (hg a m).2⟩⟩
theorem EPost.trans (e : Ext A H A1 H1) (p : EPost C kd ρ A1 G σ H1 x S v H2) : EPost C kd ρ A G σ H x S v H2 := by
  obtain ⟨A2, g, e2, I, r⟩ := p
  exact ⟨A2, g, e.trans e2, I, r.from fun a q => none_back e q⟩
theorem APost.trans (e : Ext A H A1 H1) (p : APost C kd ρ A1 G σ H1 xs S vs H2) : APost C kd ρ A G σ H xs S vs H2 := by
  obtain ⟨A2, g, e2, I, r⟩ := p
  exact ⟨A2, g, e.trans e2, I, r.from fun a q => none_back e q⟩
theorem XPost.trans {c : Str} {fs : List (Str × SV)} {cls : Value} {d : Option Addr} (e : Ext A H A1 H1) (p : XPost C ρ A1 G σ H1 c fs S cls d H2) : XPost C ρ A G σ H c fs S cls d H2 := by
  obtain ⟨A2, e2, I, r⟩ := p
  exact ⟨A2, e.trans e2, I, r⟩
theorem BPost.trans {b b' : Bool} (e : Ext A H A1 H1) (p : BPost C ρ A1 G σ H1 b S b' H2) : BPost C ρ A G σ H b S b' H2 := by
  obtain ⟨q, A2, e2, I⟩ := p
  exact ⟨q, A2, e.trans e2, I⟩
theorem pg_sub {kd : Kd} {a : Addr} (h : C.Pr a) : (C.pg kd g).Pr a := by
  cases kd with
  | be => exact h
  | fe => exact .inl h
/-- the state alone -/
theorem Sim.pgw (I : Sim (C.pg kd g) ρ S A G σ H) : Sim C ρ S A G σ H := by
  cases kd with
  | be => exact I
  | fe => exact I.prw fun a h => .inl h
theorem Sim.pg0 (I : Sim C ρ S A G σ H) : Sim (C.pg kd []) ρ S A G σ H := by
  cases kd with
  | be => exact I
  | fe => exact I.prc fun a h => h.elim id fun m => by cases m
/-- the heap as it is -/
theorem EPost.same (I : Sim C ρ S A G σ H) (r : Rk C kd [] A G H H x v) : EPost C kd ρ A G σ H x S v H := ⟨A, [], Ext.refl, I.pg0, r⟩
/-- a new object that is left alone -/
theorem Sim.newP (I : Sim C ρ S A G σ H) {p : Addr} {o : HO} (h : H p = none) : Sim (C.pr fun a => C.Pr a ∨ a = p) ρ S A G σ (upd H p o) := by
  have J : Sim C ρ S A G σ (upd H p o) := I.new h
  have hF : ∀ a, Fs (C.pr fun a => C.Pr a ∨ a = p) A G a → Fs C A G a ∨ H a = none := fun a z => by
    rcases z with z | z | z | z
    · exact .inl (.inl z)
    · exact .inl (.inr (.inl z))
    · exact .inl (.inr (.inr z))
    · exact .inr (by rw [z]; exact h)
  have hk : ∀ a o', H a = some o' → upd H p o a = some o' := fun a o' e => by rw [upd_ne (ne_of_none e h)]; exact e
  refine ⟨J.pre, J.lr, J.lg, J.ls, J.nd, J.trk, fun a q => ?_, fun i x e => ?_, fun n xs e => ?_, J.frame, J.fresh, J.a0⟩
  · rcases q with q | q
    · exact J.prot a q
    · subst q
      exact ⟨fun z => I.trk a z h, by rw [upd_same]; simp⟩
  · obtain ⟨v, g, e1, r, sb⟩ := I.slots i x e
    exact ⟨v, g, e1, Rs.mono (fun _ _ q => q) hF (fun a o q n => hk a o q) _ _ _ (fun a m o q => hk a o q) r, sb⟩
  · obtain ⟨a, vs, e1, e2, l, r⟩ := I.sto n xs e
    exact ⟨a, vs, e1, hk _ _ e2, l, RsL.mono (fun _ _ q => q) hF (fun a o q n => hk a o q) _ _ _ (fun a m o q => hk a o q) r⟩
/-- data of any kind -/
theorem Rk.dat {d : PyData} (h : Dq C.K H1 (Fs C A1 G) d v) : Rk C kd [] A1 G H H1 (.d d) v := by
  cases kd with
  | be => exact ⟨.d h, fun a m => by cases m⟩
  | fe => exact ⟨.d (Dq.mono (fun a z => z.elim .inl fun m => by cases m) (fun a o q n => q) _ _ h), List.nodup_nil, fun a m => by cases m⟩
theorem Rk.undat {d : PyData} (h : Rk C kd g A1 G H H1 (.d d) v) : Dq C.K H1 (Fs C A1 G) d v := by
  cases kd with
  | be =>
    obtain ⟨r, _⟩ := h
    exact r.nil_d.2
  | fe =>
    obtain ⟨r, _⟩ := h
    exact Dq.mono (fun a z => .inl (.inl z)) (fun a o q n => q) _ _ r.nil_d.2
theorem Rk.int {i : Int} (h : Rk C kd g A1 G H H1 (.d (.int i)) v) : v = .int i := by cases h.undat; rfl
theorem Rk.bl {i : Bool} (h : Rk C kd g A1 G H H1 (.d (.bool i)) v) : v = .bl i := by cases h.undat; rfl
theorem Rk.str {i : Str} (h : Rk C kd g A1 G H H1 (.d (.str i)) v) : v = .str i := by cases h.undat; rfl
theorem Rk.non (h : Rk C kd g A1 G H H1 (.d .none) v) : v = .non := by cases h.undat; rfl
/-- from one's own to looked at -/
theorem Rk.be (h : Rk C .fe g A1 G H H1 x v) : Rk C .be g A1 G H H1 x v := by
  obtain ⟨r, nd, hg⟩ := h
  exact ⟨Rs.mono (fun _ _ q => q) (fun a z => .inl (.inl z)) (fun a o q n => q) _ _ _ (fun a m o q => q) r, fun a m => ⟨(hg a m).2.2, (hg a m).2.1⟩⟩
theorem RkL.be (h : RkL C .fe g A1 G H H1 xs vs) : RkL C .be g A1 G H H1 xs vs := by
  obtain ⟨r, nd, hg⟩ := h
  exact ⟨RsL.mono (fun _ _ q => q) (fun a z => .inl (.inl z)) (fun a o q n => q) _ _ _ (fun a m o q => q) r, fun a m => ⟨(hg a m).2.2, (hg a m).2.1⟩⟩
theorem EPost.be (h : EPost C .fe ρ A G σ H x S v H1) : EPost C kd ρ A G σ H x S v H1 := by
  cases kd with
  | fe => exact h
  | be =>
    obtain ⟨A', g, e, I, r⟩ := h
    exact ⟨A', g, e, I.pgw, r.be⟩
end

section
variable {α β V1 V2 : Type} {C : Ct} {W : WX} {ρ : Rho} {S : Sto} {A : List Addr} {G : List (List Addr)} {σ : L2.St} {H : Hp}
theorem EGood.step {post : β → Sto → V2 → Hp → Prop} {xpost : Str → List (Str × SV) → Sto → Value → Option Addr → Hp → Prop} {post1 : α → Sto → V1 → Hp → Prop} {xpost1 : Str → List (Str × SV) → Sto → Value → Option Addr → Hp → Prop}
    {Q : V2 → Hp → Prop} {Q1 : V1 → Hp → Prop} {m : Option (Res α)} {k : α → Sto → Option (Res β)} (q : EGood post xpost W σ Q (bindM m k)) (hx : ∀ c fs S' cls d H', xpost1 c fs S' cls d H' → xpost c fs S' cls d H')
    (h : ∀ x S', EGood post xpost W σ Q (k x S') → ∀ v H', post1 x S' v H' → Q1 v H') : EGood post1 xpost1 W σ Q1 m := by
  cases m with
  | none => exact q
  | some r =>
    cases r with
    | ok x S' => exact h x S' q
    | exc c fs S' => exact fun cls d H' p => q cls d H' (hx _ _ _ _ _ _ p)
theorem EGood.post {post post1 : α → Sto → V1 → Hp → Prop} {xpost xpost1 : Str → List (Str × SV) → Sto → Value → Option Addr → Hp → Prop} {Q : V1 → Hp → Prop} {m : Option (Res α)} (q : EGood post xpost W σ Q m)
    (hp : ∀ x S' v H', post1 x S' v H' → post x S' v H') (hx : ∀ c fs S' cls d H', xpost1 c fs S' cls d H' → xpost c fs S' cls d H') : EGood post1 xpost1 W σ Q m := by
  cases m with
  | none => exact q
  | some r =>
    cases r with
    | ok x S' => exact fun v H' p => q v H' (hp _ _ _ _ p)
    | exc c fs S' => exact fun cls d H' p => q cls d H' (hx _ _ _ _ _ _ p)
end
section
variable {C : Ct} {P P1 : Addr → Prop} {kd ka kb : Kd} {ρ : Rho} {S S1 : Sto} {A A1 A2 : List Addr} {G : List (List Addr)} {σ : L2.St} {H H0 H1 H2 : Hp} {x y z : SV} {v u w : V} {g g' : List Addr} {xs : List SV} {vs : List V}
theorem Rk.prw (r : Rk (C.pr P1) kd g A1 G H H1 x v) (h : ∀ a, P a → P1 a) : Rk (C.pr P) kd g A1 G H H1 x v := by
  have hF : ∀ a, Fs (C.pr P) A1 G a → Fs (C.pr P1) A1 G a := fun a z => z.elim .inl fun z => z.elim (fun z => .inr (.inl z)) fun z => .inr (.inr (h a z))
  cases kd with
  | be => exact ⟨Rs.mono (fun _ _ q => q) (fun a z => .inl (hF a z)) (fun a o q n => q) _ _ _ (fun a m o q => q) r.1, r.2⟩
  | fe => exact ⟨Rs.mono (fun _ _ q => q) (fun a z => .inl (z.elim (fun z => .inl (hF a z)) .inr)) (fun a o q n => q) _ _ _ (fun a m o q => q) r.1, r.2⟩
theorem RkL.prw (r : RkL (C.pr P1) kd g A1 G H H1 xs vs) (h : ∀ a, P a → P1 a) : RkL (C.pr P) kd g A1 G H H1 xs vs := by
  have hF : ∀ a, Fs (C.pr P) A1 G a → Fs (C.pr P1) A1 G a := fun a z => z.elim .inl fun z => z.elim (fun z => .inr (.inl z)) fun z => .inr (.inr (h a z))
  cases kd with
  | be => exact ⟨RsL.mono (fun _ _ q => q) (fun a z => .inl (hF a z)) (fun a o q n => q) _ _ _ (fun a m o q => q) r.1, r.2⟩
  | fe => exact ⟨RsL.mono (fun _ _ q => q) (fun a z => .inl (z.elim (fun z => .inl (hF a z)) .inr)) (fun a o q n => q) _ _ _ (fun a m o q => q) r.1, r.2⟩
theorem Ct.pr_pr : (C.pr P).pr P1 = C.pr P1 := rfl
/-- what comes next leaves the new lists alone -/
theorem EPost.next (p : EPost (C.pr P) ka ρ A G σ H x S1 v H1) : ∃ A1 g P1, Ext A H A1 H1 ∧ (∀ a, P a → P1 a) ∧ Sim (C.pr P1) ρ S1 A1 G σ H1 ∧ Rk (C.pr P) ka g A1 G H H1 x v ∧ ∀ a ∈ g, ka = .fe → P1 a := by
  obtain ⟨A1, g, e, I, r⟩ := p
  cases ka with
  | be => exact ⟨A1, g, P, e, fun a h => h, I, r, fun a m q => by cases q⟩
  | fe => exact ⟨A1, g, fun a => P a ∨ a ∈ g, e, fun a h => .inl h, I, r, fun a m _ => .inr m⟩
theorem EPost.prw (p : EPost (C.pr P1) kd ρ A G σ H x S v H1) (h : ∀ a, P a → P1 a) : EPost (C.pr P) kd ρ A G σ H x S v H1 := by
  obtain ⟨A1, g, e, I, r⟩ := p
  refine ⟨A1, g, e, ?_, r.prw h⟩
  cases kd with
  | be => exact (show Sim ((C.pr P1).pr P) ρ S A1 G σ H1 from Sim.prc I h)
  | fe => exact (show Sim (((C.pr P1).pr fun a => P1 a ∨ a ∈ g).pr fun a => P a ∨ a ∈ g) ρ S A1 G σ H1 from Sim.prc I fun a z => z.elim (fun z => .inl (h a z)) .inr)
theorem APost.prw (p : APost (C.pr P1) kd ρ A G σ H xs S vs H1) (h : ∀ a, P a → P1 a) : APost (C.pr P) kd ρ A G σ H xs S vs H1 := by
  obtain ⟨A1, g, e, I, r⟩ := p
  refine ⟨A1, g, e, ?_, r.prw h⟩
  cases kd with
  | be => exact (show Sim ((C.pr P1).pr P) ρ S A1 G σ H1 from Sim.prc I h)
  | fe => exact (show Sim (((C.pr P1).pr fun a => P1 a ∨ a ∈ g).pr fun a => P a ∨ a ∈ g) ρ S A1 G σ H1 from Sim.prc I fun a z => z.elim (fun z => .inl (h a z)) .inr)
theorem BPost.prw {b b' : Bool} (p : BPost (C.pr P1) ρ A G σ H b S b' H1) (h : ∀ a, P a → P1 a) : BPost (C.pr P) ρ A G σ H b S b' H1 := by
  obtain ⟨q, A1, e, I⟩ := p
  exact ⟨q, A1, e, (show Sim ((C.pr P1).pr P) ρ S A1 G σ H1 from Sim.prc I h)⟩
end
section
variable {X : Cx} {C : Ct} {W : WX} {kd ka kb : Kd} {e a b c : Expr} {pos : Pos} {f fa fb fc : Rho → Mo SV}
theorem be_of (h : PE X e (tV C W .fe f)) : PE X e (tV C W kd f) := by
  refine pe_imp h fun σ H Q ⟨P, ρ, S, A, G, hP, I, q⟩ => ⟨P, ρ, S, A, G, hP, I, ?_⟩
  cases e : f ρ S with
  | none => rw [e] at q; exact q
  | some r =>
    rw [e] at q
    cases r with
    | ok x S' => exact fun v H' p => q v H' p.be
    | exc c fs S' => exact q
/-! ### names and constants -/
def eVar (i : Nat) : Rho → Mo SV := fun ρ S => match ρ[i]? with
  | some (some x) => some (.ok x S)
  | _ => none
/-- .. that is no list of one's own -/
def noOwn : SV → Bool
  | .own _ => false
  | .dic _ _ => false
  | _ => true
def eVarV (i : Nat) : Rho → Mo SV := fun ρ S => match ρ[i]? with
  | some (some x) => if noOwn x then some (.ok x S) else none
  | _ => none
theorem Rs.noOwn {K : PySem.W.Frag} {mg : Str → Option Value} {H : Hp} {A : List Addr} {F : Addr → Prop} {x : SV} {v : V} {g : List Addr} (r : Rs K mg H A F x v g) (h : noOwn x = true) : g = [] := by
  cases r with
  | d _ => rfl
  | ref _ => rfl
  | fn _ => rfl
  | scr _ _ _ => rfl
  | scrK _ _ => rfl
  | own _ _ _ => cases h
  | dic _ _ _ _ => cases h
theorem Rk.noOwn {A1 : List Addr} {G : List (List Addr)} {H H1 : Hp} {x : SV} {v : V} {g : List Addr} (r : Rs C.K C.mg H1 A1 (Fs C A1 G) x v g) (h : VL.noOwn x = true) : Rk C kd [] A1 G H H1 x v := by
  obtain rfl := r.noOwn h
  cases kd with
  | be => exact ⟨r, fun a m => by cases m⟩
  | fe => exact ⟨Rs.mono (fun _ _ q => q) (fun a z => z.elim .inl fun m => by cases m) (fun a o q n => q) _ _ _ (fun a m o q => q) r, List.nodup_nil, fun a m => by cases m⟩
theorem getD_mem {G : List (List Addr)} {i : Nat} {a : Addr} (h : a ∈ G[i]?.getD []) : a ∈ G.flatten := by
  cases q : G[i]? with
  | none => rw [q] at h; cases h
  | some g => rw [q] at h; exact List.mem_flatten.mpr ⟨g, List.mem_of_getElem? q, h⟩
theorem v_var {i : Nat} (h : PE X e (tVar i)) : PE X e (tV C W .be (eVar i)) := by
  refine pe_imp h fun σ H Q ⟨P, ρ, S, A, G, hP, I, q⟩ => ?_
  unfold eVar at q
  split at q
  · rename_i x hx
    obtain ⟨v, g, e1, r, sb⟩ := I.slots i x hx
    exact ⟨v, e1, q v H ⟨A, _, Ext.refl, I, r, fun a m => ⟨fun z => (List.nodup_append.mp I.nd).2.2 a z a (getD_mem (sb.subset m)) rfl, I.trk a (List.mem_append_right _ (getD_mem (sb.subset m)))⟩⟩⟩
  · exact q.elim
theorem v_varV {i : Nat} (h : PE X e (tVar i)) : PE X e (tV C W kd (eVarV i)) := by
  refine pe_imp h fun σ H Q ⟨P, ρ, S, A, G, hP, I, q⟩ => ?_
  unfold eVarV at q
  split at q
  · rename_i x hx
    obtain ⟨v, g, e1, r, sb⟩ := I.slots i x hx
    split at q
    · rename_i hn
      exact ⟨v, e1, q v H (EPost.same I (Rk.noOwn r hn))⟩
    · exact q.elim
  · exact q.elim
/-- a constant without a place in the heap -/
def eCon (x : PyData) : Rho → Mo SV := fun _ S => some (.ok (.d x) S)
theorem v_con {x : PyData} {v : V} (h : PE X e (tC v)) (r : ∀ (H : Hp) (F : Addr → Prop), Dq C.K H F x v) : PE X e (tV C W kd (eCon x)) := by
  refine pe_imp h fun σ H Q ⟨P, ρ, S, A, G, hP, I, q⟩ => ?_
  exact q v H (EPost.same I (Rk.dat (r _ _)))
theorem v_int {i : Int} {j pos} : PE X (.Constant (.int i) j pos) (tV C W kd (eCon (.int i))) := v_con pe_int fun _ _ => .int i
theorem v_bl {i : Bool} {j pos} : PE X (.Constant (.bool i) j pos) (tV C W kd (eCon (.bool i))) := v_con pe_bl fun _ _ => .bl i
theorem v_non {j pos} : PE X (.Constant .none j pos) (tV C W kd (eCon .none)) := v_con pe_non fun _ _ => .non
theorem v_str {i : Str} {j pos} : PE X (.Constant (.str i) j pos) (tV C W kd (eCon (.str i))) := v_con pe_str fun _ _ => .str i
theorem v_glob {x : Str} {y : PyData} {v : V} {u : Value} (hg : Gl X x) (hm : X.mg x = some u) (r : RelV v u) (rd : ∀ (H : Hp) (F : Addr → Prop), Dq C.K H F y v) (hd : (x == ("__debug__" : Str)) = false := by decide) : PE X (.Name x pos) (tV C W kd (eCon y)) := v_con (pe_glob hg hm r hd) rd
/-- a def of the module as a value -/
def eFn (x : Str) : Rho → Mo SV := fun _ S => some (.ok (.fn x) S)
theorem v_fn {x : Str} {f : Addr} (hc : C.mg = X.mg) (hg : Gl X x) (hm : X.mg x = some (.ref f)) (hd : (x == ("__debug__" : Str)) = false := by decide) : PE X (.Name x pos) (tV C W kd (eFn x)) := by
  refine pe_imp (pe_glob (v := .ref f) hg hm rfl hd) fun σ H Q ⟨P, ρ, S, A, G, hP, I, q⟩ => ?_
  exact q _ H (EPost.same I (Rk.noOwn (g := []) (.fn (show C.mg x = some (.ref f) by rw [hc]; exact hm)) rfl))

/-! ### operators of two values -/
def eBin (g : Sto → SV → SV → Option SV) (fa fb : Rho → Mo SV) : Rho → Mo SV := fun ρ S => bindM (fa ρ S) fun x S1 => bindM (fb ρ S1) fun y S2 => (g S2 x y).map fun z => .ok z S2
/-- what an operation's rule must do -/
def OpOk (K : PySem.W.Frag) (ka kb kd : Kd) (g : Sto → SV → SV → Option SV) (r : R2) : Prop :=
  ∀ (C : Ct) (ρ : Rho) (S : Sto) (A : List Addr) (G : List (List Addr)) (σ : L2.St) (H0 H1 H : Hp) (x y z : SV) (v u : V) (gx gy : List Addr) (Q : VK), C.K = K → Sim C ρ S A G σ H → Rk C ka gx A G H0 H x v → Rk C kb gy A G H1 H y u → g S x y = some z →
    (∀ w H', EPost C kd ρ A G σ H z S w H' → Q w H') → r v u H Q
theorem tV_two {g : Sto → SV → SV → Option SV} {r : R2} (h : OpOk C.K ka kb kd g r) : ∀ σ H Q, tV C W kd (eBin g fa fb) σ H Q → tOp r (tV C W ka fa) (tV C W kb fb) σ H Q := by
  intro σ H Q ⟨P, ρ, S, A, G, hP, I, q⟩
  refine ⟨P, ρ, S, A, G, hP, I, EGood.step q (fun _ _ _ _ _ _ z => z) fun x S1 q v H1 p => ?_⟩
  obtain ⟨A1, g1, P1, e1, hP1, I1, k1, _⟩ := p.next
  refine ⟨P1, ρ, S1, A1, G, fun a z => hP1 a (hP a z), I1, EGood.step q (fun _ _ _ _ _ _ z => z.trans e1) fun y S2 q u H2 p => ?_⟩
  obtain ⟨A2, g2, e2, I2, k2⟩ := p
  cases eg : g S2 x y with
  | none => rw [eg] at q; exact q.elim
  | some z =>
    rw [eg] at q
    have I2' : Sim (C.pr P) ρ S2 A2 G σ H2 := (show Sim ((C.pr P1).pr P) ρ S2 A2 G σ H2 from Sim.prc I2.pgw hP1)
    exact h (C.pr P) ρ S2 A2 G σ H H1 H2 x y z v u g1 g2 Q rfl I2' (k1.ext e2) (k2.prw hP1) eg fun w H' p => q w H' (p.trans (e1.trans e2))
theorem v_op {op : Operator} {g : Sto → SV → SV → Option SV} {r : R2} (ho : OpR X (binaryOp op) r) (h : OpOk C.K ka kb kd g r) (ha : PE X a (tV C W ka fa)) (hb : PE X b (tV C W kb fb)) : PE X (.BinOp a op b pos) (tV C W kd (eBin g fa fb)) := pe_imp (pe_op ho ha hb) (tV_two h)
theorem v_cmp {op : CmpOp} {g : Sto → SV → SV → Option SV} {r : R2} (ho : OpR X (compareOp op) r) (h : OpOk C.K ka kb kd g r) (ha : PE X a (tV C W ka fa)) (hb : PE X b (tV C W kb fb)) (hm : behindInMarks op b = false) : PE X (.Compare a [op] [b] pos) (tV C W kd (eBin g fa fb)) := pe_imp (pe_cmpR ho ha hb hm) (tV_two h)
/-- .. of one -/
def eUn (g : Sto → SV → Option SV) (fa : Rho → Mo SV) : Rho → Mo SV := fun ρ S => bindM (fa ρ S) fun x S1 => (g S1 x).map fun z => .ok z S1
def UnOk (K : PySem.W.Frag) (ka kd : Kd) (g : Sto → SV → Option SV) (r : V → Hp → VK → Prop) : Prop :=
  ∀ (C : Ct) (ρ : Rho) (S : Sto) (A : List Addr) (G : List (List Addr)) (σ : L2.St) (H0 H : Hp) (x z : SV) (v : V) (gx : List Addr) (Q : VK), C.K = K → Sim C ρ S A G σ H → Rk C ka gx A G H0 H x v → g S x = some z →
    (∀ w H', EPost C kd ρ A G σ H z S w H' → Q w H') → r v H Q
theorem tV_one {g : Sto → SV → Option SV} {r : V → Hp → VK → Prop} (h : UnOk C.K ka kd g r) : ∀ σ H Q, tV C W kd (eUn g fa) σ H Q → tUn r (tV C W ka fa) σ H Q := by
  intro σ H Q ⟨P, ρ, S, A, G, hP, I, q⟩
  refine ⟨P, ρ, S, A, G, hP, I, EGood.step q (fun _ _ _ _ _ _ z => z) fun x S1 q v H1 p => ?_⟩
  obtain ⟨A1, g1, e1, I1, k1⟩ := p
  cases eg : g S1 x with
  | none => rw [eg] at q; exact q.elim
  | some z =>
    rw [eg] at q
    exact h (C.pr P) ρ S1 A1 G σ H H1 x z v g1 Q rfl I1.pgw k1 eg fun w H' p => q w H' (p.trans e1)
theorem v_un {op : UnaryOp} {g : Sto → SV → Option SV} {r : V → Hp → VK → Prop} (ho : UnR X (unaryOp op) r) (h : UnOk C.K ka kd g r) (ha : PE X a (tV C W ka fa)) : PE X (.UnaryOp op a pos) (tV C W kd (eUn g fa)) := pe_imp (pe_un ho ha) (tV_one h)
end
end VL

end
section
set_option Elab.async false
set_option linter.all false
set_option maxRecDepth 100000
/-! VL3: looking at lists and tuples; arithmetic, comparisons, tests. -/
namespace VL
open PySem PySem.Spec PyProof.Rows L2

/-- a list that may be told by its items -/
def lst? (S : Sto) : SV → Option (List SV)
  | .own xs => some xs
  | .d (.list ds) => some (ds.map .d)
  | .ref n => S[n]?
  | _ => none
/-- .. or a tuple, or the script -/
def seq? (S : Sto) : SV → Option (List SV)
  | .d (.tuple ds) => some (ds.map .d)
  | .scr ns => some (ns.map fun n => .d (.int n))
  | x => lst? S x
def tup? : SV → Option (List PyData)
  | .d (.tuple ds) => some ds
  | _ => none
/-- data -/
def dat? (S : Sto) : SV → Option PyData
  | .d x => some x
  | .own xs => (allD xs).map .list
  | .ref n => (S[n]?.bind allD).map .list
  | _ => none
theorem RsL.noOwn {K : PySem.W.Frag} {mg : Str → Option Value} {H : Hp} {A : List Addr} {F : Addr → Prop} : ∀ {xs : List SV} {vs : List V} {g : List Addr}, RsL K mg H A F xs vs g → xs.all VL.noOwn = true → g = []
  | [], _, _, r, _ => by cases r; rfl
  | x :: xs, _, _, r, h => by
    cases r with
    | cons r1 r2 =>
      simp only [List.all_cons, Bool.and_eq_true] at h
      rw [r1.noOwn h.1, RsL.noOwn r2 h.2]
      rfl
section
variable {C : Ct} {kd ka kb : Kd} {ρ : Rho} {S : Sto} {A : List Addr} {G : List (List Addr)} {σ : L2.St} {H H0 H1 H2 : Hp} {x y z : SV} {v u w : V} {xs ys : List SV} {vs us : List V} {g g' : List Addr}
theorem RkL.get {i : Nat} (r : RkL C .be g A G H H1 xs vs) (h : xs[i]? = some x) : ∃ v g', vs[i]? = some v ∧ Rk C .be g' A G H H1 x v := by
  obtain ⟨r, hg⟩ := r
  induction xs generalizing vs g i with
  | nil => simp at h
  | cons y ys ih =>
    cases r with
    | cons r1 r2 =>
      cases i with
      | zero =>
        simp at h
        subst h
        exact ⟨_, _, rfl, r1, fun a m => hg a (List.mem_append_left _ m)⟩
      | succ i => simpa using ih (by simpa using h) r2 fun a m => hg a (List.mem_append_right _ m)
theorem RkL.len (r : RkL C kd g A G H H1 xs vs) : vs.length = xs.length := by
  cases kd with
  | be => exact r.1.length
  | fe => exact r.1.length
theorem RkL.get' {i : Nat} (r : RkL C .be g A G H H1 xs vs) (h : vs[i]? = some v) : ∃ x g', xs[i]? = some x ∧ Rk C .be g' A G H H1 x v := by
  have l := r.len
  have hi : i < vs.length := (List.getElem?_eq_some_iff.mp h).1
  obtain ⟨v', g', e, q⟩ := r.get (i := i) (x := xs[i]'(by omega)) (List.getElem?_eq_getElem _)
  rw [h] at e
  cases e
  exact ⟨_, _, List.getElem?_eq_getElem _, q⟩
theorem RkL.dats {ds : List PyData} (r : DqL C.K H1 (Fs C A G) ds vs) : RkL C kd [] A G H H1 (ds.map SV.d) vs := by
  cases kd with
  | be => exact ⟨.ofD r, fun a m => by cases m⟩
  | fe => exact ⟨.ofD (DqL.mono (fun a z => z.elim .inl fun m => by cases m) (fun a o q n => q) _ _ r), List.nodup_nil, fun a m => by cases m⟩
theorem RkL.undat {ds : List PyData} (r : RkL C kd g A G H H1 xs vs) (h : allD xs = some ds) : DqL C.K H1 (Fs C A G) ds vs := by
  cases kd with
  | be => exact (r.1.toD h).1
  | fe => exact DqL.mono (fun a z => .inl (.inl z)) (fun a o q n => q) _ _ (r.1.toD h).1
theorem Rk.asBe (r : Rk C kd g A G H H1 x v) : Rk C .be g A G H H1 x v := by
  cases kd with
  | be => exact r
  | fe => exact r.be
/-- one's own, where it is no list of one's own -/
theorem Rk.fe_of (r : Rk C ka g A G H H1 x v) (h : VL.noOwn x = true) : Rk C kd [] A G H0 H1 x v := by
  have r := r.asBe
  exact Rk.noOwn r.1 h
/-- a list in the heap -/
theorem Rk.lst (I : Sim C ρ S A G σ H) (r : Rk C kd g A G H0 H x v) (h : lst? S x = some xs) : ∃ a vs g', v = .ref a ∧ H a = some (.lst vs) ∧ vs.length ≤ sizeLine ∧ RkL C .be g' A G H H xs vs := by
  obtain ⟨r1, hg⟩ := r.asBe
  cases r1 with
  | d r2 =>
    cases r2 with
    | lst e n l q =>
      simp only [lst?, Option.some.injEq] at h
      subst h
      exact ⟨_, _, _, rfl, e, l, RkL.dats q⟩
    | _ => cases h
  | ref e =>
    obtain ⟨a, vs, e1, e2, l, q⟩ := I.sto _ _ h
    rw [e] at e1
    cases e1
    exact ⟨_, _, _, rfl, e2, l, q, fun a m => by cases m⟩
  | fn _ => cases h
  | scr _ _ _ => cases h
  | scrK _ _ => cases h
  | own e l q =>
    simp only [lst?, Option.some.injEq] at h
    subst h
    exact ⟨_, _, _, rfl, e, l, q, fun a m => hg a (List.mem_cons_of_mem _ m)⟩
  | dic _ _ _ _ => cases h
theorem DqL.ofInts {F : Addr → Prop} : ∀ ns : List Int, DqL C.K H F (ns.map PyData.int) (ns.map V.int)
  | [] => .nil
  | n :: ns => .cons (.int n) (DqL.ofInts ns)
theorem Rk.seq (I : Sim C ρ S A G σ H) (r : Rk C kd g A G H0 H x v) (h : seq? S x = some xs) : ∃ a vs g', v = .ref a ∧ (SqL C.K H a vs ∨ SqT C.K H a vs) ∧ vs.length ≤ sizeLine ∧ RkL C .be g' A G H H xs vs := by
  have go : lst? S x = some xs → ∃ a vs g', v = .ref a ∧ (SqL C.K H a vs ∨ SqT C.K H a vs) ∧ vs.length ≤ sizeLine ∧ RkL C .be g' A G H H xs vs := fun h => by
    obtain ⟨a, vs, g', e, e2, l, q⟩ := r.lst I h
    exact ⟨a, vs, g', e, .inl (.of e2), l, q⟩
  unfold seq? at h
  split at h
  · rename_i ds
    simp only [Option.some.injEq] at h
    subst h
    cases r.undat with
    | tup e n l q => exact ⟨_, _, _, rfl, .inr (.of e), l, RkL.dats q⟩
    | ctup e l q => exact ⟨_, _, _, rfl, .inr (SqT.const e H), l, RkL.dats q⟩
  · rename_i ns
    simp only [Option.some.injEq] at h
    subst h
    obtain ⟨r, hg⟩ := r.asBe
    cases r with
    | scr e n l =>
      refine ⟨_, _, [], rfl, .inl (.inl (.inr ⟨_, e⟩)), by simpa using l, ?_⟩
      have := RkL.dats (C := C) (kd := .be) (A := A) (G := G) (H := H) (DqL.ofInts (C := C) (H := H) (F := Fs C A G) ns)
      rw [List.map_map] at this
      exact this
    | scrK e l =>
      refine ⟨_, _, [], rfl, .inl (SqL.const e H), by simpa using l, ?_⟩
      have := RkL.dats (C := C) (kd := .be) (A := A) (G := G) (H := H) (DqL.ofInts (C := C) (H := H) (F := Fs C A G) ns)
      rw [List.map_map] at this
      exact this
  · exact go h
theorem Rk.tup {ds : List PyData} (r : Rk C kd g A G H0 H (.d (.tuple ds)) v) : ∃ a vs, v = .ref a ∧ SqT C.K H a vs ∧ vs.length ≤ sizeLine ∧ DqL C.K H (Fs C A G) ds vs := by
  cases r.undat with
  | tup e n l q => exact ⟨_, _, rfl, .of e, l, q⟩
  | ctup e l q => exact ⟨_, _, rfl, SqT.const e H, l, q⟩
theorem Rk.dp {d : PyData} (I : Sim C ρ S A G σ H) (r : Rk C kd g A G H0 H x v) (h : dat? S x = some d) : Dp C.K H v d := by
  have go : ∀ xs ds, lst? S x = some xs → allD xs = some ds → Dp C.K H v (.list ds) := fun xs ds h h2 => by
    obtain ⟨a, vs, g', rfl, e, l, q⟩ := r.lst I h
    exact .lst (.of e) (DqL.dp _ _ (q.undat h2))
  unfold dat? at h
  split at h
  · simp only [Option.some.injEq] at h
    subst h
    exact Dq.dp _ _ r.undat
  · rename_i xs
    simp only [Option.map_eq_some_iff] at h
    obtain ⟨ds, h, rfl⟩ := h
    exact go xs ds rfl h
  · rename_i n
    simp only [Option.map_eq_some_iff, Option.bind_eq_some_iff] at h
    obtain ⟨ds, ⟨xs, h1, h2⟩, rfl⟩ := h
    exact go xs ds h1 h2
  · cases h

/-! new objects -/
theorem notFs (I : Sim C ρ S A G σ H) {p : Addr} (h : H p = none) : ¬ Fs C A G p := fun z => I.fsTrk z h
/-- a new tuple of data -/
theorem EPost.tup {ds : List PyData} {p : Addr} (I : Sim C ρ S A G σ H) (r : DqL C.K H (Fs C A G) ds vs) (l : vs.length ≤ sizeLine) (h : H p = none) : EPost C kd ρ A G σ H (.d (.tuple ds)) S (.ref p) (upd H p (.tup vs)) := by
  refine ⟨A, [], Ext.upd h, (I.new h).pg0, Rk.dat (.tup upd_same (notFs I h) l (DqL.mono (fun a q => .inl q) (fun a o q n => ?_) _ _ r))⟩
  rw [upd_ne (ne_of_none q h)]
  exact q
theorem Rk.newOwn {p : Addr} (I : Sim C ρ S A G σ H) (r : RkL C .fe g A G H1 H xs vs) (l : vs.length ≤ sizeLine) (h : H p = none) (hb : ∀ a, H a = none → H1 a = none) : Rk C .fe (p :: g) A G H1 (upd H p (.lst vs)) (.own xs) (.ref p) := by
  obtain ⟨r, nd, hg⟩ := r
  have pg : p ∉ g := fun m => (hg p m).2.1 h
  refine ⟨.own upd_same l (RsL.mono (fun _ _ q => q) (fun a z => ?_) (fun a o q n => ?_) _ _ _ (fun a m o q => ?_) r), List.nodup_cons.mpr ⟨pg, nd⟩, fun a m => ?_⟩
  · rcases z with z | z
    · exact .inl (.inl z)
    · rcases List.mem_cons.mp z with z | z
      · exact .inr (z ▸ h)
      · exact .inl (.inr z)
  · rw [upd_ne (ne_of_none q h)]; exact q
  · rw [upd_ne (ne_of_none q h)]; exact q
  · rcases List.mem_cons.mp m with e | m
    · subst e
      exact ⟨hb _ h, by rw [upd_same]; simp, fun z => I.trk _ (List.mem_append_left _ z) h⟩
    · refine ⟨(hg a m).1, ?_, (hg a m).2.2⟩
      rw [upd_ne (show a ≠ p from fun e => pg (by rw [← e]; exact m))]
      exact (hg a m).2.1
/-- a new list, one's own, of items of one's own -/
theorem EPost.own {p : Addr} {A' : List Addr} (e : Ext A H1 A' H) (I : Sim (C.pg .fe g) ρ S A' G σ H) (r : RkL C .fe g A' G H1 H xs vs) (l : vs.length ≤ sizeLine) (h : H p = none) : EPost C kd ρ A G σ H1 (.own xs) S (.ref p) (upd H p (.lst vs)) := by
  refine EPost.be ⟨A', p :: g, e.trans (Ext.upd h), ?_, Rk.newOwn I.pgw r l h fun a q => none_back e q⟩
  have J := Sim.newP (o := .lst vs) I h
  exact (show Sim (((C.pg .fe g).pr fun a => (C.pg .fe g).Pr a ∨ a = p).pr fun a => C.Pr a ∨ a ∈ p :: g) ρ S A' G σ _ from Sim.prc J fun a z => by
    rcases z with z | z
    · exact .inl (.inl z)
    · rcases List.mem_cons.mp z with z | z
      · exact .inr z
      · exact .inl (.inr z))
/-- .. of items that are no lists of one's own -/
theorem EPost.lst {p : Addr} (I : Sim C ρ S A G σ H) (r : RkL C .be g A G H1 H xs vs) (ho : xs.all noOwn = true) (l : vs.length ≤ sizeLine) (h : H p = none) : EPost C kd ρ A G σ H (.own xs) S (.ref p) (upd H p (.lst vs)) := by
  obtain ⟨r, _⟩ := r
  obtain rfl := RsL.noOwn r ho
  exact EPost.own Ext.refl I.pg0 ⟨RsL.mono (fun _ _ q => q) (fun a z => z.elim .inl fun m => by cases m) (fun a o q n => q) _ _ _ (fun a m => by cases m) r, List.nodup_nil, fun a m => by cases m⟩ l h
end

/-! ### arithmetic -/
def mulOk (i j : Int) : Bool := decide (i.natAbs.log2 + j.natAbs.log2 < 100000000)
def divOk (i j : Int) : Bool := decide (j ≠ 0) && !(Builtin.divisionGoesByPylong i j)
def gAdd (S : Sto) (x y : SV) : Option SV :=
  match x, y with
  | .d (.int i), .d (.int j) => some (.d (.int (i + j)))
  | .d (.str a), .d (.str b) => if a.length + b.length ≤ sizeLine then some (.d (.str (a ++ b))) else none
  | .d (.tuple xs), .d (.tuple ys) => if xs.length + ys.length ≤ sizeLine then some (.d (.tuple (xs ++ ys))) else none
  | x, y => (lst? S x).bind fun xs => (lst? S y).bind fun ys => if xs.all noOwn && ys.all noOwn && decide (xs.length + ys.length ≤ sizeLine) then some (.own (xs ++ ys)) else none
def gSub (_ : Sto) (x y : SV) : Option SV :=
  match x, y with
  | .d (.int i), .d (.int j) => some (.d (.int (i - j)))
  | _, _ => none
/-- within 63 bits (no wide literal behind a subtraction: the kernel counts it down) -/
def smI (i : Int) : Bool := decide (i.natAbs < 4611686018427387904)
theorem smI_lt {i : Int} (h : smI i = true) : -(2 ^ 63) ≤ i ∧ i < 2 ^ 63 := by
  have h := of_decide_eq_true h
  have e : (2 : Int) ^ 63 = 9223372036854775808 := by decide
  rw [e]
  omega
def gMul (S : Sto) (x y : SV) : Option SV :=
  match x, y with
  | .d (.int i), .d (.int j) => if mulOk i j then some (.d (.int (i * j))) else none
  | x, .d (.int k) => (lst? S x).bind fun xs => if xs.all noOwn && smI k && decide (xs.length * k.toNat ≤ sizeLine) then some (.own (List.replicate k.toNat xs).flatten) else none
  | _, _ => none
def gFdiv (_ : Sto) (x y : SV) : Option SV :=
  match x, y with
  | .d (.int i), .d (.int j) => if divOk i j then some (.d (.int (i.fdiv j))) else none
  | _, _ => none
def gMod (_ : Sto) (x y : SV) : Option SV :=
  match x, y with
  | .d (.int i), .d (.int j) => if j ≠ 0 then some (.d (.int (i.fmod j))) else none
  | _, _ => none
def gPow (_ : Sto) (x y : SV) : Option SV :=
  match x, y with
  | .d (.int i), .d (.int j) => if 0 ≤ j ∧ j ≤ 1000000 ∧ i.natAbs < 2 ^ 64 then some (.d (.int (i ^ j.toNat))) else none
  | _, _ => none
def gNeg (_ : Sto) (x : SV) : Option SV :=
  match x with
  | .d (.int i) => some (.d (.int (-i)))
  | _ => none
theorem mulOk.ok {i j : Int} (h : mulOk i j = true) : IntMulOk i j := by
  have b : ∀ x : Int, Builtin.Int.intBits x ≤ x.natAbs.log2 + 1 := fun x => by
    unfold Builtin.Int.intBits
    split <;> omega
  have h1 := b i
  have h2 := b j
  have h3 : i.natAbs.log2 + j.natAbs.log2 < 100000000 := of_decide_eq_true h
  have e : bitsLine = 134217728 := by decide
  unfold IntMulOk
  intro z
  rw [Bool.and_eq_true] at z
  have z2 := z.2
  unfold Builtin.Int.intTooBig at z2
  have z3 := of_decide_eq_true z2
  rw [e] at z3
  omega
section
variable {X : Cx} {C : Ct} {W : WX} {kd ka kb : Kd} {e a b c : Expr} {pos : Pos} {f fa fb fc : Rho → Mo SV}
abbrev rAddV (K : PySem.W.Frag) : R2 := fun x y H Q => rI0 (fun i j => .int (i + j)) x y H Q ∨ (∃ i j, x = .str i ∧ y = .str j ∧ i.length + j.length ≤ sizeLine ∧ Q (.str (i ++ j)) H) ∨ rCatA K x y H Q ∨ rCat x y H Q
theorem ok_add {K : PySem.W.Frag} : OpOk K ka kb kd gAdd (rAddV K) := by
  intro C ρ S A G σ H0 H1 H x y z v u gx gy Q hK I rx ry h q
  subst hK
  unfold gAdd at h
  split at h
  · rename_i i j
    cases h
    exact .inl ⟨i, j, rx.int, ry.int, q _ H (EPost.same I (Rk.dat (.int _)))⟩
  · rename_i a b
    split at h
    · rename_i hl
      cases h
      exact .inr (.inl ⟨a, b, rx.str, ry.str, hl, q _ H (EPost.same I (Rk.dat (.str _)))⟩)
    · cases h
  · rename_i xs ys
    split at h
    · rename_i hl
      cases h
      obtain ⟨a, vs, rfl, hs, l1, r1⟩ := rx.tup
      obtain ⟨b, us, rfl, ht, l2, r2⟩ := ry.tup
      have e1 := r1.length
      have e2 := r2.length
      refine .inr (.inr (.inl ⟨a, b, vs, us, rfl, rfl, hs, ht, by omega, fun e => ?_, fun _ e => ?_, fun _ _ p hp => q _ _ (EPost.tup I (r1.app r2) (by rw [List.length_append]; omega) hp)⟩))
      · have : xs = [] := List.eq_nil_of_length_eq_zero (by rw [← e1, e]; rfl)
        subst this
        exact q _ H (EPost.same I (Rk.fe_of ry rfl))
      · have : ys = [] := List.eq_nil_of_length_eq_zero (by rw [← e2, e]; rfl)
        subst this
        rw [List.append_nil] at q
        exact q _ H (EPost.same I (Rk.fe_of rx rfl))
    · cases h
  · simp only [Option.bind_eq_some_iff] at h
    obtain ⟨xs, hx, ys, hy, h⟩ := h
    split at h
    · rename_i hc
      cases h
      simp only [Bool.and_eq_true, decide_eq_true_eq] at hc
      obtain ⟨a, vs, ga, rfl, ha, l1, r1⟩ := rx.lst I hx
      obtain ⟨b, us, gb, rfl, hb, l2, r2⟩ := ry.lst I hy
      refine .inr (.inr (.inr ⟨a, b, vs, us, rfl, rfl, ha, hb, by rw [r1.len, r2.len]; exact hc.2, fun p hp => q _ _ (EPost.lst (g := ga ++ gb) (H1 := H) I ?_ ?_ ?_ hp)⟩))
      · exact (show RkL C .be (ga ++ gb) A G H H (xs ++ ys) (vs ++ us) from ⟨r1.1.app r2.1, fun a m => (List.mem_append.mp m).elim (r1.2 a) (r2.2 a)⟩)
      · rw [List.all_append, hc.1.1, hc.1.2]; rfl
      · rw [List.length_append, r1.len, r2.len]; exact hc.2
    · cases h
theorem op_addV : OpR X (binaryOp .Add) (rAddV X.K) := op_add.or (op_add_str.or (op_catA.or op_cat))
theorem v_add (hk : C.K = X.K) (ha : PE X a (tV C W ka fa)) (hb : PE X b (tV C W kb fb)) : PE X (.BinOp a .Add b pos) (tV C W kd (eBin gAdd fa fb)) := v_op op_addV (hk ▸ ok_add) ha hb
theorem v_sub (ha : PE X a (tV C W ka fa)) (hb : PE X b (tV C W kb fb)) : PE X (.BinOp a .Sub b pos) (tV C W kd (eBin gSub fa fb)) := v_op op_sub (fun C ρ S A G σ H0 H1 H x y z v u gx gy Q hK I rx ry h q => by
  unfold gSub at h
  split at h
  · rename_i i j
    cases h
    exact ⟨i, j, rx.int, ry.int, q _ H (EPost.same I (Rk.dat (.int _)))⟩
  · cases h) ha hb
theorem op_mulI : OpR X (binaryOp .Mult) (rI IntMulOk fun i j => .int (i * j)) := opI fun _ _ _ _ _ _ _ hc q => mul_int q hc
theorem RsL.rep {K : PySem.W.Frag} {mg : Str → Option Value} {H : Hp} {A : List Addr} {F : Addr → Prop} {xs : List SV} {vs : List V} (r : RsL K mg H A F xs vs []) : ∀ n : Nat, RsL K mg H A F (List.replicate n xs).flatten (List.replicate n vs).flatten []
  | 0 => .nil
  | n + 1 => by
    rw [List.replicate_succ, List.replicate_succ, List.flatten_cons, List.flatten_cons]
    exact r.app (RsL.rep r n)
theorem v_mul (ha : PE X a (tV C W ka fa)) (hb : PE X b (tV C W kb fb)) : PE X (.BinOp a .Mult b pos) (tV C W kd (eBin gMul fa fb)) := v_op (op_mulI.or op_rep) (fun C ρ S A G σ H0 H1 H x y z v u gx gy Q hK I rx ry h q => by
  unfold gMul at h
  split at h
  · rename_i i j
    split at h
    · rename_i hm
      cases h
      exact .inl ⟨i, j, rx.int, ry.int, mulOk.ok hm, q _ H (EPost.same I (Rk.dat (.int _)))⟩
    · cases h
  · rename_i k _
    simp only [Option.bind_eq_some_iff] at h
    obtain ⟨xs, hx, h⟩ := h
    split at h
    · rename_i hc
      cases h
      simp only [Bool.and_eq_true, decide_eq_true_eq] at hc
      obtain ⟨a, vs, ga, rfl, ha, l1, r1⟩ := rx.lst I hx
      have hl := r1.len
      refine .inr ⟨a, k, vs, rfl, ry.int, ha, (smI_lt hc.1.2).1, (smI_lt hc.1.2).2, by rw [hl]; exact hc.2, fun p hp => q _ _ ?_⟩
      obtain ⟨r1, n1⟩ := r1
      obtain rfl := r1.noOwn hc.1.1
      refine EPost.lst (g := []) (H1 := H) I ⟨r1.rep k.toNat, fun a m => by cases m⟩ ?_ ?_ hp
      · rw [List.all_flatten]
        simp only [List.all_eq_true, List.mem_replicate]
        rintro l ⟨_, rfl⟩
        intro y hy
        exact List.all_eq_true.mp hc.1.1 y hy
      · simp only [List.length_flatten, List.map_replicate, List.sum_replicate_nat]
        rw [Nat.mul_comm, hl]
        exact hc.2
    · cases h
  · cases h) ha hb
theorem op_fdivP : OpR X (binaryOp .FloorDiv) (rI (fun i j => j ≠ 0 ∧ Builtin.divisionGoesByPylong i j = false) fun i j => .int (i.fdiv j)) := opI fun _ _ _ _ _ _ _ hc q => floordiv_int hc.1 q (.inl hc.2)
theorem v_fdiv (ha : PE X a (tV C W ka fa)) (hb : PE X b (tV C W kb fb)) : PE X (.BinOp a .FloorDiv b pos) (tV C W kd (eBin gFdiv fa fb)) := v_op op_fdivP (fun C ρ S A G σ H0 H1 H x y z v u gx gy Q hK I rx ry h q => by
  unfold gFdiv at h
  split at h
  · rename_i i j
    split at h
    · rename_i hm
      cases h
      simp only [divOk, Bool.and_eq_true, decide_eq_true_eq, Bool.not_eq_true'] at hm
      exact ⟨i, j, rx.int, ry.int, hm, q _ H (EPost.same I (Rk.dat (.int _)))⟩
    · cases h
  · cases h) ha hb
theorem v_mod (ha : PE X a (tV C W ka fa)) (hb : PE X b (tV C W kb fb)) : PE X (.BinOp a .Mod b pos) (tV C W kd (eBin gMod fa fb)) := v_op op_modN (fun C ρ S A G σ H0 H1 H x y z v u gx gy Q hK I rx ry h q => by
  unfold gMod at h
  split at h
  · rename_i i j
    split at h
    · rename_i hm
      cases h
      exact ⟨i, j, rx.int, ry.int, hm, q _ H (EPost.same I (Rk.dat (.int _)))⟩
    · cases h
  · cases h) ha hb
theorem v_pow (ha : PE X a (tV C W ka fa)) (hb : PE X b (tV C W kb fb)) : PE X (.BinOp a .Pow b pos) (tV C W kd (eBin gPow fa fb)) := v_op op_pow (fun C ρ S A G σ H0 H1 H x y z v u gx gy Q hK I rx ry h q => by
  unfold gPow at h
  split at h
  · rename_i i j
    split at h
    · rename_i hm
      cases h
      exact ⟨i, j, rx.int, ry.int, hm, q _ H (EPost.same I (Rk.dat (.int _)))⟩
    · cases h
  · cases h) ha hb
theorem v_neg (ha : PE X a (tV C W ka fa)) : PE X (.UnaryOp .USub a pos) (tV C W kd (eUn gNeg fa)) := v_un un_neg (fun C ρ S A G σ H0 H x z v gx Q hK I rx h q => by
  unfold gNeg at h
  split at h
  · rename_i i
    cases h
    exact ⟨i, rx.int, q _ H (EPost.same I (Rk.dat (.int _)))⟩
  · cases h) ha

/-! ### comparisons -/
/-- a comparison by its answer -/
def cB (g : Sto → SV → SV → Option Bool) : Sto → SV → SV → Option SV := fun S x y => (g S x y).map fun b => .d (.bool b)
def CmpOk (K : PySem.W.Frag) (ka kb : Kd) (g : Sto → SV → SV → Option Bool) (r : R2) : Prop :=
  ∀ (C : Ct) (ρ : Rho) (S : Sto) (A : List Addr) (G : List (List Addr)) (σ : L2.St) (H0 H1 H : Hp) (x y : SV) (b : Bool) (v u : V) (gx gy : List Addr) (Q : VK), C.K = K → Sim C ρ S A G σ H → Rk C ka gx A G H0 H x v → Rk C kb gy A G H1 H y u → g S x y = some b →
    Q (.bl b) H → r v u H Q
theorem CmpOk.op {K : PySem.W.Frag} {ka kb kd : Kd} {g : Sto → SV → SV → Option Bool} {r : R2} (h : CmpOk K ka kb g r) : OpOk K ka kb kd (cB g) r := by
  intro C ρ S A G σ H0 H1 H x y z v u gx gy Q hK I rx ry e q
  unfold cB at e
  simp only [Option.map_eq_some_iff] at e
  obtain ⟨b, e, rfl⟩ := e
  exact h C ρ S A G σ H0 H1 H x y b v u gx gy Q hK I rx ry e (q _ H (EPost.same I (Rk.dat (.bl _))))
/-- an order of two ints, or of alike data -/
def gLt (_ : Sto) (x y : SV) : Option Bool :=
  match x, y with
  | .d (.int i), .d (.int j) => some (decide (i < j))
  | .d (.tuple xs), .d (.tuple ys) => if PySem.W.alike (.tuple xs) (.tuple ys) && SeqAt.shaped (.tuple xs) then some (PySem.W.dataLt (.tuple xs) (.tuple ys)) else none
  | _, _ => none
def gLe (_ : Sto) (x y : SV) : Option Bool :=
  match x, y with
  | .d (.int i), .d (.int j) => some (decide (i ≤ j))
  | _, _ => none
def gGt (_ : Sto) (x y : SV) : Option Bool :=
  match x, y with
  | .d (.int i), .d (.int j) => some (decide (j < i))
  | _, _ => none
def gGe (_ : Sto) (x y : SV) : Option Bool :=
  match x, y with
  | .d (.int i), .d (.int j) => some (decide (j ≤ i))
  | _, _ => none
def gEq (S : Sto) (x y : SV) : Option Bool := (dat? S x).bind fun d => (dat? S y).bind fun e => if SeqAt.shaped d && SeqAt.shaped e then some (PyData.eqv d e) else none
def gNe (S : Sto) (x y : SV) : Option Bool := (dat? S x).bind fun d => (dat? S y).bind fun e => if SeqAt.shaped d && SeqAt.shaped e then some (!PyData.eqv d e) else none
def isNone : SV → Bool
  | .d .none => true
  | _ => false
def gIsN (_ : Sto) (x y : SV) : Option Bool := if isNone y then some (isNone x) else none
def gNotN (_ : Sto) (x y : SV) : Option Bool := if isNone y then some (!isNone x) else none
def gIn (S : Sto) (x y : SV) : Option Bool := (dat? S x).bind fun d => (dat? S y).bind fun e => match e with
  | .list ds => if SeqAt.shaped d && SeqAt.shaped (.list ds) then some (ds.any fun z => PyData.eqv z d) else none
  | _ => none
def gNotIn (S : Sto) (x y : SV) : Option Bool := (dat? S x).bind fun d => (dat? S y).bind fun e => match e with
  | .list ds => if SeqAt.shaped d && SeqAt.shaped (.list ds) then some (!ds.any fun z => PyData.eqv z d) else none
  | _ => none
/-- a comparison as a value -/
theorem v_cmpB {X : Cx} {C : Ct} {W : WX} {kd ka kb : Kd} {a b : Expr} {pos : Pos} {fa fb : Rho → Mo SV} {op : CmpOp} {g : Sto → SV → SV → Option Bool} {r : R2} (ho : OpR X (compareOp op) r) (h : CmpOk C.K ka kb g r) (ha : PE X a (tV C W ka fa)) (hb : PE X b (tV C W kb fb)) (hm : behindInMarks op b = false) : PE X (.Compare a [op] [b] pos) (tV C W kd (eBin (cB g) fa fb)) := v_cmp ho h.op ha hb hm
/-- a < b of alike data -/
def rLtD (K : PySem.W.Frag) : R2 := fun x y H Q => ∃ d e, Dp K H x d ∧ Dp K H y e ∧ PySem.W.alike d e = true ∧ d ≠ .none ∧ SeqAt.shaped d = true ∧ Q (.bl (PySem.W.dataLt d e)) H
theorem op_ltD (hu : X.A.units + 64 < cLine) : OpR X (compareOp .Lt) (rLtD X.K) := by
  intro pins s σ H x y v u Q I rx ry h
  obtain ⟨d, e, hd, he, al, nn, sd, q⟩ := h
  obtain ⟨as, r1⟩ := Dp.reads I d x v hd rx
  obtain ⟨bs, r2⟩ := Dp.reads I e y u he ry
  exact PySem.W.rcLt_alike d e X.A s v u as bs r1 r2 al nn (SeqAt.room_of_shaped sd hu) _ _ _ _ ⟨.bl _, H, I, rfl, q⟩
theorem c_lt {K : PySem.W.Frag} : CmpOk K ka kb gLt (fun x y H Q => rI0 (fun i j => .bl (decide (i < j))) x y H Q ∨ rLtD K x y H Q) := (fun C ρ S A G σ H0 H1 H x y b v u gx gy Q hK I rx ry h q => by
  subst hK
  unfold gLt at h
  split at h
  · rename_i i j
    cases h
    exact .inl ⟨i, j, rx.int, ry.int, q⟩
  · split at h
    · rename_i hc
      cases h
      simp only [Bool.and_eq_true] at hc
      exact .inr ⟨_, _, Dq.dp _ _ rx.undat, Dq.dp _ _ ry.undat, hc.1, (by intro z; cases z), hc.2, q⟩
    · cases h
  · cases h)
theorem v_lt (hk : C.K = X.K) (hu : X.A.units + 64 < cLine) (ha : PE X a (tV C W ka fa)) (hb : PE X b (tV C W kb fb)) : PE X (.Compare a [.Lt] [b] pos) (tV C W kd (eBin (cB gLt) fa fb)) := v_cmpB (op_lt.or (op_ltD hu)) (hk ▸ c_lt) ha hb (nomark _)
theorem c_le {K : PySem.W.Frag} : CmpOk K ka kb gLe (rI0 fun i j => .bl (decide (i ≤ j))) := (fun C ρ S A G σ H0 H1 H x y b v u gx gy Q hK I rx ry h q => by
  subst hK
  unfold gLe at h
  split at h
  · rename_i i j
    cases h
    exact ⟨i, j, rx.int, ry.int, q⟩
  · cases h)
theorem v_le (ha : PE X a (tV C W ka fa)) (hb : PE X b (tV C W kb fb)) : PE X (.Compare a [.LtE] [b] pos) (tV C W kd (eBin (cB gLe) fa fb)) := v_cmpB (op_le) (c_le (K := C.K)) ha hb (nomark _)
theorem c_gt {K : PySem.W.Frag} : CmpOk K ka kb gGt (rI0 fun i j => .bl (decide (j < i))) := (fun C ρ S A G σ H0 H1 H x y b v u gx gy Q hK I rx ry h q => by
  subst hK
  unfold gGt at h
  split at h
  · rename_i i j
    cases h
    exact ⟨i, j, rx.int, ry.int, q⟩
  · cases h)
theorem v_gt (ha : PE X a (tV C W ka fa)) (hb : PE X b (tV C W kb fb)) : PE X (.Compare a [.Gt] [b] pos) (tV C W kd (eBin (cB gGt) fa fb)) := v_cmpB (op_gt) (c_gt (K := C.K)) ha hb (nomark _)
theorem c_ge {K : PySem.W.Frag} : CmpOk K ka kb gGe (rI0 fun i j => .bl (decide (j ≤ i))) := (fun C ρ S A G σ H0 H1 H x y b v u gx gy Q hK I rx ry h q => by
  subst hK
  unfold gGe at h
  split at h
  · rename_i i j
    cases h
    exact ⟨i, j, rx.int, ry.int, q⟩
  · cases h)
theorem v_ge (ha : PE X a (tV C W ka fa)) (hb : PE X b (tV C W kb fb)) : PE X (.Compare a [.GtE] [b] pos) (tV C W kd (eBin (cB gGe) fa fb)) := v_cmpB (op_ge) (c_ge (K := C.K)) ha hb (nomark _)
theorem c_eq {K : PySem.W.Frag} : CmpOk K ka kb gEq (rEqD K) := (fun C ρ S A G σ H0 H1 H x y b v u gx gy Q hK I rx ry h q => by
  subst hK
  unfold gEq at h
  simp only [Option.bind_eq_some_iff] at h
  obtain ⟨d, hd, e, he, h⟩ := h
  split at h
  · rename_i hc
    cases h
    simp only [Bool.and_eq_true] at hc
    exact ⟨d, e, rx.dp I hd, ry.dp I he, hc.1, hc.2, q⟩
  · cases h)
theorem v_eq (hk : C.K = X.K) (hu : X.A.units + 64 < cLine) (ha : PE X a (tV C W ka fa)) (hb : PE X b (tV C W kb fb)) : PE X (.Compare a [.Eq] [b] pos) (tV C W kd (eBin (cB gEq) fa fb)) := v_cmpB (op_eqD hu) (hk ▸ c_eq) ha hb (nomark _)
theorem c_ne {K : PySem.W.Frag} : CmpOk K ka kb gNe (rNeD K) := (fun C ρ S A G σ H0 H1 H x y b v u gx gy Q hK I rx ry h q => by
  subst hK
  unfold gNe at h
  simp only [Option.bind_eq_some_iff] at h
  obtain ⟨d, hd, e, he, h⟩ := h
  split at h
  · rename_i hc
    cases h
    simp only [Bool.and_eq_true] at hc
    exact ⟨d, e, rx.dp I hd, ry.dp I he, hc.1, hc.2, q⟩
  · cases h)
theorem v_ne (hk : C.K = X.K) (hu : X.A.units + 64 < cLine) (ha : PE X a (tV C W ka fa)) (hb : PE X b (tV C W kb fb)) : PE X (.Compare a [.NotEq] [b] pos) (tV C W kd (eBin (cB gNe) fa fb)) := v_cmpB (op_neD hu) (hk ▸ c_ne) ha hb (nomark _)
theorem Rk.isNone {g A : List Addr} {G : List (List Addr)} {H H' : Hp} {x : SV} {v : V} (r : Rk C kd g A G H H' x v) : decide (v = .non) = VL.isNone x := by
  obtain ⟨r1, _⟩ := r.asBe
  cases r1 with
  | d r2 => cases r2 <;> simp [VL.isNone]
  | _ => simp [VL.isNone]
theorem isNone_of {x : SV} (h : isNone x = true) : x = .d .none := by
  unfold isNone at h
  split at h
  · rfl
  · cases h
theorem c_isN {K : PySem.W.Frag} : CmpOk K ka kb gIsN (fun x y H Q => y = .non ∧ Q (.bl (decide (x = .non))) H) := (fun C ρ S A G σ H0 H1 H x y b v u gx gy Q hK I rx ry h q => by
  subst hK
  unfold gIsN at h
  split at h
  · rename_i hn
    cases h
    obtain rfl := isNone_of hn
    refine ⟨ry.non, ?_⟩
    rw [rx.isNone]
    exact q
  · cases h)
theorem v_isN (ha : PE X a (tV C W ka fa)) (hb : PE X b (tV C W kb fb)) : PE X (.Compare a [.Is] [b] pos) (tV C W kd (eBin (cB gIsN) fa fb)) := v_cmpB (op_isN) (c_isN (K := C.K)) ha hb (nomark _)
theorem c_notN {K : PySem.W.Frag} : CmpOk K ka kb gNotN (fun x y H Q => y = .non ∧ Q (.bl (!decide (x = .non))) H) := (fun C ρ S A G σ H0 H1 H x y b v u gx gy Q hK I rx ry h q => by
  subst hK
  unfold gNotN at h
  split at h
  · rename_i hn
    cases h
    obtain rfl := isNone_of hn
    refine ⟨ry.non, ?_⟩
    rw [rx.isNone]
    exact q
  · cases h)
theorem v_notN (ha : PE X a (tV C W ka fa)) (hb : PE X b (tV C W kb fb)) : PE X (.Compare a [.IsNot] [b] pos) (tV C W kd (eBin (cB gNotN) fa fb)) := v_cmpB (op_notN) (c_notN (K := C.K)) ha hb (nomark _)
theorem c_in {K : PySem.W.Frag} : CmpOk K ka kb gIn (rInD K) := (fun C ρ S A G σ H0 H1 H x y b v u gx gy Q hK I rx ry h q => by
  subst hK
  unfold gIn at h
  simp only [Option.bind_eq_some_iff] at h
  obtain ⟨d, hd, e, he, h⟩ := h
  split at h
  · split at h
    · rename_i hc
      cases h
      simp only [Bool.and_eq_true] at hc
      exact ⟨d, _, rx.dp I hd, ry.dp I he, hc.1, hc.2, q⟩
    · cases h
  · cases h)
theorem v_in (hk : C.K = X.K) (hu : X.A.units + 65 < cLine) (ha : PE X a (tV C W ka fa)) (hb : PE X b (tV C W kb fb)) (hm : behindInMarks .In b = false) : PE X (.Compare a [.In] [b] pos) (tV C W kd (eBin (cB gIn) fa fb)) := v_cmpB (op_inD hu) (hk ▸ c_in) ha hb hm
theorem c_notIn {K : PySem.W.Frag} : CmpOk K ka kb gNotIn (rNotInD K) := (fun C ρ S A G σ H0 H1 H x y b v u gx gy Q hK I rx ry h q => by
  subst hK
  unfold gNotIn at h
  simp only [Option.bind_eq_some_iff] at h
  obtain ⟨d, hd, e, he, h⟩ := h
  split at h
  · split at h
    · rename_i hc
      cases h
      simp only [Bool.and_eq_true] at hc
      exact ⟨d, _, rx.dp I hd, ry.dp I he, hc.1, hc.2, q⟩
    · cases h
  · cases h)
theorem v_notIn (hk : C.K = X.K) (hu : X.A.units + 65 < cLine) (ha : PE X a (tV C W ka fa)) (hb : PE X b (tV C W kb fb)) (hm : behindInMarks .NotIn b = false) : PE X (.Compare a [.NotIn] [b] pos) (tV C W kd (eBin (cB gNotIn) fa fb)) := v_cmpB (op_notInD hu) (hk ▸ c_notIn) ha hb hm
end
end VL

end
section
set_option Elab.async false
set_option linter.all false
set_option maxRecDepth 100000
/-! VL4: tests, and, or, if; subscripts and slices; displays; argument lists; calls of built-ins. -/
namespace VL
open PySem PySem.Spec PyProof.Rows L2

/-! ### tests -/
def truth (S : Sto) (x : SV) : Option Bool :=
  match x with
  | .d .none => some false
  | .d (.bool b) => some b
  | .d (.int i) => some (i != 0)
  | x => (seq? S x).map fun xs => !xs.isEmpty
def bVal (f : Rho → Mo SV) : Rho → Mo Bool := fun ρ S => bindM (f ρ S) fun x S1 => (truth S1 x).map fun b => .ok b S1
def bAnd (f g : Rho → Mo Bool) : Rho → Mo Bool := fun ρ S => bindM (f ρ S) fun b S1 => if b then g ρ S1 else some (.ok false S1)
def bOr (f g : Rho → Mo Bool) : Rho → Mo Bool := fun ρ S => bindM (f ρ S) fun b S1 => if b then some (.ok true S1) else g ρ S1
def bNot (f : Rho → Mo Bool) : Rho → Mo Bool := fun ρ S => bindM (f ρ S) fun b S1 => some (.ok (!b) S1)
/-- as values (all but the last a bool) -/
def eAnd (f g : Rho → Mo SV) : Rho → Mo SV := fun ρ S => bindM (f ρ S) fun x S1 => match x with
  | .d (.bool b) => if b then g ρ S1 else some (.ok (.d (.bool false)) S1)
  | _ => none
def eOr (f g : Rho → Mo SV) : Rho → Mo SV := fun ρ S => bindM (f ρ S) fun x S1 => match x with
  | .d (.bool b) => if b then some (.ok (.d (.bool true)) S1) else g ρ S1
  | _ => none
def eNot (f : Rho → Mo SV) : Rho → Mo SV := fun ρ S => bindM (f ρ S) fun x S1 => match x with
  | .d (.bool b) => some (.ok (.d (.bool (!b))) S1)
  | _ => none
def eIf (c : Rho → Mo Bool) (f g : Rho → Mo SV) : Rho → Mo SV := fun ρ S => bindM (c ρ S) fun b S1 => if b then f ρ S1 else g ρ S1

section
variable {X : Cx} {C : Ct} {W : WX} {kd ka kb kc : Kd} {e a b c : Expr} {pos : Pos} {rest : List Expr} {f fa fb fc : Rho → Mo SV} {p q r : Rho → Mo Bool}
theorem Rk.truth {g : List Addr} {ρ : Rho} {S : Sto} {A : List Addr} {G : List (List Addr)} {σ : L2.St} {H0 H : Hp} {x : SV} {v : V} {k : Bool} (I : Sim C ρ S A G σ H) (rx : Rk C ka g A G H0 H x v) (h : VL.truth S x = some k) : TruV C.K v H k := by
  unfold VL.truth at h
  split at h
  · cases h; rw [rx.non]; rfl
  · cases h; rw [rx.bl]; rfl
  · cases h; rw [rx.int]; rfl
  · simp only [Option.map_eq_some_iff] at h
    obtain ⟨xs, h, rfl⟩ := h
    obtain ⟨a, vs, g', rfl, hs, l, r⟩ := rx.seq I h
    have e : xs.isEmpty = vs.isEmpty := by
      have := r.len
      cases xs <;> cases vs <;> simp_all
    rw [e]
    rcases hs with hs | hs
    · exact .inl ⟨_, hs, rfl⟩
    · exact .inr (.inl ⟨_, hs, rfl⟩)
theorem b_val (hk : C.K = X.K) (ha : PE X e (tV C W ka f)) (he : ∀ whole, isTrue e X.env whole = (do let v ← whole; standAt e.pos; holding [v] (truthy v)) := by intro _; rfl) : PT X e (tTs C W (bVal f)) := by
  refine pt_imp (pt_truth ha he) fun σ H Q ⟨P, ρ, S, A, G, hP, I, q⟩ => ⟨P, ρ, S, A, G, hP, I, EGood.step q (fun _ _ _ _ _ _ z => z) fun x S1 q v H1 p__ => ?_⟩
  obtain ⟨A1, g1, e1, J1, k1⟩ := p__
  have I1 := J1.pgw
  cases eg : truth S1 x with
  | none => rw [eg] at q; exact q.elim
  | some k =>
    rw [eg] at q
    exact ⟨k, hk ▸ (show TruV (C.pr P).K v H1 k from k1.truth I1 eg), q k H1 ⟨rfl, A1, e1, I1⟩⟩
def bB (f : Rho → Mo SV) : Rho → Mo Bool := fun ρ S => bindM (f ρ S) fun x S1 => match x with
  | .d (.bool b) => some (.ok b S1)
  | _ => none
theorem tV_test (ta : TE) (h : ∀ σ H Q, tV C W kd f σ H Q → ta σ H Q) : ∀ σ H Q, tTs C W (bB f) σ H Q → tTest ta σ H Q := by
  intro σ H Q ⟨P, ρ, S, A, G, hP, I, q⟩
  refine h σ H _ ⟨P, ρ, S, A, G, hP, I, EGood.step q (fun _ _ _ _ _ _ z => z) fun x S1 q v H1 p__ => ?_⟩
  obtain ⟨A1, g1, e1, J1, k1⟩ := p__
  have I1 := J1.pgw
  split at q
  · rename_i b
    exact ⟨b, k1.bl, q b H1 ⟨rfl, A1, e1, I1⟩⟩
  · exact q.elim
/-- a comparison as a test, by its operation -/
theorem t_cmp {op : CmpOp} {g : Sto → SV → SV → Option Bool} {r : R2} (ho : OpR X (compareOp op) r) (h : CmpOk C.K ka kb g r) (ha : PE X a (tV C W ka fa)) (hb : PE X b (tV C W kb fb)) (hm : behindInMarks op b = false) : PT X (.Compare a [op] [b] pos) (tTs C W (bB (eBin (cB g) fa fb))) :=
  pt_imp (pt_cmpR ho ha hb hm) (tV_test (kd := .fe) _ (tV_two h.op))
theorem b_and1 (h : PT X a (tTs C W p)) : PW X (.BoolOp .And [a] pos) (tTs C W p) := pw_and1 h
theorem b_or1 (h : PT X a (tTs C W p)) : PW X (.BoolOp .Or [a] pos) (tTs C W p) := pw_or1 h
theorem b_and (ha : PT X a (tTs C W p)) (hb : PW X (.BoolOp .And (b :: rest) pos) (tTs C W q)) : PW X (.BoolOp .And (a :: b :: rest) pos) (tTs C W (bAnd p q)) := by
  refine pw_imp (pw_and ha hb) fun σ H Q ⟨P, ρ, S, A, G, hP, I, h⟩ => ⟨P, ρ, S, A, G, hP, I, EGood.step h (fun _ _ _ _ _ _ z => z) fun k S1 h v H1 ⟨ev, A1, e1, I1⟩ => ?_⟩
  subst ev
  cases v with
  | true => exact ⟨P, ρ, S1, A1, G, hP, I1, EGood.post h (fun _ _ _ _ z => z.trans e1) fun _ _ _ _ _ _ z => z.trans e1⟩
  | false => exact h _ _ ⟨rfl, A1, e1, I1⟩
theorem b_or (ha : PT X a (tTs C W p)) (hb : PW X (.BoolOp .Or (b :: rest) pos) (tTs C W q)) : PW X (.BoolOp .Or (a :: b :: rest) pos) (tTs C W (bOr p q)) := by
  refine pw_imp (pw_or ha hb) fun σ H Q ⟨P, ρ, S, A, G, hP, I, h⟩ => ⟨P, ρ, S, A, G, hP, I, EGood.step h (fun _ _ _ _ _ _ z => z) fun k S1 h v H1 ⟨ev, A1, e1, I1⟩ => ?_⟩
  subst ev
  cases v with
  | false => exact ⟨P, ρ, S1, A1, G, hP, I1, EGood.post h (fun _ _ _ _ z => z.trans e1) fun _ _ _ _ _ _ z => z.trans e1⟩
  | true => exact h _ _ ⟨rfl, A1, e1, I1⟩
theorem b_not (ha : PT X a (tTs C W p)) : PT X (.UnaryOp .Not a pos) (tTs C W (bNot p)) := by
  refine pt_imp (pt_not ha) fun σ H Q ⟨P, ρ, S, A, G, hP, I, h⟩ => ⟨P, ρ, S, A, G, hP, I, EGood.step h (fun _ _ _ _ _ _ z => z) fun k S1 h v H1 ⟨ev, A1, e1, I1⟩ => ?_⟩
  subst ev
  exact h _ _ ⟨rfl, A1, e1, I1⟩
theorem v_one {op} (h : PE X a (tV C W kd f)) : PE X (.BoolOp op [a] pos) (tV C W kd f) := pe_one h
theorem v_and (ha : PE X a (tV C W ka fa)) (hb : PE X (.BoolOp .And (b :: rest) pos) (tV C W kd fb)) : PE X (.BoolOp .And (a :: b :: rest) pos) (tV C W kd (eAnd fa fb)) := by
  refine pe_imp (pe_and ha hb) fun σ H Q ⟨P, ρ, S, A, G, hP, I, h⟩ => ⟨P, ρ, S, A, G, hP, I, EGood.step h (fun _ _ _ _ _ _ z => z) fun x S1 h v H1 p__ => ?_⟩
  obtain ⟨A1, g1, e1, J1, k1⟩ := p__
  have I1 := J1.pgw
  split at h
  · rename_i k
    refine ⟨k, k1.bl, ?_⟩
    cases k with
    | true => exact ⟨P, ρ, S1, A1, G, hP, I1, EGood.post h (fun _ _ _ _ z => z.trans e1) fun _ _ _ _ _ _ z => z.trans e1⟩
    | false => exact h _ _ ⟨A1, [], e1, I1.pg0, Rk.dat (.bl _)⟩
  · exact h.elim
theorem v_or (ha : PE X a (tV C W ka fa)) (hb : PE X (.BoolOp .Or (b :: rest) pos) (tV C W kd fb)) : PE X (.BoolOp .Or (a :: b :: rest) pos) (tV C W kd (eOr fa fb)) := by
  refine pe_imp (pe_or ha hb) fun σ H Q ⟨P, ρ, S, A, G, hP, I, h⟩ => ⟨P, ρ, S, A, G, hP, I, EGood.step h (fun _ _ _ _ _ _ z => z) fun x S1 h v H1 p__ => ?_⟩
  obtain ⟨A1, g1, e1, J1, k1⟩ := p__
  have I1 := J1.pgw
  split at h
  · rename_i k
    refine ⟨k, k1.bl, ?_⟩
    cases k with
    | false => exact ⟨P, ρ, S1, A1, G, hP, I1, EGood.post h (fun _ _ _ _ z => z.trans e1) fun _ _ _ _ _ _ z => z.trans e1⟩
    | true => exact h _ _ ⟨A1, [], e1, I1.pg0, Rk.dat (.bl _)⟩
  · exact h.elim
theorem v_not (ha : PE X a (tV C W ka fa)) : PE X (.UnaryOp .Not a pos) (tV C W kd (eNot fa)) := by
  refine pe_imp (pe_not ha) fun σ H Q ⟨P, ρ, S, A, G, hP, I, h⟩ => ⟨P, ρ, S, A, G, hP, I, EGood.step h (fun _ _ _ _ _ _ z => z) fun x S1 h v H1 p__ => ?_⟩
  obtain ⟨A1, g1, e1, J1, k1⟩ := p__
  have I1 := J1.pgw
  split at h
  · rename_i k
    exact ⟨k, k1.bl, h _ _ ⟨A1, [], e1, I1.pg0, Rk.dat (.bl _)⟩⟩
  · exact h.elim
theorem v_if (hc : PT X c (tTs C W p)) (ha : PE X a (tV C W kd fa)) (hb : PE X b (tV C W kd fb)) : PE X (.IfExp c a b pos) (tV C W kd (eIf p fa fb)) := by
  refine pe_imp (pe_ifExp hc ha hb) fun σ H Q ⟨P, ρ, S, A, G, hP, I, h⟩ => ⟨P, ρ, S, A, G, hP, I, EGood.step h (fun _ _ _ _ _ _ z => z) fun k S1 h v H1 ⟨ev, A1, e1, I1⟩ => ?_⟩
  subst ev
  cases v with
  | true => exact ⟨P, ρ, S1, A1, G, hP, I1, EGood.post h (fun _ _ _ _ z => z.trans e1) fun _ _ _ _ _ _ z => z.trans e1⟩
  | false => exact ⟨P, ρ, S1, A1, G, hP, I1, EGood.post h (fun _ _ _ _ z => z.trans e1) fun _ _ _ _ _ _ z => z.trans e1⟩
/-- a chain of two comparisons -/
def eChain (g g' : Sto → SV → SV → Option Bool) (fa fb fc : Rho → Mo SV) : Rho → Mo SV := fun ρ S => bindM (fa ρ S) fun x S1 => bindM (fb ρ S1) fun y S2 => match g S2 x y with
  | some true => bindM (fc ρ S2) fun z S3 => (g' S3 y z).map fun w => .ok (.d (.bool w)) S3
  | some false => some (.ok (.d (.bool false)) S2)
  | none => none
theorem tV_chain {g g' : Sto → SV → SV → Option Bool} {r r' : R2} (h : CmpOk C.K ka kb g r) (h' : CmpOk C.K kb kc g' r') : ∀ σ H Q, tV C W kd (eChain g g' fa fb fc) σ H Q → tChain r r' (tV C W ka fa) (tV C W kb fb) (tV C W kc fc) σ H Q := by
  intro σ H Q ⟨P, ρ, S, A, G, hP, I, q⟩
  refine ⟨P, ρ, S, A, G, hP, I, EGood.step q (fun _ _ _ _ _ _ z => z) fun x S1 q v H1 p => ?_⟩
  obtain ⟨A1, g1, P1, e1, hP1, I1, k1, _⟩ := p.next
  refine ⟨P1, ρ, S1, A1, G, fun a z => hP1 a (hP a z), I1, EGood.step q (fun _ _ _ _ _ _ z => z.trans e1) fun y S2 q u H2 p => ?_⟩
  obtain ⟨A2, g2, P2, e2, hP2, I2, k2, _⟩ := p.next
  have I2' : Sim (C.pr P) ρ S2 A2 G σ H2 := (show Sim ((C.pr P2).pr P) ρ S2 A2 G σ H2 from Sim.prc I2 fun a z => hP2 a (hP1 a z))
  have k2' := k2.prw hP1
  cases eg : g S2 x y with
  | none => rw [eg] at q; exact q.elim
  | some k =>
    rw [eg] at q
    refine h (C.pr P) ρ S2 A2 G σ H H1 H2 x y k v u g1 g2 _ rfl I2' (k1.ext e2) k2' eg ⟨k, rfl, ?_⟩
    cases k with
    | false => exact q _ _ ⟨A2, [], e1.trans e2, I2'.pg0, Rk.dat (.bl _)⟩
    | true =>
      refine ⟨P2, ρ, S2, A2, G, fun a z => hP2 a (hP1 a (hP a z)), I2, EGood.step q (fun _ _ _ _ _ _ z => z.trans (e1.trans e2)) fun z S4 q t4 H4 p => ?_⟩
      obtain ⟨A4, g4, e4, J4, k4⟩ := p
      have I4' : Sim (C.pr P) ρ S4 A4 G σ H4 := (show Sim ((C.pr P2).pr P) ρ S4 A4 G σ H4 from Sim.prc J4.pgw fun a z => hP2 a (hP1 a z))
      cases eg' : g' S4 y z with
      | none => rw [eg'] at q; exact q.elim
      | some w' =>
        rw [eg'] at q
        exact h' (C.pr P) ρ S4 A4 G σ H1 H2 H4 y z w' u t4 g2 g4 Q rfl I4' (k2'.ext e4) (k4.prw fun a z => hP2 a (hP1 a z)) eg' (q _ _ ⟨A4, [], e1.trans (e2.trans e4), I4'.pg0, Rk.dat (.bl _)⟩)
theorem v_chain {op op' : CmpOp} {g g' : Sto → SV → SV → Option Bool} {r r' : R2} (ho : OpR X (compareOp op) r) (ho' : OpR X (compareOp op') r') (h : CmpOk C.K ka kb g r) (h' : CmpOk C.K kb kc g' r') (ha : PE X a (tV C W ka fa)) (hb : PE X b (tV C W kb fb)) (hc : PE X c (tV C W kc fc))
    (hm : lastMarks [op, op'] [b, c] = false := by with_unfolding_all rfl) : PE X (.Compare a [op, op'] [b, c] pos) (tV C W kd (eChain g g' fa fb fc)) := pe_imp (pe_chain ho ho' ha hb hc hm) (tV_chain h h')
theorem t_chain {op op' : CmpOp} {g g' : Sto → SV → SV → Option Bool} {r r' : R2} (ho : OpR X (compareOp op) r) (ho' : OpR X (compareOp op') r') (h : CmpOk C.K ka kb g r) (h' : CmpOk C.K kb kc g' r') (ha : PE X a (tV C W ka fa)) (hb : PE X b (tV C W kb fb)) (hc : PE X c (tV C W kc fc))
    (hm : lastMarks [op, op'] [b, c] = false := by with_unfolding_all rfl) : PT X (.Compare a [op, op'] [b, c] pos) (tTs C W (bB (eChain g g' fa fb fc))) := pt_imp (pt_chain ho ho' ha hb hc hm) (tV_test (kd := .fe) _ (tV_chain h h'))
end

/-! ### subscripts -/
def ixL {α : Type} (xs : List α) (i : Int) : Option α := atI xs i
/-- an item; no list of one's own -/
def gIx (S : Sto) (x y : SV) : Option SV :=
  match x, y with
  | .d (.str z), .d (.int i) => if z.length ≤ sizeLine then (atI z.cps.toList i).map fun c => .d (.str ⟨#[c]⟩) else none
  | x, .d (.int i) => (seq? S x).bind fun xs => (atI xs i).bind fun z => if noOwn z then some z else none
  | _, _ => none
/-- an item that is looked at -/
def gIxB (S : Sto) (x y : SV) : Option SV :=
  match y with
  | .d (.int i) => (seq? S x).bind fun xs => atI xs i
  | _ => none
section
variable {X : Cx} {C : Ct} {W : WX} {kd ka kb : Kd} {e a b c : Expr} {pos : Pos} {f fa fb fc : Rho → Mo SV}
theorem RkL.at {g A : List Addr} {G : List (List Addr)} {H H1 : Hp} {xs : List SV} {vs : List V} {x : SV} {i : Int} (r : RkL C .be g A G H H1 xs vs) (h : atI xs i = some x) : ∃ v g', atI vs i = some v ∧ Rk C .be g' A G H H1 x v := by
  unfold atI at h ⊢
  rw [r.len]
  cases e : ixN xs.length i with
  | none => rw [e] at h; cases h
  | some j =>
    rw [e] at h
    exact r.get h
theorem ok_ix {K : PySem.W.Frag} : OpOk K ka kb kd gIx (rIx K) := by
  intro C ρ S A G σ H0 H1 H x y z v u gx gy Q hK I rx ry h q
  subst hK
  unfold gIx at h
  split at h
  · rename_i t i
    split at h
    · rename_i hl
      simp only [Option.map_eq_some_iff] at h
      obtain ⟨c, hc, rfl⟩ := h
      exact .inr (.inr ⟨t, i, c, rx.str, ry.int, hl, hc, q _ H (EPost.same I (Rk.dat (.str _)))⟩)
    · cases h
  · rename_i i _
    simp only [Option.bind_eq_some_iff] at h
    obtain ⟨xs, hx, w, hw, h⟩ := h
    split at h
    · rename_i hn
      cases h
      obtain ⟨a, vs, ga, rfl, hs, l, r⟩ := rx.seq I hx
      obtain ⟨t, gt, ht, rt⟩ := r.at hw
      have fin : Q t H := q _ H (EPost.same I (Rk.fe_of rt hn))
      rcases hs with hs | hs
      · exact .inl ⟨a, vs, i, t, rfl, ry.int, hs, ht, fin⟩
      · exact .inr (.inl ⟨a, vs, i, t, rfl, ry.int, hs, ht, fin⟩)
    · cases h
  · cases h
theorem ok_ixB {K : PySem.W.Frag} : OpOk K ka kb .be gIxB (rIx K) := by
  intro C ρ S A G σ H0 H1 H x y z v u gx gy Q hK I rx ry h q
  subst hK
  unfold gIxB at h
  split at h
  · rename_i i
    simp only [Option.bind_eq_some_iff] at h
    obtain ⟨xs, hx, hw⟩ := h
    obtain ⟨a, vs, ga, rfl, hs, l, r⟩ := rx.seq I hx
    obtain ⟨t, gt, ht, rt⟩ := r.at hw
    have fin : Q t H := q _ H ⟨A, gt, Ext.refl, I, rt⟩
    rcases hs with hs | hs
    · exact .inl ⟨a, vs, i, t, rfl, ry.int, hs, ht, fin⟩
    · exact .inr (.inl ⟨a, vs, i, t, rfl, ry.int, hs, ht, fin⟩)
  · cases h
theorem v_ix (hk : C.K = X.K) (ha : PE X a (tV C W ka fa)) (hb : PE X b (tV C W kb fb)) (hs : PlainIx b) : PE X (.Subscript a b pos) (tV C W kd (eBin gIx fa fb)) := pe_imp (pe_ix ix_seq ha hb hs) (tV_two (hk ▸ ok_ix))
theorem v_ixB (hk : C.K = X.K) (ha : PE X a (tV C W ka fa)) (hb : PE X b (tV C W kb fb)) (hs : PlainIx b) : PE X (.Subscript a b pos) (tV C W .be (eBin gIxB fa fb)) := pe_imp (pe_ix ix_seq ha hb hs) (tV_two (hk ▸ ok_ixB))
/-! slices -/
def cutL {α : Type} (xs : List α) (lo hi : Option Int) : List α := (xs.drop (HT.sIx xs.length 0 lo)).take (HT.sIx xs.length xs.length hi - HT.sIx xs.length 0 lo)
def pNone : Rho → Mo (Option Int) := fun _ S => some (.ok none S)
def pSome (f : Rho → Mo SV) : Rho → Mo (Option Int) := fun ρ S => bindM (f ρ S) fun x S1 => match x with
  | .d (.int i) => some (.ok (some i) S1)
  | _ => none
def OPost (C : Ct) (ρ : Rho) (A : List Addr) (G : List (List Addr)) (σ : L2.St) (H : Hp) (b : Option Int) (S' : Sto) (b' : Option Int) (H' : Hp) : Prop := b' = b ∧ ∃ A', Ext A H A' H' ∧ Sim C ρ S' A' G σ H'
def tO (C : Ct) (W : WX) (f : Rho → Mo (Option Int)) : TO := fun σ H Q => ∃ P ρ S A G, (∀ a, C.Pr a → P a) ∧ Sim (C.pr P) ρ S A G σ H ∧ EGood (OPost (C.pr P) ρ A G σ H) (XPost C ρ A G σ H) W σ Q (f ρ S)
theorem po_imp {e : Option Expr} {t t' : TO} (h : PO X e t) (i : ∀ σ H Q, t' σ H Q → t σ H Q) : PO X e t' := ⟨fun pins s σ H Q I q => h.run pins s σ H Q I (i σ H Q q)⟩
theorem o_none : PO X none (tO C W pNone) := po_imp po_none fun σ H Q ⟨P, ρ, S, A, G, hP, I, q⟩ => q none H ⟨rfl, A, Ext.refl, I⟩
theorem o_some (h : PE X e (tV C W ka f)) : PO X (some e) (tO C W (pSome f)) := by
  refine po_imp (po_some h) fun σ H Q ⟨P, ρ, S, A, G, hP, I, q⟩ => ⟨P, ρ, S, A, G, hP, I, EGood.step q (fun _ _ _ _ _ _ z => z) fun x S1 q v H1 p__ => ?_⟩
  obtain ⟨A1, g1, e1, J1, k1⟩ := p__
  have I1 := J1.pgw
  split at q
  · rename_i i
    exact ⟨i, k1.int, q _ H1 ⟨rfl, A1, e1, I1⟩⟩
  · exact q.elim
def gSl (S : Sto) (x : SV) (lo hi : Option Int) : Option SV :=
  match x with
  | .d (.tuple ds) => some (.d (.tuple (cutL ds lo hi)))
  | .d (.str z) => if z.length ≤ sizeLine then some (.d (.str (Txt.slice z lo hi))) else none
  | .scr ns => some (.own ((cutL ns lo hi).map fun n => .d (.int n)))
  | x => (lst? S x).bind fun xs => if xs.all noOwn then some (.own (cutL xs lo hi)) else none
def eSl (f : Rho → Mo SV) (lo hi : Rho → Mo (Option Int)) : Rho → Mo SV := fun ρ S => bindM (f ρ S) fun x S1 => bindM (lo ρ S1) fun l S2 => bindM (hi ρ S2) fun h S3 => (gSl S3 x l h).map fun z => .ok z S3
theorem cutL_length {α : Type} (xs : List α) (lo hi : Option Int) : (cutL xs lo hi).length ≤ xs.length := by
  unfold cutL
  rw [List.length_take, List.length_drop]
  omega
theorem DqL.cut {K : PySem.W.Frag} {H : Hp} {F : Addr → Prop} {ds : List PyData} {vs : List V} (r : DqL K H F ds vs) (lo hi : Option Int) : DqL K H F (cutL ds lo hi) (cutV vs lo hi) := by
  unfold cutL cutV
  rw [r.length]
  exact (r.drop _).take _
theorem RsL.drop {K : PySem.W.Frag} {mg : Str → Option Value} {H : Hp} {A : List Addr} {F : Addr → Prop} : ∀ {xs : List SV} {vs : List V} (n : Nat), RsL K mg H A F xs vs [] → RsL K mg H A F (xs.drop n) (vs.drop n) []
  | _, _, 0, r => r
  | [], _, n + 1, r => by cases r; exact .nil
  | x :: xs, _, n + 1, r => by
    generalize hg : ([] : List Addr) = g at r
    cases r with
    | cons r1 r2 =>
      have := List.append_eq_nil_iff.mp hg.symm
      obtain ⟨rfl, rfl⟩ := this
      exact RsL.drop n r2
theorem RsL.take {K : PySem.W.Frag} {mg : Str → Option Value} {H : Hp} {A : List Addr} {F : Addr → Prop} : ∀ {xs : List SV} {vs : List V} (n : Nat), RsL K mg H A F xs vs [] → RsL K mg H A F (xs.take n) (vs.take n) []
  | _, _, 0, r => .nil
  | [], _, n + 1, r => by cases r; exact .nil
  | x :: xs, _, n + 1, r => by
    generalize hg : ([] : List Addr) = g at r
    cases r with
    | cons r1 r2 =>
      have := List.append_eq_nil_iff.mp hg.symm
      obtain ⟨rfl, rfl⟩ := this
      exact .cons (g := []) (g' := []) r1 (RsL.take n r2)
theorem v_sl (hk : C.K = X.K) {lo hi : Option Expr} {p2 : Pos} {fl fh : Rho → Mo (Option Int)} (ha : PE X a (tV C W ka fa)) (hl : PO X lo (tO C W fl)) (hh : PO X hi (tO C W fh)) : PE X (.Subscript a (.Slice lo hi none p2) pos) (tV C W kd (eSl fa fl fh)) := by
  refine pe_imp (pe_slice (sl_tupA.or (sl_list.or C8.sl_txt)) ha hl hh) fun σ H Q ⟨P, ρ, S, A, G, hP, I, q⟩ => ⟨P, ρ, S, A, G, hP, I, EGood.step q (fun _ _ _ _ _ _ z => z) fun x S1 q v H1 p__ => ?_⟩
  obtain ⟨A1, g1, P1, e1, hP1, I1, k1, _⟩ := p__.next
  refine ⟨P1, ρ, S1, A1, G, fun a z => hP1 a (hP a z), I1, EGood.step q (fun _ _ _ _ _ _ z => z.trans e1) fun lo S2 q2 lo' H2 ⟨el, A2, e2, I2⟩ => ?_⟩
  subst el
  refine ⟨P1, ρ, S2, A2, G, fun a z => hP1 a (hP a z), I2, EGood.step q2 (fun _ _ _ _ _ _ z => z.trans (e1.trans e2)) fun hi S3 q3 hi' H3 ⟨eh, A3, e3, I3'⟩ => ?_⟩
  subst eh
  have I3 : Sim (C.pr P) ρ S3 A3 G σ H3 := (show Sim ((C.pr P1).pr P) ρ S3 A3 G σ H3 from Sim.prc I3' hP1)
  have rx := (k1.ext e2).ext e3
  clear q q2
  cases eg : gSl S3 x lo' hi' with
  | none => rw [eg] at q3; exact q3.elim
  | some z =>
    rw [eg] at q3
    have fin : ∀ w H', EPost (C.pr P) kd ρ A3 G σ H3 z S3 w H' → Q w H' := fun w H' p => q3 w H' (p.trans (e1.trans (e2.trans e3)))
    clear q3
    have lists : ∀ xs, lst? S3 x = some xs → xs.all noOwn = true → z = .own (cutL xs lo' hi') → ∃ a vs, v = .ref a ∧ SqL X.K H3 a vs ∧ ∀ p, H3 p = none → Q (.ref p) (upd H3 p (.lst (cutV vs lo' hi'))) := fun xs hx hn hz => by
      obtain ⟨a, vs, ga, rfl, e, l, r⟩ := rx.lst I3 hx
      refine ⟨a, vs, rfl, .of e, fun p hp => fin _ _ ?_⟩
      subst hz
      have hlen := r.len
      obtain ⟨r, _⟩ := r
      obtain rfl := r.noOwn hn
      refine EPost.lst (g := []) (H1 := H3) I3 ⟨?_, fun a m => by cases m⟩ ?_ (Nat.le_trans (cutV_length _ _ _) l) hp
      · unfold cutL cutV
        rw [hlen]
        exact (r.drop _).take _
      · refine List.all_eq_true.mpr fun y hy => List.all_eq_true.mp hn y ?_
        unfold cutL at hy
        exact List.mem_of_mem_drop (List.mem_of_mem_take hy)
    unfold gSl at eg
    split at eg
    · rename_i ds
      cases eg
      obtain ⟨a, vs, rfl, hs, l, r⟩ := rx.tup
      refine .inl ⟨a, vs, rfl, hk ▸ hs, fun hw => ?_, fun hw p hp => fin _ _ (EPost.tup I3 (r.cut _ _) (Nat.le_trans (cutV_length _ _ _) l) hp)⟩
      have e : cutL ds lo' hi' = ds := by
        unfold cutL
        rw [← r.length, hw.1, hw.2, List.drop_zero, Nat.sub_zero, r.length]
        exact List.take_length
      rw [e] at fin
      exact fin _ _ (EPost.same I3 (Rk.fe_of rx rfl))
    · rename_i t
      split at eg
      · rename_i hz
        cases eg
        exact .inr (.inr ⟨t, rx.str, hz, fin _ _ (EPost.same I3 (Rk.dat (.str _)))⟩)
      · cases eg
    · rename_i ns
      cases eg
      obtain ⟨r0, hg⟩ := rx.asBe
      cases r0 with
      | scr e n l =>
        refine .inr (.inl ⟨_, _, rfl, .inl (.inr ⟨_, e⟩), fun p hp => fin _ _ ?_⟩)
        have hc : cutV (ns.map V.int) lo' hi' = (cutL ns lo' hi').map V.int := by
          unfold cutV cutL
          rw [List.length_map, ← List.map_drop, ← List.map_take]
        rw [hc]
        refine EPost.lst (g := []) (H1 := H3) I3 ⟨?_, fun a m => by cases m⟩ (by simp [List.all_map, noOwn]) ?_ hp
        · have := RsL.ofD (K := C.K) (mg := C.mg) (A := A3) (DqL.ofInts (C := C) (H := H3) (F := Fs (C.pr P) A3 G) (cutL ns lo' hi'))
          rw [List.map_map] at this
          exact this
        · rw [List.length_map]
          exact Nat.le_trans (cutL_length _ _ _) l
      | scrK e l =>
        refine .inr (.inl ⟨_, _, rfl, hk ▸ SqL.const e H3, fun p hp => fin _ _ ?_⟩)
        have hc : cutV (ns.map V.int) lo' hi' = (cutL ns lo' hi').map V.int := by
          unfold cutV cutL
          rw [List.length_map, ← List.map_drop, ← List.map_take]
        rw [hc]
        refine EPost.lst (g := []) (H1 := H3) I3 ⟨?_, fun a m => by cases m⟩ (by simp [List.all_map, noOwn]) ?_ hp
        · have := RsL.ofD (K := C.K) (mg := C.mg) (A := A3) (DqL.ofInts (C := C) (H := H3) (F := Fs (C.pr P) A3 G) (cutL ns lo' hi'))
          rw [List.map_map] at this
          exact this
        · rw [List.length_map]
          exact Nat.le_trans (cutL_length _ _ _) l
    · simp only [Option.bind_eq_some_iff] at eg
      obtain ⟨xs, hx, eg⟩ := eg
      split at eg
      · rename_i hn
        cases eg
        exact .inr (.inl (lists xs hx hn rfl))
      · cases eg
end
end VL

end
section
set_option Elab.async false
set_option linter.all false
set_option maxRecDepth 100000
/-! VL5: displays, argument lists, calls of built-ins. -/
namespace VL
open PySem PySem.Spec PyProof.Rows L2

/-! ### from a list of one's own to data -/
mutual
def datO : SV → Option PyData
  | .d x => some x
  | .own xs => (datOs xs).map .list
  | .dic _ _ => none
  | .ref _ => none
  | .fn _ => none
  | .scr _ => none
def datOs : List SV → Option (List PyData)
  | [] => some []
  | x :: xs => (datO x).bind fun d => (datOs xs).map (d :: ·)
end
/-- what may be handed on for good -/
def frz (x : SV) : Option SV := if noOwn x then some x else (datO x).map .d
def frzs : List SV → Option (List SV)
  | [] => some []
  | x :: xs => (frz x).bind fun y => (frzs xs).map (y :: ·)
section
variable {K : PySem.W.Frag} {mg : Str → Option Value} {H : Hp} {A : List Addr} {F F1 : Addr → Prop}
mutual
theorem Rs.datO (hF : ∀ a, F a → F1 a) : ∀ (x : SV) (v : V) (g : List Addr) (d : PyData), Rs K mg H A F1 x v g → VL.datO x = some d → (∀ a ∈ g, ¬ F a) → Dq K H F d v
  | .d x, _, _, _, r, h, _ => by
    cases r with
    | d r =>
      simp only [VL.datO, Option.some.injEq] at h
      subst h
      exact Dq.mono (fun a z => .inl (hF a z)) (fun a o q n => q) _ _ r
  | .own xs, _, _, _, r, h, n => by
    cases r with
    | own e l r =>
      simp only [VL.datO, Option.map_eq_some_iff] at h
      obtain ⟨ds, h, rfl⟩ := h
      exact .lst e (n _ List.mem_cons_self) l (RsL.datO hF xs _ _ ds r h fun a m => n a (List.mem_cons_of_mem _ m))
  | .ref _, _, _, _, _, h, _ => by simp [VL.datO] at h
  | .dic _ _, _, _, _, _, h, _ => by simp [VL.datO] at h
  | .fn _, _, _, _, _, h, _ => by simp [VL.datO] at h
  | .scr _, _, _, _, _, h, _ => by simp [VL.datO] at h
theorem RsL.datO (hF : ∀ a, F a → F1 a) : ∀ (xs : List SV) (vs : List V) (g : List Addr) (ds : List PyData), RsL K mg H A F1 xs vs g → VL.datOs xs = some ds → (∀ a ∈ g, ¬ F a) → DqL K H F ds vs
  | [], _, _, _, r, h, _ => by
    cases r
    simp only [VL.datOs, Option.some.injEq] at h
    subst h
    exact .nil
  | x :: xs, _, _, _, r, h, n => by
    cases r with
    | cons r1 r2 =>
      simp only [VL.datOs, Option.bind_eq_some_iff, Option.map_eq_some_iff] at h
      obtain ⟨d, h1, ds, h2, rfl⟩ := h
      exact .cons (Rs.datO hF x _ _ d r1 h1 fun a m => n a (List.mem_append_left _ m)) (RsL.datO hF xs _ _ ds r2 h2 fun a m => n a (List.mem_append_right _ m))
end
end
section
variable {C : Ct} {kd ka kb : Kd} {ρ : Rho} {S : Sto} {A A' : List Addr} {G : List (List Addr)} {σ : L2.St} {H H0 H1 H2 : Hp} {x y z : SV} {v u w : V} {xs ys : List SV} {vs us : List V} {g : List Addr}
/-- what is one's own is neither the store's, nor a slot's, nor left alone by others -/
theorem fe_not (I : Sim (C.pg .fe g) ρ S A' G σ H) {a : Addr} (h : Rk C .fe g A' G H0 H x v) (m : a ∈ g) (hp : ∀ a ∈ g, ¬ C.Pr a) : ¬ Fs C A' G a := fun z => by
  have q : (C.pg .fe g).Pr a := .inr m
  have n := (I.prot a q).1
  rcases z with z | z | z
  · exact n (List.mem_append_left _ z)
  · exact n (List.mem_append_right _ z)
  · exact hp a m z
theorem RkL.datO {ds : List PyData} (r : RkL C .fe g A' G H0 H xs vs) (hg : ∀ a ∈ g, ¬ Fs C A' G a) (h : VL.datOs xs = some ds) : DqL C.K H (Fs C A' G) ds vs := RsL.datO (fun a z => .inl z) _ _ _ _ r.1 h hg
theorem Rk.datO {d : PyData} (r : Rk C .fe g A' G H0 H x v) (hg : ∀ a ∈ g, ¬ Fs C A' G a) (h : VL.datO x = some d) : Dq C.K H (Fs C A' G) d v := Rs.datO (fun a z => .inl z) _ _ _ _ r.1 h hg
theorem Rk.frz (r : Rk C .fe g A' G H0 H x v) (hg : ∀ a ∈ g, ¬ Fs C A' G a) (h : VL.frz x = some y) : Rs C.K C.mg H A' (Fs C A' G) y v [] := by
  unfold VL.frz at h
  split at h
  · rename_i hn
    cases h
    obtain ⟨r, nd, hg'⟩ := r
    obtain rfl := r.noOwn hn
    exact Rs.mono (fun _ _ q => q) (fun a z => .inl (.inl z)) (fun a o q n => q) _ _ _ (fun a m => by cases m) r
  · simp only [Option.map_eq_some_iff] at h
    obtain ⟨d, h, rfl⟩ := h
    exact .d (r.datO hg h)
theorem RkL.uncons (r : RkL C .fe g A G H0 H (x :: xs) vs) : ∃ v us g1 g2, vs = v :: us ∧ g = g1 ++ g2 ∧ Rk C .fe g1 A G H0 H x v ∧ RkL C .fe g2 A G H0 H xs us := by
  obtain ⟨r, nd, hg⟩ := r
  cases r with
  | cons r1 r2 =>
    rename_i v us g1 g2
    have n := List.nodup_append.mp nd
    refine ⟨v, us, g1, g2, rfl, rfl, ⟨?_, n.1, fun a m => hg a (List.mem_append_left _ m)⟩, ⟨?_, n.2.1, fun a m => hg a (List.mem_append_right _ m)⟩⟩
    · exact Rs.mono (fun _ _ q => q) (fun a z => z.elim (fun z => .inl (.inl z)) fun z => .inl (.inr (List.mem_append_left _ z))) (fun a o q n => q) _ _ _ (fun a m o q => q) r1
    · exact RsL.mono (fun _ _ q => q) (fun a z => z.elim (fun z => .inl (.inl z)) fun z => .inl (.inr (List.mem_append_right _ z))) (fun a o q n => q) _ _ _ (fun a m o q => q) r2
theorem RkL.frz (r : RkL C .fe g A' G H0 H xs vs) (hg : ∀ a ∈ g, ¬ Fs C A' G a) (h : VL.frzs xs = some ys) : RsL C.K C.mg H A' (Fs C A' G) ys vs [] := by
  induction xs generalizing vs ys g with
  | nil =>
    simp only [VL.frzs, Option.some.injEq] at h
    subst h
    obtain ⟨r, _⟩ := r
    cases r
    exact .nil
  | cons x xs ih =>
    simp only [VL.frzs, Option.bind_eq_some_iff, Option.map_eq_some_iff] at h
    obtain ⟨y, hy, zs, hz, rfl⟩ := h
    obtain ⟨v, us, g1, g2, rfl, rfl, r1, r2⟩ := r.uncons
    exact .cons (g := []) (g' := []) (r1.frz (fun a m => hg a (List.mem_append_left _ m)) hy) (ih r2 (fun a m => hg a (List.mem_append_right _ m)) hz)
end

/-! ### argument lists -/
def aNil : Rho → Mo (List SV) := fun _ S => some (.ok [] S)
def aCons (f : Rho → Mo SV) (g : Rho → Mo (List SV)) : Rho → Mo (List SV) := fun ρ S => bindM (f ρ S) fun x S1 => bindM (g ρ S1) fun xs S2 => some (.ok (x :: xs) S2)
section
variable {X : Cx} {C : Ct} {W : WX} {kd ka kb : Kd} {e a b c : Expr} {es : List Expr} {pos : Pos} {f fa fb : Rho → Mo SV} {fs : Rho → Mo (List SV)}
theorem a_nil : PA X [] (tVs C W kd aNil) := pa_imp pa_nil fun σ H Q ⟨P, ρ, S, A, G, hP, I, q⟩ => q [] H ⟨A, [], Ext.refl, I.pg0, by
  cases kd with
  | be => exact ⟨.nil, fun a m => by cases m⟩
  | fe => exact ⟨.nil, List.nodup_nil, fun a m => by cases m⟩⟩
theorem a_cons (ha : PE X e (tV C W kd f)) (hr : PA X es (tVs C W kd fs)) (hs : starEach (e :: es) X.env = (false, eval e X.env) :: starEach es X.env := by rfl) : PA X (e :: es) (tVs C W kd (aCons f fs)) := by
  refine pa_imp (pa_cons ha hr hs) fun σ H Q ⟨P, ρ, S, A, G, hP, I, q⟩ => ⟨P, ρ, S, A, G, hP, I, EGood.step q (fun _ _ _ _ _ _ z => z) fun x S1 q v H1 p => ?_⟩
  obtain ⟨A1, g1, e1, J1, k1⟩ := p
  cases kd with
  | be =>
    refine ⟨P, ρ, S1, A1, G, hP, J1, EGood.step q (fun _ _ _ _ _ _ z => z.trans e1) fun xs S2 q us H2 p => ?_⟩
    obtain ⟨A2, g2, e2, J2, k2⟩ := p
    have k1 := k1.ext e2
    exact q _ _ ⟨A2, g1 ++ g2, e1.trans e2, J2, .cons k1.1 k2.1, fun a m => (List.mem_append.mp m).elim (k1.2 a) (k2.2 a)⟩
  | fe =>
    refine ⟨fun a => P a ∨ a ∈ g1, ρ, S1, A1, G, fun a z => .inl (hP a z), J1, EGood.step q (fun _ _ _ _ _ _ z => z.trans e1) fun xs S2 q us H2 p => ?_⟩
    obtain ⟨A2, g2, e2, J2, k2⟩ := p
    have hF : ∀ a, (Fs (C.pr P) A2 G a ∨ a ∈ g1 ++ g2) ↔ (Fs (C.pr fun a => P a ∨ a ∈ g1) A2 G a ∨ a ∈ g2) := fun a => by
      constructor
      · rintro ((z | z | z) | z)
        · exact .inl (.inl z)
        · exact .inl (.inr (.inl z))
        · exact .inl (.inr (.inr (.inl z)))
        · exact (List.mem_append.mp z).elim (fun z => .inl (.inr (.inr (.inr z)))) .inr
      · rintro ((z | z | z | z) | z)
        · exact .inl (.inl z)
        · exact .inl (.inr (.inl z))
        · exact .inl (.inr (.inr z))
        · exact .inr (List.mem_append_left _ z)
        · exact .inr (List.mem_append_right _ z)
    refine q _ _ ⟨A2, g1 ++ g2, e1.trans e2, ?_, .cons ?_ ?_, ?_, ?_⟩
    · exact (show Sim (((C.pr fun a => P a ∨ a ∈ g1).pr fun a => (P a ∨ a ∈ g1) ∨ a ∈ g2).pr fun a => P a ∨ a ∈ g1 ++ g2) ρ S2 A2 G σ H2 from Sim.prc J2 fun a z => z.elim (fun z => .inl (.inl z)) fun z => (List.mem_append.mp z).elim (fun z => .inl (.inr z)) .inr)
    · refine Rs.mono (prefix_get e2.pre) (fun a z => ?_) (fun a o q n => e2.keep a o q fun z => n (.inl (.inl z))) _ _ _ (fun a m o q => e2.keep a o q (k1.2.2 a m).2.2) k1.1
      rcases z with z | z
      · rcases fs_ext e2 a z with z | z
        · exact .inl (.inl z)
        · exact .inr z
      · rcases List.mem_append.mp z with z | z
        · exact .inl (.inr z)
        · exact .inr (k2.2.2 a z).1
    · exact RsL.mono (fun _ _ q => q) (fun a z => .inl ((hF a).mp z)) (fun a o q n => q) _ _ _ (fun a m o q => q) k2.1
    · refine List.nodup_append.mpr ⟨k1.2.1, k2.2.1, fun a h b h' e => ?_⟩
      subst e
      exact (k1.2.2 a h).2.1 (k2.2.2 a h').1
    · intro a m
      rcases List.mem_append.mp m with m | m
      · refine ⟨(k1.2.2 a m).1, e2.there a (k1.2.2 a m).2.1, fun z => ?_⟩
        rcases e2.new a z with z | z
        · exact (k1.2.2 a m).2.2 z
        · exact (k1.2.2 a m).2.1 z
      · exact ⟨none_back e1 (k2.2.2 a m).1, (k2.2.2 a m).2⟩
/-- no new thing is the store's or a slot's -/
theorem new_not {P : Addr → Prop} {ρ : Rho} {S S1 : Sto} {A A1 : List Addr} {G : List (List Addr)} {σ : L2.St} {H H1 : Hp} {g : List Addr} (I : Sim (C.pr P) ρ S A G σ H) {xs : List SV} {vs : List V} (r : RkL (C.pr P) .fe g A1 G H H1 xs vs) : ∀ a ∈ g, ¬ Fs (C.pr P) A1 G a := fun a m z => by
  obtain ⟨h0, _, hA⟩ := r.2.2 a m
  rcases z with z | z | z
  · exact hA z
  · exact I.trk a (List.mem_append_right _ z) h0
  · exact I.prTrk z h0
theorem new_not1 {P : Addr → Prop} {ρ : Rho} {S S1 : Sto} {A A1 : List Addr} {G : List (List Addr)} {σ : L2.St} {H H1 : Hp} {g : List Addr} (I : Sim (C.pr P) ρ S A G σ H) {x : SV} {v : V} (r : Rk (C.pr P) .fe g A1 G H H1 x v) : ∀ a ∈ g, ¬ Fs (C.pr P) A1 G a := fun a m z => by
  obtain ⟨h0, _, hA⟩ := r.2.2 a m
  rcases z with z | z | z
  · exact hA z
  · exact I.trk a (List.mem_append_right _ z) h0
  · exact I.prTrk z h0
/-! ### displays -/
def eTup (fs : Rho → Mo (List SV)) : Rho → Mo SV := fun ρ S => bindM (fs ρ S) fun xs S1 => if xs.length ≤ sizeLine then (datOs xs).map fun ds => .ok (.d (.tuple ds)) S1 else none
def eLst (fs : Rho → Mo (List SV)) : Rho → Mo SV := fun ρ S => bindM (fs ρ S) fun xs S1 => if xs.length ≤ sizeLine then some (.ok (.own xs) S1) else none
theorem v_tup {x1} (h : PA X es (tVs C W .fe fs)) : PE X (.Tuple es x1 pos) (tV C W kd (eTup fs)) := by
  refine pe_imp (pe_tup h) fun σ H Q ⟨P, ρ, S, A, G, hP, I, q⟩ => ⟨P, ρ, S, A, G, hP, I, EGood.step q (fun _ _ _ _ _ _ z => z) fun xs S1 q vs H1 p => ?_⟩
  obtain ⟨A1, g1, e1, J1, k1⟩ := p
  split at q
  · rename_i hl
    cases ed : datOs xs with
    | none => rw [ed] at q; exact q.elim
    | some ds =>
      rw [ed] at q
      have r := k1.datO (new_not (S1 := S1) I k1) ed
      refine ⟨by rw [k1.len]; exact hl, fun p hp => q _ _ (EPost.trans e1 (EPost.tup J1.pgw r (by rw [k1.len]; exact hl) hp))⟩
  · exact q.elim
theorem v_lst (h : PA X es (tVs C W .fe fs)) : PE X (.List es pos) (tV C W kd (eLst fs)) := by
  refine pe_imp (pe_lst h) fun σ H Q ⟨P, ρ, S, A, G, hP, I, q⟩ => ⟨P, ρ, S, A, G, hP, I, EGood.step q (fun _ _ _ _ _ _ z => z) fun xs S1 q vs H1 p => ?_⟩
  obtain ⟨A1, g1, e1, J1, k1⟩ := p
  split at q
  · rename_i hl
    exact ⟨by rw [k1.len]; exact hl, fun p hp => q _ _ (EPost.own e1 J1 k1 (by rw [k1.len]; exact hl) hp)⟩
  · exact q.elim

/-! ### calls of built-ins by values -/
def eCal (g : Sto → List SV → Option SV) (fs : Rho → Mo (List SV)) : Rho → Mo SV := fun ρ S => bindM (fs ρ S) fun xs S1 => (g S1 xs).map fun z => .ok z S1
def CalOk (K : PySem.W.Frag) (ka kd : Kd) (g : Sto → List SV → Option SV) (r : List V → Hp → VK → Prop) : Prop :=
  ∀ (C : Ct) (ρ : Rho) (S : Sto) (A : List Addr) (G : List (List Addr)) (σ : L2.St) (H0 H : Hp) (xs : List SV) (z : SV) (vs : List V) (gx : List Addr) (Q : VK), C.K = K → Sim C ρ S A G σ H → RkL C ka gx A G H0 H xs vs → g S xs = some z →
    (∀ w H', EPost C kd ρ A G σ H z S w H' → Q w H') → r vs H Q
theorem tV_cal {g : Sto → List SV → Option SV} {r : List V → Hp → VK → Prop} (h : CalOk C.K ka kd g r) : ∀ σ H Q, tV C W kd (eCal g fs) σ H Q → tCB r (tVs C W ka fs) σ H Q := by
  intro σ H Q ⟨P, ρ, S, A, G, hP, I, q⟩
  refine ⟨P, ρ, S, A, G, hP, I, EGood.step q (fun _ _ _ _ _ _ z => z) fun xs S1 q vs H1 p => ?_⟩
  obtain ⟨A1, g1, e1, J1, k1⟩ := p
  cases eg : g S1 xs with
  | none => rw [eg] at q; exact q.elim
  | some z =>
    rw [eg] at q
    exact h (C.pr P) ρ S1 A1 G σ H H1 xs z vs g1 Q rfl J1.pgw k1 eg fun w H' p => q w H' (p.trans e1)
theorem v_calB {id : String} {x : Str} {p : Pos} {g : Sto → List SV → Option SV} {r : List V → Hp → VK → Prop} (hc : CallR X (.builtin id) r) (h : CalOk C.K ka kd g r) (hg : Gl X x) (hm : X.mg x = none) (hv : bootBuiltins x = some (.builtin id)) (ha : PA X (e :: es) (tVs C W ka fs)) (hn : x ≠ "__name__" := by decide) (hdb : (x == ("__debug__" : Str)) = false := by decide)
    (he : starEach (e :: es) X.env = (false, eval e X.env) :: starEach es X.env := by rfl) (hpl : (backTo pos (starEach es X.env)).any (·.1) = false := by rfl) : PE X (.Call (.Name x p) (e :: es) [] pos) (tV C W kd (eCal g fs)) := pe_imp (pe_callB hc hg hm hv ha hn hdb he hpl) (tV_cal h)
theorem v_calT {T : String} {x : Str} {p : Pos} {g : Sto → List SV → Option SV} {r : List V → Hp → VK → Prop} (hc : CallR X (.type T) r) (h : CalOk C.K ka kd g r) (hg : Gl X x) (hm : X.mg x = none) (hv : bootBuiltins x = some (.type T)) (ha : PA X (e :: es) (tVs C W ka fs)) (hn : x ≠ "__name__" := by decide) (hdb : (x == ("__debug__" : Str)) = false := by decide)
    (he : starEach (e :: es) X.env = (false, eval e X.env) :: starEach es X.env := by rfl) (hpl : (backTo pos (starEach es X.env)).any (·.1) = false := by rfl) : PE X (.Call (.Name x p) (e :: es) [] pos) (tV C W kd (eCal g fs)) := pe_imp (pe_callTy hc hg hm hv ha hn hdb he hpl) (tV_cal h)
end
section
variable {X : Cx} {C : Ct} {W : WX} {kd ka kb : Kd}
theorem RkL.one {g A : List Addr} {G : List (List Addr)} {H0 H : Hp} {x : SV} {vs : List V} (r : RkL C ka g A G H0 H [x] vs) : ∃ v, vs = [v] ∧ Rk C .be g A G H0 H x v := by
  have r : RkL C .be g A G H0 H [x] vs := by
    cases ka with
    | be => exact r
    | fe => exact r.be
  obtain ⟨r, hg⟩ := r
  cases r with
  | cons r1 r2 => cases r2; rw [List.append_nil] at hg ⊢; exact ⟨_, rfl, r1, hg⟩
theorem RkL.two {g A : List Addr} {G : List (List Addr)} {H0 H : Hp} {x y : SV} {vs : List V} (r : RkL C ka g A G H0 H [x, y] vs) : ∃ v u g1 g2, vs = [v, u] ∧ Rk C .be g1 A G H0 H x v ∧ Rk C .be g2 A G H0 H y u := by
  have r : RkL C .be g A G H0 H [x, y] vs := by
    cases ka with
    | be => exact r
    | fe => exact r.be
  obtain ⟨r, hg⟩ := r
  cases r with
  | cons r1 r2 =>
    cases r2 with
    | cons r2 r3 =>
      cases r3
      exact ⟨_, _, _, _, rfl, ⟨r1, fun a m => hg a (List.mem_append_left _ m)⟩, r2, fun a m => hg a (List.mem_append_right _ (List.mem_append_left _ m))⟩
/-- len -/
def gLen (S : Sto) (xs : List SV) : Option SV :=
  match xs with
  | [.d (.str z)] => if z.length ≤ sizeLine then some (.d (.int z.length)) else none
  | [x] => (seq? S x).map fun ys => .d (.int ys.length)
  | _ => none
theorem ok_len {K : PySem.W.Frag} : CalOk K ka kd gLen (fun xs H Q => ∃ x n, xs = [x] ∧ LenV K x H n ∧ Q (.int n) H) := by
  intro C ρ S A G σ H0 H xs z vs gx Q hK I r h q
  subst hK
  unfold gLen at h
  split at h
  · rename_i t
    split at h
    · rename_i hl
      cases h
      obtain ⟨v, rfl, r1⟩ := r.one
      exact ⟨v, _, rfl, by rw [r1.str]; exact ⟨hl, rfl⟩, q _ H (EPost.same I (Rk.dat (.int _)))⟩
    · cases h
  · rename_i x _
    simp only [Option.map_eq_some_iff] at h
    obtain ⟨ys, hy, rfl⟩ := h
    obtain ⟨v, rfl, r1⟩ := r.one
    obtain ⟨a, vs, ga, rfl, hs, l, r2⟩ := r1.seq I hy
    refine ⟨_, vs.length, rfl, ?_, by rw [r2.len]; exact q _ H (EPost.same I (Rk.dat (.int _)))⟩
    rcases hs with hs | hs
    · exact .inl ⟨_, hs, rfl⟩
    · exact .inr ⟨_, hs, rfl⟩
  · cases h
/-- abs of an int -/
def gAbs (_ : Sto) (xs : List SV) : Option SV :=
  match xs with
  | [.d (.int i)] => some (.d (.int (if i < 0 then -i else i)))
  | _ => none
theorem ok_abs {K : PySem.W.Frag} : CalOk K ka kd gAbs (fun xs H Q => ∃ i, xs = [.int i] ∧ Q (.int (if i < 0 then -i else i)) H) := by
  intro C ρ S A G σ H0 H xs z vs gx Q hK I r h q
  unfold gAbs at h
  split at h
  · cases h
    obtain ⟨v, rfl, r1⟩ := r.one
    exact ⟨_, by rw [r1.int], q _ H (EPost.same I (Rk.dat (.int _)))⟩
  · cases h
/-- max, min of two ints -/
def gMax2 (_ : Sto) (xs : List SV) : Option SV :=
  match xs with
  | [.d (.int i), .d (.int j)] => some (.d (.int (if j > i then j else i)))
  | _ => none
def gMin2 (_ : Sto) (xs : List SV) : Option SV :=
  match xs with
  | [.d (.int i), .d (.int j)] => some (.d (.int (if j < i then j else i)))
  | _ => none
theorem ok_max2 {K : PySem.W.Frag} : CalOk K ka kd gMax2 (fun xs H Q => ∃ i j, xs = [.int i, .int j] ∧ Q (.int (if j > i then j else i)) H) := by
  intro C ρ S A G σ H0 H xs z vs gx Q hK I r h q
  unfold gMax2 at h
  split at h
  · cases h
    obtain ⟨v, u, g1, g2, rfl, r1, r2⟩ := r.two
    exact ⟨_, _, by rw [r1.int, r2.int], q _ H (EPost.same I (Rk.dat (.int _)))⟩
  · cases h
theorem ok_min2 {K : PySem.W.Frag} : CalOk K ka kd gMin2 (fun xs H Q => ∃ i j, xs = [.int i, .int j] ∧ Q (.int (if j < i then j else i)) H) := by
  intro C ρ S A G σ H0 H xs z vs gx Q hK I r h q
  unfold gMin2 at h
  split at h
  · cases h
    obtain ⟨v, u, g1, g2, rfl, r1, r2⟩ := r.two
    exact ⟨_, _, by rw [r1.int, r2.int], q _ H (EPost.same I (Rk.dat (.int _)))⟩
  · cases h
/-- int of an int or a bool -/
def gInt (_ : Sto) (xs : List SV) : Option SV :=
  match xs with
  | [.d (.int i)] => some (.d (.int i))
  | [.d (.bool b)] => some (.d (.int (if b then 1 else 0)))
  | _ => none
theorem ok_int {K : PySem.W.Frag} : CalOk K ka kd gInt (fun xs H Q => (∃ i, xs = [.int i] ∧ Q (.int i) H) ∨ ∃ k, xs = [.bl k] ∧ Q (.int (if k then 1 else 0)) H) := by
  intro C ρ S A G σ H0 H xs z vs gx Q hK I r h q
  unfold gInt at h
  split at h
  · cases h
    obtain ⟨v, rfl, r1⟩ := r.one
    exact .inl ⟨_, by rw [r1.int], q _ H (EPost.same I (Rk.dat (.int _)))⟩
  · cases h
    obtain ⟨v, rfl, r1⟩ := r.one
    exact .inr ⟨_, by rw [r1.bl], q _ H (EPost.same I (Rk.dat (.int _)))⟩
  · cases h
/-- list(x): a new list -/
def gList (S : Sto) (xs : List SV) : Option SV :=
  match xs with
  | [x] => (seq? S x).bind fun ys => if ys.all noOwn then some (.own ys) else none
  | _ => none
theorem ok_list {K : PySem.W.Frag} : CalOk K ka kd gList (fun xs H Q => ∃ p ys, xs = [.ref p] ∧ (SqL K H p ys ∨ SqT K H p ys) ∧ ∀ l, H l = none → Q (.ref l) (upd H l (.lst ys))) := by
  intro C ρ S A G σ H0 H xs z vs gx Q hK I r h q
  subst hK
  unfold gList at h
  split at h
  · simp only [Option.bind_eq_some_iff] at h
    obtain ⟨ys, hy, h⟩ := h
    split at h
    · rename_i hn
      cases h
      obtain ⟨v, rfl, r1⟩ := r.one
      obtain ⟨a, vs, ga, rfl, hs, l, r2⟩ := r1.seq I hy
      exact ⟨a, vs, rfl, hs, fun p hp => q _ _ (EPost.lst I r2 hn l hp)⟩
    · cases h
  · cases h
/-- tuple(x): a new tuple of a list's data; a tuple is itself -/
def gTuple (S : Sto) (xs : List SV) : Option SV :=
  match xs with
  | [.d (.tuple ds)] => some (.d (.tuple ds))
  | [x] => (lst? S x).bind fun ys => (allD ys).map fun ds => .d (.tuple ds)
  | _ => none
theorem ok_tuple {K : PySem.W.Frag} : CalOk K ka kd gTuple (fun xs H Q => ∃ a ys, xs = [.ref a] ∧ ((SqL K H a ys ∧ ∀ l, H l = none → Q (.ref l) (upd H l (.tup ys))) ∨ (SqT K H a ys ∧ Q (.ref a) H))) := by
  intro C ρ S A G σ H0 H xs z vs gx Q hK I r h q
  subst hK
  unfold gTuple at h
  split at h
  · cases h
    obtain ⟨v, rfl, r1⟩ := r.one
    obtain ⟨a, vs, rfl, hs, l, _⟩ := r1.tup
    exact ⟨a, vs, rfl, .inr ⟨hs, q _ H (EPost.same I (Rk.fe_of r1 rfl))⟩⟩
  · simp only [Option.bind_eq_some_iff, Option.map_eq_some_iff] at h
    obtain ⟨ys, hy, ds, hd, rfl⟩ := h
    obtain ⟨v, rfl, r1⟩ := r.one
    obtain ⟨a, vs, ga, rfl, hs, l, r2⟩ := r1.lst I hy
    exact ⟨a, vs, rfl, .inl ⟨.of hs, fun p hp => q _ _ (EPost.tup I (r2.undat hd) l hp)⟩⟩
  · cases h
/-- all, any of bools -/
def bools : List SV → Option (List Bool)
  | [] => some []
  | .d (.bool b) :: r => (bools r).map (b :: ·)
  | _ :: _ => none
def ints? : List SV → Option (List Int)
  | [] => some []
  | .d (.int b) :: r => (ints? r).map (b :: ·)
  | _ :: _ => none
theorem RsL.bools {K : PySem.W.Frag} {mg : Str → Option Value} {H : Hp} {A : List Addr} {F : Addr → Prop} : ∀ {xs : List SV} {vs : List V} {g : List Addr} {bs : List Bool}, RsL K mg H A F xs vs g → VL.bools xs = some bs → vs = bs.map V.bl
  | [], _, _, _, r, h => by cases r; cases h; rfl
  | .d (.bool b) :: xs, _, _, _, r, h => by
    cases r with
    | cons r1 r2 =>
      simp only [VL.bools, Option.map_eq_some_iff] at h
      obtain ⟨bs, h, rfl⟩ := h
      cases r1 with
      | d r1 => cases r1; rw [RsL.bools r2 h]; rfl
  | .d .none :: _, _, _, _, _, h => by cases h
  | .d (.int _) :: _, _, _, _, _, h => by cases h
  | .d (.str _) :: _, _, _, _, _, h => by cases h
  | .d (.list _) :: _, _, _, _, _, h => by cases h
  | .d (.tuple _) :: _, _, _, _, _, h => by cases h
  | .d (.dict _) :: _, _, _, _, _, h => by cases h
  | .ref _ :: _, _, _, _, _, h => by cases h
  | .fn _ :: _, _, _, _, _, h => by cases h
  | .scr _ :: _, _, _, _, _, h => by cases h
  | .own _ :: _, _, _, _, _, h => by cases h
  | .dic _ _ :: _, _, _, _, _, h => by cases h
theorem RsL.ints {K : PySem.W.Frag} {mg : Str → Option Value} {H : Hp} {A : List Addr} {F : Addr → Prop} : ∀ {xs : List SV} {vs : List V} {g : List Addr} {bs : List Int}, RsL K mg H A F xs vs g → VL.ints? xs = some bs → vs = bs.map V.int
  | [], _, _, _, r, h => by cases r; cases h; rfl
  | .d (.int b) :: xs, _, _, _, r, h => by
    cases r with
    | cons r1 r2 =>
      simp only [VL.ints?, Option.map_eq_some_iff] at h
      obtain ⟨bs, h, rfl⟩ := h
      cases r1 with
      | d r1 => cases r1; rw [RsL.ints r2 h]; rfl
  | .d .none :: _, _, _, _, _, h => by cases h
  | .d (.bool _) :: _, _, _, _, _, h => by cases h
  | .d (.str _) :: _, _, _, _, _, h => by cases h
  | .d (.list _) :: _, _, _, _, _, h => by cases h
  | .d (.tuple _) :: _, _, _, _, _, h => by cases h
  | .d (.dict _) :: _, _, _, _, _, h => by cases h
  | .ref _ :: _, _, _, _, _, h => by cases h
  | .fn _ :: _, _, _, _, _, h => by cases h
  | .scr _ :: _, _, _, _, _, h => by cases h
  | .own _ :: _, _, _, _, _, h => by cases h
  | .dic _ _ :: _, _, _, _, _, h => by cases h
def gAll (S : Sto) (xs : List SV) : Option SV :=
  match xs with
  | [x] => (lst? S x).bind fun ys => (bools ys).map fun bs => .d (.bool (bs.all id))
  | _ => none
def gAny (S : Sto) (xs : List SV) : Option SV :=
  match xs with
  | [x] => (lst? S x).bind fun ys => (bools ys).map fun bs => .d (.bool (bs.any id))
  | _ => none
def gSum (S : Sto) (xs : List SV) : Option SV :=
  match xs with
  | [x] => (lst? S x).bind fun ys => (ints? ys).map fun bs => .d (.int bs.sum)
  | _ => none
theorem ok_all {K : PySem.W.Frag} : CalOk K ka kd gAll (rAll K) := by
  intro C ρ S A G σ H0 H xs z vs gx Q hK I r h q
  subst hK
  unfold gAll at h
  split at h
  · simp only [Option.bind_eq_some_iff, Option.map_eq_some_iff] at h
    obtain ⟨ys, hy, bs, hb, rfl⟩ := h
    obtain ⟨v, rfl, r1⟩ := r.one
    obtain ⟨a, vs, ga, rfl, hs, l, r2⟩ := r1.lst I hy
    obtain rfl := RsL.bools r2.1 hb
    exact ⟨a, bs, rfl, .of hs, q _ H (EPost.same I (Rk.dat (.bl _)))⟩
  · cases h
theorem ok_any {K : PySem.W.Frag} : CalOk K ka kd gAny (rAny K) := by
  intro C ρ S A G σ H0 H xs z vs gx Q hK I r h q
  subst hK
  unfold gAny at h
  split at h
  · simp only [Option.bind_eq_some_iff, Option.map_eq_some_iff] at h
    obtain ⟨ys, hy, bs, hb, rfl⟩ := h
    obtain ⟨v, rfl, r1⟩ := r.one
    obtain ⟨a, vs, ga, rfl, hs, l, r2⟩ := r1.lst I hy
    obtain rfl := RsL.bools r2.1 hb
    exact ⟨a, bs, rfl, .of hs, q _ H (EPost.same I (Rk.dat (.bl _)))⟩
  · cases h
theorem ok_sum {K : PySem.W.Frag} : CalOk K ka kd gSum (rSum K) := by
  intro C ρ S A G σ H0 H xs z vs gx Q hK I r h q
  subst hK
  unfold gSum at h
  split at h
  · simp only [Option.bind_eq_some_iff, Option.map_eq_some_iff] at h
    obtain ⟨ys, hy, bs, hb, rfl⟩ := h
    obtain ⟨v, rfl, r1⟩ := r.one
    obtain ⟨a, vs, ga, rfl, hs, l, r2⟩ := r1.lst I hy
    obtain rfl := RsL.ints r2.1 hb
    exact ⟨a, bs, rfl, .of hs, q _ H (EPost.same I (Rk.dat (.int _)))⟩
  · cases h
/-- isinstance of built-in classes -/
def tyOf : SV → Option String
  | .d .none => some "NoneType"
  | .d (.bool _) => some "bool"
  | .d (.int _) => some "int"
  | .d (.str _) => some "str"
  | .d (.list _) => some "list"
  | .d (.tuple _) => some "tuple"
  | .own _ => some "list"
  | .ref _ => some "list"
  | _ => none
def isB (t c : String) : Bool := t == c || (t == "bool" && c == "int")
/-- the classes that are asked for here -/
def knownTy (c : String) : Bool := ["int", "bool", "str", "tuple", "list"].contains c
theorem kit_is {t c : String} (ht : ["NoneType", "bool", "int", "str", "list", "tuple"].contains t = true) (hc : knownTy c = true) : kitB t c = some (isB t c) := by
  have h1 : ∀ t ∈ ["NoneType", "bool", "int", "str", "list", "tuple"], ∀ c ∈ ["int", "bool", "str", "tuple", "list"], kitB t c = some (isB t c) := by decide +kernel
  exact h1 t (by simpa using ht) c (by simpa [knownTy] using hc)
def eIsi (f : Rho → Mo SV) (c : String) : Rho → Mo SV := fun ρ S => bindM (f ρ S) fun x S1 => (tyOf x).map fun t => .ok (.d (.bool (isB t c))) S1
theorem Rk.ty {C : Ct} {ρ : Rho} {S : Sto} {g A : List Addr} {G : List (List Addr)} {σ : L2.St} {H0 H : Hp} {x : SV} {v : V} {t : String} (I : Sim C ρ S A G σ H) (hn : ∀ n, x = .ref n → (S[n]?).isSome) (r : Rk C ka g A G H0 H x v) (h : VL.tyOf x = some t) : TyX C.K H v (.type t) ∧ ["NoneType", "bool", "int", "str", "list", "tuple"].contains t = true := by
  obtain ⟨r1, _⟩ := r.asBe
  cases r1 with
  | d r2 =>
    cases r2 with
    | non => cases h; exact ⟨.base .non, by decide⟩
    | bl b => cases h; exact ⟨.base (.bl b), by decide⟩
    | int i => cases h; exact ⟨.base (.int i), by decide⟩
    | str z => cases h; exact ⟨.base (.str z), by decide⟩
    | lst e _ _ _ => cases h; exact ⟨.base (.lst e), by decide⟩
    | tup e _ _ _ => cases h; exact ⟨.base (.tup e), by decide⟩
    | ctup e _ _ =>
      cases h
      refine ⟨?_, by decide⟩
      rcases e with e | ⟨o, its, n, e1, e2, _⟩
      · rcases e with e | ⟨o, e⟩ <;> cases e
      · exact .kTuple e1 e2
  | @ref n a e =>
    cases h
    have := hn n rfl
    cases q : S[n]? with
    | none => rw [q] at this; cases this
    | some xs =>
      obtain ⟨a', vs, e1, e2, _, _⟩ := I.sto n xs q
      rw [e] at e1
      cases e1
      exact ⟨.base (.lst e2), by decide⟩
  | fn _ => cases h
  | scr e _ _ => cases h
  | scrK _ _ => cases h
  | own e _ _ => cases h; exact ⟨.base (.lst e), by decide⟩
  | dic _ _ _ _ => cases h
end
section
variable {X : Cx} {C : Ct} {W : WX} {kd ka kb : Kd} {e a b c : Expr} {es : List Expr} {pos : Pos} {f fa fb : Rho → Mo SV} {fs : Rho → Mo (List SV)}
def refOk (S : Sto) : SV → Bool
  | .ref n => (S[n]?).isSome
  | _ => true
/-- isinstance(x, c) for one of the classes c -/
def eIsi1 (f : Rho → Mo SV) (cs : List String) : Rho → Mo SV := fun ρ S => bindM (f ρ S) fun x S1 => if refOk S1 x then (tyOf x).map fun t => .ok (.d (.bool (cs.any (isB t)))) S1 else none
theorem refOk.ref {S : Sto} {x : SV} (h : refOk S x = true) : ∀ n, x = .ref n → (S[n]?).isSome := fun n e => by subst e; exact h
theorem v_isi {T : String} {p p1 : Pos} {x1 : Str} (hk : C.K = X.K) (hT : knownTy T = true) (hg : Gl X "isinstance") (hm : X.mg "isinstance" = none) (ha : PE X a (tV C W ka f)) (hg1 : Gl X x1) (hm1 : X.mg x1 = none) (hv1 : bootBuiltins x1 = some (.type T)) (hn1 : x1 ≠ "__name__" := by decide) (hd1 : (x1 == ("__debug__" : Str)) = false := by decide)
    (hs1 : starEach [a, .Name x1 p1] X.env = (false, eval a X.env) :: starEach [.Name x1 p1] X.env := by rfl) (hs2 : starEach [.Name x1 p1] X.env = (false, eval (.Name x1 p1) X.env) :: starEach [] X.env := by rfl) (hpl : (backTo pos (starEach [.Name x1 p1] X.env)).any (·.1) = false := by rfl) :
    PE X (.Call (.Name "isinstance" p) [a, .Name x1 p1] [] pos) (tV C W kd (eIsi1 f [T])) := by
  refine pe_imp (pe_callB call_isi hg hm (by decide +kernel) (pa_cons ha (pa_cons (pe_bltn (v := .ty T) hg1 hm1 hv1 rfl hn1 hd1) pa_nil hs2) hs1) (by decide) (by decide) hs1 hpl) fun σ H Q ⟨P, ρ, S, A, G, hP, I, q⟩ => ⟨P, ρ, S, A, G, hP, I, EGood.step q (fun _ _ _ _ _ _ z => z) fun x S1 q v H1 p => ?_⟩
  obtain ⟨A1, g1, e1, J1, k1⟩ := p
  split at q
  · rename_i hr
    cases et : tyOf x with
    | none => rw [et] at q; exact q.elim
    | some t =>
      rw [et] at q
      obtain ⟨ty, ht⟩ := k1.ty J1.pgw (refOk.ref hr) et
      refine ⟨v, .ty T, .type t, .type T, isB t T, rfl, .ty T, hk ▸ ty, kit_ty (kit_is ht hT), ?_⟩
      have e : isB t T = [T].any (isB t) := by simp
      rw [e]
      exact q _ _ ⟨A1, [], e1, J1.pgw.pg0, Rk.dat (.bl _)⟩
  · exact q.elim
theorem v_isi2 {T T2 : String} {p p1 p2 p3 : Pos} {kk : Nat} {x1 x2 : Str} (hk : C.K = X.K) (hT : knownTy T = true) (hT2 : knownTy T2 = true) (hg : Gl X "isinstance") (hm : X.mg "isinstance" = none) (ha : PE X a (tV C W ka f))
    (hg1 : Gl X x1) (hm1 : X.mg x1 = none) (hv1 : bootBuiltins x1 = some (.type T)) (hg2 : Gl X x2) (hm2 : X.mg x2 = none) (hv2 : bootBuiltins x2 = some (.type T2)) (hn1 : x1 ≠ "__name__" := by decide) (hd1 : (x1 == ("__debug__" : Str)) = false := by decide) (hn2 : x2 ≠ "__name__" := by decide) (hd2 : (x2 == ("__debug__" : Str)) = false := by decide)
    (hs1 : starEach [a, .Tuple [.Name x1 p1, .Name x2 p2] kk p3] X.env = (false, eval a X.env) :: starEach [.Tuple [.Name x1 p1, .Name x2 p2] kk p3] X.env := by rfl) (hs2 : starEach [.Tuple [.Name x1 p1, .Name x2 p2] kk p3] X.env = (false, eval (.Tuple [.Name x1 p1, .Name x2 p2] kk p3) X.env) :: starEach [] X.env := by rfl) (hpl : (backTo pos (starEach [.Tuple [.Name x1 p1, .Name x2 p2] kk p3] X.env)).any (·.1) = false := by rfl)
    (hs3 : starEach [.Name x1 p1, .Name x2 p2] X.env = (false, eval (.Name x1 p1) X.env) :: starEach [.Name x2 p2] X.env := by rfl) (hs4 : starEach [.Name x2 p2] X.env = (false, eval (.Name x2 p2) X.env) :: starEach [] X.env := by rfl) :
    PE X (.Call (.Name "isinstance" p) [a, .Tuple [.Name x1 p1, .Name x2 p2] kk p3] [] pos) (tV C W kd (eIsi1 f [T, T2])) := by
  refine pe_imp (pe_callB call_isiT hg hm (by decide +kernel) (pa_cons ha (pa_cons (pe_tup (pa_cons (pe_bltn (v := .ty T) hg1 hm1 hv1 rfl hn1 hd1) (pa_cons (pe_bltn (v := .ty T2) hg2 hm2 hv2 rfl hn2 hd2) pa_nil hs4) hs3)) pa_nil hs2) hs1) (by decide) (by decide) hs1 hpl)
    fun σ H Q ⟨P, ρ, S, A, G, hP, I, q⟩ => ⟨P, ρ, S, A, G, hP, I, EGood.step q (fun _ _ _ _ _ _ z => z) fun x S1 q v H1 p => ?_⟩
  obtain ⟨A1, g1, e1, J1, k1⟩ := p
  split at q
  · rename_i hr
    cases et : tyOf x with
    | none => rw [et] at q; exact q.elim
    | some t =>
      rw [et] at q
      refine ⟨by show 2 ≤ sizeLine; decide, fun tp hp => ?_⟩
      have ex : Ext A1 H1 A1 (upd H1 tp (.tup [.ty T, .ty T2])) := Ext.upd hp
      obtain ⟨ty, ht⟩ := (k1.ext ex).ty (J1.pgw.new hp) (refOk.ref hr) et
      refine ⟨v, tp, [.ty T, .ty T2], .type t, [.type T, .type T2], [T, T2].any (isB t), rfl, upd_same, .cons (.ty T) (.cons (.ty T2) .nil), hk ▸ ty, ?_, q _ _ ⟨A1, [], e1.trans ex, (J1.pgw.new hp).pg0, Rk.dat (.bl _)⟩⟩
      simp only [List.any_cons, List.any_nil, Bool.or_false]
      refine kitAny_cons (kit_ty (kit_is ht hT)) (fun e => ?_) (fun e => by rw [e]; rfl)
      rw [e, Bool.false_or]
      refine kitAny_cons (kit_ty (kit_is ht hT2)) (fun e => ?_) (fun e => e)
      rw [e]
      rfl
  · exact q.elim
end
end VL

end
section
set_option Elab.async false
set_option linter.all false
set_option maxRecDepth 100000
/-! VL6: slots stored, targets, what is walked, comprehensions. -/
namespace VL
open PySem PySem.Spec PyProof.Rows L2

section
variable {C : Ct} {ρ : Rho} {S S' : Sto} {A A' : List Addr} {G : List (List Addr)} {σ : L2.St} {H H' : Hp} {x : SV} {v : V} {g : List Addr} {i : Nat}
theorem flatten_set_sub {G : List (List Addr)} {i : Nat} {g : List Addr} {a : Addr} (h : a ∈ (G.set i g).flatten) : a ∈ G.flatten ∨ a ∈ g := by
  obtain ⟨l, hl, ha⟩ := List.mem_flatten.mp h
  rcases List.mem_or_eq_of_mem_set hl with hl | rfl
  · exact .inl (List.mem_flatten.mpr ⟨l, hl, ha⟩)
  · exact .inr ha
theorem nodup_set (hn : (A ++ G.flatten).Nodup) (hg : g.Nodup) (hd : ∀ a ∈ g, a ∉ A ∧ ∀ j l, j ≠ i → G[j]? = some l → a ∉ l) : (A ++ (G.set i g).flatten).Nodup := by
  by_cases hi : i < G.length
  · have e : (G.set i g) = G.take i ++ g :: G.drop (i + 1) := List.set_eq_take_append_cons_drop .. |>.trans (by rw [if_pos hi])
    have e0 : G = G.take i ++ G[i] :: G.drop (i + 1) := by rw [List.getElem_cons_drop, List.take_append_drop]
    rw [e, List.flatten_append, List.flatten_cons]
    rw [e0, List.flatten_append, List.flatten_cons] at hn
    have ht : ∀ a ∈ g, a ∉ (G.take i).flatten := fun a m z => by
      obtain ⟨l, hl, ha⟩ := List.mem_flatten.mp z
      obtain ⟨j, hj, rfl⟩ := List.getElem_of_mem hl
      rw [List.length_take] at hj
      exact (hd a m).2 j _ (by omega) (by rw [List.getElem_take]; exact List.getElem?_eq_getElem _) ha
    have hr : ∀ a ∈ g, a ∉ (G.drop (i + 1)).flatten := fun a m z => by
      obtain ⟨l, hl, ha⟩ := List.mem_flatten.mp z
      obtain ⟨j, hj, rfl⟩ := List.getElem_of_mem hl
      rw [List.length_drop] at hj
      exact (hd a m).2 (i + 1 + j) _ (by omega) (by rw [List.getElem_drop]; exact List.getElem?_eq_getElem _) ha
    have n1 := List.nodup_append.mp hn
    have n2 := List.nodup_append.mp n1.2.1
    have n3 := List.nodup_append.mp n2.2.1
    refine List.nodup_append.mpr ⟨n1.1, List.nodup_append.mpr ⟨n2.1, List.nodup_append.mpr ⟨hg, n3.2.1, fun a h b h' e => ?_⟩, fun a h b h' e => ?_⟩, fun a h b h' e => ?_⟩
    · subst e; exact hr a h h'
    · subst e
      rcases List.mem_append.mp h' with h' | h'
      · exact ht a h' h
      · exact n2.2.2 a h a (List.mem_append_right _ h') rfl
    · subst e
      rcases List.mem_append.mp h' with h' | h'
      · exact n1.2.2 a h a (List.mem_append_left _ h') rfl
      · rcases List.mem_append.mp h' with h' | h'
        · exact (hd a h').1 h
        · exact n1.2.2 a h a (List.mem_append_right _ (List.mem_append_right _ h')) rfl
  · rw [List.set_eq_of_length_le (by omega)]
    exact hn
/-- .. by what is one's own: I the state in which it is left alone -/
theorem Sim.put (I : Sim (C.pr fun a => C.Pr a ∨ a ∈ g) ρ S A G σ H) (r : Rs C.K C.mg H A (fun a => Fs C A G a ∨ a ∈ g) x v g) (hg : g.Nodup) (h0 : ∀ a ∈ g, C.E0 a = none) (hp : ∀ a ∈ g, ¬ C.Pr a) : Sim C (ρ.set i (some x)) S A (G.set i g) (σ.set i (some v)) H := by
  have hgn : ∀ a ∈ g, a ∉ A ++ G.flatten ∧ H a ≠ none := fun a m => I.prot a (.inr m)
  have hF : ∀ a, Fs C A (G.set i g) a → Fs (C.pr fun a => C.Pr a ∨ a ∈ g) A G a := fun a z => by
    rcases z with z | z | z
    · exact .inl z
    · rcases flatten_set_sub z with z | z
      · exact .inr (.inl z)
      · exact .inr (.inr (.inr z))
    · exact .inr (.inr (.inl z))
  have hFx : ∀ a, Fs C A (G.set i g) a → Fs C A G a ∨ a ∈ g := fun a z => by
    rcases z with z | z | z
    · exact .inl (.inl z)
    · rcases flatten_set_sub z with z | z
      · exact .inl (.inr (.inl z))
      · exact .inr z
    · exact .inl (.inr (.inr z))
  refine ⟨I.pre, by simp [I.lr], by simp [I.lg], I.ls, nodup_set I.nd hg fun a m => ⟨fun z => (hgn a m).1 (List.mem_append_left _ z), fun j l _ e z => (hgn a m).1 (List.mem_append_right _ (List.mem_flatten.mpr ⟨l, List.mem_of_getElem? e, z⟩))⟩, fun a m => ?_, fun a p => ⟨fun z => ?_, (I.prot a (.inl p)).2⟩, fun j y e => ?_, fun n xs e => ?_, I.frame, fun a m => ?_, I.a0⟩
  · rcases List.mem_append.mp m with m | m
    · exact I.trk a (List.mem_append_left _ m)
    · rcases flatten_set_sub m with m | m
      · exact I.trk a (List.mem_append_right _ m)
      · exact (hgn a m).2
  · rcases List.mem_append.mp z with z | z
    · exact (I.prot a (.inl p)).1 (List.mem_append_left _ z)
    · rcases flatten_set_sub z with z | z
      · exact (I.prot a (.inl p)).1 (List.mem_append_right _ z)
      · exact hp a z p
  · have lr := I.lr
    have lg := I.lg
    by_cases hj : j = i
    · subst hj
      have hlt : j < ρ.length := by
        have := (List.getElem?_eq_some_iff.mp e).1
        simpa using this
      rw [List.getElem?_set_self hlt] at e
      cases e
      exact ⟨v, g, by rw [List.getElem?_set_self (by omega)], Rs.mono (fun _ _ q => q) (fun a z => .inl (hFx a z)) (fun a o q n => q) _ _ _ (fun a m o q => q) r, by rw [List.getElem?_set_self (by omega)]; exact List.Sublist.refl _⟩
    · rw [List.getElem?_set_ne (Ne.symm hj)] at e
      obtain ⟨w, l, e1, r1, sb⟩ := I.slots j y e
      exact ⟨w, l, by rw [List.getElem?_set_ne (Ne.symm hj)]; exact e1, Rs.mono (fun _ _ q => q) (fun a z => .inl (hF a z)) (fun a o q n => q) _ _ _ (fun a m o q => q) r1, by rw [List.getElem?_set_ne (Ne.symm hj)]; exact sb⟩
  · obtain ⟨a, vs, e1, e2, l, r1⟩ := I.sto n xs e
    exact ⟨a, vs, e1, e2, l, RsL.mono (fun _ _ q => q) (fun a z => .inl (hF a z)) (fun a o q n => q) _ _ _ (fun a m o q => q) r1⟩
  · rcases List.mem_append.mp m with m | m
    · exact I.fresh a (List.mem_append_left _ m)
    · rcases flatten_set_sub m with m | m
      · exact I.fresh a (List.mem_append_right _ m)
      · exact .inr (h0 a m)
/-- .. by what is no list of one's own; the footprints stay -/
theorem Sim.putV (I : Sim C ρ S A G σ H) (r : Rs C.K C.mg H A (Fs C A G) x v []) : Sim C (ρ.set i (some x)) S A G (σ.set i (some v)) H := by
  refine ⟨I.pre, by simp [I.lr], by simp [I.lg], I.ls, I.nd, I.trk, I.prot, fun j y e => ?_, I.sto, I.frame, I.fresh, I.a0⟩
  have lr := I.lr
  by_cases hj : j = i
  · subst hj
    have hlt : j < ρ.length := by
      have := (List.getElem?_eq_some_iff.mp e).1
      simpa using this
    rw [List.getElem?_set_self hlt] at e
    cases e
    exact ⟨v, [], by rw [List.getElem?_set_self (by omega)], r, List.nil_sublist _⟩
  · rw [List.getElem?_set_ne (Ne.symm hj)] at e
    obtain ⟨w, l, e1, r1, sb⟩ := I.slots j y e
    exact ⟨w, l, by rw [List.getElem?_set_ne (Ne.symm hj)]; exact e1, r1, sb⟩
end

/-! ### targets -/
abbrev TgF := SV → Rho → Option Rho
def gNm (i : Nat) : TgF := fun x ρ => if noOwn x then some (ρ.set i (some x)) else none
def gsNil : List SV → Rho → Option Rho := fun xs ρ => if xs.isEmpty then some ρ else none
def gsCons (t : TgF) (u : List SV → Rho → Option Rho) : List SV → Rho → Option Rho := fun xs ρ => match xs with
  | x :: xs => (t x ρ).bind fun ρ' => u xs ρ'
  | [] => none
def gTp (n : Nat) (u : List SV → Rho → Option Rho) : TgF := fun x ρ => match x with
  | .d (.tuple ds) => if ds.length = n then u (ds.map .d) ρ else none
  | _ => none
/-- two rows of slots alike but at some places -/
def SameOff (is : List Nat) (σ σ' : L2.St) : Prop := σ'.length = σ.length ∧ ∀ j, j ∉ is → σ'[j]? = σ[j]?
theorem wipe_in {σ : L2.St} {j : Nat} : ∀ {vs : List Nat}, j ∈ vs → j < σ.length → (wipe σ vs)[j]? = some none
  | v :: vs, h, hl => by
    unfold wipe
    by_cases e : j = v
    · subst e
      rw [List.getElem?_set_self (by rw [wipe_length]; exact hl)]
    · rw [List.getElem?_set_ne (Ne.symm e)]
      exact wipe_in ((List.mem_cons.mp h).resolve_left e) hl
theorem SameOff.wipe {is vs : List Nat} {σ σ' : L2.St} (h : SameOff is σ σ') (hs : ∀ j ∈ is, j ∈ vs) : L2.wipe σ' vs = L2.wipe σ vs := by
  apply List.ext_getElem?
  intro j
  by_cases hj : j ∈ vs
  · by_cases hl : j < σ.length
    · rw [wipe_in hj hl, wipe_in hj (by rw [h.1]; exact hl)]
    · rw [List.getElem?_eq_none (by rw [wipe_length, h.1]; omega), List.getElem?_eq_none (by rw [wipe_length]; omega)]
  · rw [wipe_out hj, wipe_out hj]
    exact h.2 j fun m => hj (hs j m)
theorem wipe_wipe (σ : L2.St) (vs : List Nat) : L2.wipe (L2.wipe σ vs) vs = L2.wipe σ vs := by
  apply List.ext_getElem?
  intro j
  by_cases hj : j ∈ vs
  · by_cases hl : j < σ.length
    · rw [wipe_in hj hl, wipe_in hj (by rw [wipe_length]; exact hl)]
    · rw [List.getElem?_eq_none (by rw [wipe_length, wipe_length]; omega), List.getElem?_eq_none (by rw [wipe_length]; omega)]
  · rw [wipe_out hj]
/-- a target's reading by its function -/
def GOk (C : Ct) (t : TgF) (is : List Nat) (tg : TG) : Prop := ∀ (P : Addr → Prop) (ρ ρ' : Rho) (S : Sto) (A : List Addr) (G : List (List Addr)) (σ : L2.St) (H : Hp) (x : SV) (v : V) (Q : L2.St → Hp → Prop), Sim (C.pr P) ρ S A G σ H → Rs C.K C.mg H A (Fs (C.pr P) A G) x v [] → t x ρ = some ρ' →
  (∀ σ', Sim (C.pr P) ρ' S A G σ' H → SameOff is σ σ' → Q σ' H) → tg v σ H Q
def GsOk (C : Ct) (t : List SV → Rho → Option Rho) (is : List Nat) (tg : TGs) : Prop := ∀ (P : Addr → Prop) (ρ ρ' : Rho) (S : Sto) (A : List Addr) (G : List (List Addr)) (σ : L2.St) (H : Hp) (xs : List SV) (vs : List V) (Q : L2.St → Hp → Prop), Sim (C.pr P) ρ S A G σ H → RsL C.K C.mg H A (Fs (C.pr P) A G) xs vs [] → t xs ρ = some ρ' →
  (∀ σ', Sim (C.pr P) ρ' S A G σ' H → SameOff is σ σ' → Q σ' H) → tg vs σ H Q
theorem g_nm {C : Ct} {i : Nat} : GOk C (gNm i) [i] (gName i) := by
  intro P ρ ρ' S A G σ H x v Q I r h q
  unfold gNm at h
  split at h
  · cases h
    refine q _ (I.putV r) ⟨by simp, fun j hj => ?_⟩
    rw [List.getElem?_set_ne]
    exact fun e => hj (by simp [e])
  · cases h
theorem gs_nil {C : Ct} : GsOk C gsNil [] gNil := by
  intro P ρ ρ' S A G σ H xs vs Q I r h q
  unfold gsNil at h
  split at h
  · rename_i he
    cases h
    have : xs = [] := by simpa using he
    subst this
    cases r
    exact ⟨rfl, q σ I ⟨rfl, fun _ _ => rfl⟩⟩
  · cases h
theorem gs_cons {C : Ct} {t : TgF} {u : List SV → Rho → Option Rho} {is js : List Nat} {tg : TG} {ug : TGs} (h1 : GOk C t is tg) (h2 : GsOk C u js ug) : GsOk C (gsCons t u) (is ++ js) (gCons tg ug) := by
  intro P ρ ρ' S A G σ H xs vs Q I r h q
  unfold gsCons at h
  split at h
  · rename_i x xs
    simp only [Option.bind_eq_some_iff] at h
    obtain ⟨ρ1, e1, e2⟩ := h
    generalize hg : ([] : List Addr) = g at r
    cases r with
    | cons r1 r2 =>
      have hh := List.append_eq_nil_iff.mp hg.symm
      obtain ⟨rfl, rfl⟩ := hh
      refine ⟨_, _, rfl, h1 P ρ ρ1 S A G σ H _ _ _ I r1 e1 fun σ1 I1 s1 => h2 P ρ1 ρ' S A G σ1 H _ _ _ I1 r2 e2 fun σ2 I2 s2 => q σ2 I2 ⟨s2.1.trans s1.1, fun j hj => ?_⟩⟩
      rw [s2.2 j fun m => hj (List.mem_append_right _ m), s1.2 j fun m => hj (List.mem_append_left _ m)]
  · cases h
theorem g_tp {C : Ct} {n : Nat} {u : List SV → Rho → Option Rho} {is : List Nat} {ug : TGs} (h : GsOk C u is ug) : GOk C (gTp n u) is (gTup C.K n ug) := by
  intro P ρ ρ' S A G σ H x v Q I r e q
  unfold gTp at e
  split at e
  · rename_i ds
    split at e
    · rename_i hl
      obtain ⟨_, d⟩ := r.nil_d
      have go : ∀ a vs, SqT C.K H a vs → DqL C.K H (Fs (C.pr P) A G) ds vs → v = .ref a → gTup C.K n ug v σ H Q := fun a vs hs hd hv => ⟨a, vs, hv, hs, hd.length.trans hl, h P ρ ρ' S A G σ H _ _ _ I (RsL.ofD hd) e q⟩
      cases d with
      | tup e' _ _ hd => exact go _ _ (.of e') hd rfl
      | ctup e' _ hd => exact go _ _ (SqT.const e' H) hd rfl
    · cases e
  · cases e

/-! ### what is walked -/
structure Wk (C : Ct) (full : Bool) (A : List Addr) (G : List (List Addr)) (J : It) (xs : List SV) (H : Hp) : Prop where
  go : ∀ P2 A2 G2 H2, (∀ a, P2 a → C.Pr a ∨ H a = none) → ExtS A G H A2 G2 H2 → (full = false → ∀ a o, H a = some o → a ∉ A → H2 a = some o) → (∀ a, Fs (C.pr P2) A2 G2 a → H2 a ≠ none) → ∀ (i : Nat) x, xs[i]? = some x →
    J.go i H2 ∧ ∀ v H3, J.yld i H2 v H3 → (H3 = H2 ∨ ∃ p o, H2 p = none ∧ H3 = upd H2 p o) ∧ Rs C.K C.mg H3 A2 (Fs (C.pr P2) A2 G2) x v []
  stop : ∀ A2 G2 H2, ExtS A G H A2 G2 H2 → (full = false → ∀ a o, H a = some o → a ∉ A → H2 a = some o) → ∀ i, xs.length ≤ i → J.stop i H2
def IPost (C : Ct) (full : Bool) (ρ : Rho) (A : List Addr) (G : List (List Addr)) (σ : L2.St) (H : Hp) (xs : List SV) (S' : Sto) (J : It) (H' : Hp) : Prop :=
  ∃ A', Ext A H A' H' ∧ Sim C ρ S' A' G σ H' ∧ Wk C full A' G J xs H'
def tI (C : Ct) (W : WX) (full : Bool) (f : Rho → Mo (List SV)) : TI := fun σ H R => ∃ P ρ S A G, (∀ a, C.Pr a → P a) ∧ Sim (C.pr P) ρ S A G σ H ∧ EGood (IPost (C.pr P) full ρ A G σ H) (XPost C ρ A G σ H) W σ R (f ρ S)
theorem pi_imp {X : Cx} {tg e : Expr} {t t' : TI} (h : PI X tg e t) (i : ∀ σ H Q, t' σ H Q → t σ H Q) : PI X tg e t' := ⟨fun pins s σ H Q I q => h.run pins s σ H Q I (i σ H Q q)⟩
def iSeq2 (K : PySem.W.Frag) (tl : TE) : TI := fun σ H R => tl σ H fun x H1 => ∃ a, x = .ref a ∧ (((∃ xs, SqL K H1 a xs) ∧ R (Itl K a) H1) ∨ ((∃ xs, SqT K H1 a xs) ∧ R (Itt K a) H1))
theorem pi_seq {X : Cx} {tg l : Expr} {tl : TE} (hl : PE X l tl) : PI X tg l (iSeq2 X.K tl) := by
  refine ⟨fun pins s σ H R I h => ?_⟩
  refine thn (hl.run pins s σ H _ I h) fun v s1 ⟨x, H1, I1, r1, q1⟩ => ?_
  obtain ⟨a, e, q⟩ := q1
  subst e
  cases r1
  rcases q with ⟨⟨xs, hq⟩, q⟩ | ⟨⟨xs, hq⟩, q⟩
  · obtain ⟨its, rv, p, hz⟩ := I1.list hq
    refine wpAny_pyIter_list p.isList ?_
    refine ⟨s1.heap.objs.size, [s1.heap.objs.size], _, _, H1, rfl, I1.kept (t' := s1.toks) fun b o e => Heap.get?_push_of_some _ e, turn_list a _, ⟨_, Heap.get?_push_size _ rfl, rfl, rfl⟩, fun b hb => ?_, q⟩
    have e : b = s1.heap.objs.size := by simpa using hb
    subst e
    exact I1.fpOk (Nat.le_refl _) (I1.hok.fresh (Nat.le_refl _))
  · obtain ⟨its, rv, p, hz⟩ := I1.tuple hq
    refine wpAny_pyIter_tuple (show s1.heap.IsTuple a its.toArray from p) ?_
    refine ⟨s1.heap.objs.size, [s1.heap.objs.size], _, _, H1, rfl, I1.kept (t' := s1.toks) fun b o e => Heap.get?_push_of_some _ e, turn_tuple a _, ⟨_, Heap.get?_push_size _ rfl, rfl, rfl⟩, fun b hb => ?_, q⟩
    have e : b = s1.heap.objs.size := by simpa using hb
    subst e
    exact I1.fpOk (Nat.le_refl _) (I1.hok.fresh (Nat.le_refl _))
section
variable {C : Ct} {A A2 : List Addr} {G G2 : List (List Addr)} {H H2 : Hp} {P2 : Addr → Prop} {x : SV} {v : V} {xs : List SV} {vs : List V}
theorem fs_later (hP : ∀ a, P2 a → C.Pr a ∨ H a = none) (e : ExtS A G H A2 G2 H2) : ∀ a, Fs (C.pr P2) A2 G2 a → Fs C A G a ∨ H a = none := fun a z => by
  have go : a ∈ A2 ++ G2.flatten → Fs C A G a ∨ H a = none := fun m => by
    rcases e.new a m with m | m
    · rcases List.mem_append.mp m with m | m
      · exact .inl (.inl m)
      · exact .inl (.inr (.inl m))
    · exact .inr m
  rcases z with z | z | z
  · exact go (List.mem_append_left _ z)
  · exact go (List.mem_append_right _ z)
  · exact (hP a z).imp (fun z => .inr (.inr z)) id
theorem fs_kept (e : ExtS A G H A2 G2 H2) : ∀ a o, H a = some o → ¬ Fs C A G a → H2 a = some o := fun a o q n => e.keep a o q fun m => n ((List.mem_append.mp m).elim .inl fun m => .inr (.inl m))
/-- an item later on -/
theorem Rs.later (hP : ∀ a, P2 a → C.Pr a ∨ H a = none) (e : ExtS A G H A2 G2 H2) (r : Rs C.K C.mg H A (Fs C A G) x v []) : Rs C.K C.mg H2 A2 (Fs (C.pr P2) A2 G2) x v [] :=
  Rs.mono (prefix_get e.pre) (fs_later hP e) (fs_kept e) _ _ _ (fun a m => by cases m) r
theorem RsL.get0 : ∀ {xs : List SV} {vs : List V} {K : PySem.W.Frag} {mg : Str → Option Value} {F : Addr → Prop} {i : Nat}, RsL K mg H A F xs vs [] → vs[i]? = some v → ∃ x, xs[i]? = some x ∧ Rs K mg H A F x v []
  | [], _, _, _, _, i, r, e => by cases r; simp at e
  | x :: xs, _, _, _, _, i, r, e => by
    generalize hg : ([] : List Addr) = g at r
    cases r with
    | cons r1 r2 =>
      obtain ⟨rfl, rfl⟩ := List.append_eq_nil_iff.mp hg.symm
      cases i with
      | zero => simp at e; subst e; exact ⟨_, rfl, r1⟩
      | succ i => simpa using RsL.get0 r2 (by simpa using e)
theorem RsL.get1 {K : PySem.W.Frag} {mg : Str → Option Value} {F : Addr → Prop} {i : Nat} (r : RsL K mg H A F xs vs []) (h : xs[i]? = some x) : ∃ v, vs[i]? = some v ∧ Rs K mg H A F x v [] := by
  have l := r.length
  have hi : i < xs.length := (List.getElem?_eq_some_iff.mp h).1
  obtain ⟨x', e, q⟩ := r.get0 (i := i) (v := vs[i]'(by omega)) (List.getElem?_eq_getElem _)
  rw [h] at e
  cases e
  exact ⟨_, List.getElem?_eq_getElem _, q⟩
theorem sqL_inj {K : PySem.W.Frag} {a : Addr} {us : List V} (h : H a = some (.lst vs)) (q : SqL K H a us) (hk : ∀ o, K.lookup a = some o → False) : us = vs := by
  rcases q with (q | ⟨o, q⟩) | ⟨o, its, n, e, _⟩
  · rw [h] at q; cases q; rfl
  · rw [h] at q; cases q
  · exact (hk _ e).elim
theorem sqL_stay {K : PySem.W.Frag} {a : Addr} (q : SqL K H a vs) (h : ∀ o, H a = some o → H2 a = some o) : SqL K H2 a vs := by
  rcases q with (q | ⟨o, q⟩) | q
  · exact .inl (.inl (h _ q))
  · exact .inl (.inr ⟨o, h _ q⟩)
  · exact .inr q
theorem sqT_stay {K : PySem.W.Frag} {a : Addr} (q : SqT K H a vs) (h : ∀ o, H a = some o → H2 a = some o) : SqT K H2 a vs := by
  rcases q with (q | ⟨o, q⟩) | q
  · exact .inl (.inl (h _ q))
  · exact .inl (.inr ⟨o, h _ q⟩)
  · exact .inr q
theorem wk_lst {full : Bool} {a : Addr} (r : RsL C.K C.mg H A (Fs C A G) xs vs []) (st : ∀ A2 G2 H2, ExtS A G H A2 G2 H2 → (full = false → ∀ a o, H a = some o → a ∉ A → H2 a = some o) → SqL C.K H2 a vs) : Wk C full A G (Itl C.K a) xs H := by
  refine ⟨fun P2 A2 G2 H2 hP e hk ht i x hx => ?_, fun A2 G2 H2 e hk i hi => ?_⟩
  · obtain ⟨v, hv, rv⟩ := r.get1 hx
    have s2 := st A2 G2 H2 e hk
    refine ⟨⟨vs, v, s2, hv⟩, fun w H3 ⟨e3, y⟩ => ?_⟩
    subst e3
    have e' := y vs s2
    rw [hv] at e'
    cases e'
    exact ⟨.inl rfl, rv.later hP e⟩
  · exact ⟨vs, st A2 G2 H2 e hk, by rw [r.length]; exact hi⟩
theorem wk_tup {full : Bool} {a : Addr} (r : RsL C.K C.mg H A (Fs C A G) xs vs []) (st : ∀ A2 G2 H2, ExtS A G H A2 G2 H2 → (full = false → ∀ a o, H a = some o → a ∉ A → H2 a = some o) → SqT C.K H2 a vs) : Wk C full A G (Itt C.K a) xs H := by
  refine ⟨fun P2 A2 G2 H2 hP e hk ht i x hx => ?_, fun A2 G2 H2 e hk i hi => ?_⟩
  · obtain ⟨v, hv, rv⟩ := r.get1 hx
    have s2 := st A2 G2 H2 e hk
    refine ⟨⟨vs, v, s2, hv⟩, fun w H3 ⟨e3, y⟩ => ?_⟩
    subst e3
    have e' := y vs s2
    rw [hv] at e'
    cases e'
    exact ⟨.inl rfl, rv.later hP e⟩
  · exact ⟨vs, st A2 G2 H2 e hk, by rw [r.length]; exact hi⟩
def rangeL (lo : Int) (n : Nat) : List SV := (List.range n).map fun k => .d (.int (lo + (k : Nat)))
theorem wk_rng {full : Bool} {lo : Int} {n : Nat} : Wk C full A G (Itr lo n) (rangeL lo n) H := by
  refine ⟨fun P2 A2 G2 H2 hP e hk ht i x hx => ?_, fun A2 G2 H2 e hk i hi => ?_⟩
  · unfold rangeL at hx
    rw [List.getElem?_map, Option.map_eq_some_iff] at hx
    obtain ⟨k, hk', rfl⟩ := hx
    have hi : i < n := by
      have := (List.getElem?_eq_some_iff.mp hk').1
      simpa using this
    rw [List.getElem?_range hi] at hk'
    cases hk'
    refine ⟨hi, fun w H3 ⟨e3, y⟩ => ?_⟩
    subst e3
    subst y
    exact ⟨.inl rfl, .d (.int _)⟩
  · show n ≤ i
    simpa [rangeL] using hi
end
/-- a list or tuple that is walked -/
def isRef : SV → Bool
  | .ref _ => true
  | _ => false
def iSeq (f : Rho → Mo SV) : Rho → Mo (List SV) := fun ρ S => bindM (f ρ S) fun x S1 => if isRef x then none else (seq? S1 x).bind fun xs => if xs.all noOwn then some (.ok xs S1) else none
section
variable {X : Cx} {C : Ct} {W : WX} {kd ka kb : Kd} {tg e a b c : Expr} {es : List Expr} {pos : Pos} {f fa fb : Rho → Mo SV} {fs : Rho → Mo (List SV)}
/-- where a walked thing stands -/
theorem Rk.walk {P : Addr → Prop} {ρ : Rho} {S : Sto} {g A : List Addr} {G : List (List Addr)} {σ : L2.St} {H0 H : Hp} {x : SV} {v : V} {xs : List SV} {full : Bool} (I : Sim (C.pr P) ρ S A G σ H) (r : Rk (C.pr P) ka g A G H0 H x v) (hr : isRef x = false) (h : seq? S x = some xs) (hn : xs.all VL.noOwn = true)
    (hg : full = true → ∀ a ∈ g, a ∉ G.flatten) : ∃ a, v = .ref a ∧ (((∃ ys, SqL C.K H a ys) ∧ Wk (C.pr P) full A G (Itl C.K a) xs H) ∨ ((∃ ys, SqT C.K H a ys) ∧ Wk (C.pr P) full A G (Itt C.K a) xs H)) := by
  obtain ⟨r1, h1⟩ := r.asBe
  have items : ∀ vs g', RkL (C.pr P) .be g' A G H H xs vs → RsL C.K C.mg H A (Fs (C.pr P) A G) xs vs [] := fun vs g' rr => by
    obtain ⟨rr, _⟩ := rr
    have e := RsL.noOwn rr hn
    rw [e] at rr
    exact rr
  cases r1 with
  | d r1 =>
    cases r1 with
    | lst e n l q =>
      cases h
      exact ⟨_, rfl, .inl ⟨⟨_, .of e⟩, wk_lst (items _ _ (RkL.dats q)) fun A2 G2 H2 e2 hk => .of (fs_kept e2 _ _ e n)⟩⟩
    | tup e n l q =>
      cases h
      exact ⟨_, rfl, .inr ⟨⟨_, .of e⟩, wk_tup (items _ _ (RkL.dats q)) fun A2 G2 H2 e2 hk => .of (fs_kept e2 _ _ e n)⟩⟩
    | ctup e l q =>
      cases h
      exact ⟨_, rfl, .inr ⟨⟨_, SqT.const e H⟩, wk_tup (items _ _ (RkL.dats q)) fun A2 G2 H2 e2 hk => SqT.const e H2⟩⟩
    | _ => cases h
  | ref e => cases hr
  | fn e => cases h
  | @scr a o ns e n l =>
    have hvs : SqL C.K H a (ns.map V.int) := .inl (.inr ⟨_, e⟩)
    cases h
    refine ⟨a, rfl, .inl ⟨⟨_, hvs⟩, wk_lst (vs := ns.map V.int) ?_ fun A2 G2 H2 e2 hk => .inl (.inr ⟨_, fs_kept e2 _ _ e n⟩)⟩⟩
    have := RsL.ofD (K := C.K) (mg := C.mg) (A := A) (DqL.ofInts (C := C) (H := H) (F := Fs (C.pr P) A G) ns)
    rw [List.map_map] at this
    exact this
  | @scrK a ns e l =>
    cases h
    refine ⟨a, rfl, .inl ⟨⟨_, SqL.const e H⟩, wk_lst (vs := ns.map V.int) ?_ fun A2 G2 H2 e2 hk => SqL.const e H2⟩⟩
    have := RsL.ofD (K := C.K) (mg := C.mg) (A := A) (DqL.ofInts (C := C) (H := H) (F := Fs (C.pr P) A G) ns)
    rw [List.map_map] at this
    exact this
  | own e l q =>
    cases h
    refine ⟨_, rfl, .inl ⟨⟨_, .of e⟩, wk_lst (items _ _ ⟨q, fun a m => h1 a (List.mem_cons_of_mem _ m)⟩) fun A2 G2 H2 e2 hk => .of ?_⟩⟩
    cases full with
    | false => exact hk rfl _ _ e (h1 _ List.mem_cons_self).1
    | true => exact e2.keep _ _ e fun m => (List.mem_append.mp m).elim (fun m => (h1 _ List.mem_cons_self).1 m) (fun m => hg rfl _ List.mem_cons_self m)
  | dic _ _ _ _ => cases h
theorem i_seq (hk : C.K = X.K) (h : PE X e (tV C W ka f)) : PI X tg e (tI C W false (iSeq f)) := by
  refine pi_imp (pi_seq h) fun σ H R ⟨P, ρ, S, A, G, hP, I, q⟩ => ⟨P, ρ, S, A, G, hP, I, EGood.step q (fun _ _ _ _ _ _ z => z) fun x S1 q v H1 p => ?_⟩
  obtain ⟨A1, g1, e1, J1, k1⟩ := p
  split at q
  · exact q.elim
  · rename_i hr
    cases es : seq? S1 x with
    | none => rw [es] at q; exact q.elim
    | some xs =>
      rw [es] at q
      simp only [Option.bind_some] at q
      split at q
      · rename_i hn
        obtain ⟨a, rfl, w⟩ := k1.walk (full := false) J1.pgw (by simpa using hr) es hn (fun z => by cases z)
        rw [hk] at w
        refine ⟨a, rfl, ?_⟩
        rcases w with ⟨w1, w2⟩ | ⟨w1, w2⟩
        · exact .inl ⟨w1, q _ _ ⟨A1, e1, J1.pgw, w2⟩⟩
        · exact .inr ⟨w1, q _ _ ⟨A1, e1, J1.pgw, w2⟩⟩
      · exact q.elim
theorem i_seqF (hk : C.K = X.K) (h : PE X e (tV C W .fe f)) : PI X tg e (tI C W true (iSeq f)) := by
  refine pi_imp (pi_seq h) fun σ H R ⟨P, ρ, S, A, G, hP, I, q⟩ => ⟨P, ρ, S, A, G, hP, I, EGood.step q (fun _ _ _ _ _ _ z => z) fun x S1 q v H1 p => ?_⟩
  obtain ⟨A1, g1, e1, J1, k1⟩ := p
  split at q
  · exact q.elim
  · rename_i hr
    cases es : seq? S1 x with
    | none => rw [es] at q; exact q.elim
    | some xs =>
      rw [es] at q
      simp only [Option.bind_some] at q
      split at q
      · rename_i hn
        obtain ⟨a, rfl, w⟩ := k1.walk (full := true) J1.pgw (by simpa using hr) es hn (fun _ a m z => (J1.prot a (.inr m)).1 (List.mem_append_right _ z))
        rw [hk] at w
        refine ⟨a, rfl, ?_⟩
        rcases w with ⟨w1, w2⟩ | ⟨w1, w2⟩
        · exact .inl ⟨w1, q _ _ ⟨A1, e1, J1.pgw, w2⟩⟩
        · exact .inr ⟨w1, q _ _ ⟨A1, e1, J1.pgw, w2⟩⟩
      · exact q.elim
/-- range of one int, of two -/
def inR (i : Int) : Bool := decide (i.natAbs < 4611686018427387904)
theorem inR_lt {i : Int} (h : inR i = true) : -(2 ^ 62) ≤ i ∧ i < 2 ^ 62 := by
  have h := of_decide_eq_true h
  have e : (2 : Int) ^ 62 = 4611686018427387904 := by decide
  rw [e]
  omega
def iRng1 (fs : Rho → Mo (List SV)) : Rho → Mo (List SV) := fun ρ S => bindM (fs ρ S) fun xs S1 => match xs with
  | [.d (.int j)] => if inR j then some (.ok (rangeL 0 j.toNat) S1) else none
  | _ => none
def iRng2 (fs : Rho → Mo (List SV)) : Rho → Mo (List SV) := fun ρ S => bindM (fs ρ S) fun xs S1 => match xs with
  | [.d (.int i), .d (.int j)] => if inR i && inR j then some (.ok (rangeL i (j - i).toNat) S1) else none
  | _ => none
theorem i_rng1 {full : Bool} {p : Pos} (hg : Gl X "range") (hm : X.mg "range" = none) (ha : PA X [a] (tVs C W .be fs)) (hs : starEach [a] X.env = [(false, eval a X.env)] := by rfl) : PI X tg (.Call (.Name "range" p) [a] [] pos) (tI C W full (iRng1 fs)) := by
  refine pi_imp (pi_range1 hg hm ha hs) fun σ H R ⟨P, ρ, S, A, G, hP, I, q⟩ => ⟨P, ρ, S, A, G, hP, I, EGood.step q (fun _ _ _ _ _ _ z => z) fun xs S1 q vs H1 p => ?_⟩
  obtain ⟨A1, g1, e1, J1, k1⟩ := p
  split at q
  · rename_i j
    split at q
    · rename_i hj
      have hj := inR_lt hj
      obtain ⟨v, rfl, r⟩ := k1.one
      exact ⟨j, by rw [r.int], hj.1, hj.2, q _ _ ⟨A1, e1, J1, wk_rng⟩⟩
    · exact q.elim
  · exact q.elim
theorem i_rng2 {full : Bool} {p : Pos} (hg : Gl X "range") (hm : X.mg "range" = none) (ha : PA X [a, b] (tVs C W .be fs)) (hs : starEach [a, b] X.env = [(false, eval a X.env), (false, eval b X.env)] := by rfl) (hs2 : starEach [b] X.env = [(false, eval b X.env)] := by rfl) : PI X tg (.Call (.Name "range" p) [a, b] [] pos) (tI C W full (iRng2 fs)) := by
  refine pi_imp (pi_range2 hg hm ha hs hs2) fun σ H R ⟨P, ρ, S, A, G, hP, I, q⟩ => ⟨P, ρ, S, A, G, hP, I, EGood.step q (fun _ _ _ _ _ _ z => z) fun xs S1 q vs H1 p => ?_⟩
  obtain ⟨A1, g1, e1, J1, k1⟩ := p
  split at q
  · rename_i i j
    split at q
    · rename_i hj
      have hj := Bool.and_eq_true_iff.mp hj
      have hj := And.intro (inR_lt hj.1) (inR_lt hj.2)
      obtain ⟨v, u, ga, gb, rfl, r1, r2⟩ := k1.two
      exact ⟨i, j, by rw [r1.int, r2.int], ⟨hj.1.1, hj.1.2, hj.2.1, hj.2.2⟩, q _ _ ⟨A1, e1, J1, wk_rng⟩⟩
    · exact q.elim
  · exact q.elim
end

/-! ### comprehensions -/
def wipeR (ρ : Rho) : List Nat → Rho
  | [] => ρ
  | v :: vs => (wipeR ρ vs).set v none
def compL (tf : TgF) (tst : Rho → Mo Bool) (elt : Rho → Mo SV) (ρ : Rho) : List SV → List SV → Mo (List SV)
  | [], acc, S => some (.ok acc S)
  | x :: xs, acc, S => match tf x ρ with
    | none => none
    | some ρ' => match tst ρ' S with
      | some (.ok true S1) => (match elt ρ' S1 with
        | some (.ok y S2) => if acc.length < sizeLine then compL tf tst elt ρ xs (acc ++ [y]) S2 else none
        | _ => none)
      | some (.ok false S1) => compL tf tst elt ρ xs acc S1
      | _ => none
def eLc (it : Rho → Mo (List SV)) (tf : TgF) (tst : Rho → Mo Bool) (elt : Rho → Mo SV) (vs : List Nat) : Rho → Mo SV := fun ρ S => bindM (it ρ S) fun xs S1 => bindM (compL tf tst elt (wipeR ρ vs) xs [] S1) fun ys S2 => some (.ok (.own ys) S2)
/-- no exception leaves -/
abbrev WF : WX := fun _ _ _ _ => False
theorem wipeR_length (ρ : Rho) : ∀ vs : List Nat, (wipeR ρ vs).length = ρ.length
  | [] => rfl
  | v :: vs => by unfold wipeR; rw [List.length_set, wipeR_length ρ vs]
theorem wipeR_some {ρ : Rho} {i : Nat} {x : SV} : ∀ {vs : List Nat}, (wipeR ρ vs)[i]? = some (some x) → ρ[i]? = some (some x) ∧ i ∉ vs
  | [], h => ⟨h, by simp⟩
  | v :: vs, h => by
    unfold wipeR at h
    by_cases e : v = i
    · subst e
      by_cases hl : v < (wipeR ρ vs).length
      · rw [List.getElem?_set_self hl] at h; cases h
      · rw [List.getElem?_set, if_pos rfl, if_neg hl] at h; cases h
    · rw [List.getElem?_set_ne e] at h
      obtain ⟨h1, h2⟩ := wipeR_some h
      exact ⟨h1, by simp [h2, Ne.symm e]⟩
theorem Sim.wipe {C : Ct} {ρ : Rho} {S : Sto} {A : List Addr} {G : List (List Addr)} {σ : L2.St} {H : Hp} (I : Sim C ρ S A G σ H) (vs : List Nat) : Sim C (wipeR ρ vs) S A G (L2.wipe σ vs) H := by
  refine ⟨I.pre, by rw [wipeR_length, wipe_length, I.lr], by rw [wipeR_length, I.lg], I.ls, I.nd, I.trk, I.prot, fun i x e => ?_, I.sto, I.frame, I.fresh, I.a0⟩
  obtain ⟨e1, e2⟩ := wipeR_some e
  obtain ⟨v, g, h1, r, sb⟩ := I.slots i x e1
  exact ⟨v, g, by rw [wipe_out e2]; exact h1, r, sb⟩
end VL

end
section
set_option Elab.async false
set_option linter.all false
set_option maxRecDepth 100000
/-! VL7: comprehensions, for, while. -/
namespace VL
open PySem PySem.Spec PyProof.Rows L2
section
variable {C : Ct} {P P2 P3 : Addr → Prop} {ρ ρ' : Rho} {S S' : Sto} {A A' : List Addr} {G : List (List Addr)} {σ σ' : L2.St} {H H' : Hp}
/-- the outer slots, behind what was done within -/
theorem Sim.back (I : Sim (C.pr P2) ρ S A G σ H) (J : Sim (C.pr P3) ρ' S' A' G σ' H') (e : Ext A H A' H') (hp : ∀ a, P3 a → P2 a ∨ H a = none) : Sim (C.pr P3) ρ S' A' G σ H' := by
  refine ⟨J.pre, I.lr, I.lg, J.ls, J.nd, J.trk, J.prot, fun i x ex => ?_, J.sto, J.frame, J.fresh, J.a0⟩
  obtain ⟨v, g, e1, r, sb⟩ := I.slots i x ex
  refine ⟨v, g, e1, Rs.mono (prefix_get e.pre) (fun a z => ?_) (fun a o q n => e.keep a o q fun z => n (.inl z)) _ _ _ (fun a m o q => e.keep a o q fun z => (List.nodup_append.mp I.nd).2.2 a z a (getD_mem (sb.subset m)) rfl) r, sb⟩
  rcases z with z | z | z
  · exact (e.new a z).imp .inl id
  · exact .inl (.inr (.inl z))
  · exact (hp a z).imp (fun z => .inr (.inr z)) id
/-- a thing that is left alone is changed -/
theorem Sim.updP (I : Sim (C.pr P) ρ S A G σ H) {D : Addr} {o : HO} (hD : P D) (h0 : C.E0 D = none) : Sim (C.pr P) ρ S A G σ (upd H D o) := by
  have nD := I.prot D hD
  have hH : ∀ a o', H a = some o' → ¬ Fs (C.pr P) A G a → upd H D o a = some o' := fun a o' e n => by rw [upd_ne (show a ≠ D from fun z => n (by rw [z]; exact .inr (.inr hD)))]; exact e
  have hA : ∀ a, a ≠ D → upd H D o a = H a := fun a n => upd_ne n
  have tr : ∀ a, H a ≠ none → upd H D o a ≠ none := fun a h => by
    by_cases e : a = D
    · rw [e, upd_same]; simp
    · rw [hA a e]; exact h
  refine ⟨I.pre, I.lr, I.lg, I.ls, I.nd, fun a m => tr a (I.trk a m), fun a p => ⟨(I.prot a p).1, tr a (I.prot a p).2⟩, fun i x e => ?_, fun n xs e => ?_, fun a o' e n => ?_, I.fresh, I.a0⟩
  · obtain ⟨v, g, e1, r, sb⟩ := I.slots i x e
    refine ⟨v, g, e1, Rs.mono (fun _ _ q => q) (fun a z => .inl z) hH _ _ _ (fun a m o' q => ?_) r, sb⟩
    rw [hA a fun z => nD.1 (by rw [← z]; exact List.mem_append_right _ (getD_mem (sb.subset m)))]
    exact q
  · obtain ⟨a, vs, e1, e2, l, r⟩ := I.sto n xs e
    exact ⟨a, vs, e1, by rw [hA a fun z => nD.1 (by rw [← z]; exact List.mem_append_left _ (List.mem_of_getElem? e1))]; exact e2, l, RsL.mono (fun _ _ q => q) (fun a z => .inl z) hH _ _ _ (fun a m => by cases m) r⟩
  · have e' : C.E0 a = some o' := e
    rw [hA a fun z => by rw [z] at e'; rw [e'] at h0; cases h0]
    exact I.frame a o' e n
end
section
variable {X : Cx} {C : Ct} {W : WX} {kd ka kb : Kd} {tg elt iter : Expr} {ifs : List Expr} {scope : Scope} {own : List (Str × Nat)} {pos : Pos} {fi : Rho → Mo (List SV)} {ft : Rho → Mo Bool} {fe : Rho → Mo SV} {tf : TgF} {is : List Nat} {g : TG}
theorem compL_noexc {tf : TgF} {tst : Rho → Mo Bool} {elt : Rho → Mo SV} {ρ : Rho} : ∀ (xs acc : List SV) (S : Sto) (c : Str) (fs : List (Str × SV)) (S' : Sto), compL tf tst elt ρ xs acc S ≠ some (.exc c fs S')
  | [], acc, S, c, fs, S', h => by cases h
  | x :: xs, acc, S, c, fs, S', h => by
    unfold compL at h
    split at h
    · cases h
    · split at h
      · split at h
        · split at h
          · exact compL_noexc _ _ _ _ _ _ h
          · cases h
        · cases h
      · exact compL_noexc _ _ _ _ _ _ h
      · cases h
theorem t_lc (hgo : GOk C tf is g) {vs : List Nat} (his : ∀ j ∈ is, j ∈ vs) : ∀ σ H Q, tV C W kd (eLc fi tf ft fe vs) σ H Q → tLc (tI C W false fi) g (tTs C WF ft) (tV C WF .fe fe) vs σ H Q := by
  intro σ H Q ⟨P, ρ, S, A, G, hP, I, q⟩
  refine ⟨P, ρ, S, A, G, hP, I, EGood.step q (fun _ _ _ _ _ _ z => z) fun xs S1 q J H1 p => ?_⟩
  obtain ⟨A1, e1, I1, wk⟩ := p
  cases hcl : compL tf ft fe (wipeR ρ vs) xs [] S1 with
  | none => rw [hcl] at q; exact q.elim
  | some rr =>
  cases rr with
  | exc c fs S' => exact (compL_noexc _ _ _ _ _ _ hcl).elim
  | ok ys S2 =>
  rw [hcl] at q
  intro D hD
  have hE0 : C.E0 D = none := I1.e0 D hD
  have hW : ∀ (v : V) (H' : Hp), EPost (C.pr P) kd ρ A G σ H (SV.own ys) S2 v H' → Q v H' := q
  clear q
  refine ⟨fun i m H' => m = xs.length - i ∧ ∃ Si Ai acc accV gacc, i ≤ xs.length ∧ compL tf ft fe (wipeR ρ vs) (xs.drop i) acc Si = some (.ok ys S2) ∧ Ext A1 H1 Ai H' ∧ Sim (C.pr fun a => P a ∨ a = D ∨ a ∈ gacc) ρ Si Ai G σ H' ∧
    H' D = some (.lst accV) ∧ accV.length ≤ sizeLine ∧ RsL C.K C.mg H' Ai (fun a => Fs (C.pr P) Ai G a ∨ a = D ∨ a ∈ gacc) acc accV gacc ∧ gacc.Nodup ∧ (∀ a ∈ gacc, H1 a = none ∧ a ≠ D), ⟨xs.length - 0, rfl, S1, A1, [], [], [], Nat.zero_le _, by rw [List.drop_zero]; exact hcl, Ext.upd hD, ?_, upd_same, Nat.zero_le _, .nil, List.nodup_nil, fun a m => by cases m⟩, ?_⟩
  · exact Sim.prc (C := (C.pr P).pr fun a => P a ∨ a = D) (Sim.newP I1 hD) fun a z => z.elim .inl fun z => z.elim .inr fun m => by cases m
  rintro i m H' ⟨rfl, Si, Ai, acc, accV, gacc, hi, hc, ex, Is, hDa, hl, rl, nd, hg⟩
  have hkeep : false = false → ∀ a o, H1 a = some o → a ∉ A1 → H' a = some o := fun _ a o e n => ex.keep a o e n
  by_cases hlt : i < xs.length
  · -- a turn
    have hx : xs[i]? = some xs[i] := List.getElem?_eq_getElem hlt
    have hP2 : ∀ a, (P a ∨ a = D ∨ a ∈ gacc) → P a ∨ H1 a = none := fun a z => z.imp id fun z => z.elim (fun z => by rw [z]; exact hD) fun m => (hg a m).1
    obtain ⟨jgo, jy⟩ := wk.go (fun a => P a ∨ a = D ∨ a ∈ gacc) Ai G H' hP2 ex.s hkeep (fun a z => Is.fsTrk z) i _ hx
    rw [List.drop_eq_getElem_cons hlt] at hc
    unfold compL at hc
    cases htf : tf xs[i] (wipeR ρ vs) with
    | none => rw [htf] at hc; cases hc
    | some ρ' =>
    rw [htf] at hc
    simp only at hc
    refine .inr ⟨jgo, fun H'' => ∃ Si Ai acc accV gacc, i + 1 ≤ xs.length ∧ compL tf ft fe (wipeR ρ vs) (xs.drop (i + 1)) acc Si = some (.ok ys S2) ∧ Ext A1 H1 Ai H'' ∧ Sim (C.pr fun a => P a ∨ a = D ∨ a ∈ gacc) ρ Si Ai G σ H'' ∧
      H'' D = some (.lst accV) ∧ accV.length ≤ sizeLine ∧ RsL C.K C.mg H'' Ai (fun a => Fs (C.pr P) Ai G a ∨ a = D ∨ a ∈ gacc) acc accV gacc ∧ gacc.Nodup ∧ (∀ a ∈ gacc, H1 a = none ∧ a ≠ D), fun H'' h => ⟨xs.length - (i + 1), by omega, rfl, h⟩, fun v H3 y => ?_⟩
    obtain ⟨hn, rx⟩ := jy v H3 y
    have e3 : Ext Ai H' Ai H3 := by
      rcases hn with rfl | ⟨p, o, hp, rfl⟩
      · exact Ext.refl
      · exact Ext.upd hp
    have I3 : Sim (C.pr fun a => P a ∨ a = D ∨ a ∈ gacc) ρ Si Ai G σ H3 := by
      rcases hn with rfl | ⟨p, o, hp, rfl⟩
      · exact Is
      · exact Is.new hp
    refine hgo _ _ _ _ _ _ _ _ _ _ _ (I3.wipe vs) rx htf fun σ2 I4 so => ⟨?_, ?_⟩
    · rw [so.wipe his, wipe_wipe]
    refine ⟨_, ρ', Si, Ai, G, fun a z => .inl (hP a z), I4, ?_⟩
    cases htt : ft ρ' Si with
    | none => rw [htt] at hc; cases hc
    | some rt =>
    cases rt with
    | exc c fs S' => rw [htt] at hc; cases hc
    | ok b S3 =>
    rw [htt] at hc
    rintro b' H4 ⟨rfl, A4, e4, I5⟩
    have e34 : Ext Ai H' A4 H4 := e3.trans e4
    have hD4 : H4 D = some (.lst accV) := e34.keep D _ hDa fun z => (Is.prot D (.inr (.inl rfl))).1 (List.mem_append_left _ z)
    cases b' with
    | false =>
      simp only [Bool.false_eq_true, if_false] at hc ⊢
      refine ⟨S3, A4, acc, accV, gacc, hlt, hc, ex.trans e34, Sim.back Is I5 e34 fun a z => .inl z, hD4, hl, ?_, nd, hg⟩
      refine RsL.mono (prefix_get e34.pre) (fun a z => ?_) (fun a o q n => e34.keep a o q fun z => n (.inl (.inl z))) _ _ _ (fun a m o q => e34.keep a o q fun z => (Is.prot a (.inr (.inr m))).1 (List.mem_append_left _ z)) rl
      rcases z with (z | z | z) | z
      · exact (e34.new a z).imp (fun z => .inl (.inl z)) id
      · exact .inl (.inl (.inr (.inl z)))
      · exact .inl (.inl (.inr (.inr z)))
      · exact .inl (.inr z)
    | true =>
      simp only [if_true] at hc ⊢
      refine ⟨_, ρ', S3, A4, G, fun a z => .inl (hP a z), I5, ?_⟩
      cases hte : fe ρ' S3 with
      | none => rw [hte] at hc; cases hc
      | some re =>
      cases re with
      | exc c fs S' => rw [hte] at hc; cases hc
      | ok z S4 =>
      rw [hte] at hc
      simp only at hc
      rintro w H5 ⟨A5, g5, e5, I6, k5⟩
      have e35 : Ext Ai H' A5 H5 := e34.trans e5
      have hD5 : H5 D = some (.lst accV) := e35.keep D _ hDa fun z => (Is.prot D (.inr (.inl rfl))).1 (List.mem_append_left _ z)
      split at hc
      · rename_i hsz
        have hlen := rl.length
        refine ⟨accV, hD5, by rw [hlen]; exact hsz, S4, A5, acc ++ [z], accV ++ [w], gacc ++ g5, hlt, hc, ?_, ?_, upd_same, by rw [List.length_append, hlen]; exact hsz, ?_, ?_, ?_⟩
        · have e15 := ex.trans e35
          refine ⟨e15.pre, e15.new, fun a o e n => ?_, fun a h => ?_⟩
          · rw [upd_ne (show a ≠ D from fun z => by rw [z, hD] at e; cases e)]
            exact e15.keep a o e n
          · by_cases ea : a = D
            · rw [ea, upd_same]; simp
            · rw [upd_ne ea]; exact e15.there a h
        · have I6' : Sim (C.pr fun a => (P a ∨ a = D ∨ a ∈ gacc) ∨ a ∈ g5) ρ' S4 A5 G σ2 H5 := I6
          have I7 := Sim.back Is I6' e35 (fun a z => z.imp id fun m => none_back e34 (k5.2.2 a m).1)
          have I8 : Sim (C.pr fun a => P a ∨ a = D ∨ a ∈ gacc ++ g5) ρ S4 A5 G σ H5 := Sim.prc (C := C.pr fun a => (P a ∨ a = D ∨ a ∈ gacc) ∨ a ∈ g5) I7 fun a z => by
            rcases z with z | z | z
            · exact .inl (.inl z)
            · exact .inl (.inr (.inl z))
            · exact (List.mem_append.mp z).elim (fun z => .inl (.inr (.inr z))) .inr
          exact I8.updP (.inr (.inl rfl)) hE0
        · refine RsL.app ?_ (g' := g5) ?_
          · refine RsL.mono (prefix_get e35.pre) (fun a z => ?_) (fun a o q n => ?_) _ _ _ (fun a m o q => ?_) rl
            · rcases z with (z | z | z) | z | z
              · exact (e35.new a z).imp (fun z => .inl (.inl z)) id
              · exact .inl (.inl (.inr (.inl z)))
              · exact .inl (.inl (.inr (.inr z)))
              · exact .inl (.inr (.inl z))
              · rcases List.mem_append.mp z with z | z
                · exact .inl (.inr (.inr z))
                · exact .inr (none_back e34 (k5.2.2 a z).1)
            · rw [upd_ne (show a ≠ D from fun z => n (.inr (.inl z)))]
              exact e35.keep a o q fun z => n (.inl (.inl z))
            · rw [upd_ne (hg a m).2]
              exact e35.keep a o q fun z => (Is.prot a (.inr (.inr m))).1 (List.mem_append_left _ z)
          · have r5 := k5.1
            have : RsL C.K C.mg (upd H5 D (.lst (accV ++ [w]))) A5 (fun a => Fs (C.pr P) A5 G a ∨ a = D ∨ a ∈ gacc ++ g5) [z] [w] (g5 ++ []) := by
              refine .cons (Rs.mono (fun _ _ q => q) (fun a z => ?_) (fun a o q n => ?_) _ _ _ (fun a m o q => ?_) r5) .nil
              · rcases z with (z | z | z) | z | z
                · exact .inl (.inl (.inl z))
                · exact .inl (.inl (.inr (.inl z)))
                · exact .inl (.inl (.inr (.inr (.inl z))))
                · exact .inl (.inl (.inr (.inr (.inr (.inl z)))))
                · rcases List.mem_append.mp z with z | z
                  · exact .inl (.inl (.inr (.inr (.inr (.inr z)))))
                  · exact .inl (.inr z)
              · rw [upd_ne (show a ≠ D from fun z => n (.inl (.inr (.inr (.inr (.inl z))))))]
                exact q
              · rw [upd_ne (show a ≠ D from fun z => by
                  have := (k5.2.2 a m).1
                  rw [z, hD4] at this
                  cases this)]
                exact q
            rw [List.append_nil] at this
            exact this
        · refine List.nodup_append.mpr ⟨nd, k5.2.1, fun a h b h' e => ?_⟩
          subst e
          have h1 := (k5.2.2 a h').1
          exact e34.there a (Is.prot a (.inr (.inr h))).2 h1
        · intro a m
          rcases List.mem_append.mp m with m | m
          · exact hg a m
          · have h1 := (k5.2.2 a m).1
            refine ⟨none_back ex (none_back e34 h1), fun z => ?_⟩
            rw [z, hD4] at h1
            cases h1
      · cases hc
  · -- the end
    have hie : i = xs.length := by omega
    rw [List.drop_eq_nil_of_le (by omega)] at hc
    cases hc
    refine .inl ⟨wk.stop Ai G H' ex.s hkeep i (by omega), hW _ _ (EPost.be ⟨Ai, D :: gacc, e1.trans ex, ?_, .own hDa hl ?_, ?_, ?_⟩)⟩
    · exact Sim.prc (C := C.pr fun a => P a ∨ a = D ∨ a ∈ gacc) Is fun a z => z.imp id fun m => by simpa using m
    · exact RsL.mono (fun _ _ q => q) (fun a z => .inl (z.imp id fun m => by simpa using m)) (fun a o q n => q) _ _ _ (fun a m o q => q) rl
    · exact List.nodup_cons.mpr ⟨fun m => (hg D m).2 rfl, nd⟩
    · intro a m
      have m' : a = D ∨ a ∈ gacc := by simpa using m
      refine ⟨?_, (Is.prot a (.inr m')).2, fun z => (Is.prot a (.inr m')).1 (List.mem_append_left _ z)⟩
      rcases m' with m' | m'
      · rw [m']; exact none_back e1 hD
      · exact none_back e1 (hg a m').1
theorem v_lc (hc : X.calm = true) (hN : X.N.Nodup) (hi : PI X tg iter (tI C W false fi)) (ok : BlkOk X.N X.env.scope scope own) (hg : ∀ (s : Shared) (H : Hp) (Ca : Addr) (cl : List (Str × Addr)) (fp : List Addr), PG (X.blk s H scope (compEnvC scope cl Ca X.env) fp) tg g) (hgo : GOk C tf is g)
    (his : ∀ j ∈ is, j ∈ own.map (·.2)) (ht : ∀ (s : Shared) (H : Hp) (Ca : Addr) (cl : List (Str × Addr)) (fp : List Addr), PTs (X.blk s H scope (compEnvC scope cl Ca X.env) fp) ifs (tTs C WF ft))
    (he : ∀ (s : Shared) (H : Hp) (Ca : Addr) (cl : List (Str × Addr)) (fp : List Addr), PE (X.blk s H scope (compEnvC scope cl Ca X.env) fp) elt (tV C WF .fe fe)) (hs : ∀ x, foldedSetIterable iter X.env x = pure x := by intro _; rfl) :
    PE X (.ListComp elt [⟨tg, iter, ifs, 0⟩] scope pos) (tV C W kd (eLc fi tf ft fe (own.map (·.2)))) := pe_imp (pe_lc hc hN hi ok hg ht he hs) (t_lc hgo his)
/-- no test -/
def bYes : Rho → Mo Bool := fun _ S => some (.ok true S)
theorem ts_nil {X : Cx} : PTs X [] (tTs C WF bYes) := ⟨fun pins s σ H Q I h => pts_nil.run pins s σ H Q I (by
  obtain ⟨P, ρ, S, A, G, hP, I', q⟩ := h
  exact q true H ⟨rfl, A, Ext.refl, I'⟩)⟩
theorem ts_one {X : Cx} {c : Expr} (h : PT X c (tTs C WF ft)) : PTs X [c] (tTs C WF ft) := pts_one h
end
end VL

end
section
set_option Elab.async false
set_option linter.all false
set_option maxRecDepth 100000
/-! VL8: statements; a def by its body; calls. -/
namespace VL
open PySem PySem.Spec PyProof.Rows L2

def bindS {α : Type} (ρ : Rho) (m : Option (Res α)) (k : α → Sto → Option Fl) : Option Fl :=
  match m with
  | none => none
  | some (.ok a S) => k a S
  | some (.exc c fs S) => some (.exc c fs ρ S)
@[simp] theorem bindS_ok {α : Type} (ρ : Rho) (a : α) (S : Sto) (k : α → Sto → Option Fl) : bindS ρ (some (.ok a S)) k = k a S := rfl
@[simp] theorem bindS_none {α : Type} (ρ : Rho) (k : α → Sto → Option Fl) : bindS ρ none k = none := rfl
@[simp] theorem bindS_exc {α : Type} (ρ : Rho) (c : Str) (fs : List (Str × SV)) (S : Sto) (k : α → Sto → Option Fl) : bindS ρ (some (.exc c fs S)) k = some (.exc c fs ρ S) := rfl
def sNil : Rho → Sto → Option Fl := fun ρ S => some (.nx ρ S)
def sSeq (f g : Rho → Sto → Option Fl) : Rho → Sto → Option Fl := fun ρ S => match f ρ S with
  | some (.nx ρ' S') => g ρ' S'
  | r => r
def sSet (i : Nat) (f : Rho → Mo SV) : Rho → Sto → Option Fl := fun ρ S => bindS ρ (f ρ S) fun x S1 => some (.nx (ρ.set i (some x)) S1)
def sAsg (t : TgF) (f : Rho → Mo SV) : Rho → Sto → Option Fl := fun ρ S => bindS ρ (f ρ S) fun x S1 => (frz x).bind fun y => (t y ρ).map fun ρ' => .nx ρ' S1
def sPar (i j : Nat) (fs : Rho → Mo (List SV)) : Rho → Sto → Option Fl := fun ρ S => bindS ρ (fs ρ S) fun xs S1 => match xs with
  | [x, y] => some (.nx ((ρ.set i (some x)).set j (some y)) S1)
  | _ => none
def sRet (f : Rho → Mo SV) : Rho → Sto → Option Fl := fun ρ S => bindS ρ (f ρ S) fun x S1 => some (.rt x S1)
/-- a local is handed back, a list of one's own too -/
def sRetV (i : Nat) : Rho → Sto → Option Fl := fun ρ S => match ρ[i]? with
  | some (some x) => some (.rt x S)
  | _ => none
def sRetN : Rho → Sto → Option Fl := fun _ S => some (.rt (.d .none) S)
def sIf (c : Rho → Mo Bool) (f g : Rho → Sto → Option Fl) : Rho → Sto → Option Fl := fun ρ S => bindS ρ (c ρ S) fun b S1 => if b then f ρ S1 else g ρ S1
def sDrop (f : Rho → Mo SV) : Rho → Sto → Option Fl := fun ρ S => bindS ρ (f ρ S) fun _ S1 => some (.nx ρ S1)
def sBrk : Rho → Sto → Option Fl := fun ρ S => some (.bk ρ S)
def sCnt : Rho → Sto → Option Fl := fun ρ S => some (.ct ρ S)
def forL (t : TgF) (body : Rho → Sto → Option Fl) : List SV → Rho → Sto → Option Fl
  | [], ρ, S => some (.nx ρ S)
  | x :: xs, ρ, S => match t x ρ with
    | none => none
    | some ρ' => match body ρ' S with
      | some (.nx ρ2 S2) => forL t body xs ρ2 S2
      | some (.ct ρ2 S2) => forL t body xs ρ2 S2
      | some (.bk ρ2 S2) => some (.nx ρ2 S2)
      | r => r
def sFor (it : Rho → Mo (List SV)) (t : TgF) (body : Rho → Sto → Option Fl) : Rho → Sto → Option Fl := fun ρ S => bindS ρ (it ρ S) fun xs S1 => forL t body xs ρ S1
def whileF (c : Rho → Mo Bool) (b : Rho → Sto → Option Fl) : Nat → Rho → Sto → Option Fl
  | 0, _, _ => none
  | n + 1, ρ, S => bindS ρ (c ρ S) fun k S1 => if k then (match b ρ S1 with
      | some (.nx ρ2 S2) => whileF c b n ρ2 S2
      | some (.ct ρ2 S2) => whileF c b n ρ2 S2
      | some (.bk ρ2 S2) => some (.nx ρ2 S2)
      | r => r) else some (.nx ρ S1)
open Classical in
noncomputable def sWhile (c : Rho → Mo Bool) (b : Rho → Sto → Option Fl) : Rho → Sto → Option Fl := fun ρ S =>
  if h : ∃ n r, whileF c b n ρ S = some r then some h.choose_spec.choose else none
theorem whileF_mono {c : Rho → Mo Bool} {b : Rho → Sto → Option Fl} : ∀ {n : Nat} {ρ : Rho} {S : Sto} {r : Fl}, whileF c b n ρ S = some r → whileF c b (n + 1) ρ S = some r
  | 0, _, _, _, h => by cases h
  | n + 1, ρ, S, r, h => by
    unfold whileF at h ⊢
    cases e : c ρ S with
    | none => rw [e] at h; cases h
    | some x =>
      rw [e] at h
      cases x with
      | exc => exact h
      | ok k S1 =>
        simp only [bindS_ok] at h ⊢
        cases k with
        | false => exact h
        | true =>
          simp only [if_true] at h ⊢
          cases eb : b ρ S1 with
          | none => rw [eb] at h; cases h
          | some y =>
            rw [eb] at h
            cases y with
            | nx ρ2 S2 => exact whileF_mono h
            | ct ρ2 S2 => exact whileF_mono h
            | bk ρ2 S2 => exact h
            | rt v S2 => exact h
            | exc c f S2 => exact h
theorem whileF_add {c : Rho → Mo Bool} {b : Rho → Sto → Option Fl} {n : Nat} {ρ : Rho} {S : Sto} {r : Fl} (h : whileF c b n ρ S = some r) (m : Nat) : whileF c b (n + m) ρ S = some r := by
  induction m with
  | zero => exact h
  | succ m ih => exact whileF_mono ih
theorem sWhile_of {c : Rho → Mo Bool} {b : Rho → Sto → Option Fl} {n : Nat} {ρ : Rho} {S : Sto} {r : Fl} (h : whileF c b n ρ S = some r) : sWhile c b ρ S = some r := by
  unfold sWhile
  have hx : ∃ n r, whileF c b n ρ S = some r := ⟨n, r, h⟩
  rw [dif_pos hx]
  have h2 := hx.choose_spec.choose_spec
  have e1 := whileF_add h hx.choose
  have e2 := whileF_add h2 n
  rw [Nat.add_comm] at e2
  rw [e1] at e2
  exact e2.symm
theorem sWhile_some {c : Rho → Mo Bool} {b : Rho → Sto → Option Fl} {ρ : Rho} {S : Sto} {r : Fl} (h : sWhile c b ρ S = some r) : ∃ n, whileF c b n ρ S = some r := by
  unfold sWhile at h
  split at h
  · rename_i hx
    cases h
    exact ⟨_, hx.choose_spec.choose_spec⟩
  · cases h

/-! ### their readings -/
section
variable {C : Ct} {W : WX} {ρ ρ' : Rho} {S S' : Sto} {A A' : List Addr} {G G' : List (List Addr)} {σ σ' : L2.St} {H H' : Hp} {D : Ends}
theorem Ct.pr_self : C.pr C.Pr = C := rfl
theorem SGood.step {α V1 : Type} {post1 : α → Sto → V1 → Hp → Prop} {m : Option (Res α)} {k : α → Sto → Option Fl} {Q1 : V1 → Hp → Prop} (q : SGood C W A G H D (bindS ρ m k))
    (h : ∀ x S', SGood C W A G H D (k x S') → ∀ v H', post1 x S' v H' → Q1 v H') : EGood post1 (XPost C ρ A G σ H) W σ Q1 m := by
  cases m with
  | none => exact q
  | some r =>
    cases r with
    | ok x S' => exact h x S' q
    | exc c fs S' => exact fun cls d H' ⟨A', e, I, r⟩ => q A' G σ H' cls d e.s I r
theorem SGood.nx (q : SGood C W A G H D (some (.nx ρ' S'))) (e : ExtS A G H A' G' H') (I : Sim C ρ' S' A' G' σ' H') : D.nx σ' H' := q A' G' σ' H' e I
/-- at a return -/
theorem RSto.of {g : List Addr} (I : Sim (C.pr fun a => C.Pr a ∨ a ∈ g) ρ S' A' G σ H') (nd : g.Nodup) (h0 : ∀ a ∈ g, C.E0 a = none) : RSto C A' g S' H' := by
  refine ⟨I.pre, I.ls, List.nodup_append.mpr ⟨(List.nodup_append.mp I.nd).1, nd, fun a h b h' e => ?_⟩, fun a m => ?_, h0, fun n xs e => ?_, I.frame, fun a h => ?_⟩
  · subst e
    exact (I.prot a (.inr h')).1 (List.mem_append_left _ h)
  · rcases List.mem_append.mp m with m | m
    · exact ⟨I.trk a (List.mem_append_left _ m), I.fresh a (List.mem_append_left _ m)⟩
    · exact ⟨(I.prot a (.inr m)).2, .inr (h0 a m)⟩
  · obtain ⟨a, vs, e1, e2, l, r⟩ := I.sto n xs e
    exact ⟨a, vs, e1, e2, l, RsL.mono (fun _ _ q => q) (fun a z => .inl (z.elim .inl fun z => z.elim (fun z => .inr (.inr (.inr z))) fun z => .inr (.inr (.inl z)))) (fun a o q n => q) _ _ _ (fun a m o q => q) r⟩
  · cases q : C.E0 a with
    | none => exact absurd q h
    | some o =>
      by_cases z : a ∈ C.A0
      · exact I.trk a (List.mem_append_left _ (I.pre.subset z))
      · rw [I.frame a o q z]; simp
end
section
variable {X : Cx} {C : Ct} {W : WX} {kd ka kb : Kd} {tg e iter : Expr} {es : List Expr} {st : Stmt} {rest body : List Stmt} {pos : Pos} {f fa fb : Rho → Mo SV} {fs : Rho → Mo (List SV)} {fi : Rho → Mo (List SV)} {fc : Rho → Mo Bool} {s s1 s2 : Rho → Sto → Option Fl} {tf : TgF} {is : List Nat} {g : TG}
theorem ss_nil : PSs X [] (tS C W sNil) := pss_imp pss_nil fun D σ H ⟨ρ, S, A, G, I, q⟩ => q A G σ H ExtS.refl I
theorem ss_cons (h1 : PS X st (tS C W s1)) (h2 : PSs X rest (tS C W s2)) : PSs X (st :: rest) (tS C W (sSeq s1 s2)) := by
  refine pss_imp (pss_cons h1 h2) fun D σ H ⟨ρ, S, A, G, I, q⟩ => ⟨ρ, S, A, G, I, ?_⟩
  unfold sSeq at q
  cases e : s1 ρ S with
  | none => rw [e] at q; exact q
  | some r =>
    rw [e] at q
    cases r with
    | nx ρ' S' => exact fun A' G' σ' H' x J => ⟨ρ', S', A', G', J, q.ext x⟩
    | rt x S' => exact q
    | bk ρ' S' => exact q
    | ct ρ' S' => exact q
    | exc c fs ρ' S' => exact q
theorem ss_one (h1 : PS X st (tS C W s1)) : PSs X [st] (tS C W s1) := pss_one h1
theorem s_pass : PS X (.Pass pos) (tS C W sNil) := ps_imp ps_pass fun D σ H ⟨ρ, S, A, G, I, q⟩ => q A G σ H ExtS.refl I
theorem s_doc {x j pos pos'} : PS X (.Expr (.Constant (.str x) j pos) pos') (tS C W sNil) := ps_imp ps_doc fun D σ H ⟨ρ, S, A, G, I, q⟩ => q A G σ H ExtS.refl I
theorem s_brk : PS X (.Break pos) (tS C W sBrk) := ps_imp ps_break fun D σ H ⟨ρ, S, A, G, I, q⟩ => q A G σ H ExtS.refl I
theorem s_cnt : PS X (.Continue pos) (tS C W sCnt) := ps_imp ps_continue fun D σ H ⟨ρ, S, A, G, I, q⟩ => q A G σ H ExtS.refl I
theorem put_ext {A A' : List Addr} {G : List (List Addr)} {H H' : Hp} {g : List Addr} {i : Nat} (e : Ext A H A' H') (h : ∀ a ∈ g, H a = none) : ExtS A G H A' (G.set i g) H' := by
  refine ⟨e.pre, fun a m => ?_, e.s (G := G).keep, e.there⟩
  rcases List.mem_append.mp m with m | m
  · exact (e.new a m).imp (List.mem_append_left _) id
  · rcases flatten_set_sub m with m | m
    · exact .inl (List.mem_append_right _ m)
    · exact .inr (h a m)
theorem s_set {i : Nat} {x : Str} {pos' : Pos} (hN : X.N.Nodup) (hi : X.N[i]? = some x) (hx : Loc X.env.scope x) (he : PE X e (tV C W .fe f)) (hs : swapsWith e (some (.Name x pos')) pos.line X.env = pure false := by rfl) (hf : X.fn x = true ∨ X.env.scope.names.lookup x = some .local := by first | exact .inl rfl | exact .inr rfl | assumption) :
    PS X (.Assign [.Name x pos'] e pos) (tS C W (sSet i f)) := by
  refine ps_imp (ps_set hN hi hx he hs hf) fun D σ H ⟨ρ, S, A, G, I, q⟩ => ⟨C.Pr, ρ, S, A, G, fun _ h => h, I, SGood.step q fun x S' q v H' p => ?_⟩
  obtain ⟨A', g, e, J, r⟩ := p
  exact q _ _ _ _ (put_ext e fun a m => (r.2.2 a m).1) (Sim.put J r.1 r.2.1 (fun a m => I.e0 a (r.2.2 a m).1) fun a m z => (I.prot a z).2 (r.2.2 a m).1)
theorem t_setlc {i : Nat} {t : TE} (h : ∀ σ H Q, tV C W .fe f σ H Q → t σ H Q) : ∀ D σ H, tS C W (sSet i f) D σ H → tAsg t (gName i) D σ H := by
  intro D σ H ⟨ρ, S, A, G, I, q⟩
  refine h σ H _ ⟨C.Pr, ρ, S, A, G, fun _ h => h, I, SGood.step q fun x S' q v H' p => ?_⟩
  obtain ⟨A', g, e, J, r⟩ := p
  exact q _ _ _ _ (put_ext e fun a m => (r.2.2 a m).1) (Sim.put J r.1 r.2.1 (fun a m => I.e0 a (r.2.2 a m).1) fun a m z => (I.prot a z).2 (r.2.2 a m).1)
theorem s_asg (he : PE X e (tV C W .fe f)) (hg : PG X tg g) (hgo : GOk C tf is g) (hs : swapsWithSole [tg] e pos.line X.env = pure false := by rfl) (hw : swappedStores [tg] e X.env = pure none := by rfl)
    (h1 : (assignEach [tg] X.env).map (·.2) = [assign tg X.env] := by rfl) : PS X (.Assign [tg] e pos) (tS C W (sAsg tf f)) := by
  refine ps_imp (ps_asg he hg hs hw h1) fun D σ H ⟨ρ, S, A, G, I, q⟩ => ⟨C.Pr, ρ, S, A, G, fun _ h => h, I, SGood.step q fun x S' q v H' p => ?_⟩
  obtain ⟨A', g', e, J, r⟩ := p
  cases ef : frz x with
  | none => rw [ef] at q; exact q.elim
  | some y =>
    rw [ef] at q
    simp only [Option.bind_some] at q
    cases et : tf y ρ with
    | none => rw [et] at q; exact q.elim
    | some ρ' =>
      rw [et] at q
      have J0 : Sim (C.pr C.Pr) ρ S' A' G σ H' := Sim.prc (C := C.pr fun a => C.Pr a ∨ a ∈ g') J fun a z => .inl z
      exact hgo C.Pr ρ ρ' S' A' G σ H' y v _ J0 (Rk.frz (C := C) r (new_not1 (P := C.Pr) (S1 := S') I r) ef) et fun σ' J' _ => q A' G σ' H' e.s J'
theorem s_par {i j : Nat} {x y : Str} {a b : Expr} {px py pt : Pos} {kt k2 pt2} (hc : X.calm = true) (hN : X.N.Nodup) (hi : X.N[i]? = some x) (hj : X.N[j]? = some y) (hij : i ≠ j)
    (hx : X.env.scope.names.lookup x = some .local) (hy : X.env.scope.names.lookup y = some .local) (ha : PA X [a, b] (tVs C W .fe fs))
    (hw : swappedStores [.Tuple [.Name x px, .Name y py] kt pt] (.Tuple [a, b] k2 pt2) X.env = pure (some [x, y]))
    (hs : swapsWithSole [.Tuple [.Name x px, .Name y py] kt pt] (.Tuple [a, b] k2 pt2) pos.line X.env = pure false := by rfl) : PS X (.Assign [.Tuple [.Name x px, .Name y py] kt pt] (.Tuple [a, b] k2 pt2) pos) (tS C W (sPar i j fs)) := by
  refine ps_imp (ps_par hc hN hi hj hij hx hy ha hw hs) fun D σ H ⟨ρ, S, A, G, I, q⟩ => ⟨C.Pr, ρ, S, A, G, fun _ h => h, I, SGood.step q fun xs S' q vs H' p => ?_⟩
  obtain ⟨A', g', e, J, r⟩ := p
  split at q
  · rename_i x y
    obtain ⟨r0, nd, hg⟩ := r
    cases r0 with
    | cons r1 r2 =>
      rename_i v us g1 g2
      cases r2 with
      | cons r2 r3 =>
        rename_i w ws g3 g4
        cases r3
        rw [List.append_nil] at *
        have n := List.nodup_append.mp nd
        refine ⟨v, w, rfl, ?_⟩
        have e0 : ∀ a ∈ g1 ++ g3, C.E0 a = none := fun a m => I.e0 a (hg a m).1
        have np : ∀ a ∈ g1 ++ g3, ¬ C.Pr a := fun a m z => (I.prot a z).2 (hg a m).1
        -- the first
        have K1 : Sim ((C.pr fun a => C.Pr a ∨ a ∈ g3).pr fun a => (C.pr fun a => C.Pr a ∨ a ∈ g3).Pr a ∨ a ∈ g1) ρ S' A' G σ H' := Sim.prc (C := C.pr fun a => C.Pr a ∨ a ∈ g1 ++ g3) J fun a z => by
          rcases z with (z | z) | z
          · exact .inl z
          · exact .inr (List.mem_append_right _ z)
          · exact .inr (List.mem_append_left _ z)
        have J1 := Sim.put (i := i) K1 (x := x) (v := v) (Rs.mono (fun _ _ q => q) (fun a z => .inl (by
          rcases z with (z | z | z | z) | z
          · exact .inl (.inl z)
          · exact .inl (.inr (.inl z))
          · exact .inl (.inr (.inr z))
          · exact .inr (List.mem_append_right _ z)
          · exact .inr (List.mem_append_left _ z))) (fun a o q n => q) _ _ _ (fun a m o q => q) r1) n.1 (fun a m => e0 a (List.mem_append_left _ m)) (fun a m z => z.elim (np a (List.mem_append_left _ m)) fun z => n.2.2 a m a z rfl)
        -- the second
        have J2 := Sim.put (C := C) (i := j) (x := y) (v := w) (g := g3) J1 (Rs.mono (fun _ _ q => q) (fun a z => .inl (by
          rcases z with (z | z | z) | z
          · exact .inl (.inl z)
          · rcases flatten_set_sub z with z | z
            · exact .inl (.inr (.inl z))
            · exact .inr (List.mem_append_left _ z)
          · exact .inl (.inr (.inr z))
          · exact .inr (List.mem_append_right _ z))) (fun a o q n => q) _ _ _ (fun a m o q => q) r2) n.2.1 (fun a m => e0 a (List.mem_append_right _ m)) (fun a m => np a (List.mem_append_right _ m))
        refine q _ _ _ _ ⟨e.pre, fun a m => ?_, e.s (G := G).keep, e.there⟩ J2
        rcases List.mem_append.mp m with m | m
        · exact (e.new a m).imp (List.mem_append_left _) id
        · rcases flatten_set_sub m with m | m
          · rcases flatten_set_sub m with m | m
            · exact .inl (List.mem_append_right _ m)
            · exact .inr (hg a (List.mem_append_left _ m)).1
          · exact .inr (hg a (List.mem_append_right _ m)).1
  · exact q.elim
theorem s_ret (he : PE X e (tV C W .fe f)) : PS X (.Return (some e) pos) (tS C W (sRet f)) := by
  refine ps_imp (ps_ret he) fun D σ H ⟨ρ, S, A, G, I, q⟩ => ⟨C.Pr, ρ, S, A, G, fun _ h => h, I, SGood.step q fun x S' q v H' p => ?_⟩
  obtain ⟨A', g, e, J, r⟩ := p
  refine q v H' ⟨A', g, RSto.of J r.2.1 (fun a m => I.e0 a (r.2.2 a m).1), Rs.mono (fun _ _ q => q) (fun a z => .inl ?_) (fun a o q n => q) _ _ _ (fun a m o q => q) r.1⟩
  rcases z with z | z | z
  · exact .inl (.inl z)
  · exact .inr z
  · exact .inl (.inr (.inr z))
theorem s_retV {i : Nat} (he : PE X e (tVar i)) : PS X (.Return (some e) pos) (tS C W (sRetV i)) := by
  refine ps_imp (ps_ret he) fun D σ H ⟨ρ, S, A, G, I, q⟩ => ?_
  unfold sRetV at q
  split at q
  · rename_i x hx
    obtain ⟨v, g, e1, r, sb⟩ := I.slots i x hx
    have hm : ∀ a ∈ g, a ∈ G.flatten := fun a m => getD_mem (sb.subset m)
    have hnd : (A ++ g).Nodup := by
      have n := List.nodup_append.mp I.nd
      refine List.nodup_append.mpr ⟨n.1, ?_, fun a h b h' e => n.2.2 a h b (hm b h') e⟩
      cases hG : G[i]? with
      | none => rw [hG] at sb; rw [List.sublist_nil.mp sb]; exact List.nodup_nil
      | some l =>
        rw [hG] at sb
        exact ((List.pairwise_flatten.mp n.2.1).1 l (List.mem_of_getElem? hG)).sublist sb
    have hE : ∀ a ∈ g, C.E0 a = none := fun a m => by
      rcases I.fresh a (List.mem_append_right _ (hm a m)) with z | z
      · exact absurd rfl ((List.nodup_append.mp hnd).2.2 a (I.pre.subset z) a m)
      · exact z
    refine ⟨v, e1, q v H ⟨A, g, ⟨I.pre, I.ls, hnd, fun a m => ?_, hE, fun n xs e => ?_, I.frame, fun a h => ?_⟩, Rs.mono (fun _ _ q => q) (fun a z => .inl ?_) (fun a o q n => q) _ _ _ (fun a m o q => q) r⟩⟩
    · rcases List.mem_append.mp m with m | m
      · exact ⟨I.trk a (List.mem_append_left _ m), I.fresh a (List.mem_append_left _ m)⟩
      · exact ⟨I.trk a (List.mem_append_right _ (hm a m)), .inr (hE a m)⟩
    · obtain ⟨a, vs, e1, e2, l, r⟩ := I.sto n xs e
      exact ⟨a, vs, e1, e2, l, RsL.mono (fun _ _ q => q) (fun a z => .inl (z.elim .inl fun z => z.elim (fun z => .inr (.inl (hm a z))) fun z => .inr (.inr z))) (fun a o q n => q) _ _ _ (fun a m o q => q) r⟩
    · cases q : C.E0 a with
      | none => exact absurd q h
      | some o =>
        by_cases z : a ∈ C.A0
        · exact I.trk a (List.mem_append_left _ (I.pre.subset z))
        · rw [I.frame a o q z]; simp
    · exact z.elim .inl fun z => z.elim (fun z => .inr (.inl (hm a z))) fun z => .inr (.inr z)
  · exact q.elim
theorem s_retN : PS X (.Return none pos) (tS C W sRetN) := by
  refine ps_imp ps_retN fun D σ H ⟨ρ, S, A, G, I, q⟩ => ?_
  have J : Sim (C.pr fun a => C.Pr a ∨ a ∈ ([] : List Addr)) ρ S A G σ H := I.prc fun a h => h.elim id fun m => by cases m
  exact q _ H ⟨A, [], RSto.of J List.nodup_nil (fun a m => by cases m), .d .non⟩
theorem s_if {a b : List Stmt} (hc : PT X e (tTs C W fc)) (ha : PSs X a (tS C W s1)) (hb : PSs X b (tS C W s2)) : PS X (.If e a b pos) (tS C W (sIf fc s1 s2)) := by
  refine ps_imp (ps_if hc ha hb) fun D σ H ⟨ρ, S, A, G, I, q⟩ => ⟨C.Pr, ρ, S, A, G, fun _ h => h, I, SGood.step q fun k S' q v H' p => ?_⟩
  obtain ⟨rfl, A', e, J⟩ := p
  cases v with
  | true => exact ⟨ρ, S', A', G, J, q.ext e.s⟩
  | false => exact ⟨ρ, S', A', G, J, q.ext e.s⟩
theorem s_drop (he : PE X e (tV C W kd f)) (hs : swapsWith e none pos.line X.env = pure false := by rfl) : PS X (.Expr e pos) (tS C W (sDrop f)) := by
  refine ps_imp (ps_expr he hs) fun D σ H ⟨ρ, S, A, G, I, q⟩ => ⟨C.Pr, ρ, S, A, G, fun _ h => h, I, SGood.step q fun x S' q v H' p => ?_⟩
  obtain ⟨A', g, e, J, r⟩ := p
  exact q _ _ _ _ e.s J.pgw
theorem s_for (hp : PassesOwn (model X.prog X.w) X.A X.env X.xe) (hc : X.calm = true) (hi : PI X tg iter (tI C W true fi)) (hg : PG X tg g) (hgo : GOk C tf is g) (hb : PSs X body (tS C W s))
    (hs : ∀ x, foldedSetIterable iter X.env x = pure x := by intro _; rfl) : PS X (.For tg iter body [] pos) (tS C W (sFor fi tf s)) := by
  refine ps_imp (ps_for hp hc hi hg hb hs) fun D σ H ⟨ρ, S, A, G, I, q⟩ => ⟨C.Pr, ρ, S, A, G, fun _ h => h, I, SGood.step q fun xs S1 q J H1 p => ?_⟩
  obtain ⟨A1, e1, I1, wk⟩ := p
  have q := q.ext e1.s
  refine ⟨fun i m σ H' => m = xs.length - i ∧ i ≤ xs.length ∧ ∃ ρi Si Ai Gi, ExtS A1 G H1 Ai Gi H' ∧ Sim C ρi Si Ai Gi σ H' ∧ SGood C W A1 G H1 D (forL tf s (xs.drop i) ρi Si), ⟨xs.length - 0, rfl, Nat.zero_le _, ρ, S1, A1, G, ExtS.refl, I1, by rw [List.drop_zero]; exact q⟩, ?_⟩
  rintro i m σ H' ⟨rfl, hi, ρi, Si, Ai, Gi, ex, Is, qi⟩
  by_cases hlt : i < xs.length
  · have hx : xs[i]? = some xs[i] := List.getElem?_eq_getElem hlt
    obtain ⟨jgo, jy⟩ := wk.go C.Pr Ai Gi H' (fun a h => .inl h) ex (fun z => by cases z) (fun a z => Is.fsTrk z) i _ hx
    refine .inr ⟨jgo, fun σ' H'' => i + 1 ≤ xs.length ∧ ∃ ρi Si Ai Gi, ExtS A1 G H1 Ai Gi H'' ∧ Sim C ρi Si Ai Gi σ' H'' ∧ SGood C W A1 G H1 D (forL tf s (xs.drop (i + 1)) ρi Si), fun σ' H'' h => ⟨xs.length - (i + 1), by omega, rfl, h⟩, fun v H3 y => ?_⟩
    obtain ⟨hn, rx⟩ := jy v H3 y
    have e3 : Ext Ai H' Ai H3 := by
      rcases hn with rfl | ⟨p, o, hp, rfl⟩
      · exact Ext.refl
      · exact Ext.upd hp
    have I3 : Sim C ρi Si Ai Gi σ H3 := by
      rcases hn with rfl | ⟨p, o, hp, rfl⟩
      · exact Is
      · exact Is.new hp
    rw [List.drop_eq_getElem_cons hlt] at qi
    unfold forL at qi
    cases htf : tf xs[i] ρi with
    | none => rw [htf] at qi; exact qi.elim
    | some ρ' =>
    rw [htf] at qi
    simp only at qi
    refine hgo C.Pr ρi ρ' Si Ai Gi σ H3 _ v _ I3 rx htf fun σ2 I4 _ => ⟨ρ', Si, Ai, Gi, I4, ?_⟩
    have ex3 := ex.trans e3.s
    cases hb : s ρ' Si with
    | none => rw [hb] at qi; exact qi.elim
    | some r =>
      rw [hb] at qi
      cases r with
      | nx ρ2 S2 => exact fun A' G' σ' H'' x J' => ⟨hlt, ρ2, S2, A', G', ex3.trans x, J', qi⟩
      | ct ρ2 S2 => exact fun A' G' σ' H'' x J' => ⟨hlt, ρ2, S2, A', G', ex3.trans x, J', qi⟩
      | bk ρ2 S2 => exact fun A' G' σ' H'' x J' => qi A' G' σ' H'' (ex3.trans x) J'
      | rt z S2 => exact qi
      | exc c fs ρ2 S2 => exact fun A' G' σ' H'' cls d x J' r => qi A' G' σ' H'' cls d (ex3.trans x) J' r
  · rw [List.drop_eq_nil_of_le (by omega)] at qi
    exact .inl ⟨wk.stop Ai Gi H' ex (fun z => by cases z) i (by omega), qi Ai Gi σ H' ex Is⟩
theorem s_while (hp : PassesOwn (model X.prog X.w) X.A X.env X.xe) (hc : PT X e (tTs C W fc)) (hb : PSs X body (tS C W s)) : PS X (.While e body [] pos) (tS C W (sWhile fc s)) := by
  refine ps_imp (ps_while hp hc hb) fun D σ H ⟨ρ, S, A, G, I, q⟩ => ?_
  cases hw : sWhile fc s ρ S with
  | none => rw [hw] at q; exact q.elim
  | some r =>
  rw [hw] at q
  obtain ⟨n, hn⟩ := sWhile_some hw
  refine ⟨fun m σ H' => ∃ ρi Si Ai Gi, ExtS A G H Ai Gi H' ∧ Sim C ρi Si Ai Gi σ H' ∧ whileF fc s m ρi Si = some r, ⟨n, ρ, S, A, G, ExtS.refl, I, hn⟩, ?_⟩
  rintro m σ H' ⟨ρi, Si, Ai, Gi, ex, Is, hm⟩
  cases m with
  | zero => cases hm
  | succ m =>
  have qm : SGood C W A G H D (whileF fc s (m + 1) ρi Si) := by rw [hm]; exact q
  have qm := qm.ext ex
  unfold whileF at hm qm
  refine ⟨C.Pr, ρi, Si, Ai, Gi, fun _ h => h, Is, ?_⟩
  cases hcc : fc ρi Si with
  | none => rw [hcc] at hm; cases hm
  | some rc =>
  rw [hcc] at hm qm
  cases rc with
  | exc c fs S' => exact fun cls d H'' ⟨A', e, J, r⟩ => qm A' Gi σ H'' cls d e.s J r
  | ok k S1 =>
  simp only [bindS_ok] at hm qm
  rintro k' H2 ⟨rfl, A2, e2, I2⟩
  cases k' with
  | false => exact qm A2 Gi σ H2 e2.s I2
  | true =>
    simp only [if_true] at hm qm ⊢
    refine ⟨fun σ' H'' => ∃ ρi Si Ai Gi, ExtS A G H Ai Gi H'' ∧ Sim C ρi Si Ai Gi σ' H'' ∧ whileF fc s m ρi Si = some r, fun σ' H'' h => ⟨m, Nat.lt_succ_self m, h⟩, ρi, S1, A2, Gi, I2, ?_⟩
    have ex2 := ex.trans e2.s
    have qm := qm.ext e2.s
    cases hb : s ρi S1 with
    | none => rw [hb] at hm; cases hm
    | some rb =>
      rw [hb] at hm qm
      cases rb with
      | nx ρ2 S2 => exact fun A' G' σ' H'' x J' => ⟨ρ2, S2, A', G', ex2.trans x, J', hm⟩
      | ct ρ2 S2 => exact fun A' G' σ' H'' x J' => ⟨ρ2, S2, A', G', ex2.trans x, J', hm⟩
      | bk ρ2 S2 => exact qm
      | rt z S2 => exact qm
      | exc c fs ρ2 S2 => exact qm
end
end VL

end
section
set_option Elab.async false
set_option linter.all false
set_option maxRecDepth 100000
/-! VL9: what a def promises, by its function; the rule for a def; the rule for a call. -/
namespace VL
open PySem PySem.Spec PyProof.Rows L2

/-! ### the frame of a body -/
def rho0 (n : Nat) (xs : List SV) : Rho := xs.map some ++ List.replicate (n - xs.length) none
def runF (n : Nat) (fb : Rho → Sto → Option Fl) : List SV → Mo SV := fun xs S => match fb (rho0 n xs) S with
  | some (.nx _ S') => some (.ok (.d .none) S')
  | some (.rt x S') => some (.ok x S')
  | some (.exc c fs _ S') => some (.exc c fs S')
  | _ => none
/-- at the entry -/
structure Ent (C : Ct) (S : Sto) (xs : List SV) (vs : List V) : Prop where
  args : RsL C.K C.mg C.E0 C.A0 (fun a => a ∈ C.A0 ∨ C.Pr a) xs vs []
  ls : S.length = C.A0.length
  nd : C.A0.Nodup
  trk : ∀ a ∈ C.A0, C.E0 a ≠ none
  prot : ∀ a, C.Pr a → a ∉ C.A0 ∧ C.E0 a ≠ none
  sto : ∀ (n : Nat) xs, S[n]? = some xs → ∃ a vs, C.A0[n]? = some a ∧ C.E0 a = some (.lst vs) ∧ vs.length ≤ sizeLine ∧ RsL C.K C.mg C.E0 C.A0 (fun a => a ∈ C.A0 ∨ C.Pr a) xs vs []
def XP (C : Ct) (c : Str) (fs : List (Str × SV)) (S' : Sto) (cls : Value) (d : Option Addr) (H' : Hp) : Prop := ∃ A', RSto C A' [] S' H' ∧ XRep C H' c fs cls d
def CGood (C : Ct) (Q : VK) (E : XK) : Option (Res SV) → Prop
  | none => False
  | some (.ok x S') => ∀ v H', RPost C x S' v H' → Q v H'
  | some (.exc c fs S') => ∀ cls d H', XP C c fs S' cls d H' → E cls d H'
def spF (K : PySem.W.Frag) (mg : Str → Option Value) (n : Nat) (F : List SV → Mo SV) : Sp := fun vs H Q E => vs.length = n ∧ ∃ C xs S, C.K = K ∧ C.mg = mg ∧ C.E0 = H ∧ Ent C S xs vs ∧ CGood C Q E (F xs S)
theorem RsL.get2 {K : PySem.W.Frag} {mg : Str → Option Value} {H : Hp} {A : List Addr} {F : Addr → Prop} {xs : List SV} {vs : List V} {i : Nat} {x : SV} (r : RsL K mg H A F xs vs []) (h : xs[i]? = some x) : ∃ v, vs[i]? = some v ∧ Rs K mg H A F x v [] := RsL.get1 r h
theorem replicate_flatten_nil {α : Type} (n : Nat) : (List.replicate n ([] : List α)).flatten = [] := by induction n with
  | zero => rfl
  | succ n ih => simp [List.replicate_succ, ih]
theorem Ent.sim {C : Ct} {S : Sto} {xs : List SV} {vs : List V} {N : List Str} (e : Ent C S xs vs) (hl : xs.length ≤ N.length) : Sim C (rho0 N.length xs) S C.A0 (List.replicate N.length []) (L2.start N vs) C.E0 := by
  have hx : vs.length = xs.length := e.args.length
  have lr : (rho0 N.length xs).length = N.length := by unfold rho0; simp; omega
  have ls : (L2.start N vs).length = N.length := by unfold L2.start; simp; omega
  have hG : (List.replicate N.length ([] : List Addr)).flatten = [] := replicate_flatten_nil _
  have hF : Fs C C.A0 (List.replicate N.length []) = fun a => a ∈ C.A0 ∨ C.Pr a := by
    funext a
    unfold Fs
    rw [hG]
    simp
  refine ⟨List.prefix_refl _, lr.trans ls.symm, by simp [lr], e.ls, ?_, fun a m => ?_, fun a p => ?_, fun i x hi => ?_, fun n ys hn => ?_, fun a o q _ => q, fun a m => ?_, e.trk⟩
  · rw [hG, List.append_nil]; exact e.nd
  · rw [hG, List.append_nil] at m; exact e.trk a m
  · rw [hG, List.append_nil]; exact e.prot a p
  · unfold rho0 at hi
    by_cases h : i < xs.length
    · rw [List.getElem?_append_left (by simpa using h), List.getElem?_map] at hi
      cases q : xs[i]? with
      | none => rw [q] at hi; cases hi
      | some y =>
        rw [q] at hi
        simp only [Option.map_some, Option.some.injEq] at hi
        subst hi
        obtain ⟨v, hv, r⟩ := RsL.get1 e.args q
        refine ⟨v, [], ?_, by rw [hF]; exact r, List.nil_sublist _⟩
        unfold L2.start
        rw [List.getElem?_append_left (by simp; omega), List.getElem?_map, hv]
        rfl
    · rw [List.getElem?_append_right (by simpa using h), List.getElem?_replicate] at hi
      split at hi <;> cases hi
  · obtain ⟨a, us, e1, e2, l, r⟩ := e.sto n ys hn
    exact ⟨a, us, e1, e2, l, by rw [hF]; exact r⟩
  · rw [hG, List.append_nil] at m; exact .inl m
theorem Sim.rsto {C : Ct} {ρ : Rho} {S : Sto} {A : List Addr} {G : List (List Addr)} {σ : L2.St} {H : Hp} (I : Sim C ρ S A G σ H) : RSto C A [] S H := by
  have J : Sim (C.pr fun a => C.Pr a ∨ a ∈ ([] : List Addr)) ρ S A G σ H := I.prc fun a h => h.elim id fun m => by cases m
  exact RSto.of J List.nodup_nil fun a m => by cases m
/-- THE RULE for a def -/
theorem fn_vl {P : Program} {w : World} {K : PySem.W.Frag} {mg : Str → Option Value} {base : Heap} {x qual : Str} {params : Arguments} {body : List Stmt} {scope : Scope} {f : Addr} {fd : FuncData} {N ps : List Str} {k : Nat} {fb : Rho → Sto → Option Fl}
    (F : FunD K x qual params body scope [] [] f fd) (Sc : FnScope N ps scope) (hl : ps.length ≤ N.length)
    (hb : ∀ (cdv : Value) (A : Around) (outer : List Env) (s : Shared) (H : Hp) (E : XK), Room k (A.deeper (envOfC qual scope s.heap.objs.size f cdv)) → ∀ C : Ct, C.K = K → C.mg = mg →
      PSs (cxOf (L2.CX P w) P w K mg base N qual scope f cdv A outer s H E) body (tS C (fun cls d _ H => E cls d H) fb)) : FnOk P w K mg base (L2.CX P w) (k + 1) f fd ps (spF K mg ps.length (runF N.length fb)) := by
  refine F.ok Sc (fun vs H Q E h => h.1) fun cdv A outer s H vs Q E hr h => ?_
  obtain ⟨hlen, C, xs, S, hK, hm, rfl, e, q⟩ := h
  refine ⟨_, hb cdv A outer s C.E0 E hr C hK hm, rho0 N.length xs, S, C.A0, List.replicate N.length [], e.sim (by have := e.args.length; omega), ?_⟩
  unfold runF at q
  cases hf : fb (rho0 N.length xs) S with
  | none => rw [hf] at q; exact q.elim
  | some r =>
    rw [hf] at q
    cases r with
    | nx ρ' S' => exact fun A' G' σ' H' x J => q .non H' ⟨A', [], J.rsto, .d .non⟩
    | rt y S' => exact q
    | bk ρ' S' => exact q.elim
    | ct ρ' S' => exact q.elim
    | exc c fs ρ' S' => exact fun A' G' σ' H' cls d x J r => q cls d H' ⟨A', J.rsto, r⟩

/-! ### what is handed to a def: data, or a list that the def may change, made a shared one -/
def cvt : List Bool → List SV → Sto → Option (List SV × Sto)
  | _, [], S => some ([], S)
  | [], x :: xs, S => (frz x).bind fun y => (cvt [] xs S).map fun p => (y :: p.1, p.2)
  | false :: bs, x :: xs, S => (frz x).bind fun y => (cvt bs xs S).map fun p => (y :: p.1, p.2)
  | true :: bs, x :: xs, S => match x with
    | .own zs => (frzs zs).bind fun ys => (cvt bs xs (S ++ [ys])).map fun p => (.ref S.length :: p.1, p.2)
    | _ => (frz x).bind fun y => (cvt bs xs S).map fun p => (y :: p.1, p.2)
theorem Rs.frzF {K : PySem.W.Frag} {mg : Str → Option Value} {H : Hp} {A A' : List Addr} {F F1 : Addr → Prop} {x y : SV} {v : V} {g : List Addr} (hA : ∀ (n : Nat) a, A[n]? = some a → A'[n]? = some a) (hF : ∀ a, F a → F1 a) (r : Rs K mg H A F1 x v g) (hg : ∀ a ∈ g, ¬ F a) (h : VL.frz x = some y) : Rs K mg H A' F y v [] := by
  unfold VL.frz at h
  split at h
  · rename_i hn
    cases h
    obtain rfl := r.noOwn hn
    exact Rs.mono hA (fun a z => .inl (hF a z)) (fun a o q n => q) _ _ _ (fun a m o q => q) r
  · simp only [Option.map_eq_some_iff] at h
    obtain ⟨d, h, rfl⟩ := h
    exact .d (Rs.datO hF _ _ _ _ r h hg)
theorem RsL.frzF {K : PySem.W.Frag} {mg : Str → Option Value} {H : Hp} {A A' : List Addr} {F F1 : Addr → Prop} (hA : ∀ (n : Nat) a, A[n]? = some a → A'[n]? = some a) (hF : ∀ a, F a → F1 a) : ∀ {xs ys : List SV} {vs : List V} {g : List Addr}, RsL K mg H A F1 xs vs g → (∀ a ∈ g, ¬ F a) → VL.frzs xs = some ys → RsL K mg H A' F ys vs []
  | [], ys, _, _, r, _, h => by
    cases r
    cases h
    exact .nil
  | x :: xs, ys, _, _, r, hg, h => by
    cases r with
    | cons r1 r2 =>
      simp only [VL.frzs, Option.bind_eq_some_iff, Option.map_eq_some_iff] at h
      obtain ⟨y, hy, zs, hz, rfl⟩ := h
      exact .cons (g := []) (g' := []) (Rs.frzF hA hF r1 (fun a m => hg a (List.mem_append_left _ m)) hy) (RsL.frzF hA hF r2 (fun a m => hg a (List.mem_append_right _ m)) hz)
section
variable {K : PySem.W.Frag} {mg : Str → Option Value} {H : Hp} {A : List Addr} {F1 : Addr → Prop}
/-- what the lists that became shared ones are -/
structure Cvt (K : PySem.W.Frag) (mg : Str → Option Value) (H : Hp) (A : List Addr) (F1 : Addr → Prop) (S S2 : Sto) (ys : List SV) (vs : List V) (gs as : List Addr) (es : Sto) : Prop where
  sto : S2 = S ++ es
  len : as.length = es.length
  sub : as.Sublist gs
  to : ∀ (F : Addr → Prop) (A2 : List Addr), (∀ a, F a → F1 a) → (∀ a ∈ gs, F a → a ∈ as) → (∀ (n : Nat) a, A[n]? = some a → A2[n]? = some a) → (∀ (j : Nat) a, as[j]? = some a → A2[S.length + j]? = some a) →
    RsL K mg H A2 F ys vs [] ∧ ∀ (j : Nat) e, es[j]? = some e → ∃ a us, as[j]? = some a ∧ H a = some (.lst us) ∧ us.length ≤ sizeLine ∧ RsL K mg H A2 F e us []
theorem Cvt.frz {S S2 : Sto} {x y : SV} {ys : List SV} {v : V} {vs : List V} {g gs as : List Addr} {es : Sto} (h : Cvt K mg H A F1 S S2 ys vs gs as es) (r : Rs K mg H A F1 x v g) (nd : (g ++ gs).Nodup) (hf : VL.frz x = some y) : Cvt K mg H A F1 S S2 (y :: ys) (v :: vs) (g ++ gs) as es := by
  have hd : ∀ a ∈ g, a ∉ as := fun a m z => (List.nodup_append.mp nd).2.2 a m a (h.sub.subset z) rfl
  refine ⟨h.sto, h.len, h.sub.trans (List.sublist_append_right _ _), fun F A2 hF hg hA hs => ?_⟩
  obtain ⟨r2, q⟩ := h.to F A2 hF (fun a m z => hg a (List.mem_append_right _ m) z) hA hs
  exact ⟨.cons (g := []) (g' := []) (Rs.frzF hA hF r (fun a m z => hd a m (hg a (List.mem_append_left _ m) z)) hf) r2, q⟩
theorem cvt_ok : ∀ (bs : List Bool) (xs : List SV) (S : Sto) (ys : List SV) (S2 : Sto) (vs : List V) (gs : List Addr), cvt bs xs S = some (ys, S2) → RsL K mg H A F1 xs vs gs → gs.Nodup → ∃ as es, Cvt K mg H A F1 S S2 ys vs gs as es := by
  intro bs xs
  induction xs generalizing bs with
  | nil =>
    intro S ys S2 vs gs h r nd
    cases r
    cases bs <;> (simp only [cvt, Option.some.injEq, Prod.mk.injEq] at h; obtain ⟨rfl, rfl⟩ := h; exact ⟨[], [], (List.append_nil _).symm, rfl, List.Sublist.refl _, fun F A2 _ _ _ _ => ⟨.nil, fun j e h => by simp at h⟩⟩)
  | cons x xs ih =>
    intro S ys S2 vs gs h r nd
    cases r with
    | cons r1 r2 =>
    rename_i v vs g gs
    have nd2 := (List.nodup_append.mp nd).2.1
    have fz : ∀ bs', ((VL.frz x).bind fun y => (cvt bs' xs S).map fun p => (y :: p.1, p.2)) = some (ys, S2) → ∃ as es, Cvt K mg H A F1 S S2 ys (v :: vs) (g ++ gs) as es := fun bs' h' => by
      simp only [Option.bind_eq_some_iff, Option.map_eq_some_iff] at h'
      obtain ⟨y, hy, ⟨ys', S'⟩, h', e⟩ := h'
      obtain ⟨rfl, rfl⟩ := Prod.mk.inj e
      obtain ⟨as, es, q⟩ := ih bs' S ys' S' vs gs h' r2 nd2
      exact ⟨as, es, q.frz r1 nd hy⟩
    cases bs with
    | nil => exact fz [] h
    | cons b bs =>
      cases b with
      | false => exact fz bs h
      | true =>
        cases x with
        | d _ => exact fz bs h
        | ref _ => exact fz bs h
        | fn _ => exact fz bs h
        | scr _ => exact fz bs h
        | dic _ _ => exact fz bs h
        | own zs =>
          simp only [cvt, Option.bind_eq_some_iff, Option.map_eq_some_iff] at h
          obtain ⟨zs', hz, ⟨ys', S'⟩, h, e⟩ := h
          obtain ⟨rfl, rfl⟩ := Prod.mk.inj e
          cases r1 with
          | own e1 l r1 =>
          rename_i a us g
          obtain ⟨as, es, q⟩ := ih bs (S ++ [zs']) ys' S' vs gs h r2 nd2
          have n := List.nodup_append.mp nd
          have nh : a ∉ g := (List.nodup_cons.mp n.1).1
          refine ⟨a :: as, zs' :: es, by rw [q.sto, List.append_assoc]; rfl, by simp [q.len], ?_, fun F A2 hF hg hA hs => ?_⟩
          · exact (List.Sublist.cons_cons a (q.sub.trans (List.sublist_append_right _ _)))
          · have hg2 : ∀ b ∈ g, ¬ F b := fun b m z => by
              rcases List.mem_cons.mp (hg b (List.mem_append_left _ (List.mem_cons_of_mem _ m)) z) with rfl | z
              · exact nh m
              · exact n.2.2 b (List.mem_cons_of_mem _ m) b (q.sub.subset z) rfl
            obtain ⟨q1, q2⟩ := q.to F A2 hF (fun b m z => by
              rcases List.mem_cons.mp (hg b (List.mem_append_right _ m) z) with rfl | z
              · exact absurd rfl (n.2.2 b List.mem_cons_self b m)
              · exact z) hA (fun j b hj => by
              have := hs (j + 1) b (by simpa using hj)
              rw [List.length_append, List.length_singleton, Nat.add_assoc, Nat.add_comm 1 j]
              exact this)
            refine ⟨.cons (g := []) (g' := []) (.ref (by simpa using hs 0 a rfl)) q1, fun j e hj => ?_⟩
            cases j with
            | zero =>
              simp only [List.getElem?_cons_zero, Option.some.injEq] at hj
              subst hj
              exact ⟨a, us, rfl, e1, l, RsL.frzF hA hF r1 hg2 hz⟩
            | succ j => simpa using q2 j e (by simpa using hj)
end
/-- new lists are left alone from here on -/
theorem Sim.extP {C : Ct} {ρ : Rho} {S S' : Sto} {A A' : List Addr} {G : List (List Addr)} {σ : L2.St} {H H' : Hp} {g : List Addr} (I : Sim C ρ S A G σ H) (x : Ext A H A' H') (hg : ∀ a ∈ g, H a = none ∧ H' a ≠ none ∧ a ∉ A') (ls : S'.length = A'.length) (nd : A'.Nodup) (trk : ∀ a ∈ A', H' a ≠ none)
    (sto : ∀ (n : Nat) xs, S'[n]? = some xs → ∃ a vs, A'[n]? = some a ∧ H' a = some (.lst vs) ∧ vs.length ≤ sizeLine ∧ RsL C.K C.mg H' A' (fun a => Fs C A' G a ∨ a ∈ g) xs vs []) : Sim (C.pr fun a => C.Pr a ∨ a ∈ g) ρ S' A' G σ H' := by
  have J : Sim C ρ S' A' G σ H' := I.ext x ls nd trk fun n xs e => by
    obtain ⟨a, vs, e1, e2, l, r⟩ := sto n xs e
    exact ⟨a, vs, e1, e2, l, RsL.mono (fun _ _ q => q) (fun a z => .inl (.inl z)) (fun a o q n => q) _ _ _ (fun a m o q => q) r⟩
  have hF : ∀ a, Fs (C.pr fun a => C.Pr a ∨ a ∈ g) A' G a ↔ (Fs C A' G a ∨ a ∈ g) := fun a => by
    constructor
    · rintro (z | z | z | z)
      · exact .inl (.inl z)
      · exact .inl (.inr (.inl z))
      · exact .inl (.inr (.inr z))
      · exact .inr z
    · rintro ((z | z | z) | z)
      · exact .inl z
      · exact .inr (.inl z)
      · exact .inr (.inr (.inl z))
      · exact .inr (.inr (.inr z))
  refine ⟨J.pre, J.lr, J.lg, J.ls, J.nd, J.trk, fun a q => ?_, fun i y e => ?_, fun n xs e => ?_, J.frame, J.fresh, J.a0⟩
  · rcases q with q | q
    · exact J.prot a q
    · refine ⟨fun z => ?_, (hg a q).2.1⟩
      rcases List.mem_append.mp z with z | z
      · exact (hg a q).2.2 z
      · exact I.trk a (List.mem_append_right _ z) (hg a q).1
  · obtain ⟨v, g', e1, r, sb⟩ := I.slots i y e
    refine ⟨v, g', e1, Rs.mono (prefix_get x.pre) (fun a z => ?_) (fun a o q n => x.keep a o q fun z => n (.inl z)) _ _ _ (fun a m o q => ?_) r, sb⟩
    · rcases (hF a).mp z with z | z
      · exact fs_ext x a z
      · exact .inr (hg a z).1
    · exact x.keep a o q fun z => (List.nodup_append.mp I.nd).2.2 a z a (getD_mem (sb.subset m)) rfl
  · obtain ⟨a, vs, e1, e2, l, r⟩ := sto n xs e
    exact ⟨a, vs, e1, e2, l, RsL.mono (fun _ _ q => q) (fun a z => .inl ((hF a).mp z)) (fun a o q n => q) _ _ _ (fun a m o q => q) r⟩

/-! ### a call -/
def eCall (n : Nat) (F : List SV → Mo SV) (bs : List Bool) (fs : Rho → Mo (List SV)) : Rho → Mo SV := fun ρ S => bindM (fs ρ S) fun xs S1 => if xs.length = n then (cvt bs xs S1).bind fun p => F p.1 p.2 else none
theorem prefix_app_get {A as : List Addr} : ∀ (j : Nat) a, as[j]? = some a → (A ++ as)[A.length + j]? = some a := fun j a h => by rw [List.getElem?_append_right (by omega)]; simpa using h
theorem t_call {C : Ct} {W : WX} {kd : Kd} {n : Nat} {F : List SV → Mo SV} {bs : List Bool} {fs : Rho → Mo (List SV)} : ∀ σ H Q, tV C W kd (eCall n F bs fs) σ H Q → tVs C W .fe fs σ H fun vs H1 => spF C.K C.mg n F vs H1 Q (WE W σ) := by
  intro σ H Q ⟨P, ρ, S, A, G, hP, I, q⟩
  refine ⟨P, ρ, S, A, G, hP, I, EGood.step q (fun _ _ _ _ _ _ z => z) fun xs S1 q vs H1 p => ?_⟩
  obtain ⟨A1, gs, e1, I1, r, nd, hgs⟩ := p
  split at q
  case isFalse => exact q.elim
  rename_i hn
  have hn : vs.length = n := r.length.trans hn
  cases hc : cvt bs xs S1 with
  | none => rw [hc] at q; exact q.elim
  | some p =>
  obtain ⟨ys, S2⟩ := p
  rw [hc] at q
  simp only [Option.bind_some] at q
  obtain ⟨as, es, c⟩ := cvt_ok bs xs S1 ys S2 vs gs hc r nd
  obtain ⟨rfl, cl, csub, cto⟩ := c
  have hA1 : S1.length = A1.length := I1.ls
  have nG : ∀ a ∈ gs, a ∉ G.flatten := fun a m z => I.trk a (List.mem_append_right _ z) (hgs a m).1
  have nP : ∀ a ∈ gs, ¬ P a := fun a m z => (I.prot a z).2 (hgs a m).1
  -- the state, the new shared lists among the store's
  have hF1 : ∀ a, Fs (C.pr P) (A1 ++ as) G a → (Fs (C.pr P) A1 G a ∨ a ∈ gs) := fun a z => by
    rcases z with z | z
    · rcases List.mem_append.mp z with z | z
      · exact .inl (.inl z)
      · exact .inr (csub.subset z)
    · exact .inl (.inr z)
  have hF2 : ∀ a ∈ gs, Fs (C.pr P) (A1 ++ as) G a → a ∈ as := fun a m z => by
    rcases z with z | z | z
    · exact (List.mem_append.mp z).elim (fun z => absurd z (hgs a m).2.2) id
    · exact absurd z (nG a m)
    · exact absurd z (nP a m)
  obtain ⟨ra, rs⟩ := cto (Fs (C.pr P) (A1 ++ as) G) (A1 ++ as) hF1 hF2 (fun n a h => by rw [List.getElem?_append_left (List.getElem?_eq_some_iff.mp h).1]; exact h) (fun j a h => by rw [hA1]; exact prefix_app_get j a h)
  have e2 : Ext A H (A1 ++ as) H1 := ⟨e1.pre.trans (List.prefix_append _ _), fun a z => by
    rcases List.mem_append.mp z with z | z
    · exact e1.new a z
    · exact .inr (hgs a (csub.subset z)).1, e1.keep, e1.there⟩
  have ndA : (A1 ++ as).Nodup := List.nodup_append.mpr ⟨(List.nodup_append.mp I1.nd).1, nd.sublist csub, fun a z b z' e => by subst e; exact (hgs a (csub.subset z')).2.2 z⟩
  have I2 : Sim (C.pr P) ρ (S1 ++ es) (A1 ++ as) G σ H1 := by
    refine I.ext e2 (by simp [hA1, cl]) ndA (fun a z => ?_) fun k zs hk => ?_
    · rcases List.mem_append.mp z with z | z
      · exact I1.trk a (List.mem_append_left _ z)
      · exact (hgs a (csub.subset z)).2.1
    · by_cases hlt : k < S1.length
      · rw [List.getElem?_append_left hlt] at hk
        obtain ⟨a, us, q1, q2, l, rr⟩ := I1.sto k zs hk
        refine ⟨a, us, by rw [List.getElem?_append_left (by omega)]; exact q1, q2, l, RsL.mono (fun n a h => by rw [List.getElem?_append_left (List.getElem?_eq_some_iff.mp h).1]; exact h) (fun a z => .inl ?_) (fun a o q n => q) _ _ _ (fun a m o q => q) rr⟩
        rcases hF1 a z with (z | z | z) | z
        · exact .inl z
        · exact .inr (.inl z)
        · exact .inr (.inr (.inl z))
        · exact .inr (.inr (.inr z))
      · rw [List.getElem?_append_right (by omega)] at hk
        obtain ⟨a, us, q1, q2, l, rr⟩ := rs _ zs hk
        refine ⟨a, us, ?_, q2, l, rr⟩
        have := prefix_app_get (A := A1) _ _ q1
        rw [← hA1, show S1.length + (k - S1.length) = k by omega] at this
        exact this
  -- the callee
  refine ⟨hn, ⟨C.K, C.mg, H1, A1 ++ as, fun a => a ∈ G.flatten ∨ P a⟩, ys, S1 ++ es, rfl, rfl, rfl, ⟨ra, I2.ls, ndA, fun a z => I2.trk a (List.mem_append_left _ z), fun a z => ?_, I2.sto⟩, ?_⟩
  · rcases z with z | z
    · exact ⟨fun m => (List.nodup_append.mp I2.nd).2.2 a m a z rfl, I2.trk a (List.mem_append_right _ z)⟩
    · exact ⟨fun m => (I2.prot a z).1 (List.mem_append_left _ m), (I2.prot a z).2⟩
  have ext : ∀ A' g S' H', RSto ⟨C.K, C.mg, H1, A1 ++ as, fun a => a ∈ G.flatten ∨ P a⟩ A' g S' H' → Ext (A1 ++ as) H1 A' H' ∧ Sim ((C.pr P).pr fun a => (C.pr P).Pr a ∨ a ∈ g) ρ S' A' G σ H' ∧ g.Nodup ∧ ∀ a ∈ g, H1 a = none ∧ H' a ≠ none ∧ a ∉ A' := fun A' g S' H' R => by
    have x : Ext (A1 ++ as) H1 A' H' := ⟨R.pre, fun a z => (R.trk a (List.mem_append_left _ z)).2, R.frame, R.there⟩
    have hg : ∀ a ∈ g, H1 a = none ∧ H' a ≠ none ∧ a ∉ A' := fun a m => ⟨R.own a m, (R.trk a (List.mem_append_right _ m)).1, fun z => (List.nodup_append.mp R.nd).2.2 a z a m rfl⟩
    refine ⟨x, I2.extP x hg R.ls (List.nodup_append.mp R.nd).1 (fun a z => (R.trk a (List.mem_append_left _ z)).1) fun k zs hk => ?_, (List.nodup_append.mp R.nd).2.1, hg⟩
    obtain ⟨a, us, q1, q2, l, rr⟩ := R.sto k zs hk
    refine ⟨a, us, q1, q2, l, RsL.mono (fun _ _ q => q) (fun a z => .inl ?_) (fun a o q n => q) _ _ _ (fun a m o q => q) rr⟩
    rcases z with (z | z) | z
    · exact .inl z
    · exact .inr (.inr z)
    · exact .inr (.inl z)
  cases hf : F ys (S1 ++ es) with
  | none => rw [hf] at q; exact q.elim
  | some rr =>
  rw [hf] at q
  cases rr with
  | ok x S' =>
    rintro v H' ⟨A', g, R, rx⟩
    obtain ⟨x2, J, ndg, hg⟩ := ext A' g S' H' R
    refine q v H' (EPost.be (kd := kd) ⟨A', g, e2.trans x2, J, Rs.mono (fun _ _ q => q) (fun a z => .inl ?_) (fun a o q n => q) _ _ _ (fun a m o q => q) rx, ndg, fun a m => ⟨none_back e2 (hg a m).1, (hg a m).2⟩⟩)
    rcases z with (z | z | z) | z
    · exact .inl z
    · exact .inr (.inr (.inl z))
    · exact .inr (.inr (.inr z))
    · exact .inr (.inl z)
  | exc c fs S' =>
    rintro cls d H' ⟨A', R, rx⟩
    obtain ⟨x2, J, _, _⟩ := ext A' [] S' H' R
    exact q cls d H' ⟨A', e2.trans x2, Sim.prw (C := C) (P := fun a => (C.pr P).Pr a ∨ a ∈ ([] : List Addr)) J fun a z => .inl (hP a z), rx⟩
end VL

end
section
set_option Elab.async false
set_option linter.all false
set_option maxRecDepth 100000
/-! VL10: calls by name, by a local; what is frozen; raise; try. -/
namespace VL
open PySem PySem.Spec PyProof.Rows L2

/-- a def of the module, what it does -/
structure DefOk (P : Program) (w : World) (K : PySem.W.Frag) (mg : Str → Option Value) (base : Heap) (k : Nat) (x : Str) (n : Nat) (F : List SV → Mo SV) : Prop where
  ex : ∃ (f : Addr) (fd : FuncData) (ps : List Str), FnOk P w K mg base (L2.CX P w) k f fd ps (spF K mg n F) ∧ mg x = some (.ref f) ∧ PySem.W.keepIn K (.ref f) = true ∧ Binds K fd ps []
section
variable {X : Cx} {C : Ct} {W : WX} {kd ka kb : Kd} {e a b c : Expr} {es : List Expr} {pos : Pos} {f fa fb fc : Rho → Mo SV} {fs : Rho → Mo (List SV)} {n k : Nat} {x : Str} {Fn : List SV → Mo SV} {bs : List Bool}
theorem takes0 {X : Cx} : Takes X WF := fun u s' ⟨a, B, sI, pins, σ, H, cls, d, _, _, _, _, _, _, _, _, w⟩ => w.elim
theorem v_call {p : Pos} (D : DefOk X.prog X.w X.K X.mg X.base k x n Fn) (hK : C.K = X.K) (hM : C.mg = X.mg) (hr : Room k X.A) (hg : Gl X x) (tk : Takes X W) (ha : PA X (e :: es) (tVs C W .fe fs))
    (hdb : (x == ("__debug__" : Str)) = false := by decide) (he : starEach (e :: es) X.env = (false, eval e X.env) :: starEach es X.env := by rfl) (hpl : (backTo pos (starEach es X.env)).any (·.1) = false := by rfl) :
    PE X (.Call (.Name x p) (e :: es) [] pos) (tV C W kd (eCall n Fn bs fs)) := by
  obtain ⟨f, fd, ps, F, hm, hk, hb⟩ := D.ex
  refine pe_imp (pe_callS F hr hg hm hk hb (passAt tk) ha hdb he hpl) fun σ H Q q => ?_
  have h := t_call (n := n) (kd := kd) σ H Q q
  rw [hK, hM] at h
  exact h
/-- f() -/
theorem v_call0 {p : Pos} (D : DefOk X.prog X.w X.K X.mg X.base k x 0 Fn) (hK : C.K = X.K) (hM : C.mg = X.mg) (hr : Room k X.A) (hg : Gl X x) (tk : Takes X W) (hdb : (x == ("__debug__" : Str)) = false := by decide) :
    PE X (.Call (.Name x p) [] [] pos) (tV C W kd (eCall 0 Fn [] fun _ S => some (.ok [] S))) := by
  obtain ⟨f, fd, ps, F, hm, hk, hb⟩ := D.ex
  refine ⟨fun pins s σ H Q I h => ?_⟩
  have h := t_call (n := 0) (kd := kd) σ H Q h
  rw [hK, hM] at h
  obtain ⟨P, ρ, S, A, G, hP, J, q⟩ := h
  refine wpAny_Call_Name_kw (ld_glob I hg hm ?_ hdb)
  exact PySem.W.callWith_K0 I.kIn hk (run_fnS (us := []) F hr hb (passAt tk σ) I .nil (q [] H ⟨A, [], Ext.refl, J.pg0, .nil, List.nodup_nil, fun a m => by cases m⟩))
/-- a local that holds a def -/
def eCallL (i n : Nat) (D : List (Str × (List SV → Mo SV))) (bs : List Bool) (fs : Rho → Mo (List SV)) : Rho → Mo SV := fun ρ S => match ρ[i]? with
  | some (some (.fn x)) => (D.lookup x).bind fun Fn => eCall n Fn bs fs ρ S
  | _ => none
theorem v_callL {p : Pos} {i : Nat} {D : List (Str × (List SV → Mo SV))} (hD : ∀ x Fn, D.lookup x = some Fn → DefOk X.prog X.w X.K X.mg X.base k x n Fn) (hK : C.K = X.K) (hM : C.mg = X.mg) (hr : Room k X.A) (hN : X.N[i]? = some x) (hv : Vis X.env.scope x) (tk : Takes X W) (ha : PA X (e :: es) (tVs C W .fe fs))
    (hdb : (x == ("__debug__" : Str)) = false := by decide) (hcd : (x == ("__classdict__" : Str)) = false := by decide) (he : starEach (e :: es) X.env = (false, eval e X.env) :: starEach es X.env := by rfl) (hpl : (backTo pos (starEach es X.env)).any (·.1) = false := by rfl) :
    PE X (.Call (.Name x p) (e :: es) [] pos) (tV C W kd (eCallL i n D bs fs)) := by
  refine ⟨fun pins s σ H Q I h => ?_⟩
  obtain ⟨P, ρ, S, A, G, hP, J, q⟩ := h
  unfold eCallL at q
  split at q
  case h_2 => exact q.elim
  rename_i y hy
  cases hl : D.lookup y with
  | none => rw [hl] at q; exact q.elim
  | some Fn =>
  rw [hl] at q
  simp only [Option.bind_some] at q
  obtain ⟨f, fd, ps, F, hm, hk, hb⟩ := (hD y Fn hl).ex
  obtain ⟨v, g, e1, r, _⟩ := J.slots i _ hy
  have hv1 : v = .ref f := by
    cases r with
    | fn h =>
      have h : C.mg y = some (.ref _) := h
      rw [hM, hm] at h
      cases h
      rfl
  subst hv1
  have h := t_call (n := n) (kd := kd) σ H Q ⟨P, ρ, S, A, G, hP, J, q⟩
  rw [hK, hM] at h
  refine wpAny_Call_Name_kw (thn ((pe_var (pos := p) hN hv hdb hcd).run pins s σ H (fun v H1 => v = .ref f ∧ H1 = H) I ⟨.ref f, e1, rfl, rfl⟩) fun u s1 ⟨v, H1, I1, r1, q1⟩ => ?_)
  obtain ⟨rfl, rfl⟩ := q1
  cases r1
  refine PySem.W.callWith_K (h₀ := X.base) I.ok.mod.kin hk (thn (ha.run pos pins s1 σ _ _ I1 h) fun us s2 ⟨vs, H2, I2, r, q⟩ => ⟨I2.kIn, ?_⟩) he hpl
  exact run_fnS F hr hb (passAt tk σ) I2 r q
/-! ### what is frozen -/
def eFrz (f : Rho → Mo SV) : Rho → Mo SV := fun ρ S => bindM (f ρ S) fun x S1 => (frz x).map fun y => .ok y S1
theorem noOwn_frz {x y : SV} (h : frz x = some y) : noOwn y = true := by
  unfold frz at h
  split at h
  · rename_i hn; cases h; exact hn
  · simp only [Option.map_eq_some_iff] at h
    obtain ⟨d, _, rfl⟩ := h
    rfl
theorem v_frz (h : PE X e (tV C W .fe f)) : PE X e (tV C W kd (eFrz f)) := by
  refine pe_imp h fun σ H Q ⟨P, ρ, S, A, G, hP, I, q⟩ => ⟨P, ρ, S, A, G, hP, I, EGood.step q (fun _ _ _ _ _ _ z => z) fun x S1 q v H1 p => ?_⟩
  obtain ⟨A1, g, e1, I1, r⟩ := p
  cases hf : frz x with
  | none => rw [hf] at q; exact q.elim
  | some y =>
    rw [hf] at q
    refine q v H1 ⟨A1, [], e1, (I1.pgw).pg0, Rk.noOwn (C := C.pr P) (r.frz (C := C.pr P) (new_not1 (P := P) (S1 := S1) I r) hf) (noOwn_frz hf)⟩
/-- a slot's list becomes data for good -/
def ghF (is : List Nat) (s : Rho → Sto → Option Fl) : Rho → Sto → Option Fl := fun ρ S => match is with
  | [] => s ρ S
  | i :: r => match ρ[i]? with
    | some (some x) => match frz x with
      | some y => ghF r s (ρ.set i (some y)) S
      | none => none
    | _ => none
/-- a slot's list becomes a shared one -/
def ghA (i : Nat) (s : Rho → Sto → Option Fl) : Rho → Sto → Option Fl := fun ρ S => match ρ[i]? with
  | some (some (.own zs)) => (frzs zs).bind fun ys => s (ρ.set i (some (.ref S.length))) (S ++ [ys])
  | _ => none
end
section
variable {C : Ct} {ρ : Rho} {S : Sto} {A : List Addr} {G : List (List Addr)} {σ : L2.St} {H : Hp}
theorem flatten_set_nil {G : List (List Addr)} {i : Nat} : (G.set i []).flatten.Sublist G.flatten := by
  induction G generalizing i with
  | nil => exact List.Sublist.refl _
  | cons l G ih =>
    cases i with
    | zero => simp
    | succ i => simpa using List.Sublist.append_left ih l
/-- a slot is let go of -/
theorem Sim.drop (I : Sim C ρ S A G σ H) (i : Nat) : Sim (C.pr fun a => C.Pr a ∨ a ∈ G[i]?.getD []) (ρ.set i none) S A (G.set i []) σ H := by
  have sub := flatten_set_nil (G := G) (i := i)
  have hg : ∀ a ∈ G[i]?.getD [], a ∉ (G.set i []).flatten ∧ a ∈ G.flatten := fun a m => by
    refine ⟨fun z => ?_, getD_mem m⟩
    obtain ⟨l, hl, hz⟩ := List.mem_flatten.mp z
    obtain ⟨j, hj⟩ := List.getElem?_of_mem hl
    have nd := (List.nodup_append.mp I.nd).2.1
    cases hG : G[i]? with
    | none => rw [hG] at m; cases m
    | some g =>
      rw [hG] at m
      by_cases e : j = i
      · subst e
        rw [List.getElem?_set_self (List.getElem?_eq_some_iff.mp hG).1] at hj
        cases hj
        cases hz
      · rw [List.getElem?_set_ne (Ne.symm e)] at hj
        have pw := (List.pairwise_flatten.mp nd).2
        rw [List.pairwise_iff_getElem] at pw
        obtain ⟨h1, e1⟩ := List.getElem?_eq_some_iff.mp hG
        obtain ⟨h2, e2⟩ := List.getElem?_eq_some_iff.mp hj
        rcases Nat.lt_or_gt_of_ne e with lt | lt
        · exact pw j i h2 h1 lt a (by rw [e2]; exact hz) a (by rw [e1]; exact m) rfl
        · exact pw i j h1 h2 lt a (by rw [e1]; exact m) a (by rw [e2]; exact hz) rfl
  have hF : ∀ a, Fs (C.pr fun a => C.Pr a ∨ a ∈ G[i]?.getD []) A (G.set i []) a → Fs C A G a := fun a z => by
    rcases z with z | z | z | z
    · exact .inl z
    · exact .inr (.inl (sub.subset z))
    · exact .inr (.inr z)
    · exact .inr (.inl (hg a z).2)
  refine ⟨I.pre, by simp [I.lr], by simp [I.lg], I.ls, I.nd.sublist (List.Sublist.append_left sub A), fun a m => I.trk a ((List.Sublist.append_left sub A).subset m), fun a q => ?_, fun j x e => ?_, fun n xs e => ?_, I.frame, fun a m => I.fresh a ((List.Sublist.append_left sub A).subset m), I.a0⟩
  · rcases q with q | q
    · exact ⟨fun z => (I.prot a q).1 ((List.Sublist.append_left sub A).subset z), (I.prot a q).2⟩
    · refine ⟨fun z => ?_, I.trk a (List.mem_append_right _ (hg a q).2)⟩
      rcases List.mem_append.mp z with z | z
      · exact (List.nodup_append.mp I.nd).2.2 a z a (hg a q).2 rfl
      · exact (hg a q).1 z
  · by_cases hj : j = i
    · subst hj
      rw [List.getElem?_set] at e
      split at e
      · split at e <;> cases e
      · rename_i h; exact absurd rfl h
    · rw [List.getElem?_set_ne (Ne.symm hj)] at e
      obtain ⟨v, g, e1, r, sb⟩ := I.slots j x e
      exact ⟨v, g, e1, Rs.mono (fun _ _ q => q) (fun a z => .inl (hF a z)) (fun a o q n => q) _ _ _ (fun a m o q => q) r, by rw [List.getElem?_set_ne (Ne.symm hj)]; exact sb⟩
  · obtain ⟨a, vs, e1, e2, l, r⟩ := I.sto n xs e
    exact ⟨a, vs, e1, e2, l, RsL.mono (fun _ _ q => q) (fun a z => .inl (hF a z)) (fun a o q n => q) _ _ _ (fun a m o q => q) r⟩
theorem set_same {σ : L2.St} {i : Nat} {v : V} (h : σ[i]? = some (some v)) : σ.set i (some v) = σ := by
  obtain ⟨h1, h2⟩ := List.getElem?_eq_some_iff.mp h
  apply List.ext_getElem?
  intro j
  by_cases e : j = i
  · subst e; rw [List.getElem?_set_self h1, h]
  · rw [List.getElem?_set_ne (Ne.symm e)]
theorem Sim.frz (I : Sim C ρ S A G σ H) {i : Nat} {x y : SV} (h : ρ[i]? = some (some x)) (hf : VL.frz x = some y) : Sim C (ρ.set i (some y)) S A (G.set i []) σ H := by
  obtain ⟨v, g, e1, r, sb⟩ := I.slots i x h
  have J := I.drop i
  have J0 : Sim C (ρ.set i none) S A (G.set i []) σ H := J.prw fun a z => .inl z
  have r2 : Rs C.K C.mg H A (Fs C A (G.set i [])) y v [] := Rs.frzF (fun _ _ q => q) (fun a z => by
    rcases z with z | z | z
    · exact .inl z
    · exact .inr (.inl (flatten_set_nil.subset z))
    · exact .inr (.inr z)) r (fun a m z => by
    have hp := (J.prot a (.inr (sb.subset m))).1
    rcases z with z | z | z
    · exact hp (List.mem_append_left _ z)
    · exact hp (List.mem_append_right _ z)
    · exact (I.prot a z).1 (List.mem_append_right _ (getD_mem (sb.subset m)))) hf
  have K := J0.putV (i := i) r2
  rw [List.set_set, set_same e1] at K
  exact K
theorem set_ext {i : Nat} : ExtS A G H A (G.set i []) H := ⟨List.prefix_refl _, fun a m => .inl ((List.Sublist.append_left flatten_set_nil A).subset m), fun _ _ h _ => h, fun _ h => h⟩
theorem t_ghF {C : Ct} {W : WX} {s : Rho → Sto → Option Fl} : ∀ (is : List Nat) (D : Ends) (σ : L2.St) (H : Hp), tS C W (ghF is s) D σ H → tS C W s D σ H
  | [], D, σ, H, h => by
    obtain ⟨ρ, S, A, G, I, q⟩ := h
    unfold ghF at q
    exact ⟨ρ, S, A, G, I, q⟩
  | i :: r, D, σ, H, h => by
    obtain ⟨ρ, S, A, G, I, q⟩ := h
    unfold ghF at q
    split at q
    · rename_i x hx
      split at q
      · rename_i y hy
        exact t_ghF r D σ H ⟨_, S, A, _, I.frz hx hy, q.ext set_ext⟩
      · exact q.elim
    · exact q.elim
theorem ss_ghF {X : Cx} {C : Ct} {W : WX} {sts : List Stmt} {s : Rho → Sto → Option Fl} (is : List Nat) (h : PSs X sts (tS C W s)) : PSs X sts (tS C W (ghF is s)) := pss_imp h (t_ghF is)
theorem s_ghF {X : Cx} {C : Ct} {W : WX} {st : Stmt} {s : Rho → Sto → Option Fl} (is : List Nat) (h : PS X st (tS C W s)) : PS X st (tS C W (ghF is s)) := ps_imp h (t_ghF is)
end
section
variable {X : Cx} {C : Ct} {W : WX} {e : Expr} {pos : Pos} {x : Str}
/-! ### raise X() -/
structure ExcOk (K : PySem.W.Frag) (mg : Str → Option Value) (x : Str) : Prop where
  ex : ∃ Ca, mg x = some (.ref Ca) ∧ PySem.W.excIn K Ca [.type "ValueError", .type "Exception", .type "BaseException", .type "object"] "ValueError.__new__" = true ∧ PySem.W.keepIn K (.ref Ca) = true ∧ PySem.W.subIn K (.ref Ca) (.type "BaseException") = some true ∧ PySem.W.typeIn K (.ref Ca) = some (.type "type")
theorem pmk_own0 {Ca : Addr} {bmB : List Value} {B newId initId : String} {p : Pos} (F : ExcBaseFacts B newId initId bmB) (q : PySem.W.excIn X.K Ca bmB newId = true) (gC : X.mg x = some (.ref Ca)) (kC : PySem.W.keepIn X.K (.ref Ca) = true) (r : Raises X (.ref Ca)) (hg : Gl X x)
    (hdb : (x == ("__debug__" : Str)) = false := by decide) : PMk X (.Call (.Name x p) [] [] pos) (fun _ H Q => Q (.ref Ca) none H) := by
  intro pins s σ H Q I h
  refine wpAny_Call_Name_kw (ld_glob I hg gC ?_ hdb)
  refine PySem.W.callWith_K0 I.kIn kC ?_
  show wpAny _ _ (call (.ref Ca) []) _ _ _
  obtain ⟨bm, N, nm, qn, bs, hdct, sn, sub, ab, col, dd, k0, k1, k2, k3, k5, mN, hC, hN, hni, T⟩ := exc_obj I.kIn q
  refine wpAny_call_exc_subT F T hC hN hni (fun h' e hm => ?_) (by show 0 ≤ sizeLine; omega)
  exact mk_of I hm r h (I.hok.gone hm.new)
def sRaise (c : Str) : Rho → Sto → Option Fl := fun ρ S => some (.exc c [] ρ S)
theorem s_raise0 {p : Pos} (hM : C.mg = X.mg) (E : ExcOk X.K X.mg x) (hc : X.calm = true) (tk : Takes X W) (hg : Gl X x) (hdb : (x == ("__debug__" : Str)) = false := by decide) : PS X (.Raise (some (.Call (.Name x p) [] [] pos)) none pos) (tS C W (sRaise x)) := by
  obtain ⟨Ca, hm, q, kC, s1, s2⟩ := E.ex
  refine ps_imp (ps_raise hc tk (pmk_own0 PySem.F.excBase_ValueError q hm kC (raises_own s1 s2) hg hdb)) fun D σ H ⟨ρ, S, A, G, I, q⟩ => ?_
  exact q A G σ H (.ref Ca) none ExtS.refl I ⟨Ca, by rw [hM]; exact hm, rfl, .inl ⟨rfl, rfl⟩⟩
theorem s_raise {p p2 : Pos} (hM : C.mg = X.mg) (E : ExcOk X.K X.mg x) (hc : X.calm = true) (tk : Takes X W) (hg : Gl X x) (hdb : (x == ("__debug__" : Str)) = false := by decide) : PS X (.Raise (some (.Call (.Name x p) [] [] pos)) none p2) (tS C W (sRaise x)) := by
  obtain ⟨Ca, hm, q, kC, s1, s2⟩ := E.ex
  refine ps_imp (ps_raise hc tk (pmk_own0 PySem.F.excBase_ValueError q hm kC (raises_own s1 s2) hg hdb)) fun D σ H ⟨ρ, S, A, G, I, q⟩ => ?_
  exact q A G σ H (.ref Ca) none ExtS.refl I ⟨Ca, by rw [hM]; exact hm, rfl, .inl ⟨rfl, rfl⟩⟩
/-! ### try .. except X: -/
/-- which class a clause takes -/
def MtOk (K : PySem.W.Frag) (mg : Str → Option Value) (mt : Str → Str → Option Bool) : Prop := ∀ c x b Ca Cx, mt c x = some b → mg c = some (.ref Ca) → mg x = some (.ref Cx) → PySem.W.exmOne K (.ref Ca) (.ref Cx) = some b
/-- .. that raises nothing -/
def noX : Option Fl → Option Fl
  | some (.exc _ _ _ _) => none
  | r => r
theorem SGood.noX {W' : WX} {A : List Addr} {G : List (List Addr)} {H : Hp} {D : Ends} {r : Option Fl} (h : SGood C W A G H D (noX r)) : SGood C W' A G H D r := by
  cases r with
  | none => exact h
  | some f => cases f <;> first | exact h | exact h.elim
def sTry (mt : Str → Str → Option Bool) (x : Str) (b h : Rho → Sto → Option Fl) : Rho → Sto → Option Fl := fun ρ S => match b ρ S with
  | some (.exc c fs ρ1 S1) => match mt c x with
    | some true => noX (h ρ1 S1)
    | some false => some (.exc c fs ρ1 S1)
    | none => none
  | r => r
theorem s_try {mt : Str → Str → Option Bool} {fb fh : Rho → Sto → Option Fl} {body suite : List Stmt} {b₀ : Stmt} {np pos' : Pos} {Cx : Addr} (hK : C.K = X.K) (hM : C.mg = X.mg) (hmt : MtOk X.K X.mg mt) (hs : X.stack = X.env :: X.outer) (hf : X.env.frame = some X.env.locals)
    (hg : Gl X x) (hx : X.mg x = some (.ref Cx)) (tk : Takes X W)
    (hb : ∀ (W : WX) (pn : List (Addr × Obj)) (xe : Value → Shared → Prop), Takes (X.tr pn xe) W → PassesOwn (model X.prog X.w) X.A X.env xe → PSs (X.tr pn xe) body (tS C W fb))
    (hsu : ∀ (a : Addr) (oe : Obj) (pn : List (Addr × Obj)), PSs (X.suite a ((a, oe) :: pn)) (b₀ :: suite) (tS C WF fh)) (hdb : (x == ("__debug__" : Str)) = false := by decide) :
    PS X (.Try body [.ExceptHandler (some (.Name x np)) none (b₀ :: suite) pos'] [] [] pos) (tS C W (sTry mt x fb fh)) := by
  refine ps_imp (ps_try_only (c := .ref Cx) (tb := fun W => tS C W fb) (ts := fun _ _ _ => tS C WF fh) hs hf ⟨hg, hdb, .inl hx⟩ tk hb fun a oe cls d pn _ _ => hsu a oe pn) fun D σ H ⟨ρ, S, A, G, I, q⟩ => ⟨ρ, S, A, G, I, ?_⟩
  unfold sTry at q
  cases hr : fb ρ S with
  | none => rw [hr] at q; exact q
  | some r =>
    rw [hr] at q
    cases r with
    | nx ρ' S' => exact q
    | bk ρ' S' => exact q
    | ct ρ' S' => exact q
    | rt z S' => exact q
    | exc c fs ρ' S' =>
      rintro A' G' σ' H' cls d ex J ⟨Ca, hc, rfl, hfs⟩
      simp only at q
      cases hmc : mt c x with
      | none => rw [hmc] at q; exact q.elim
      | some k =>
        rw [hmc] at q
        refine ⟨k, hmt c x k Ca Cx hmc (by rw [← hM]; exact hc) hx, fun e a _ => ?_, fun e => ?_⟩
        · subst e
          exact ⟨ρ', S', A', G', J, SGood.ext ex (SGood.noX q)⟩
        · subst e
          exact q A' G' σ' H' (.ref Ca) d ex J ⟨Ca, hc, rfl, hfs⟩
end
end VL

end
section
set_option Elab.async false
set_option linter.all false
set_option maxRecDepth 100000
/-! VL11: lists that are changed: a slot's own (within others of its own) or a shared one. -/
namespace VL
open PySem PySem.Spec PyProof.Rows L2

def getP : List Nat → SV → Option (List SV)
  | [], .own xs => some xs
  | j :: p, .own xs => (xs[j]?).bind (getP p)
  | _, _ => none
def putP : List Nat → List SV → SV → SV
  | [], ys, .own _ => .own ys
  | j :: p, ys, .own xs => match xs[j]? with
    | some z => .own (xs.set j (putP p ys z))
    | none => .own xs
  | _, _, x => x
def addrP (H : Hp) : List Nat → V → Option Addr
  | [], .ref a => some a
  | j :: p, .ref a => match H a with
    | some (.lst vs) => (vs[j]?).bind (addrP H p)
    | _ => none
  | _, _ => none
section
variable {K : PySem.W.Frag} {mg : Str → Option Value} {H H' : Hp} {A : List Addr} {F F' : Addr → Prop}
theorem RsL.at' : ∀ {xs : List SV} {vs : List V} {g : List Addr} {j : Nat} {z : SV}, RsL K mg H A F xs vs g → xs[j]? = some z → ∃ v gl gz gr, vs[j]? = some v ∧ Rs K mg H A F z v gz ∧ g = gl ++ (gz ++ gr) ∧
    ∀ (H' : Hp) (F' : Addr → Prop), (∀ a, F' a → F a ∨ H a = none) → (∀ a o, H a = some o → ¬ F a → H' a = some o) → (∀ b ∈ gl ++ gr, ∀ o, H b = some o → H' b = some o) → ∀ z' gz', Rs K mg H' A F' z' v gz' → RsL K mg H' A F' (xs.set j z') vs (gl ++ (gz' ++ gr))
  | [], _, _, _, _, _, e => by simp at e
  | x :: xs, _, _, j, z, r, e => by
    cases r with
    | cons r1 r2 =>
      rename_i v vs g1 g2
      cases j with
      | zero =>
        simp only [List.getElem?_cons_zero, Option.some.injEq] at e
        subst e
        refine ⟨v, [], g1, g2, rfl, r1, rfl, fun H' F' hF hH hk z' gz' r' => ?_⟩
        show RsL K mg H' A F' _ _ (gz' ++ g2)
        exact .cons r' (RsL.mono (fun _ _ q => q) hF hH _ _ _ (fun a m o q => hk a m o q) r2)
      | succ j =>
        obtain ⟨v', gl, gz, gr, h1, h2, h3, h4⟩ := RsL.at' r2 (by simpa using e)
        refine ⟨v', g1 ++ gl, gz, gr, by simpa using h1, h2, by rw [h3, List.append_assoc], fun H' F' hF hH hk z' gz' r' => ?_⟩
        have q := h4 H' F' hF hH (fun b m => hk b (by
          rw [List.append_assoc]
          exact List.mem_append_right _ m)) z' gz' r'
        rw [List.append_assoc]
        exact .cons (Rs.mono (fun _ _ q => q) hF hH _ _ _ (fun a m o q => hk a (List.mem_append_left _ (List.mem_append_left _ m)) o q) r1) q
structure PutOk (K : PySem.W.Frag) (mg : Str → Option Value) (H : Hp) (A : List Addr) (F : Addr → Prop) (p : List Nat) (x : SV) (v : V) (g : List Addr) (a : Addr) (gx : List Addr) : Prop where
  to : ∀ (F' : Addr → Prop), (∀ b, F' b → F b ∨ H b = none) → (∀ b ∈ g, F b) → g.Nodup → ∀ ys ws gy, RsL K mg (upd H a (.lst ws)) A F' ys ws gy → ws.length ≤ sizeLine → gy.Nodup → (∀ b ∈ gy, b ∉ g ∨ b ∈ gx) →
    ∃ g', Rs K mg (upd H a (.lst ws)) A F' (putP p ys x) v g' ∧ g'.Nodup ∧ ∀ b ∈ g', b ∈ g ∨ b ∈ gy
theorem Rs.path : ∀ {p : List Nat} {x : SV} {v : V} {g : List Addr} {xs : List SV}, Rs K mg H A F x v g → getP p x = some xs → ∃ a us gx, addrP H p v = some a ∧ H a = some (.lst us) ∧ us.length ≤ sizeLine ∧ (a :: gx).Sublist g ∧ RsL K mg H A F xs us gx ∧ PutOk K mg H A F p x v g a gx
  | [], .own zs, _, _, xs, r, h => by
    simp only [getP, Option.some.injEq] at h
    subst h
    cases r with
    | own e l r =>
      rename_i a vs g
      refine ⟨a, vs, g, rfl, e, l, List.Sublist.refl _, r, ⟨fun F' hF hg nd ys ws gy ry lw ng hy => ⟨a :: gy, .own upd_same lw ry, List.nodup_cons.mpr ⟨fun m => ?_, ng⟩, fun b m => ?_⟩⟩⟩
      · rcases hy a m with z | z
        · exact z List.mem_cons_self
        · exact (List.nodup_cons.mp nd).1 z
      · rcases List.mem_cons.mp m with rfl | m
        · exact .inl List.mem_cons_self
        · exact .inr m
  | j :: p, .own zs, _, _, xs, r, h => by
    simp only [getP, Option.bind_eq_some_iff] at h
    obtain ⟨z, hz, h⟩ := h
    cases r with
    | own e l r =>
      rename_i a0 vs g1
      obtain ⟨v, gl, gz, gr, h1, h2, rfl, h4⟩ := RsL.at' r hz
      obtain ⟨a, us, gx, q1, q2, q3, q4, q5, q6⟩ := Rs.path h2 h
      have sub : (a :: gx).Sublist (a0 :: (gl ++ (gz ++ gr))) := (q4.trans ((List.sublist_append_left _ _).trans (List.sublist_append_right _ _))).trans (List.sublist_cons_self _ _)
      have maz : a ∈ gz := q4.subset List.mem_cons_self
      refine ⟨a, us, gx, by simp only [addrP, e, h1, Option.bind_some]; exact q1, q2, q3, sub, q5, ⟨fun F' hF hg nd ys ws gy ry lw ng hy => ?_⟩⟩
      have nd1 := (List.nodup_cons.mp nd).2
      have n1 := List.nodup_append.mp nd1
      have n2 := List.nodup_append.mp n1.2.1
      obtain ⟨gz', r', nz, sz⟩ := q6.to F' hF (fun b m => hg b (List.mem_cons_of_mem _ (List.mem_append_right _ (List.mem_append_left _ m)))) n2.1 ys ws gy ry lw ng (fun b m => (hy b m).imp (fun z w => z (List.mem_cons_of_mem _ (List.mem_append_right _ (List.mem_append_left _ w)))) id)
      have ha : ∀ b, b ∈ gl ∨ b ∈ gr → b ≠ a := fun b m e => by
        subst e
        rcases m with m | m
        · exact n1.2.2 b m b (List.mem_append_left _ maz) rfl
        · exact n2.2.2 b maz b m rfl
      have hne0 : a0 ≠ a := fun e => (List.nodup_cons.mp nd).1 (by rw [e]; exact List.mem_append_right _ (List.mem_append_left _ maz))
      have hFa : F a := hg a (sub.subset List.mem_cons_self)
      have rr := h4 (upd H a (.lst ws)) F' hF (fun b o q n => by rw [upd_ne (show b ≠ a from fun e => n (by rw [e]; exact hFa))]; exact q) (fun b m o q => by rw [upd_ne (ha b (List.mem_append.mp m))]; exact q) _ gz' r'
      -- what is in the new part, but was elsewhere
      have key : ∀ b ∈ gz', b ∈ gz ∨ (b ∉ a0 :: (gl ++ (gz ++ gr))) := fun b m => by
        rcases sz b m with z | z
        · exact .inl z
        · rcases hy b z with w | w
          · exact .inr w
          · exact .inl (q4.subset (List.mem_cons_of_mem _ w))
      refine ⟨a0 :: (gl ++ (gz' ++ gr)), by simp only [putP, hz]; exact .own (by rw [upd_ne hne0]; exact e) l rr, List.nodup_cons.mpr ⟨fun m => ?_, List.nodup_append.mpr ⟨n1.1, List.nodup_append.mpr ⟨nz, n2.2.1, fun b m c m' e => ?_⟩, fun b m c m' e => ?_⟩⟩, fun b m => ?_⟩
      · rcases List.mem_append.mp m with m | m
        · exact (List.nodup_cons.mp nd).1 (List.mem_append_left _ m)
        · rcases List.mem_append.mp m with m | m
          · rcases key a0 m with z | z
            · exact (List.nodup_cons.mp nd).1 (List.mem_append_right _ (List.mem_append_left _ z))
            · exact z List.mem_cons_self
          · exact (List.nodup_cons.mp nd).1 (List.mem_append_right _ (List.mem_append_right _ m))
      · subst e
        rcases key b m with z | z
        · exact n2.2.2 b z b m' rfl
        · exact z (List.mem_cons_of_mem _ (List.mem_append_right _ (List.mem_append_right _ m')))
      · subst e
        rcases List.mem_append.mp m' with m' | m'
        · rcases key b m' with z | z
          · exact n1.2.2 b m b (List.mem_append_left _ z) rfl
          · exact z (List.mem_cons_of_mem _ (List.mem_append_left _ m))
        · exact n1.2.2 b m b (List.mem_append_right _ m') rfl
      · rcases List.mem_cons.mp m with rfl | m
        · exact .inl List.mem_cons_self
        · rcases List.mem_append.mp m with m | m
          · exact .inl (List.mem_cons_of_mem _ (List.mem_append_left _ m))
          · rcases List.mem_append.mp m with m | m
            · rcases sz b m with z | z
              · exact .inl (List.mem_cons_of_mem _ (List.mem_append_right _ (List.mem_append_left _ z)))
              · exact .inr z
            · exact .inl (List.mem_cons_of_mem _ (List.mem_append_right _ (List.mem_append_right _ m)))
  | [], .d _, _, _, _, _, h => by simp [getP] at h
  | [], .ref _, _, _, _, _, h => by simp [getP] at h
  | [], .fn _, _, _, _, _, h => by simp [getP] at h
  | [], .scr _, _, _, _, _, h => by simp [getP] at h
  | [], .dic _ _, _, _, _, _, h => by simp [getP] at h
  | _ :: _, .d _, _, _, _, _, h => by simp [getP] at h
  | _ :: _, .ref _, _, _, _, _, h => by simp [getP] at h
  | _ :: _, .fn _, _, _, _, _, h => by simp [getP] at h
  | _ :: _, .scr _, _, _, _, _, h => by simp [getP] at h
  | _ :: _, .dic _ _, _, _, _, _, h => by simp [getP] at h
theorem addrP_ext {g : List Addr} (hk : ∀ b ∈ g, ∀ o, H b = some o → H' b = some o) : ∀ {p : List Nat} {x : SV} {v : V} {xs : List SV} {g0 : List Addr}, (∀ b ∈ g0, b ∈ g) → Rs K mg H A F x v g0 → getP p x = some xs → addrP H' p v = addrP H p v
  | [], .own zs, _, xs, g0, hs, r, h => by
    cases r with
    | own e l r => rfl
  | j :: p, .own zs, _, xs, g0, hs, r, h => by
    simp only [getP, Option.bind_eq_some_iff] at h
    obtain ⟨z, hz, h⟩ := h
    cases r with
    | own e l r =>
      rename_i a0 vs g1
      obtain ⟨v, gl, gz, gr, h1, h2, rfl, _⟩ := RsL.at' r hz
      simp only [addrP, e, hk a0 (hs a0 List.mem_cons_self) _ e, h1, Option.bind_some]
      exact addrP_ext hk (fun b m => hs b (List.mem_cons_of_mem _ (List.mem_append_right _ (List.mem_append_left _ m)))) h2 h
  | [], .d _, _, _, _, _, _, h => by simp [getP] at h
  | [], .ref _, _, _, _, _, _, h => by simp [getP] at h
  | [], .fn _, _, _, _, _, _, h => by simp [getP] at h
  | [], .scr _, _, _, _, _, _, h => by simp [getP] at h
  | [], .dic _ _, _, _, _, _, _, h => by simp [getP] at h
  | _ :: _, .d _, _, _, _, _, _, h => by simp [getP] at h
  | _ :: _, .ref _, _, _, _, _, _, h => by simp [getP] at h
  | _ :: _, .fn _, _, _, _, _, _, h => by simp [getP] at h
  | _ :: _, .scr _, _, _, _, _, _, h => by simp [getP] at h
  | _ :: _, .dic _ _, _, _, _, _, _, h => by simp [getP] at h
theorem getP_app : ∀ {p : List Nat} {x : SV} {xs zs : List SV} {j : Nat}, getP p x = some xs → xs[j]? = some (.own zs) → getP (p ++ [j]) x = some zs
  | [], .own ys, xs, zs, j, h, e => by
    simp only [getP, Option.some.injEq] at h
    subst h
    simp [getP, e]
  | i :: p, .own ys, xs, zs, j, h, e => by
    simp only [getP, Option.bind_eq_some_iff] at h
    obtain ⟨z, hz, h⟩ := h
    show (ys[i]?).bind (getP (p ++ [j])) = some zs
    rw [hz]
    exact getP_app h e
  | [], .d _, _, _, _, h, _ => by simp [getP] at h
  | [], .ref _, _, _, _, h, _ => by simp [getP] at h
  | [], .fn _, _, _, _, h, _ => by simp [getP] at h
  | [], .scr _, _, _, _, h, _ => by simp [getP] at h
  | [], .dic _ _, _, _, _, h, _ => by simp [getP] at h
  | _ :: _, .d _, _, _, _, h, _ => by simp [getP] at h
  | _ :: _, .ref _, _, _, _, h, _ => by simp [getP] at h
  | _ :: _, .fn _, _, _, _, h, _ => by simp [getP] at h
  | _ :: _, .scr _, _, _, _, h, _ => by simp [getP] at h
  | _ :: _, .dic _ _, _, _, _, h, _ => by simp [getP] at h
theorem addrP_app : ∀ {p : List Nat} {v : V} {a : Addr} {us : List V} {j : Nat} {b : Addr}, addrP H p v = some a → H a = some (.lst us) → us[j]? = some (.ref b) → addrP H (p ++ [j]) v = some b
  | [], .ref c, a, us, j, b, h, e, q => by
    simp only [addrP, Option.some.injEq] at h
    subst h
    simp [addrP, e, q]
  | i :: p, .ref c, a, us, j, b, h, e, q => by
    simp only [addrP] at h
    show addrP H (i :: (p ++ [j])) (.ref c) = some b
    simp only [addrP]
    split at h
    · rename_i vs hc
      simp only [Option.bind_eq_some_iff] at h ⊢
      obtain ⟨w, hw, h⟩ := h
      exact ⟨w, hw, addrP_app h e q⟩
    · cases h
  | [], .non, _, _, _, _, h, _, _ => by simp [addrP] at h
  | _, .int _, _, _, _, _, h, _, _ => by cases ‹List Nat› <;> simp [addrP] at h
  | _, .bl _, _, _, _, _, h, _, _ => by cases ‹List Nat› <;> simp [addrP] at h
  | _, .str _, _, _, _, _, h, _, _ => by cases ‹List Nat› <;> simp [addrP] at h
  | _ :: _, .non, _, _, _, _, h, _, _ => by simp [addrP] at h
end
end VL

end
section
set_option Elab.async false
set_option linter.all false
set_option maxRecDepth 100000
/-! VL12: places of lists; stores into them, append, pop. -/
namespace VL
open PySem PySem.Spec PyProof.Rows L2

/-- where a list lies: within slot i's own, by a path; the shared list n -/
inductive Lo where
  | sl (i : Nat) (p : List Nat)
  | st (n : Nat)
def Lo.get (ρ : Rho) (S : Sto) : Lo → Option (List SV)
  | .sl i p => match ρ[i]? with
    | some (some x) => getP p x
    | _ => none
  | .st n => S[n]?
def Lo.put (ρ : Rho) (S : Sto) (ys : List SV) : Lo → Option (Rho × Sto)
  | .sl i p => match ρ[i]? with
    | some (some x) => some (ρ.set i (some (putP p ys x)), S)
    | _ => none
  | .st n => if ys.all noOwn then some (ρ, S.set n ys) else none
def LoA (A : List Addr) (σ : L2.St) (H : Hp) : Lo → Option Addr
  | .sl i p => match σ[i]? with
    | some (some v) => addrP H p v
    | _ => none
  | .st n => A[n]?
section
variable {C : Ct} {ρ ρ' : Rho} {S S' : Sto} {A A' : List Addr} {G : List (List Addr)} {σ : L2.St} {H H' : Hp} {l : Lo} {xs ys : List SV} {a : Addr} {us ws : List V} {gn : List Addr}
theorem Sim.lget (I : Sim C ρ S A G σ H) (h : l.get ρ S = some xs) : ∃ a us gx, LoA A σ H l = some a ∧ H a = some (.lst us) ∧ us.length ≤ sizeLine ∧ RsL C.K C.mg H A (Fs C A G) xs us gx ∧ gx.Nodup ∧ a ∉ gx ∧ a ∈ A ++ G.flatten ∧ (∀ b ∈ gx, b ∈ G.flatten) ∧ ∀ n, l = .st n → gx = [] := by
  cases l with
  | sl i p =>
    simp only [Lo.get] at h
    split at h
    · rename_i x hx
      obtain ⟨v, g, e1, r, sb⟩ := I.slots i x hx
      obtain ⟨a, us, gx, q1, q2, q3, q4, q5, _⟩ := Rs.path r h
      have nd : g.Nodup := by
        have n := (List.nodup_append.mp I.nd).2.1
        cases hG : G[i]? with
        | none => rw [hG] at sb; rw [List.sublist_nil.mp sb]; exact List.nodup_nil
        | some l => rw [hG] at sb; exact ((List.pairwise_flatten.mp n).1 l (List.mem_of_getElem? hG)).sublist sb
      have nd2 := List.nodup_cons.mp (nd.sublist q4)
      exact ⟨a, us, gx, by simp only [LoA, e1]; exact q1, q2, q3, q5, nd2.2, nd2.1, List.mem_append_right _ (getD_mem (sb.subset (q4.subset List.mem_cons_self))), fun b m => getD_mem (sb.subset (q4.subset (List.mem_cons_of_mem _ m))), fun n e => by cases e⟩
    · cases h
  | st n =>
    obtain ⟨a, vs, e1, e2, l, r⟩ := I.sto n xs h
    exact ⟨a, vs, [], e1, e2, l, r, List.nodup_nil, by simp, List.mem_append_left _ (List.mem_of_getElem? e1), (fun b m => by cases m), fun _ _ => rfl⟩
theorem LoA.ext (I : Sim C ρ S A G σ H) (e : Ext A H A' H') (h : l.get ρ S = some xs) (ha : LoA A σ H l = some a) : LoA A' σ H' l = some a := by
  cases l with
  | sl i p =>
    simp only [Lo.get] at h
    split at h
    · rename_i x hx
      obtain ⟨v, g, e1, r, sb⟩ := I.slots i x hx
      simp only [LoA, e1] at ha ⊢
      rw [addrP_ext (g := g) (fun b m o q => e.keep b o q fun z => (List.nodup_append.mp I.nd).2.2 b z b (getD_mem (sb.subset m)) rfl) (fun b m => m) r h]
      exact ha
    · cases h
  | st n => exact prefix_get e.pre n a ha
theorem Lo.get_ext (h : l.get ρ S = some xs) (hl : S.length ≤ S'.length) : ∃ ys, l.get ρ S' = some ys := by
  cases l with
  | sl i p => exact ⟨xs, h⟩
  | st n =>
    have := (List.getElem?_eq_some_iff.mp h).1
    exact ⟨S'[n]'(by omega), List.getElem?_eq_getElem (by omega)⟩
/-- a list's contents are put anew; gn: new lists that come in -/
theorem Sim.lput (I : Sim (C.pr fun a => C.Pr a ∨ a ∈ gn) ρ S A G σ H) (ngn : gn.Nodup) (h0 : ∀ b ∈ gn, C.E0 b = none) (hp : ∀ b ∈ gn, ¬ C.Pr b) (hx : l.get ρ S = some xs) (ha : LoA A σ H l = some a) (hu : H a = some (.lst us)) (lw : ws.length ≤ sizeLine) (hput : l.put ρ S ys = some (ρ', S'))
    (hc : ∀ gx, RsL C.K C.mg H A (Fs (C.pr fun a => C.Pr a ∨ a ∈ gn) A G) xs us gx → gx.Nodup → (∀ b ∈ gx, b ∉ gn) → ∃ gy, RsL C.K C.mg H A (fun b => Fs (C.pr fun a => C.Pr a ∨ a ∈ gn) A G b) ys ws gy ∧ gy.Nodup ∧ ∀ b ∈ gy, b ∈ gx ∨ b ∈ gn) :
    ∃ G', Sim C ρ' S' A G' σ (upd H a (.lst ws)) ∧ ∀ b ∈ G'.flatten, b ∈ G.flatten ∨ b ∈ gn := by
  have hgn : ∀ b ∈ gn, b ∉ A ++ G.flatten ∧ H b ≠ none := fun b m => I.prot b (.inr m)
  have hFs : ∀ b, Fs (C.pr fun a => C.Pr a ∨ a ∈ gn) A G b ↔ Fs C A G b ∨ b ∈ gn := fun b => by
    constructor
    · rintro (z | z | z | z)
      · exact .inl (.inl z)
      · exact .inl (.inr (.inl z))
      · exact .inl (.inr (.inr z))
      · exact .inr z
    · rintro ((z | z | z) | z)
      · exact .inl z
      · exact .inr (.inl z)
      · exact .inr (.inr (.inl z))
      · exact .inr (.inr (.inr z))
  cases l with
  | st n =>
    simp only [Lo.put] at hput
    split at hput
    case isFalse => cases hput
    rename_i hno
    cases hput
    obtain ⟨a', us', e1, e2, l', r⟩ := I.sto n xs hx
    have e1' : A[n]? = some a := ha
    rw [e1'] at e1
    cases e1
    rw [hu] at e2
    cases e2
    obtain ⟨gy, ry, _, _⟩ := hc [] r List.nodup_nil fun b m => by cases m
    obtain rfl := RsL.noOwn ry hno
    have aA : a ∈ A := List.mem_of_getElem? e1'
    have hFa : Fs C A G a := .inl aA
    have hH : ∀ b o, H b = some o → ¬ Fs C A G b → upd H a (.lst ws) b = some o := fun b o q n => by rw [upd_ne (show b ≠ a from fun e => n (by rw [e]; exact hFa))]; exact q
    have tr : ∀ b, H b ≠ none → upd H a (.lst ws) b ≠ none := fun b h => by
      by_cases e : b = a
      · rw [e, upd_same]; simp
      · rw [upd_ne e]; exact h
    have I0 : Sim C ρ S A G σ H := I.prw fun a z => .inl z
    refine ⟨G, ⟨I0.pre, I0.lr, I0.lg, by simp [I0.ls], I0.nd, fun b m => tr b (I0.trk b m), fun b p => ⟨(I0.prot b p).1, tr b (I0.prot b p).2⟩, fun i x e => ?_, fun k zs e => ?_, fun b o e n => ?_, I0.fresh, I0.a0⟩, fun b m => .inl m⟩
    · obtain ⟨v, g, e1, r, sb⟩ := I0.slots i x e
      refine ⟨v, g, e1, Rs.mono (fun _ _ q => q) (fun a z => .inl z) hH _ _ _ (fun b m o q => ?_) r, sb⟩
      rw [upd_ne (show b ≠ a from fun e => (List.nodup_append.mp I.nd).2.2 a aA b (getD_mem (sb.subset m)) e.symm)]
      exact q
    · by_cases hk : k = n
      · subst hk
        have hlt : k < S.length := (List.getElem?_eq_some_iff.mp hx).1
        rw [List.getElem?_set_self hlt] at e
        cases e
        exact ⟨a, ws, e1', upd_same, lw, RsL.mono (fun _ _ q => q) (fun b z => .inl ((hFs b).mpr (.inl z))) (fun b o q n => by rw [upd_ne (show b ≠ a from fun e => n (by rw [e]; exact (hFs a).mpr (.inl hFa)))]; exact q) _ _ _ (fun b m => by cases m) ry⟩
      · rw [List.getElem?_set_ne (Ne.symm hk)] at e
        obtain ⟨b, vs, q1, q2, q3, q4⟩ := I0.sto k zs e
        refine ⟨b, vs, q1, ?_, q3, RsL.mono (fun _ _ q => q) (fun a z => .inl z) hH _ _ _ (fun a m => by cases m) q4⟩
        rw [upd_ne]
        · exact q2
        · intro e
          subst e
          have nA := (List.nodup_append.mp I.nd).1
          obtain ⟨p1, p2⟩ := List.getElem?_eq_some_iff.mp q1
          obtain ⟨p3, p4⟩ := List.getElem?_eq_some_iff.mp e1'
          rw [List.nodup_iff_pairwise_ne, List.pairwise_iff_getElem] at nA
          rcases Nat.lt_or_gt_of_ne hk with lt | lt
          · exact nA k n p1 p3 lt (p2.trans p4.symm)
          · exact nA n k p3 p1 lt (p4.trans p2.symm)
    · rw [upd_ne]
      · exact I0.frame b o e n
      · intro z
        subst z
        rcases I0.fresh b (List.mem_append_left _ aA) with q | q
        · exact n q
        · rw [q] at e; cases e
  | sl i p =>
    simp only [Lo.put] at hput
    simp only [Lo.get] at hx
    split at hput
    case h_2 => cases hput
    rename_i x hρ
    cases hput
    rw [hρ] at hx
    simp only at hx
    obtain ⟨v, g, e1, r, sb⟩ := I.slots i x hρ
    obtain ⟨a', us', gx, q1, q2, q3, q4, q5, q6⟩ := Rs.path r hx
    simp only [LoA, e1] at ha
    rw [q1] at ha
    cases ha
    rw [hu] at q2
    cases q2
    have gG : ∀ b ∈ g, b ∈ G.flatten := fun b m => getD_mem (sb.subset m)
    have nd : g.Nodup := by
      have n := (List.nodup_append.mp I.nd).2.1
      cases hG : G[i]? with
      | none => rw [hG] at sb; rw [List.sublist_nil.mp sb]; exact List.nodup_nil
      | some l => rw [hG] at sb; exact ((List.pairwise_flatten.mp n).1 l (List.mem_of_getElem? hG)).sublist sb
    have nd2 := List.nodup_cons.mp (nd.sublist q4)
    have ag : a ∈ g := q4.subset List.mem_cons_self
    have xg : ∀ b ∈ gx, b ∈ g := fun b m => q4.subset (List.mem_cons_of_mem _ m)
    obtain ⟨gy, ry, ny, sy⟩ := hc gx q5 nd2.2 fun b m z => (hgn b z).1 (List.mem_append_right _ (gG b (xg b m)))
    have aF : Fs (C.pr fun a => C.Pr a ∨ a ∈ gn) A G a := .inr (.inl (gG a ag))
    have yna : ∀ b ∈ gy, b ≠ a := fun b m e => by
      subst e
      rcases sy b m with z | z
      · exact nd2.1 z
      · exact (hgn b z).1 (List.mem_append_right _ (gG b ag))
    have ry' : RsL C.K C.mg (upd H a (.lst ws)) A (Fs (C.pr fun a => C.Pr a ∨ a ∈ gn) A G) ys ws gy := RsL.mono (fun _ _ q => q) (fun b z => .inl z) (fun b o q n => by rw [upd_ne (show b ≠ a from fun e => n (by rw [e]; exact aF))]; exact q) _ _ _ (fun b m o q => by rw [upd_ne (yna b m)]; exact q) ry
    obtain ⟨g', r', n', s'⟩ := q6.to (Fs (C.pr fun a => C.Pr a ∨ a ∈ gn) A G) (fun b z => .inl z) (fun b m => .inr (.inl (gG b m))) nd ys ws gy ry' lw ny fun b m => by
      rcases sy b m with z | z
      · exact .inr z
      · exact .inl fun w => (hgn b z).1 (List.mem_append_right _ (gG b w))
    have s2 : ∀ b ∈ g', b ∈ g ∨ b ∈ gn := fun b m => by
      rcases s' b m with z | z
      · exact .inl z
      · exact (sy b z).imp (xg b) id
    have E0g : ∀ b ∈ g, C.E0 b = none := fun b m => by
      rcases I.fresh b (List.mem_append_right _ (gG b m)) with z | z
      · exact absurd rfl ((List.nodup_append.mp I.nd).2.2 b (I.pre.subset z) b (gG b m))
      · exact z
    have J := (I.drop i).updP (D := a) (o := .lst ws) (.inr (sb.subset ag)) (E0g a ag)
    have J2 : Sim (C.pr fun b => C.Pr b ∨ b ∈ g') (ρ.set i none) S A (G.set i []) σ (upd H a (.lst ws)) := J.prc fun b z => by
      rcases z with z | z
      · exact .inl (.inl z)
      · rcases s2 b z with w | w
        · exact .inr (sb.subset w)
        · exact .inl (.inr w)
    have K := Sim.put (C := C) (i := i) (x := putP p ys x) (v := v) (g := g') J2 (Rs.mono (fun _ _ q => q) (fun b z => .inl (by
      rcases z with (z | z | z) | z
      · exact .inl z
      · exact .inr (.inl (flatten_set_nil.subset z))
      · exact .inr (.inr (.inl z))
      · rcases s2 b z with w | w
        · exact .inr (.inl (gG b w))
        · exact .inr (.inr (.inr w)))) (fun b o q n => q) _ _ _ (fun b m o q => q) r') n' (fun b m => (s2 b m).elim (E0g b) (h0 b)) (fun b m z => (s2 b m).elim (fun w => (I.prot b (.inl z)).1 (List.mem_append_right _ (gG b w))) fun w => hp b w z)
    rw [List.set_set, set_same e1] at K
    refine ⟨_, K, fun b m => ?_⟩
    rw [List.set_set] at m
    rcases flatten_set_sub m with z | z
    · exact .inl z
    · exact (s2 b z).imp (gG b) id
end
end VL

end
section
set_option Elab.async false
set_option linter.all false
set_option maxRecDepth 100000
/-! VL13: statements that change lists. -/
namespace VL
open PySem PySem.Spec PyProof.Rows L2
def LPost (C : Ct) (ρ : Rho) (A : List Addr) (G : List (List Addr)) (σ : L2.St) (H : Hp) (l : Lo) (S' : Sto) (v : V) (H' : Hp) : Prop :=
  ∃ A' a xs, v = .ref a ∧ Ext A H A' H' ∧ Sim C ρ S' A' G σ H' ∧ l.get ρ S' = some xs ∧ LoA A' σ H' l = some a
def tL (C : Ct) (W : WX) (f : Rho → Mo Lo) : TE := fun σ H Q => ∃ P ρ S A G, (∀ a, C.Pr a → P a) ∧ Sim (C.pr P) ρ S A G σ H ∧ EGood (LPost (C.pr P) ρ A G σ H) (XPost C ρ A G σ H) W σ Q (f ρ S)
def lVar (i : Nat) : Rho → Mo Lo := fun ρ S => match ρ[i]? with
  | some (some (.own _)) => some (.ok (.sl i []) S)
  | some (some (.ref n)) => if n < S.length then some (.ok (.st n) S) else none
  | _ => none
def Lo.sub (ρ : Rho) (S : Sto) (l : Lo) (k : Int) : Option Lo := (l.get ρ S).bind fun xs => (ixN xs.length k).bind fun j => match xs[j]? with
  | some (.own _) => (match l with
    | .sl i p => some (.sl i (p ++ [j]))
    | .st _ => none)
  | some (.ref m) => if m < S.length then some (.st m) else none
  | _ => none
def lIx (fl : Rho → Mo Lo) (f : Rho → Mo SV) : Rho → Mo Lo := fun ρ S => bindM (fl ρ S) fun l S1 => bindM (f ρ S1) fun x S2 => match x with
  | .d (.int k) => (l.sub ρ S2 k).map fun l' => .ok l' S2
  | _ => none
section
variable {X : Cx} {C : Ct} {W : WX} {kd ka kb : Kd} {e a b c : Expr} {es : List Expr} {pos : Pos} {f fa fb fc : Rho → Mo SV} {fl : Rho → Mo Lo} {fs : Rho → Mo (List SV)}
theorem l_var {i : Nat} (h : PE X e (tVar i)) : PE X e (tL C W (lVar i)) := by
  refine pe_imp h fun σ H Q ⟨P, ρ, S, A, G, hP, I, q⟩ => ?_
  unfold lVar at q
  split at q
  · rename_i xs hx
    obtain ⟨v, g, e1, r, sb⟩ := I.slots i _ hx
    cases r with
    | own e l r =>
      exact ⟨_, e1, q _ H ⟨A, _, xs, rfl, Ext.refl, I, by simp only [Lo.get, hx, getP], by simp only [LoA, e1, addrP]⟩⟩
  · rename_i n hx
    obtain ⟨v, g, e1, r, sb⟩ := I.slots i _ hx
    split at q
    · rename_i hn
      cases r with
      | ref hA => exact ⟨_, e1, q _ H ⟨A, _, S[n], rfl, Ext.refl, I, List.getElem?_eq_getElem hn, hA⟩⟩
    · exact q.elim
  · exact q.elim
theorem l_ix (hk : C.K = X.K) (ha : PE X a (tL C W fl)) (hb : PE X b (tV C W kb fb)) (hs : PlainIx b) : PE X (.Subscript a b pos) (tL C W (lIx fl fb)) := by
  refine pe_imp (pe_ix ix_seq ha hb hs) fun σ H Q ⟨P, ρ, S, A, G, hP, I, q⟩ => ⟨P, ρ, S, A, G, hP, I, EGood.step q (fun _ _ _ _ _ _ z => z) fun l S1 q v H1 p => ?_⟩
  obtain ⟨A1, a, xs, rfl, e1, I1, hget, hA⟩ := p
  refine ⟨P, ρ, S1, A1, G, hP, I1, EGood.step q (fun _ _ _ _ _ _ z => z.trans e1) fun x S2 q u H2 p => ?_⟩
  obtain ⟨A2, g2, e2, I2, r2⟩ := p
  split at q
  case h_2 => exact q.elim
  rename_i k
  have I2' : Sim (C.pr P) ρ S2 A2 G σ H2 := I2.pgw
  obtain rfl := r2.int
  cases hsub : l.sub ρ S2 k with
  | none => rw [hsub] at q; exact q.elim
  | some l' =>
  rw [hsub] at q
  have hA2 := LoA.ext I1 e2 hget hA
  unfold Lo.sub at hsub
  simp only [Option.bind_eq_some_iff] at hsub
  obtain ⟨ys, hy, j, hj, hsub⟩ := hsub
  obtain ⟨a', us, gx, q1, q2, q3, q4, q5, q6, q7, q8, q9⟩ := I2'.lget hy
  rw [hA2] at q1
  cases q1
  have hlen : us.length = ys.length := q4.length
  have fin : ∀ w, us[j]? = some w → Q w H2 → rIx X.K (.ref a) (.int k) H2 Q := fun w hw hq => .inl ⟨a, us, k, w, rfl, rfl, .inl (.inl q2), by unfold atI; rw [hlen, hj]; exact hw, hq⟩
  split at hsub
  · rename_i zs hz
    obtain ⟨w, gl, gz, gr, h1, h2, _, _⟩ := RsL.at' q4 hz
    split at hsub
    · rename_i i p
      cases hsub
      cases h2 with
      | @own b _ vs g e l r =>
        refine fin (.ref b) h1 (q _ H2 ⟨A2, b, zs, rfl, e1.trans e2, I2', ?_, ?_⟩)
        · simp only [Lo.get] at hy ⊢
          split at hy
          · exact getP_app hy hz
          · cases hy
        · simp only [LoA] at hA2 ⊢
          split at hA2
          · exact addrP_app hA2 q2 h1
          · cases hA2
    · cases hsub
  · rename_i m hz
    obtain ⟨w, gl, gz, gr, h1, h2, _, _⟩ := RsL.at' q4 hz
    split at hsub
    · rename_i hm
      cases hsub
      cases h2 with
      | ref hA => exact fin _ h1 (q _ H2 ⟨A2, _, S2[m], rfl, e1.trans e2, I2', List.getElem?_eq_getElem hm, hA⟩)
    · cases hsub
  · cases hsub
theorem RsL.setN {K : PySem.W.Frag} {mg : Str → Option Value} {H : Hp} {A : List Addr} {F : Addr → Prop} : ∀ {xs : List SV} {vs : List V} {g : List Addr} {j : Nat} {z : SV}, RsL K mg H A F xs vs g → xs[j]? = some z → ∃ gl gz gr, g = gl ++ (gz ++ gr) ∧ ∀ z' v' gz', Rs K mg H A F z' v' gz' → RsL K mg H A F (xs.set j z') (vs.set j v') (gl ++ (gz' ++ gr))
  | [], _, _, _, _, _, e => by simp at e
  | x :: xs, _, _, j, z, r, e => by
    cases r with
    | cons r1 r2 =>
      rename_i v vs g1 g2
      cases j with
      | zero => exact ⟨[], g1, g2, rfl, fun z' v' gz' r' => show RsL K mg H A F _ _ (gz' ++ g2) from .cons r' r2⟩
      | succ j =>
        obtain ⟨gl, gz, gr, h3, h4⟩ := RsL.setN r2 (by simpa using e)
        refine ⟨g1 ++ gl, gz, gr, by rw [h3, List.append_assoc], fun z' v' gz' r' => ?_⟩
        rw [List.append_assoc]
        exact .cons r1 (h4 z' v' gz' r')
theorem SGood.step2 {α V1 : Type} {ρ : Rho} {A A1 : List Addr} {G : List (List Addr)} {σ : L2.St} {H H1 : Hp} {D : Ends} {post1 : α → Sto → V1 → Hp → Prop} {m : Option (Res α)} {k : α → Sto → Option Fl} {Q1 : V1 → Hp → Prop} (e : Ext A H A1 H1) (q : SGood C W A G H D (bindS ρ m k))
    (h : ∀ x S', SGood C W A G H D (k x S') → ∀ v H', post1 x S' v H' → Q1 v H') : EGood post1 (XPost C ρ A1 G σ H1) W σ Q1 m := by
  cases m with
  | none => exact q
  | some r =>
    cases r with
    | ok x S' => exact h x S' q
    | exc c fs S' => exact fun cls d H' ⟨A', e', I, r⟩ => q A' G σ H' cls d (e.trans e').s I r
/-! ### x[i] = e -/
def sStore (fl : Rho → Mo Lo) (fi f : Rho → Mo SV) : Rho → Sto → Option Fl := fun ρ S => bindS ρ (f ρ S) fun y S1 => bindS ρ (fl ρ S1) fun l S2 => bindS ρ (fi ρ S2) fun k S3 => match k with
  | .d (.int k) => (l.get ρ S3).bind fun xs => (ixN xs.length k).bind fun j => (l.put ρ S3 (xs.set j y)).map fun p => .nx p.1 p.2
  | _ => none
/-- what comes of a list's change -/
theorem lput_ends {A A3 : List Addr} {G G' : List (List Addr)} {H H3 : Hp} {gn : List Addr} {a : Addr} {ws : List V} (e : Ext A H A3 H3) (hg : ∀ b ∈ gn, H b = none) (ha : a ∈ A3 ++ G.flatten) (hG : ∀ b ∈ G'.flatten, b ∈ G.flatten ∨ b ∈ gn) : ExtS A G H A3 G' (upd H3 a (.lst ws)) := by
  refine ⟨e.pre, fun b m => ?_, fun b o q n => ?_, fun b h => ?_⟩
  · rcases List.mem_append.mp m with m | m
    · exact (e.new b m).imp (List.mem_append_left _) id
    · exact (hG b m).imp (List.mem_append_right _) (hg b)
  · have hb : b ≠ a := fun z => by
      subst z
      rcases List.mem_append.mp ha with z | z
      · rcases e.new b z with w | w
        · exact n (List.mem_append_left _ w)
        · rw [q] at w; cases w
      · exact n (List.mem_append_right _ z)
    rw [upd_ne hb]
    exact e.keep b o q fun z => n (List.mem_append_left _ z)
  · by_cases hb : b = a
    · rw [hb, upd_same]; simp
    · rw [upd_ne hb]; exact e.there b h
theorem s_store {o i : Expr} {pos' : Pos} (hl : PE X o (tL C W fl)) (hi : PE X i (tV C W kb fb)) (he : PE X e (tV C W .fe f)) (hs : swapsWithSole [.Subscript o i pos'] e pos.line X.env = pure false := by rfl) (hw : swappedStores [.Subscript o i pos'] e X.env = pure none := by rfl)
    (h1 : (assignEach [.Subscript o i pos'] X.env).map (·.2) = [assign (.Subscript o i pos') X.env] := by rfl)
    (ha : ∀ v, assign (.Subscript o i pos') X.env v = (do
      let ov ← holding [v] (eval o X.env)
      let iv ← holding [v, ov] (eval i X.env)
      standAt pos'
      holding [v, ov, iv] (setItem ov iv v)
      release [v, ov, iv] []) := by intro _; rfl) : PS X (.Assign [.Subscript o i pos'] e pos) (tS C W (sStore fl fb f)) := by
  refine ps_imp (ps_asg he (L2.pg_sub hl hi set_list ha) hs hw h1) fun D σ H ⟨ρ, S, A, G, I, q⟩ => ⟨C.Pr, ρ, S, A, G, fun _ h => h, I, SGood.step q fun y S1 q v H1 p => ?_⟩
  obtain ⟨A1, gn, e1, I1, r1⟩ := p
  have I1 : Sim (C.pr fun b => C.Pr b ∨ b ∈ gn) ρ S1 A1 G σ H1 := I1
  refine ⟨fun b => C.Pr b ∨ b ∈ gn, ρ, S1, A1, G, fun _ h => .inl h, I1, SGood.step2 e1 q fun l S2 q v2 H2 p => ?_⟩
  obtain ⟨A2, a, xs2, rfl, e2, I2, hget, hA⟩ := p
  refine ⟨fun b => C.Pr b ∨ b ∈ gn, ρ, S2, A2, G, fun _ h => .inl h, I2, SGood.step2 (e1.trans e2) q fun k S3 q v3 H3 p => ?_⟩
  obtain ⟨A3, g3, e3, I3, r3⟩ := p
  have I3 : Sim (C.pr fun b => C.Pr b ∨ b ∈ gn) ρ S3 A3 G σ H3 := Sim.pgw (C := C.pr fun b => C.Pr b ∨ b ∈ gn) (kd := kb) I3
  split at q
  case h_2 => exact q.elim
  rename_i k
  obtain rfl := r3.int
  cases hx : l.get ρ S3 with
  | none => rw [hx] at q; exact q.elim
  | some xs =>
  rw [hx] at q
  simp only [Option.bind_some] at q
  cases hj : ixN xs.length k with
  | none => rw [hj] at q; exact q.elim
  | some j =>
  rw [hj] at q
  simp only [Option.bind_some] at q
  cases hput : l.put ρ S3 (xs.set j y) with
  | none => rw [hput] at q; exact q.elim
  | some p =>
  obtain ⟨ρ', S'⟩ := p
  rw [hput] at q
  have hA3 := LoA.ext I2 e3 hget hA
  obtain ⟨a', us, gx, q1, q2, q3, q4, q5, q6, q7, q8, q9⟩ := I3.lget hx
  rw [hA3] at q1
  cases q1
  have hlen : us.length = xs.length := q4.length
  have e13 := e2.trans e3
  have ry : Rk (C.pr C.Pr) .fe gn A3 G H H3 y v := Rk.ext (C := C.pr C.Pr) e13 r1
  obtain ⟨ry, ngn, hgn⟩ := ry
  have hj2 := ixN_seq hj
  have hxj : xs[j]? = some xs[j] := List.getElem?_eq_getElem hj2.2.1
  have nF : ∀ b ∈ gn, ¬ C.Pr b := fun b m z => (I.prot b z).2 (hgn b m).1
  obtain ⟨G', J, sG⟩ := Sim.lput (C := C) (ys := xs.set j y) (ws := us.set j v) I3 ngn (fun b m => I.e0 b (hgn b m).1) nF hx hA3 q2 (by rw [List.length_set]; exact q3) hput (fun gx r n d => by
    obtain ⟨gl, gz, gr, h3, h4⟩ := RsL.setN r hxj
    subst h3
    have n1 := List.nodup_append.mp n
    have n2 := List.nodup_append.mp n1.2.1
    have mgn : ∀ b, (Fs (C.pr fun a => C.Pr a ∨ a ∈ gn) A3 G b) → (Fs (C.pr C.Pr) A3 G b ∨ b ∈ gn) := fun b z => by
      rcases z with z | z | z | z
      · exact .inl (.inl z)
      · exact .inl (.inr (.inl z))
      · exact .inl (.inr (.inr z))
      · exact .inr z
    have rset : RsL C.K C.mg H3 A3 (Fs (C.pr fun a => C.Pr a ∨ a ∈ gn) A3 G) (xs.set j y) (us.set j v) (gl ++ (gn ++ gr)) := by
      exact h4 y v gn (Rs.mono (fun _ _ q => q) (fun b z => .inl (mgn b z)) (fun b o q n => q) _ _ _ (fun b m o q => q) ry)
    refine ⟨_, rset, List.nodup_append.mpr ⟨n1.1, List.nodup_append.mpr ⟨ngn, n2.2.1, fun b m c m' e => ?_⟩, fun b m c m' e => ?_⟩, fun b m => ?_⟩
    · subst e
      exact d b (List.mem_append_right _ (List.mem_append_right _ m')) m
    · subst e
      rcases List.mem_append.mp m' with m' | m'
      · exact d b (List.mem_append_left _ m) m'
      · exact n1.2.2 b m b (List.mem_append_right _ m') rfl
    · rcases List.mem_append.mp m with m | m
      · exact .inl (List.mem_append_left _ m)
      · rcases List.mem_append.mp m with m | m
        · exact .inr m
        · exact .inl (List.mem_append_right _ (List.mem_append_right _ m)))
  refine ⟨a, us, k, j, rfl, rfl, q2, by rw [hlen]; exact hj, ?_⟩
  exact q _ _ _ _ (lput_ends (e1.trans e13) (fun b m => (hgn b m).1) q7 sG) J
/-! ### x.append(e) -/
def sAppend (fl : Rho → Mo Lo) (fs : Rho → Mo (List SV)) : Rho → Sto → Option Fl := fun ρ S => bindS ρ (fl ρ S) fun l S1 => bindS ρ (fs ρ S1) fun ys S2 => match ys with
  | [y] => (l.get ρ S2).bind fun xs => if xs.length < sizeLine then (l.put ρ S2 (xs ++ [y])).map fun p => .nx p.1 p.2 else none
  | _ => none
theorem RsL.lref {K : PySem.W.Frag} {H : Hp} {a : Addr} {us : List V} (h : H a = some (.lst us)) : tyV K "list" (.ref a) H := .inl ⟨rfl, us, .inl (.inl h)⟩
theorem s_append {o e : Expr} {es : List Expr} {apos cpos : Pos} (hl : PE X o (tL C W fl)) (ha : PA X (e :: es) (tVs C W .fe fs)) (hs : swapsWith (.Call (.Attribute o "append" apos) (e :: es) [] cpos) none pos.line X.env = pure false := by rfl)
    (hbase : attributeBase o "append" X.env (eval o X.env) = eval o X.env := by rfl)
    (hfew : ((backTo cpos (starEach (e :: es) X.env)).all (fun x => !x.1) && (backToKw cpos (keywordEach [] X.env)).all (fun x => x.1.isSome)
      && decide ((e :: es).length + ([] : List Keyword).length + (if ([] : List Keyword).isEmpty then 0 else 1) < 30)) = true := by rfl)
    (hline : (apos.endLine == cpos.line) = true := by rfl) (hst : starEach (e :: es) X.env = (false, eval e X.env) :: starEach es X.env := by rfl) (hplain : (backTo cpos (starEach es X.env)).any (·.1) = false := by rfl) :
    PS X (.Expr (.Call (.Attribute o "append" apos) (e :: es) [] cpos) pos) (tS C W (sAppend fl fs)) := by
  refine ps_imp (ps_expr (pe_bm PySem.F.plainAttrs_list PySem.F.slot_list_append PySem.F.type_list_append mt_append hl ha hbase hfew hline hst hplain) hs) fun D σ H ⟨ρ, S, A, G, I, q⟩ => ⟨C.Pr, ρ, S, A, G, fun _ h => h, I, SGood.step q fun l S2 q v2 H2 p => ?_⟩
  obtain ⟨A2, a, xs2, rfl, e2, I2, hget, hA⟩ := p
  obtain ⟨a', us0, gx0, w1, w2, _⟩ := I2.lget hget
  rw [hA] at w1
  cases w1
  refine ⟨RsL.lref w2, C.Pr, ρ, S2, A2, G, fun _ h => h, I2, SGood.step2 e2 q fun ys S3 q v3 H3 p => ?_⟩
  obtain ⟨A3, gn, e3, I3, r3⟩ := p
  have I3 : Sim (C.pr fun b => C.Pr b ∨ b ∈ gn) ρ S3 A3 G σ H3 := I3
  split at q
  case h_2 => exact q.elim
  rename_i y
  cases hx : l.get ρ S3 with
  | none => rw [hx] at q; exact q.elim
  | some xs =>
  rw [hx] at q
  simp only [Option.bind_some] at q
  split at q
  case isFalse => exact q.elim
  rename_i hlt
  cases hput : l.put ρ S3 (xs ++ [y]) with
  | none => rw [hput] at q; exact q.elim
  | some p =>
  obtain ⟨ρ', S'⟩ := p
  rw [hput] at q
  have hA3 := LoA.ext I2 e3 hget hA
  obtain ⟨a', us, gx, q1, q2, q3, q4, q5, q6, q7, q8, q9⟩ := I3.lget hx
  rw [hA3] at q1
  cases q1
  have hlen : us.length = xs.length := q4.length
  obtain ⟨ry, ngn, hgn⟩ := r3
  cases ry with
  | @cons _ _ v _ gn _ ry rn =>
  cases rn
  simp only [List.append_nil] at ngn hgn I3 ry
  have hgn0 : ∀ b ∈ gn, H b = none := fun b m => none_back e2 (hgn b m).1
  have nF : ∀ b ∈ gn, ¬ C.Pr b := fun b m z => (I.prot b z).2 (hgn0 b m)
  obtain ⟨G', J, sG⟩ := Sim.lput (C := C) (ys := xs ++ [y]) (ws := us ++ [v]) I3 ngn (fun b m => I.e0 b (hgn0 b m)) nF hx hA3 q2 (by rw [List.length_append, List.length_singleton]; omega) hput (fun gx r n d => by
    have mgn : ∀ b, (Fs (C.pr fun a => C.Pr a ∨ a ∈ gn) A3 G b) → (Fs (C.pr C.Pr) A3 G b ∨ b ∈ gn) := fun b z => by
      rcases z with z | z | z | z
      · exact .inl (.inl z)
      · exact .inl (.inr (.inl z))
      · exact .inl (.inr (.inr z))
      · exact .inr z
    have ryF : Rs C.K C.mg H3 A3 (Fs (C.pr fun a => C.Pr a ∨ a ∈ gn) A3 G) y v gn := Rs.mono (fun _ _ q => q) (fun b z => .inl (mgn b z)) (fun b o q n => q) _ _ _ (fun b m o q => q) ry
    have r1 : RsL C.K C.mg H3 A3 (Fs (C.pr fun a => C.Pr a ∨ a ∈ gn) A3 G) [y] [v] gn := by
      have := RsL.cons ryF RsL.nil
      rw [List.append_nil] at this
      exact this
    exact ⟨gx ++ gn, RsL.app r r1, List.nodup_append.mpr ⟨n, ngn, fun b m c m' e => d b m (by rw [e]; exact m')⟩, fun b m => List.mem_append.mp m⟩)
  exact ⟨a, us, v, rfl, rfl, q2, by omega, q _ _ _ _ (lput_ends (e2.trans e3) hgn0 q7 sG) J⟩
/-! ### y = x.pop(), x.pop() -/
def popL (fl : Rho → Mo Lo) (k : Rho → Sto → SV → Option Fl) : Rho → Sto → Option Fl := fun ρ S => bindS ρ (fl ρ S) fun l S1 => (l.get ρ S1).bind fun xs => (xs[xs.length - 1]?).bind fun y => if noOwn y then (l.put ρ S1 xs.dropLast).bind fun p => k p.1 p.2 y else none
def sPop (fl : Rho → Mo Lo) (i : Nat) : Rho → Sto → Option Fl := popL fl fun ρ S y => some (.nx (ρ.set i (some y)) S)
def sPopD (fl : Rho → Mo Lo) : Rho → Sto → Option Fl := popL fl fun ρ S _ => some (.nx ρ S)
theorem RsL.dropLast {K : PySem.W.Frag} {mg : Str → Option Value} {H : Hp} {A : List Addr} {F : Addr → Prop} : ∀ {xs : List SV} {vs : List V} {g : List Addr}, RsL K mg H A F xs vs g → ∃ g', RsL K mg H A F xs.dropLast vs.dropLast g' ∧ g'.Sublist g
  | [], _, _, r => by cases r; exact ⟨[], .nil, List.Sublist.refl _⟩
  | [x], _, _, r => by
    cases r with
    | cons r1 r2 => cases r2; exact ⟨[], .nil, List.nil_sublist _⟩
  | x :: y :: xs, _, _, r => by
    cases r with
    | cons r1 r2 =>
      obtain ⟨g', r', s⟩ := RsL.dropLast r2
      cases r2 with
      | cons r3 r4 => exact ⟨_, .cons r1 r', List.Sublist.append_left s _⟩
theorem t_pop {k : Rho → Sto → SV → Option Fl} {D : Ends} {σ : L2.St} {H : Hp} {Q : VK}
    (hQ : ∀ (ρ' : Rho) (S' : Sto) (y : SV) (A' : List Addr) (G' : List (List Addr)) (v : V) (H' : Hp) (A : List Addr) (G : List (List Addr)) (H0 : Hp), SGood C W A G H0 D (k ρ' S' y) → ExtS A G H0 A' G' H' → Sim C ρ' S' A' G' σ H' → Rs C.K C.mg H' A' (Fs C A' G') y v [] → Q v H')
    (h : tS C W (popL fl k) D σ H) : tBM0 C.K "list" rPop (tL C W fl) σ H Q := by
  obtain ⟨ρ, S, A, G, I, q⟩ := h
  refine ⟨C.Pr, ρ, S, A, G, fun _ h => h, I, SGood.step q fun l S2 q v2 H2 p => ?_⟩
  obtain ⟨A2, a, xs, rfl, e2, I2, hx, hA⟩ := p
  have I2 : Sim C ρ S2 A2 G σ H2 := I2
  rw [hx] at q
  simp only [Option.bind_some] at q
  obtain ⟨a', us, gx, q1, q2, q3, q4, q5, q6, q7, q8, q9⟩ := I2.lget hx
  rw [hA] at q1
  cases q1
  have hlen : us.length = xs.length := q4.length
  cases hy : xs[xs.length - 1]? with
  | none => rw [hy] at q; exact q.elim
  | some y =>
  rw [hy] at q
  simp only [Option.bind_some] at q
  split at q
  case isFalse => exact q.elim
  rename_i hno
  cases hput : l.put ρ S2 xs.dropLast with
  | none => rw [hput] at q; exact q.elim
  | some p =>
  obtain ⟨ρ', S'⟩ := p
  rw [hput] at q
  simp only [Option.bind_some] at q
  obtain ⟨v, gl, gz, gr, h1, h2, _, _⟩ := RsL.at' q4 hy
  obtain rfl := h2.noOwn hno
  have I3 : Sim (C.pr fun b => C.Pr b ∨ b ∈ ([] : List Addr)) ρ S2 A2 G σ H2 := I2.prc fun b h => h.elim id fun m => by cases m
  obtain ⟨G', J, sG⟩ := Sim.lput (C := C) (ys := xs.dropLast) (ws := us.dropLast) I3 List.nodup_nil (fun b m => by cases m) (fun b m => by cases m) hx hA q2 (by rw [List.length_dropLast]; omega) hput (fun gx r n d => by
    obtain ⟨g', r', s⟩ := RsL.dropLast r
    exact ⟨g', r', n.sublist s, fun b m => .inl (s.subset m)⟩)
  refine ⟨RsL.lref q2, a, us, v, rfl, rfl, q2, by rw [hlen]; exact h1, ?_⟩
  refine hQ _ _ _ _ _ _ _ A G H q (lput_ends e2 (fun b m => by cases m) q7 sG) J (Rs.mono (fun _ _ q => q) (fun b z => ?_) (fun b o q n => ?_) _ _ _ (fun b m => by cases m) h2)
  · rcases z with z | z | z
    · exact .inl (.inl z)
    · exact .inl (.inr (.inl ((sG b z).elim id fun m => by cases m)))
    · exact .inl (.inr (.inr z))
  · rw [upd_ne (show b ≠ a from fun e => n (by
      subst e
      rcases List.mem_append.mp q7 with z | z
      · exact .inl z
      · exact .inr (.inl z)))]
    exact q
theorem s_pop {i : Nat} {x : Str} {o : Expr} {apos cpos pos' : Pos} (hk : C.K = X.K) (hN : X.N.Nodup) (hi : X.N[i]? = some x) (hx : Loc X.env.scope x) (hl : PE X o (tL C W fl)) (hs : swapsWith (.Call (.Attribute o "pop" apos) [] [] cpos) (some (.Name x pos')) pos.line X.env = pure false := by rfl)
    (hf : X.fn x = true ∨ X.env.scope.names.lookup x = some .local := by first | exact .inl rfl | exact .inr rfl | assumption)
    (hbase : attributeBase o "pop" X.env (eval o X.env) = eval o X.env := by rfl) (hline : (apos.endLine == cpos.line) = true := by rfl) :
    PS X (.Assign [.Name x pos'] (.Call (.Attribute o "pop" apos) [] [] cpos) pos) (tS C W (sPop fl i)) := by
  refine ps_imp (ps_set hN hi hx (pe_bm0 PySem.F.plainAttrs_list PySem.F.slot_list_pop PySem.F.type_list_pop mt_pop hl hbase hline) hs hf) fun D σ H h => ?_
  rw [← hk]
  refine t_pop (k := fun ρ S y => some (.nx (ρ.set i (some y)) S)) (fun ρ' S' y A' G' v H' A G H0 q e J r => ?_) h
  exact q _ _ _ _ e (J.putV r)
theorem s_popD {o : Expr} {apos cpos : Pos} (hk : C.K = X.K) (hl : PE X o (tL C W fl)) (hs : swapsWith (.Call (.Attribute o "pop" apos) [] [] cpos) none pos.line X.env = pure false := by rfl)
    (hbase : attributeBase o "pop" X.env (eval o X.env) = eval o X.env := by rfl) (hline : (apos.endLine == cpos.line) = true := by rfl) :
    PS X (.Expr (.Call (.Attribute o "pop" apos) [] [] cpos) pos) (tS C W (sPopD fl)) := by
  refine ps_imp (ps_expr (pe_bm0 PySem.F.plainAttrs_list PySem.F.slot_list_pop PySem.F.type_list_pop mt_pop hl hbase hline) hs) fun D σ H h => ?_
  rw [← hk]
  exact t_pop (k := fun ρ S y => some (.nx ρ S)) (fun ρ' S' y A' G' v H' A G H0 q e J r => q _ _ _ _ e J) h
end
end VL

end
section
set_option Elab.async false
set_option linter.all false
set_option maxRecDepth 100000
/-! VL14: a law's defs, its end. -/
namespace VL
open PySem PySem.Spec PyProof.Rows L2

/-- no name of a builtin is the module's own -/
structure Fr (mg : Str → Option Value) : Prop where
  len : mg "len" = none
  range : mg "range" = none
  isinstance : mg "isinstance" = none
  int : mg "int" = none
  bool : mg "bool" = none
  str : mg "str" = none
  tuple : mg "tuple" = none
  list : mg "list" = none
  abs : mg "abs" = none
  max : mg "max" = none
  min : mg "min" = none
  all : mg "all" = none
  any : mg "any" = none
  sum : mg "sum" = none
  sorted : mg "sorted" = none
  enumerate : mg "enumerate" = none
  zip : mg "zip" = none
  set : mg "set" = none
  dict : mg "dict" = none
  repr : mg "repr" = none
/-- a constant of the module -/
structure GlobC (K : PySem.W.Frag) (mg : Str → Option Value) (x : Str) (d : PyData) : Prop where
  ex : ∃ u v, mg x = some u ∧ RelV v u ∧ ∀ (H : Hp) (F : Addr → Prop), Dq K H F d v
section
variable {X : Cx} {C : Ct} {W : WX} {kd : Kd} {pos : Pos} {x : Str} {d : PyData}
theorem v_gc (hK : C.K = X.K) (G : GlobC X.K X.mg x d) (hg : Gl X x) (hd : (x == ("__debug__" : Str)) = false := by decide) : PE X (.Name x pos) (tV C W kd (eCon d)) := by
  obtain ⟨u, v, hm, r, q⟩ := G.ex
  exact v_glob hg hm r (by rw [hK]; exact q) hd
theorem v_fnD {P : Program} {w : World} {base : Heap} {k n : Nat} {F : List SV → Mo SV} (hM : C.mg = X.mg) (D : DefOk P w X.K X.mg base k x n F) (hg : Gl X x) (hd : (x == ("__debug__" : Str)) = false := by decide) : PE X (.Name x pos) (tV C W kd (eFn x)) := by
  obtain ⟨f, fd, ps, _, hm, _⟩ := D.ex
  exact v_fn hM hg hm hd
end
section
variable {P : Program} {w : World} {K : PySem.W.Frag} {mg : Str → Option Value} {base : Heap} {x qual : Str} {params : Arguments} {body : List Stmt} {scope : Scope} {f : Addr} {fd : FuncData} {N ps : List Str} {k : Nat} {fb : Rho → Sto → Option Fl}
theorem fn_vl2 (F : FunD K x qual params body scope [] [] f fd) (Sc : FnScope N ps scope) (hl : ps.length ≤ N.length)
    (hb : ∀ (cdv : Value) (A : Around) (outer : List Env) (s : Shared) (H : Hp) (E : XK), Room k (A.deeper (envOfC qual scope s.heap.objs.size f cdv)) → ∀ (E0 : Hp) (A0 : List Addr) (Pr : Addr → Prop),
      PSs (cxOf (L2.CX P w) P w K mg base N qual scope f cdv A outer s H E) body (tS ⟨K, mg, E0, A0, Pr⟩ (fun cls d _ H => E cls d H) fb)) : FnOk P w K mg base (L2.CX P w) (k + 1) f fd ps (spF K mg ps.length (runF N.length fb)) := by
  refine fn_vl F Sc hl fun cdv A outer s H E hr C hK hm => ?_
  obtain ⟨K', mg', E0, A0, Pr⟩ := C
  have hK : K' = K := hK
  have hm : mg' = mg := hm
  subst hK
  subst hm
  exact hb cdv A outer s H E hr E0 A0 Pr
theorem mk_def (F : FunD K x qual params body scope [] [] f fd) (hm : mg x = some (.ref f)) (Sc : FnScope N ps scope) (hl : ps.length ≤ N.length)
    (hbind : ∀ (kV doc pm : Value) (an : Option Addr) (cdv ct : Value) (us : List Value), us.length = ps.length → bindArgs (PySem.W.fnOf x qual params body scope .none kV doc pm an cdv ct) ⟨us, []⟩ = pure (ps.zip us))
    (hb : ∀ (cdv : Value) (A : Around) (outer : List Env) (s : Shared) (H : Hp) (E : XK), Room k (A.deeper (envOfC qual scope s.heap.objs.size f cdv)) → ∀ (E0 : Hp) (A0 : List Addr) (Pr : Addr → Prop),
      PSs (cxOf (L2.CX P w) P w K mg base N qual scope f cdv A outer s H E) body (tS ⟨K, mg, E0, A0, Pr⟩ (fun cls d _ H => E cls d H) fb)) : DefOk P w K mg base (k + 1) x ps.length (runF N.length fb) :=
  ⟨f, fd, ps, fn_vl2 F Sc hl hb, hm, F.kp, F.bindsN hbind⟩
theorem DefOk.mono {j k n : Nat} {Fn : List SV → Mo SV} (D : DefOk P w K mg base j x n Fn) (h : j ≤ k) : DefOk P w K mg base k x n Fn := by
  obtain ⟨f, fd, ps, F, hm, hk, hb⟩ := D.ex
  exact ⟨f, fd, ps, F.mono h, hm, hk, hb⟩
end
/-- the law's promise -/
theorem spF_law {K : PySem.W.Frag} {mg : Str → Option Value} {Fn : List SV → Mo SV} {H : Hp} {a : Addr} {ns : List Int} {S' : Sto} (hl : ns.length ≤ sizeLine) (hO : Only H) (hS : SqL K H a (ns.map V.int)) (h : Fn [.scr ns] [] = some (.ok (.d (.bool true)) S')) :
    spF K mg 1 Fn [.ref a] H (fun v _ => v = .bl true) fun _ _ _ => False := by
  refine ⟨rfl, ⟨K, mg, H, [], fun _ => False⟩, [.scr ns], [], rfl, rfl, rfl, ⟨?_, rfl, List.nodup_nil, (fun b m => by cases m), (fun b m => False.elim m), fun n xs e => by cases n <;> cases e⟩, ?_⟩
  · refine .cons (g := []) (g' := []) ?_ .nil
    have nf : ¬ (a ∈ ([] : List Addr) ∨ False) := fun z => by rcases z with z | z <;> cases z
    rcases hS with hS | hS
    · rcases hS with hS | ⟨o, hS⟩
      · rcases hO a with e | ⟨o, xs, e⟩
        · rw [hS] at e; cases e
        · rw [hS] at e; cases e
      · exact .scr hS nf hl
    · exact .scrK (.inr hS) hl
  · rw [h]
    rintro v H' ⟨A', g, R, r⟩
    obtain ⟨_, r⟩ := r.nil_d
    cases r
    rfl
theorem walk_vl {l : PySem.W.OpenLaw} {n k : Nat} {q : Program} {loose : List Str} {XP : (Str → Option Value) → Heap → Prop} {YP : World → Heap → Prop} {d : DefRec} {x : Str} {Fn : List SV → Mo SV}
    (hn : l.most = some n) (hn2 : n ≤ sizeLine) (hdf : d.params.defaults = []) (hr : Room k callerA)
    (hlaw : ∀ ns : List Int, ns.length ≤ n → (∀ z ∈ ns, Builtin.Int.intBits z ≤ 1048576) → ∃ S, Fn [.scr ns] [] = some (.ok (.d (.bool true)) S))
    (F : ∀ (w : World) (mg : Str → Option Value) (fa : Addr) (h : Heap), YP w h → h.Ns mainGlobals mg → mg d.name = some (.ref fa) →
      ∃ (K : PySem.W.Frag) (fd : FuncData), K.In h ∧ (∀ (s : Shared) (u : Value), BindsTo s fd ⟨[u], []⟩ [(x, u)]) ∧
        ∀ base : Heap, K.In base → base.Ns mainGlobals mg → FnOk l.prog w K mg base (L2.CX l.prog w) k fa fd [x] (spF K mg 1 Fn)) :
    PySem.W.WalkO q loose XP YP l.row.toRowW d [] (fun f vs => PySem.call f vs) := by
  refine Att.attach_callB hn hdf fun w s₀ s₁ mg mb fa o pm cd doc a vs ns G Y ho hd hcd hmg hobj hints hlen hbits hg => ?_
  obtain ⟨K, fd, KX, hb, hF⟩ := F w mg fa _ Y G.T.g hmg
  obtain ⟨S, hS⟩ := hlaw ns hlen hbits
  exact law_call KX G.T.g G.T.b G.T.builtins G.T.nolimit hg hobj hints (Nat.le_trans hlen hn2) hr hF hb (fun H hO hs => spF_law (Nat.le_trans hlen hn2) hO hs hS) fun H e s' z => by
    obtain ⟨_, _, _, _, _, _, _, _, _, _, _, _, z⟩ := z
    exact z
abbrev FnP (K : PySem.W.Frag) (x : Str) (st : Stmt) (f : Addr) (fd : FuncData) : Prop := FunD K x x (defArgs st) (defBody st) (defScope st) [] [] f fd
end VL

end
section
set_option Elab.async false
set_option linter.all false
set_option maxRecDepth 100000
/-! VL15: short names for what a program prints. -/
namespace VL
open PySem PySem.Spec PyProof.Rows L2
section
variable {X : Cx} {C : Ct} {W : WX} {kd ka kb : Kd} {a b c e : Expr} {es : List Expr} {pos : Pos} {f fa fb fc : Rho → Mo SV} {fs : Rho → Mo (List SV)}
theorem u65 {k : Nat} {A : Around} (r : Room k A) : A.units + 65 < cLine := by have := r.un; omega
theorem t_lt (hk : C.K = X.K) (hu : X.A.units + 64 < cLine) (ha : PE X a (tV C W ka fa)) (hb : PE X b (tV C W kb fb)) : PT X (.Compare a [.Lt] [b] pos) (tTs C W (bB (eBin (cB gLt) fa fb))) := t_cmp (op_lt.or (op_ltD hu)) (hk ▸ c_lt) ha hb (nomark _)
theorem t_le (ha : PE X a (tV C W ka fa)) (hb : PE X b (tV C W kb fb)) : PT X (.Compare a [.LtE] [b] pos) (tTs C W (bB (eBin (cB gLe) fa fb))) := t_cmp op_le (c_le (K := C.K)) ha hb (nomark _)
theorem t_gt (ha : PE X a (tV C W ka fa)) (hb : PE X b (tV C W kb fb)) : PT X (.Compare a [.Gt] [b] pos) (tTs C W (bB (eBin (cB gGt) fa fb))) := t_cmp op_gt (c_gt (K := C.K)) ha hb (nomark _)
theorem t_ge (ha : PE X a (tV C W ka fa)) (hb : PE X b (tV C W kb fb)) : PT X (.Compare a [.GtE] [b] pos) (tTs C W (bB (eBin (cB gGe) fa fb))) := t_cmp op_ge (c_ge (K := C.K)) ha hb (nomark _)
theorem t_eq (hk : C.K = X.K) (hu : X.A.units + 64 < cLine) (ha : PE X a (tV C W ka fa)) (hb : PE X b (tV C W kb fb)) : PT X (.Compare a [.Eq] [b] pos) (tTs C W (bB (eBin (cB gEq) fa fb))) := t_cmp (op_eqD hu) (hk ▸ c_eq) ha hb (nomark _)
theorem t_ne (hk : C.K = X.K) (hu : X.A.units + 64 < cLine) (ha : PE X a (tV C W ka fa)) (hb : PE X b (tV C W kb fb)) : PT X (.Compare a [.NotEq] [b] pos) (tTs C W (bB (eBin (cB gNe) fa fb))) := t_cmp (op_neD hu) (hk ▸ c_ne) ha hb (nomark _)
theorem t_isN (ha : PE X a (tV C W ka fa)) (hb : PE X b (tV C W kb fb)) : PT X (.Compare a [.Is] [b] pos) (tTs C W (bB (eBin (cB gIsN) fa fb))) := t_cmp op_isN (c_isN (K := C.K)) ha hb (nomark _)
theorem t_notN (ha : PE X a (tV C W ka fa)) (hb : PE X b (tV C W kb fb)) : PT X (.Compare a [.IsNot] [b] pos) (tTs C W (bB (eBin (cB gNotN) fa fb))) := t_cmp op_notN (c_notN (K := C.K)) ha hb (nomark _)
theorem t_in (hk : C.K = X.K) (hu : X.A.units + 65 < cLine) (ha : PE X a (tV C W ka fa)) (hb : PE X b (tV C W kb fb)) (hm : behindInMarks .In b = false := by rfl) : PT X (.Compare a [.In] [b] pos) (tTs C W (bB (eBin (cB gIn) fa fb))) := t_cmp (op_inD hu) (hk ▸ c_in) ha hb hm
theorem t_notIn (hk : C.K = X.K) (hu : X.A.units + 65 < cLine) (ha : PE X a (tV C W ka fa)) (hb : PE X b (tV C W kb fb)) (hm : behindInMarks .NotIn b = false := by rfl) : PT X (.Compare a [.NotIn] [b] pos) (tTs C W (bB (eBin (cB gNotIn) fa fb))) := t_cmp (op_notInD hu) (hk ▸ c_notIn) ha hb hm
end
section
variable {X : Cx} {C : Ct} {W : WX} {kd ka kb : Kd} {e : Expr} {es : List Expr} {pos p : Pos} {fs : Rho → Mo (List SV)}
theorem boot_tuple' : bootBuiltins "tuple" = some (.type "tuple") := by decide +kernel
theorem boot_list' : bootBuiltins "list" = some (.type "list") := by decide +kernel
theorem boot_int' : bootBuiltins "int" = some (.type "int") := by decide +kernel
theorem boot_bool' : bootBuiltins "bool" = some (.type "bool") := by decide +kernel
theorem boot_str' : bootBuiltins "str" = some (.type "str") := by decide +kernel
theorem boot_len' : bootBuiltins "len" = some (.builtin "len") := by decide +kernel
theorem boot_abs' : bootBuiltins "abs" = some (.builtin "abs") := by decide +kernel
theorem boot_max' : bootBuiltins "max" = some (.builtin "max") := by decide +kernel
theorem boot_min' : bootBuiltins "min" = some (.builtin "min") := by decide +kernel
theorem boot_all' : bootBuiltins "all" = some (.builtin "all") := by decide +kernel
theorem boot_any' : bootBuiltins "any" = some (.builtin "any") := by decide +kernel
theorem boot_sum' : bootBuiltins "sum" = some (.builtin "sum") := by decide +kernel
end
/-- a, b, c = x, y, z -/
def sPar3 (i j l : Nat) (fs : Rho → Mo (List SV)) : Rho → Sto → Option Fl := fun ρ S => bindS ρ (fs ρ S) fun xs S1 => (frzs xs).bind fun ys => match ys with
  | [x, y, z] => some (.nx (((ρ.set i (some x)).set j (some y)).set l (some z)) S1)
  | _ => none
theorem new_notL {C : Ct} {P : Addr → Prop} {ρ : Rho} {S : Sto} {A A1 : List Addr} {G : List (List Addr)} {σ : L2.St} {H H1 : Hp} {g : List Addr} (I : Sim (C.pr P) ρ S A G σ H) {xs : List SV} {vs : List V} (r : RkL (C.pr P) .fe g A1 G H H1 xs vs) : ∀ a ∈ g, ¬ Fs (C.pr P) A1 G a := fun a m z => by
  obtain ⟨h0, _, hA⟩ := r.2.2 a m
  rcases z with z | z | z
  · exact hA z
  · exact I.trk a (List.mem_append_right _ z) h0
  · exact I.prTrk z h0
theorem s_par3 {X : Cx} {C : Ct} {W : WX} {i j l : Nat} {x y z : Str} {a b c : Expr} {px py pz pt pos : Pos} {kt k2 pt2} {fs : Rho → Mo (List SV)} (hc : X.calm = true) (hN : X.N.Nodup) (hi : X.N[i]? = some x) (hj : X.N[j]? = some y) (hl : X.N[l]? = some z) (hij : i ≠ j) (hil : i ≠ l) (hjl : j ≠ l)
    (hx : X.env.scope.names.lookup x = some .local) (hy : X.env.scope.names.lookup y = some .local) (hz : X.env.scope.names.lookup z = some .local) (ha : PA X [a, b, c] (tVs C W .fe fs))
    (hw : swappedStores [.Tuple [.Name x px, .Name y py, .Name z pz] kt pt] (.Tuple [a, b, c] k2 pt2) X.env = pure (some [x, y, z]))
    (hs : swapsWithSole [.Tuple [.Name x px, .Name y py, .Name z pz] kt pt] (.Tuple [a, b, c] k2 pt2) pos.line X.env = pure false := by rfl) :
    PS X (.Assign [.Tuple [.Name x px, .Name y py, .Name z pz] kt pt] (.Tuple [a, b, c] k2 pt2) pos) (tS C W (sPar3 i j l fs)) := by
  refine ps_imp (ps_par3 hc hN hi hj hl hij hil hjl hx hy hz ha hw hs) fun D σ H ⟨ρ, S, A, G, I, q⟩ => ⟨C.Pr, ρ, S, A, G, fun _ h => h, I, SGood.step q fun xs S1 q vs H1 p => ?_⟩
  obtain ⟨A1, g, e1, I1, r⟩ := p
  have I1' : Sim C ρ S1 A1 G σ H1 := Sim.prw (C := C) (P := fun a => C.Pr a ∨ a ∈ g) I1 fun a h => .inl h
  cases hf : frzs xs with
  | none => rw [hf] at q; exact q.elim
  | some ys =>
  rw [hf] at q
  simp only [Option.bind_some] at q
  have ry : RsL C.K C.mg H1 A1 (Fs C A1 G) ys vs [] := RkL.frz (C := C) r (new_notL (P := C.Pr) (S := S) I r) hf
  split at q
  case h_2 => exact q.elim
  rename_i x y z
  have hlen : vs.length = 3 := ry.length
  match vs, hlen with
  | [v1, v2, v3], _ =>
  obtain ⟨_, e1', r1⟩ := RsL.get1 (i := 0) ry rfl
  cases e1'
  obtain ⟨_, e2', r2⟩ := RsL.get1 (i := 1) ry rfl
  cases e2'
  obtain ⟨_, e3', r3⟩ := RsL.get1 (i := 2) ry rfl
  cases e3'
  exact ⟨v1, v2, v3, rfl, q _ _ _ _ e1.s (((I1'.putV r1).putV r2).putV r3)⟩
end VL

end
section
set_option Elab.async false
set_option linter.all false
set_option maxRecDepth 100000
/-! VL16: more short names. -/
namespace VL
open PySem PySem.Spec PyProof.Rows L2
section
variable {X : Cx} {C : Ct} {W : WX} {tg elt iter : Expr} {ifs : List Expr} {scope : Scope} {own : List (Str × Nat)} {pos spos py : Pos} {fi : Rho → Mo (List SV)} {ft : Rho → Mo Bool} {fe : Rho → Mo SV} {tf : TgF} {is : List Nat} {g : TG} {i : Nat} {y : Str}
theorem s_setLc (hy : X.N[i]? = some y) (hyl : X.env.scope.names.lookup y = some .local) (hc : X.calm = true) (hN : X.N.Nodup) (hi : PI X tg iter (tI C W false fi)) (ok : BlkOk X.N X.env.scope scope own) (hg : ∀ (s : Shared) (H : Hp) (Ca : Addr) (cl : List (Str × Addr)) (fp : List Addr), PG (X.blk s H scope (compEnvC scope cl Ca X.env) fp) tg g) (hgo : GOk C tf is g)
    (his : ∀ j ∈ is, j ∈ own.map (·.2)) (ht : ∀ (s : Shared) (H : Hp) (Ca : Addr) (cl : List (Str × Addr)) (fp : List Addr), PTs (X.blk s H scope (compEnvC scope cl Ca X.env) fp) ifs (tTs C WF ft))
    (he : ∀ (s : Shared) (H : Hp) (Ca : Addr) (cl : List (Str × Addr)) (fp : List Addr), PE (X.blk s H scope (compEnvC scope cl Ca X.env) fp) elt (tV C WF .fe fe))
    (hsw : swapsWith (.ListComp elt [⟨tg, iter, ifs, 0⟩] scope pos) (some (.Name y py)) spos.line X.env = pure true := by rfl) (hs : ∀ x, foldedSetIterable iter X.env x = pure x := by intro _; rfl) :
    PS X (.Assign [.Name y py] (.ListComp elt [⟨tg, iter, ifs, 0⟩] scope pos) spos) (tS C W (sSet i (eLc fi tf ft fe (own.map (·.2))))) := ps_imp (ps_setLc hc hN hy hyl hsw hi ok hg ht he hs) (t_setlc (t_lc hgo his))
end
section
variable {P : Program} {w : World} {K : PySem.W.Frag} {mg : Str → Option Value} {base : Heap} {k n : Nat} {l : List (Str × (List SV → Mo SV))} {y : Str} {F : List SV → Mo SV}
theorem hd_nil : ∀ x Fn, ([] : List (Str × (List SV → Mo SV))).lookup x = some Fn → DefOk P w K mg base k x n Fn := fun x Fn h => by cases h
theorem hd_cons (D : DefOk P w K mg base k y n F) (h : ∀ x Fn, l.lookup x = some Fn → DefOk P w K mg base k x n Fn) : ∀ x Fn, ((y, F) :: l).lookup x = some Fn → DefOk P w K mg base k x n Fn := fun x Fn e => by
  rw [List.lookup_cons] at e
  split at e
  · rename_i hx
    cases e
    rw [beq_iff_eq.mp hx]
    exact D
  · exact h x Fn e
/-- classes of exceptions by a table -/
def mtOf (l : List ((Str × Str) × Bool)) (c x : Str) : Option Bool := l.lookup (c, x)
def EmOk (K : PySem.W.Frag) (mg : Str → Option Value) (q : (Str × Str) × Bool) : Prop := ∃ Ca Cx, mg q.1.1 = some (.ref Ca) ∧ mg q.1.2 = some (.ref Cx) ∧ PySem.W.exmOne K (.ref Ca) (.ref Cx) = some q.2
theorem mt_ok : ∀ {l : List ((Str × Str) × Bool)}, (∀ q ∈ l, EmOk K mg q) → MtOk K mg (mtOf l)
  | [], _, c, x, b, Ca, Cx, h, _, _ => by cases h
  | q :: l, hl, c, x, b, Ca, Cx, h, h1, h2 => by
    obtain ⟨⟨c', x'⟩, b'⟩ := q
    unfold mtOf at h
    rw [List.lookup_cons] at h
    split at h
    · rename_i e
      cases h
      have e := beq_iff_eq.mp e
      cases e
      obtain ⟨Ca', Cx', e1, e2, e3⟩ := hl _ List.mem_cons_self
      have e1 : mg c = some (.ref Ca') := e1
      have e2 : mg x = some (.ref Cx') := e2
      rw [h1] at e1
      rw [h2] at e2
      cases e1
      cases e2
      exact e3
    · exact mt_ok (fun q m => hl q (List.mem_cons_of_mem _ m)) c x b Ca Cx h h1 h2
end
section
variable {X : Cx} {C : Ct} {W : WX} {x : Str} {pos : Pos}
theorem s_tryE {mt : Str → Str → Option Bool} {fb fh : Rho → Sto → Option Fl} {body suite : List Stmt} {b₀ : Stmt} {np pos' : Pos} (hK : C.K = X.K) (hM : C.mg = X.mg) (hmt : MtOk X.K X.mg mt) (E : ExcOk X.K X.mg x) (hs : X.stack = X.env :: X.outer) (hf : X.env.frame = some X.env.locals)
    (hg : Gl X x) (tk : Takes X W)
    (hb : ∀ (W : WX) (pn : List (Addr × Obj)) (xe : Value → Shared → Prop), Takes (X.tr pn xe) W → PassesOwn (model X.prog X.w) X.A X.env xe → PSs (X.tr pn xe) body (tS C W fb))
    (hsu : ∀ (a : Addr) (oe : Obj) (pn : List (Addr × Obj)), PSs (X.suite a ((a, oe) :: pn)) (b₀ :: suite) (tS C WF fh)) (hdb : (x == ("__debug__" : Str)) = false := by decide) :
    PS X (.Try body [.ExceptHandler (some (.Name x np)) none (b₀ :: suite) pos'] [] [] pos) (tS C W (sTry mt x fb fh)) := by
  obtain ⟨Ca, hm, _⟩ := E.ex
  exact s_try hK hM hmt hs hf hg hm tk hb hsu hdb
end
/-- a comprehension's block, by a look -/
def blkB (N : List Str) (sc scope : Scope) (own : List (Str × Nat)) : Bool :=
  (match scope.kind with
    | .function => true
    | _ => false) && scope.names.all (fun y => decide (scope.names.lookup y.1 = some y.2)) && own.all (fun p => decide (N[p.2]? = some p.1)) &&
  scope.names.all (fun y => decide (y.2 ≠ .free) || decide (sc.names.lookup y.1 = some .cell) || decide (sc.names.lookup y.1 = some .free)) &&
  scope.names.all fun y => decide (y.2 ≠ .local ∧ y.2 ≠ .cell) || decide (y.1 ∈ own.map (·.1)) || decide (y.1 ∉ N)
theorem blk_of {N : List Str} {sc scope : Scope} {own : List (Str × Nat)} (h : blkB N sc scope own = true) : BlkOk N sc scope own := by
  unfold blkB at h
  simp only [Bool.and_eq_true, List.all_eq_true, Bool.or_eq_true, decide_eq_true_eq] at h
  obtain ⟨⟨⟨⟨h1, h2⟩, h3⟩, h4⟩, h5⟩ := h
  refine ⟨?_, fun y m => h2 y m, fun p m => h3 p m, fun y m e => ?_, fun y m e => ?_⟩
  · split at h1
    · assumption
    · cases h1
  · rcases h4 y m with (z | z) | z
    · exact absurd e z
    · exact .inl z
    · exact .inr z
  · rcases h5 y m with (z | z) | z
    · exact absurd e (fun w => w.elim z.1 z.2)
    · exact .inl z
    · exact .inr z
end VL

end
section
set_option Elab.async false
set_option linter.all false
set_option maxRecDepth 100000
/-! VL17: what the head tells. -/
namespace VL
open PySem PySem.Spec PyProof.Rows L2
mutual
/-- constant data -/
def dqB (K : PySem.W.Frag) : PyData → Value → Bool
  | .none, .none => true
  | .bool b, .bool c => b == c
  | .int i, .int j _ => i == j
  | .str x, .str y _ => decide (x = y)
  | .tuple ds, .ref a => (match K.lookup a with
    | some ⟨.type c, _, .seq its _, _⟩ => decide (c = "tuple") && (decide (its.size ≤ sizeLine) && dqBs K ds its.toList)
    | _ => false)
  | _, _ => false
def dqBs (K : PySem.W.Frag) : List PyData → List Value → Bool
  | [], [] => true
  | d :: ds, u :: us => dqB K d u && dqBs K ds us
  | _, _ => false
end
mutual
theorem dqB_ok {K : PySem.W.Frag} : ∀ (d : PyData) (u : Value), dqB K d u = true → ∃ v, RelV v u ∧ ∀ (H : Hp) (F : Addr → Prop), Dq K H F d v
  | .none, u, h => by
    cases u <;> simp only [dqB, Bool.false_eq_true] at h
    exact ⟨.non, rfl, fun _ _ => .non⟩
  | .bool b, u, h => by
    cases u <;> simp only [dqB, Bool.false_eq_true] at h
    rename_i c
    have h := beq_iff_eq.mp h
    subst h
    exact ⟨.bl b, rfl, fun _ _ => .bl b⟩
  | .int i, u, h => by
    cases u <;> simp only [dqB, Bool.false_eq_true] at h
    rename_i c t
    have h := beq_iff_eq.mp h
    subst h
    exact ⟨.int i, ⟨t, rfl⟩, fun _ _ => .int i⟩
  | .str x, u, h => by
    cases u <;> simp only [dqB, Bool.false_eq_true] at h
    rename_i c t
    have h := of_decide_eq_true h
    subst h
    exact ⟨.str x, ⟨t, rfl⟩, fun _ _ => .str x⟩
  | .tuple ds, u, h => by
    cases u <;> simp only [dqB, Bool.false_eq_true] at h
    rename_i a
    split at h
    · rename_i c od its n sl hl
      obtain ⟨h1, h2⟩ := He.ba h
      obtain ⟨h3, h4⟩ := He.ba h2
      obtain ⟨vs, r, q⟩ := dqBs_ok ds its.toList h4
      have hlen : vs.length = its.size := by rw [r.length]; simp
      refine ⟨.ref a, rfl, fun H F => .ctup (.inr ⟨_, its, n, hl, congrArg Value.type (of_decide_eq_true h1), rfl, of_decide_eq_true h3, r⟩) (by rw [hlen]; exact of_decide_eq_true h3) (q H F)⟩
    · cases h
  | .list _, u, h => by cases u <;> simp [dqB] at h
  | .dict _, u, h => by cases u <;> simp [dqB] at h
theorem dqBs_ok {K : PySem.W.Frag} : ∀ (ds : List PyData) (us : List Value), dqBs K ds us = true → ∃ vs, Vals vs us ∧ ∀ (H : Hp) (F : Addr → Prop), DqL K H F ds vs
  | [], us, h => by
    cases us with
    | nil => exact ⟨[], .nil, fun _ _ => .nil⟩
    | cons _ _ => simp [dqBs] at h
  | d :: ds, us, h => by
    cases us with
    | nil => simp [dqBs] at h
    | cons u us =>
      obtain ⟨h1, h2⟩ := He.ba (by simpa only [dqBs] using h)
      obtain ⟨v, r, q⟩ := dqB_ok d u h1
      obtain ⟨vs, r2, q2⟩ := dqBs_ok ds us h2
      exact ⟨v :: vs, .cons r r2, fun H F => .cons (q H F) (q2 H F)⟩
end
def gcB (K : PySem.W.Frag) (x : Str) (d : PyData) : Bool := match PySem.W.nsIn K mainGlobals x with
  | some (some u) => dqB K d u
  | _ => false
section
variable {K : PySem.W.Frag} {h : Heap} {mg : Str → Option Value}
theorem gc_of (X : K.In h) (G : h.Ns mainGlobals mg) {x : Str} {d : PyData} (e : gcB K x d = true) : GlobC K mg x d := by
  unfold gcB at e
  split at e
  · rename_i u hu
    obtain ⟨v, r, q⟩ := dqB_ok d u e
    exact ⟨u, v, PySem.W.mg_of X G hu, r, q⟩
  · cases e
theorem exc_of (X : K.In h) (G : h.Ns mainGlobals mg) {x : Str} (c1 : (He.Fa.glo x).ok K = true) (c2 : (He.Fa.exc x).ok K = true) : ExcOk K mg x := by
  obtain ⟨a, b, c, d⟩ := He.exc_ok c2
  exact ⟨He.ga K x, He.glo_ok X G c1, a, b, c, d⟩
theorem em_of (X : K.In h) (G : h.Ns mainGlobals mg) {x y : Str} {b : Bool} (c1 : (He.Fa.glo x).ok K = true) (c2 : (He.Fa.glo y).ok K = true) (c3 : (He.Fa.exm x y b).ok K = true) : EmOk K mg ((x, y), b) := ⟨_, _, He.glo_ok X G c1, He.glo_ok X G c2, He.exm_ok c3⟩
def frs : List Str := ["len", "range", "isinstance", "int", "bool", "str", "tuple", "list", "abs", "max", "min", "all", "any", "sum", "sorted", "enumerate", "zip", "set", "dict", "repr"]
theorem fr_of (X : K.In h) (G : h.Ns mainGlobals mg) (c : ∀ x ∈ frs, (He.Fa.free x).ok K = true) : Fr mg := by
  have g : ∀ x ∈ frs, mg x = none := fun x m => He.free_ok X G (c x m)
  exact ⟨g _ (by decide), g _ (by decide), g _ (by decide), g _ (by decide), g _ (by decide), g _ (by decide), g _ (by decide), g _ (by decide), g _ (by decide), g _ (by decide), g _ (by decide), g _ (by decide), g _ (by decide), g _ (by decide), g _ (by decide), g _ (by decide), g _ (by decide), g _ (by decide), g _ (by decide), g _ (by decide)⟩
end
end VL

end
section
set_option Elab.async false
set_option linter.all false
set_option maxRecDepth 100000
/-! VL18: t[::-1] of a tuple, {k: v, ..}[e] of texts, several except clauses. -/
namespace VL
open PySem PySem.Spec PyProof.Rows L2
section
variable {prog : Program} {w : World} {A : Around} {E : Value → Shared → Prop} {s : Shared}
theorem adjust_rev (n : Nat) : Builtin.Slice.sliceAdjust none none (-1) (n : Int) = ((n : Int) - 1, -1) := rfl
theorem places_rev (n : Nat) : Builtin.Slice.slicePlaces ((n : Int) - 1) (-1) (-1) = n := by
  unfold Builtin.Slice.slicePlaces
  have h1 : ¬ ((-1 : Int) > 0) := by omega
  simp only [h1, if_false]
  by_cases h : (n : Int) - 1 > -1
  · rw [if_pos h, show (-(-1 : Int)) = 1 from rfl, Int.ediv_one]
    omega
  · rw [if_neg h]
    omega
theorem pick_rev (xs : Array Value) : ((List.range xs.size).filterMap fun (m : Nat) => xs[(((xs.size : Int) - 1) + (m : Int) * (-1)).toNat]?).toArray = xs.toList.reverse.toArray := by
  have e : (List.range xs.size).filterMap (fun (m : Nat) => xs[(((xs.size : Int) - 1) + (m : Int) * (-1)).toNat]?) = ((List.range xs.size).map fun k => xs.size - 1 - k).filterMap (xs[·]?) := by
    rw [List.filterMap_map]
    have cg : ∀ (l : List Nat) (f g : Nat → Option Value), (∀ k ∈ l, f k = g k) → l.filterMap f = l.filterMap g := by
      intro l f g h
      induction l with
      | nil => rfl
      | cons k l ih => rw [List.filterMap_cons, List.filterMap_cons, h k List.mem_cons_self, ih fun j m => h j (List.mem_cons_of_mem _ m)]
    refine cg _ _ _ fun k hk => ?_
    have hk := List.mem_range.mp hk
    have e : (((xs.size : Int) - 1) + (k : Int) * (-1)).toNat = xs.size - 1 - k := by omega
    show xs[(((xs.size : Int) - 1) + (k : Int) * (-1)).toNat]? = xs[xs.size - 1 - k]?
    rw [e]
  rw [e, PySem.W.krv_range, List.filterMap_reverse, PySem.W.krv_all]
theorem rev_ap {sl : Addr} {vl vu vs : Value} {n : Nat} {Q : Int × Int × Nat → Shared → Prop} (hs : s.heap.IsSliceOf sl vl vu vs) (pl : IsPart vl none) (pu : IsPart vu none) (ps : IsPart vs (some (-1))) (h : Q (((n : Int) - 1), -1, n) s) : wpAny (model prog w) A (Builtin.Slice.sliceApplied (.ref sl) (pure (n : Int))) Q E s := by
  obtain ⟨os, hos, hcs, hds⟩ := id hs
  unfold Builtin.Slice.sliceApplied Builtin.Slice.sliceFields
  refine wpAny_bind (wpAny_bind (wpAny_field hos hds (x := vl) rfl (wpAny_bind (wpAny_field hos hds (x := vu) rfl (wpAny_bind (wpAny_field hos hds (x := vs) rfl (wpAny_pure ?_)))))))
  refine wpAny_bind (HT.slicePart_ ps ?_)
  show wpAny _ _ (if ((-1 : Int) == 0) = true then _ else _) _ _ s
  rw [if_neg (by decide)]
  refine wpAny_bind (HT.slicePart_ pl (wpAny_bind (HT.slicePart_ pu (wpAny_bind (wpAny_pure ?_)))))
  show wpAny _ _ (match Builtin.Slice.sliceAdjust none none (-1) (n : Int) with | (lo, hi) => pure (lo, (-1 : Int), Builtin.Slice.slicePlaces lo hi (-1))) _ _ s
  rw [adjust_rev]
  show wpAny _ _ (pure (((n : Int) - 1), (-1 : Int), Builtin.Slice.slicePlaces ((n : Int) - 1) (-1) (-1))) _ _ s
  rw [places_rev]
  exact wpAny_pure h
theorem getItem_tuple_rev {t sl : Addr} {items : Array Value} {vl vu vs : Value} {Q : Value → Shared → Prop} (ht : IsTup s.heap t items) (hs : s.heap.IsSliceOf sl vl vu vs) (pl : IsPart vl none) (pu : IsPart vu none) (ps : IsPart vs (some (-1)))
    (h : Q (.ref s.heap.objs.size) { s with heap := s.heap.push { cls := .type "tuple", data := .seq items.toList.reverse.toArray } })
    (hsz : items.size ≤ sizeLine) : wpAny (model prog w) A (getItem (.ref t) (.ref sl)) Q E s := by
  have htake : sizeOk (.seq items.toList.reverse.toArray) := by
    show items.toList.reverse.toArray.size ≤ sizeLine
    rw [List.size_toArray, List.length_reverse, Array.length_toList]
    exact hsz
  obtain ⟨os, hos, hcs, hds⟩ := id hs
  have hTs : s.TypeIs (.ref sl) "slice" := ⟨os, hos, hcs⟩
  unfold getItem
  try with_reducible refine wpAny_holding ?_
  first | refine wpAny_bind (wpAny_pure ?_) | skip
  refine wpAny_bind (wpAny_sequenceKey ht.typeIs (by decide) ?_)
  refine wpAny_bind (wpAny_callSpecial?_slot (name := Str.ofString "__getitem__") ht.typeIs PyProof.Rows.slot_tuple_getitem
    (wpAny_call_entry PyProof.Rows.slot_tuple_getitem ht.typeIs entry_tuple_getitem ?_ (args_tuple_getitem _ _)))
  show wpAny _ _ (Builtin.Tuple.tupleItemsOf (.ref t) >>= _) _ _ s
  refine wpAny_bind (tupleItemsOf_ ht ?_)
  refine wpAny_bind (wpAny_typeOf hTs ?_)
  rw [if_pos (by decide)]
  refine wpAny_bind (rev_ap hs pl pu ps ?_)
  have hno : ¬ ((((items.size : Int) - 1) == 0 && (-1 : Int) == 1 && items.size == items.size) = true) := by
    intro q
    rw [Bool.and_eq_true, Bool.and_eq_true] at q
    exact absurd q.1.2 (by decide)
  show wpAny _ _ (if (((items.size : Int) - 1) == 0 && (-1 : Int) == 1 && items.size == items.size) = true then _ else _) _ _ s
  rw [if_neg hno, pick_rev]
  first
    | exact wpAny_bind (m := Builtin.Tuple.tupleExact _) (wpAny_newObj_type (wpAny_pure ⟨_, rfl, wpAny_pure h⟩) htake)
    | exact wpAny_bind (m := Builtin.Tuple.tupleExact _) (wpAny_newObj_type (wpAny_bind (wpAny_pure (wpAny_pure ⟨_, rfl, wpAny_pure h⟩))) htake)
    | exact wpAny_bind (wpAny_bind (m := Builtin.Tuple.tupleExact _) (wpAny_newObj_type (wpAny_pure (wpAny_pure ⟨_, rfl, wpAny_pure h⟩)) htake))
    | exact wpAny_bind (wpAny_bind (m := Builtin.Tuple.tupleExact _) (wpAny_newObj_type (wpAny_pure ⟨_, rfl, wpAny_pure h⟩) htake))
end
section
variable {X : Cx} {C : Ct} {W : WX} {pos : Pos}
/-- x[::-1] of a tuple or a list -/
def tRevA (K : PySem.W.Frag) (te : TE) : TE := fun σ H Q => te σ H fun x H1 => ∃ a xs, x = .ref a ∧ ((SqT K H1 a xs ∧ ∀ p, H1 p = none → Q (.ref p) (upd H1 p (.tup xs.reverse))) ∨ (SqL K H1 a xs ∧ ∀ p, H1 p = none → Q (.ref p) (upd H1 p (.lst xs.reverse))))
theorem pe_revA {e : Expr} {te : TE} {k : Nat} {p1 p2 p3 pos : Pos} (he : PE X e te) : PE X (.Subscript e (.Slice none none (some (.UnaryOp .USub (.Constant (.int 1) k p1) p2)) p3) pos) (tRevA X.K te) := by
  refine ⟨fun pins s σ H Q I h => ?_⟩
  refine Subscript_ (thn (he.run pins s σ H _ I h) fun v s1 ⟨x, H1, I1, r1, q1⟩ => ?_)
  obtain ⟨a, xs, ex, q⟩ := q1
  subst ex
  cases r1
  have hst : PO X (some (.UnaryOp .USub (.Constant (.int 1) k p1) p2)) (tPart (tUn (rU fun i => .int (-i)) (tC (.int 1)))) := po_some (pe_un un_neg pe_int)
  refine wpAny_Slice (thn (po_none.run pins s1 σ H1 (fun o H2 => o = none ∧ H2 = H1) I1 ⟨rfl, rfl⟩) fun vl s2 ⟨l, H2, I2, pl, el, e2⟩ => ?_)
  subst el e2
  refine thn (po_none.run pins s2 σ H2 (fun o H3 => o = none ∧ H3 = H2) I2 ⟨rfl, rfl⟩) fun vu s3 ⟨u, H3, I3, pu, eu, e3⟩ => ?_
  subst eu e3
  refine thn (hst.run pins s3 σ H3 (fun o H4 => o = some (-1) ∧ H4 = H3) I3 ⟨1, rfl, -1, rfl, rfl, rfl⟩) fun vs s4 ⟨o, H4, I4, ps, eo, e4⟩ => ?_
  subst eo e4
  have I5 : Inv X pins σ H4 { s4 with heap := s4.heap.push { cls := .type "slice", data := .fields #[vl, vu, vs] } } := I4.kept (t' := s4.toks) fun b ob q => Heap.get?_push_of_some _ q
  show wpAny (model X.prog X.w) X.A (subscriptTail e (.Slice none none (some (.UnaryOp .USub (.Constant (.int 1) k p1) p2)) p3) (.ref a) (.ref s4.heap.objs.size)) (EP X pins σ Q) X.xe { s4 with heap := s4.heap.push { cls := .type "slice", data := .fields #[vl, vu, vs] } }
  rcases q with ⟨hx, q⟩ | ⟨hx, q⟩
  · obtain ⟨its, r, ht, hz⟩ := I5.tuple hx
    have hlen := r.length
    refine tail_any (ops := [.ref a, .ref s4.heap.objs.size]) ht.typeIs (PyProof.Rows.slot_tuple_getitem.lookup) ?_ (by with_unfolding_all rfl)
    refine getItem_tuple_rev ht (Heap.IsSliceOf.new _ vl vu vs) pl pu ps ?_ (by rw [List.size_toArray]; omega)
    refine ⟨.ref _, _, I5.laid (t' := s4.toks) (o := .tup xs.reverse) (fun b ob q => Heap.get?_push_of_some _ q) (Nat.le_refl _) ?_, rfl, q _ (I5.hok.fresh (Nat.le_refl _))⟩
    exact ⟨by rw [List.length_reverse]; exact hz, _, r.reverse, IsTup.new _ _⟩
  · obtain ⟨its, r, ht, hz⟩ := I5.list hx
    have hlen := r.length
    refine tail_any (ops := [.ref a, .ref s4.heap.objs.size]) ht.isList.typeIs (PySem.slot_list_getitem.lookup) ?_ (by with_unfolding_all rfl)
    refine wpAny_getItem_list_slice ht.isList (Heap.IsSliceOf.new _ vl vu vs) pl pu ps (by decide) ?_ (by rw [List.size_toArray]; omega)
    rw [PySem.W.krv_pick]
    refine ⟨.ref _, _, I5.laid (t' := s4.toks) (o := .lst xs.reverse) (fun b ob q => Heap.get?_push_of_some _ q) (Nat.le_refl _) ?_, rfl, q _ (I5.hok.fresh (Nat.le_refl _))⟩
    exact ⟨by rw [List.length_reverse]; exact hz, _, 0, r.reverse, Heap.get?_push_size _ rfl⟩
theorem DqL.reverse {K : PySem.W.Frag} {H : Hp} {F : Addr → Prop} : ∀ {ds : List PyData} {vs : List V}, DqL K H F ds vs → DqL K H F ds.reverse vs.reverse
  | [], _, h => by cases h; exact .nil
  | d :: ds, _, h => by
    cases h with
    | cons h1 h2 =>
      rw [List.reverse_cons, List.reverse_cons]
      exact DqL.app (DqL.reverse h2) (.cons h1 .nil)
def gRev (_ : Sto) (x : SV) : Option SV := match x with
  | .d (.tuple ds) => some (.d (.tuple ds.reverse))
  | _ => none
def eRev (f : Rho → Mo SV) : Rho → Mo SV := fun ρ S => bindM (f ρ S) fun x S1 => match x with
  | .d (.tuple ds) => some (.ok (.d (.tuple ds.reverse)) S1)
  | _ => none
theorem v_rev (hk : C.K = X.K) {e : Expr} {fa : Rho → Mo SV} {ka kd : Kd} {k : Nat} {p1 p2 p3 : Pos} (ha : PE X e (tV C W ka fa)) : PE X (.Subscript e (.Slice none none (some (.UnaryOp .USub (.Constant (.int 1) k p1) p2)) p3) pos) (tV C W kd (eRev fa)) := by
  refine pe_imp (pe_revA ha) fun σ H Q ⟨P, ρ, S, A, G, hP, I, q⟩ => ⟨P, ρ, S, A, G, hP, I, EGood.step q (fun _ _ _ _ _ _ z => z) fun x S1 q v H1 p__ => ?_⟩
  obtain ⟨A1, g1, P1, e1, hP1, I1, k1, _⟩ := p__.next
  split at q
  · rename_i ds
    obtain ⟨a, vs, rfl, hs, l, r⟩ := k1.tup
    have I2 : Sim (C.pr P) ρ S1 A1 G σ H1 := (show Sim ((C.pr P1).pr P) ρ S1 A1 G σ H1 from Sim.prc I1 hP1)
    refine ⟨a, vs, rfl, .inl ⟨hk ▸ hs, fun p hp => q _ _ ((EPost.tup I2 (DqL.reverse r) (by rw [List.length_reverse]; exact l) hp).trans e1)⟩⟩
  · exact q.elim
/-! ### {k: v, ..}[e] -/
theorem u1 {k : Nat} {A : Around} (r : Room k A) : A.units + 1 < cLine := by have := r.un; omega
def mapAt (l : List (Str × Str)) (s : Str) : Option Str := l.foldl (fun o kv => if s = kv.1 then some kv.2 else o) none
def eMap (l : List (Str × Str)) (f : Rho → Mo SV) : Rho → Mo SV := fun ρ S => bindM (f ρ S) fun x S1 => match x with
  | .d (.str s) => (mapAt l s).map fun t => .ok (.d (.str t)) S1
  | _ => none
theorem tPairs_str {σ : L2.St} : ∀ (l : List (Str × Str)) (H : Hp) (Q : List (V × V) → Hp → Prop), Q (l.map fun kv => (V.str kv.1, V.str kv.2)) H → tPairs (l.map fun kv => (tC (.str kv.1), tC (.str kv.2))) σ H Q
  | [], H, Q, h => h
  | kv :: l, H, Q, h => tPairs_str l H _ h
theorem valV_merge (s : Str) : ∀ (l : List (Str × Str)) (acc : List (Key × V)) (o : Option Str), valV acc (.inr s) = o.map V.str → valV (mergeK acc (l.map fun kv => ((.inr kv.1 : Key), V.str kv.2))) (.inr s) = (l.foldl (fun o kv => if s = kv.1 then some kv.2 else o) o).map V.str
  | [], acc, o, h => h
  | kv :: l, acc, o, h => by
    refine valV_merge s l (putK acc (.inr kv.1) (.str kv.2)) _ ?_
    rw [valV_put]
    by_cases e : s = kv.1
    · simp [e]
    · have e2 : ¬ kv.1 = s := fun z => e z.symm
      simp [e, e2, h]
theorem v_map (l : List (Str × Str)) {keys : List (Option Expr)} {values : List Expr} {i : Expr} {f : Rho → Mo SV} {kd : Kd} {p2 : Pos} (hu : X.A.units + 1 < cLine) (h : PPs X p2 keys values (l.map fun kv => (tC (.str kv.1), tC (.str kv.2))))
    (hall : keys.all (·.isSome) = true) (hl : keys.length = values.length) (h0 : keys ≠ []) (h15 : keys.length ≤ 15) (hl15 : l.length ≤ 15) (ha : PE X i (tV C W .be f)) (hs : NoSl i) :
    PE X (.Subscript (.Dict keys values p2) i pos) (tV C W kd (eMap l f)) := by
  refine pe_imp (pe_dget hu (pe_disp h hall hl h0 h15) ha hs) fun σ H Q ⟨P, ρ, S, A, G, hP, I, q⟩ => fun p hp => tPairs_str l _ _ ⟨upd_same .., l.map fun kv => ((.inr kv.1 : Key), V.str kv.2), by rw [List.map_map]; rfl, by rw [List.length_map]; exact hl15, ?_⟩
  rw [upd_upd]
  have I1 := Sim.newP (o := .dK (mergeK [] (l.map fun kv => ((.inr kv.1 : Key), V.str kv.2)))) I hp
  refine ⟨fun a => P a ∨ a = p, ρ, S, A, G, fun a z => .inl (hP a z), I1, EGood.step q (fun _ _ _ _ _ _ z => z.trans (Ext.upd hp)) fun x S1 q v H1 p__ => ?_⟩
  obtain ⟨A1, g1, P1, e1, hP1, I2, k1, _⟩ := p__.next
  split at q
  · rename_i s
    have hv := k1.str
    subst hv
    cases hm : mapAt l s with
    | none => rw [hm] at q; exact q.elim
    | some t =>
      rw [hm] at q
      have np : p ∉ A := fun z => (I.fsTrk (.inl z)) hp
      have hH : H1 p = some (.dK (mergeK [] (l.map fun kv => ((.inr kv.1 : Key), V.str kv.2)))) := e1.keep p _ (upd_same ..) np
      have hg : DGet H1 p (.str s) (some (.str t)) := by
        have := DGet.k (k := .inr s) hH
        rw [valV_merge s l [] none rfl] at this
        rw [show (l.foldl (fun o kv => if s = kv.1 then some kv.2 else o) none) = some t from hm] at this
        exact this
      have I3 : Sim (C.pr P) ρ S1 A1 G σ H1 := (show Sim ((C.pr P1).pr P) ρ S1 A1 G σ H1 from Sim.prc I2 fun a z => hP1 a (.inl z))
      exact ⟨p, .str t, rfl, hg, q _ _ ((EPost.same I3 (Rk.dat (.str _))).trans ((Ext.upd hp).trans e1))⟩
  · exact q.elim
/-! ### several except clauses -/
abbrev SFn := Rho → Sto → Option Fl
def exM (mt : Str → Str → Option Bool) : List (Str × SFn) → Str → List (Str × SV) → Rho → Sto → Option Fl
  | [], c, fs, ρ, S => some (.exc c fs ρ S)
  | (x, h) :: r, c, fs, ρ, S => match mt c x with
    | some true => noX (h ρ S)
    | some false => exM mt r c fs ρ S
    | none => none
def sTryM (mt : Str → Str → Option Bool) (l : List (Str × SFn)) (b : SFn) : SFn := fun ρ S => match b ρ S with
  | some (.exc c fs ρ1 S1) => exM mt l c fs ρ1 S1
  | r => r
inductive HdM (X : Cx) (C : Ct) : List ExceptHandler → List (Str × SFn) → Prop
  | nil : HdM X C [] []
  | cons {x : Str} {fh : SFn} {b₀ : Stmt} {suite : List Stmt} {np pos' : Pos} {hds : List ExceptHandler} {l : List (Str × SFn)} (E : ExcOk X.K X.mg x) (hg : Gl X x)
      (hsu : ∀ (a : Addr) (oe : Obj) (pn : List (Addr × Obj)), PSs (X.suite a ((a, oe) :: pn)) (b₀ :: suite) (tS C WF fh)) (r : HdM X C hds l) (hdb : (x == ("__debug__" : Str)) = false := by decide) :
      HdM X C (.ExceptHandler (some (.Name x np)) none (b₀ :: suite) pos' :: hds) ((x, fh) :: l)
theorem HdM.ok {mt : Str → Str → Option Bool} (hM : C.mg = X.mg) (hmt : MtOk X.K X.mg mt) {hds : List ExceptHandler} {l : List (Str × SFn)} (h : HdM X C hds l) :
    ∃ l', HdsOk X hds l' ∧ ∀ (D : Ends) (A : List Addr) (G : List (List Addr)) (H : Hp) (c : Str) (fs : List (Str × SV)) (ρ : Rho) (S : Sto), SGood C W A G H D (exM mt l c fs ρ S) → SGood C (wMany X.K W D l') A G H D (some (.exc c fs ρ S)) := by
  induction h with
  | nil => exact ⟨[], .nil, fun D A G H c fs ρ S q => q⟩
  | @cons x fh b₀ suite np pos' hds l E hg hsu r hdb ih =>
    obtain ⟨l', hl, ih⟩ := ih
    obtain ⟨Cx, hx, _⟩ := E.ex
    refine ⟨(.ref Cx, fun _ _ _ => tS C WF fh) :: l', .cons ⟨hg, hdb, .inl hx⟩ (fun a oe cls d pn _ _ => hsu a oe pn) hl, fun D A G H c fs ρ S q => ?_⟩
    unfold exM at q
    rintro A' G' σ' H' cls d ex J ⟨Ca, hc, rfl, hfs⟩
    cases hmc : mt c x with
    | none => rw [hmc] at q; exact q.elim
    | some k =>
      rw [hmc] at q
      refine ⟨k, hmt c x k Ca Cx hmc (by rw [← hM]; exact hc) hx, fun e a _ => ?_, fun e => ?_⟩
      · subst e
        exact ⟨ρ, S, A', G', J, SGood.ext ex (SGood.noX q)⟩
      · subst e
        exact ih D A G H c fs ρ S q A' G' σ' H' (.ref Ca) d ex J ⟨Ca, hc, rfl, hfs⟩
theorem s_tryM {mt : Str → Str → Option Bool} {fb : SFn} {body : List Stmt} {h₀ : ExceptHandler} {hds : List ExceptHandler} {l : List (Str × SFn)} (hM : C.mg = X.mg) (hmt : MtOk X.K X.mg mt) (hd : HdM X C (h₀ :: hds) l) (hs : X.stack = X.env :: X.outer) (hf : X.env.frame = some X.env.locals)
    (tk : Takes X W)
    (hb : ∀ (W : WX) (pn : List (Addr × Obj)) (xe : Value → Shared → Prop), Takes (X.tr pn xe) W → PassesOwn (model X.prog X.w) X.A X.env xe → PSs (X.tr pn xe) body (tS C W fb)) :
    PS X (.Try body (h₀ :: hds) [] [] pos) (tS C W (sTryM mt l fb)) := by
  obtain ⟨l', hl, hw⟩ := hd.ok (W := W) hM hmt
  refine ps_imp (ps_try_many (tb := fun W => tS C W fb) hs hf tk hb hl) fun D σ H ⟨ρ, S, A, G, I, q⟩ => ⟨ρ, S, A, G, I, ?_⟩
  unfold sTryM at q
  cases hr : fb ρ S with
  | none => rw [hr] at q; exact q
  | some r =>
    rw [hr] at q
    cases r with
    | nx ρ' S' => exact q
    | bk ρ' S' => exact q
    | ct ρ' S' => exact q
    | rt z S' => exact q
    | exc c fs ρ' S' => exact hw D A G H c fs ρ' S' q
end
end VL

end
section
set_option Elab.async false
set_option linter.all false
set_option maxRecDepth 100000
/-! VL19: tuple * int; x in a tuple of flat items. -/
namespace VL
open PySem PySem.Spec PyProof.Rows L2
section
variable {X : Cx} {C : Ct} {W : WX} {kd ka kb : Kd} {a b : Expr} {pos : Pos} {fa fb : Rho → Mo SV}
/-! ### tuple * int -/
def gMulA (S : Sto) (x y : SV) : Option SV := match x, y with
  | .d (.tuple ds), .d (.int k) => if decide (ds ≠ []) && decide (2 ≤ k ∧ k ≤ 1000) && decide (ds.length ≤ 1000) then some (.d (.tuple (List.replicate k.toNat ds).flatten)) else none
  | x, y => gMul S x y
theorem DqL.rep {K : PySem.W.Frag} {H : Hp} {F : Addr → Prop} {ds : List PyData} {vs : List V} (r : DqL K H F ds vs) : ∀ n : Nat, DqL K H F (List.replicate n ds).flatten (List.replicate n vs).flatten
  | 0 => .nil
  | n + 1 => by
    rw [List.replicate_succ, List.replicate_succ, List.flatten_cons, List.flatten_cons]
    exact r.app (DqL.rep r n)
theorem sizeL : 1000000 ≤ sizeLine := by rw [sizeLine_eq]; omega
theorem v_mulA (hk : C.K = X.K) (ha : PE X a (tV C W ka fa)) (hb : PE X b (tV C W kb fb)) : PE X (.BinOp a .Mult b pos) (tV C W kd (eBin gMulA fa fb)) := v_op (op_repT.or (op_mulI.or op_rep)) (fun C ρ S A G σ H0 H1 H x y z v u gx gy Q hK I rx ry h q => by
  unfold gMulA at h
  split at h
  · rename_i ds k
    split at h
    · rename_i hc
      cases h
      simp only [Bool.and_eq_true, decide_eq_true_eq] at hc
      obtain ⟨⟨h0, h2, h3⟩, h4⟩ := hc
      obtain ⟨a, vs, rfl, hs, l, r⟩ := rx.tup
      have hl := r.length
      refine .inl ⟨a, k, vs, rfl, ry.int, (by rw [← hk, ← hK]; exact hs), fun e => h0 (by rw [e] at hl; exact List.length_eq_zero_iff.mp hl.symm), h2, h3, by rw [hl]; exact h4, fun p hp => q _ _ (EPost.tup I (r.rep k.toNat) ?_ hp)⟩
      simp only [List.length_flatten, List.map_replicate, List.sum_replicate_nat]
      refine Nat.le_trans (Nat.mul_le_mul (show k.toNat ≤ 1000 by omega) (show vs.length ≤ 1000 by omega)) sizeL
    · cases h
  · unfold gMul at h
    split at h
    · rename_i i j _
      split at h
      · rename_i hm
        cases h
        exact .inr (.inl ⟨i, j, rx.int, ry.int, mulOk.ok hm, q _ H (EPost.same I (Rk.dat (.int _)))⟩)
      · cases h
    · rename_i k _ _
      simp only [Option.bind_eq_some_iff] at h
      obtain ⟨xs, hx, h⟩ := h
      split at h
      · rename_i hc
        cases h
        simp only [Bool.and_eq_true, decide_eq_true_eq] at hc
        obtain ⟨a, vs, ga, rfl, ha, l1, r1⟩ := rx.lst I hx
        have hl := r1.len
        refine .inr (.inr ⟨a, k, vs, rfl, ry.int, ha, (smI_lt hc.1.2).1, (smI_lt hc.1.2).2, by rw [hl]; exact hc.2, fun p hp => q _ _ ?_⟩)
        obtain ⟨r1, n1⟩ := r1
        obtain rfl := r1.noOwn hc.1.1
        refine EPost.lst (g := []) (H1 := H) I ⟨r1.rep k.toNat, fun a m => by cases m⟩ ?_ ?_ hp
        · rw [List.all_flatten]
          simp only [List.all_eq_true, List.mem_replicate]
          rintro l ⟨_, rfl⟩
          intro y hy
          exact List.all_eq_true.mp hc.1.1 y hy
        · simp only [List.length_flatten, List.map_replicate, List.sum_replicate_nat]
          rw [Nat.mul_comm, hl]
          exact hc.2
      · cases h
    · cases h) ha hb
/-! ### x in (a, b, ..) -/
def flatD : PyData → Option V
  | .none => some .non
  | .bool b => some (.bl b)
  | .int i => some (.int i)
  | .str s => some (.str s)
  | _ => none
def flatDs : List PyData → Option (List V)
  | [] => some []
  | d :: ds => (flatD d).bind fun v => (flatDs ds).map (v :: ·)
theorem flatD_ok {K : PySem.W.Frag} {H : Hp} {F : Addr → Prop} {d : PyData} {v w : V} (r : Dq K H F d v) (h : flatD d = some w) : v = w ∧ flatV w = true := by
  cases r <;> simp [flatD] at h <;> subst h <;> exact ⟨rfl, rfl⟩
theorem flatDs_ok {K : PySem.W.Frag} {H : Hp} {F : Addr → Prop} : ∀ {ds : List PyData} {vs ws : List V}, DqL K H F ds vs → flatDs ds = some ws → vs = ws ∧ ws.all flatV = true
  | [], _, _, r, h => by cases r; cases h; exact ⟨rfl, rfl⟩
  | d :: ds, _, _, r, h => by
    cases r with
    | cons r1 r2 =>
      simp only [flatDs, Option.bind_eq_some_iff, Option.map_eq_some_iff] at h
      obtain ⟨v, h1, ws, h2, rfl⟩ := h
      obtain ⟨rfl, f1⟩ := flatD_ok r1 h1
      obtain ⟨rfl, f2⟩ := flatDs_ok r2 h2
      exact ⟨rfl, by rw [List.all_cons, f1, f2]; rfl⟩
def inT (neg : Bool) (x y : SV) : Option Bool := match x, y with
  | .d d, .d (.tuple ds) => (flatD d).bind fun v => (flatDs ds).map fun vs => xor neg (inV v vs)
  | _, _ => none
def gInT (_ : Sto) (x y : SV) : Option Bool := inT false x y
def gNotInT (_ : Sto) (x y : SV) : Option Bool := inT true x y
theorem c_inN (neg : Bool) {K : PySem.W.Frag} : CmpOk K ka kb (fun _ x y => inT neg x y) (rIn K neg) := (fun C ρ S A G σ H0 H1 H x y b v u gx gy Q hK I rx ry h q => by
  subst hK
  have h : inT neg x y = some b := h
  unfold inT at h
  split at h
  · rename_i d ds
    simp only [Option.bind_eq_some_iff, Option.map_eq_some_iff] at h
    obtain ⟨v', h1, vs', h2, rfl⟩ := h
    obtain ⟨a, vs, rfl, hs, l, r⟩ := ry.tup
    obtain ⟨rfl, f1⟩ := flatD_ok rx.undat h1
    obtain ⟨rfl, f2⟩ := flatDs_ok r h2
    exact ⟨a, vs, rfl, .inr hs, f1, f2, by cases neg <;> simpa using q⟩
  · cases h)
theorem v_inT (hk : C.K = X.K) (ha : PE X a (tV C W ka fa)) (hb : PE X b (tV C W kb fb)) (hm : behindInMarks .In b = false) : PE X (.Compare a [.In] [b] pos) (tV C W kd (eBin (cB gInT) fa fb)) := v_cmpB op_in_seq (hk ▸ c_inN false) ha hb hm
theorem v_notInT (hk : C.K = X.K) (ha : PE X a (tV C W ka fa)) (hb : PE X b (tV C W kb fb)) (hm : behindInMarks .NotIn b = false) : PE X (.Compare a [.NotIn] [b] pos) (tV C W kd (eBin (cB gNotInT) fa fb)) := v_cmpB op_notIn_seq (hk ▸ c_inN true) ha hb hm
theorem t_inT (hk : C.K = X.K) (ha : PE X a (tV C W ka fa)) (hb : PE X b (tV C W kb fb)) (hm : behindInMarks .In b = false) : PT X (.Compare a [.In] [b] pos) (tTs C W (bB (eBin (cB gInT) fa fb))) := t_cmp op_in_seq (hk ▸ c_inN false) ha hb hm
theorem t_notInT (hk : C.K = X.K) (ha : PE X a (tV C W ka fa)) (hb : PE X b (tV C W kb fb)) (hm : behindInMarks .NotIn b = false) : PT X (.Compare a [.NotIn] [b] pos) (tTs C W (bB (eBin (cB gNotInT) fa fb))) := t_cmp op_notIn_seq (hk ▸ c_inN true) ha hb hm
end
end VL

end
section
set_option Elab.async false
set_option linter.all false
set_option maxRecDepth 100000
/-! VL20: x *= e, x += e of ints; 1 << e; e.bit_length(). -/
namespace VL
open PySem PySem.Spec PyProof.Rows L2
section
variable {X : Cx} {C : Ct} {W : WX} {kd ka kb : Kd} {a b e : Expr} {pos : Pos} {f fa fb : Rho → Mo SV} {i : Nat} {x : Str}
/-- x op= e where both are ints -/
def sAug (i : Nat) (g : Int → Int → Option Int) (f : Rho → Mo SV) : Rho → Sto → Option Fl := fun ρ S => match ρ[i]? with
  | some (some (.d (.int a))) => bindS ρ (f ρ S) fun y S1 => match y with
    | .d (.int b) => (g a b).map fun c => .nx (ρ.set i (some (.d (.int c)))) S1
    | _ => none
  | _ => none
theorem iop_mulI : OpR X (inplaceOp .Mult) (rI IntMulOk fun i j => .int (i * j)) := opI fun _ _ _ _ _ _ _ hc q => imul_int q hc
theorem s_augI {op : Operator} {g : Int → Int → Option Int} {r : R2} {pos' : Pos} (hN : X.N.Nodup) (hi : X.N[i]? = some x) (hx : Loc X.env.scope x) (he : PE X e (tV C W .be f)) (ho : OpR X (inplaceOp op) r)
    (hr : ∀ (p q c : Int) (H : Hp) (Q : VK), g p q = some c → Q (.int c) H → r (.int p) (.int q) H Q) (hf : X.fn x = true ∨ X.env.scope.names.lookup x = some .local := by first | exact .inl rfl | exact .inr rfl | assumption) :
    PS X (.AugAssign (.Name x pos') op e pos) (tS C W (sAug i g f)) := by
  refine ps_imp (ps_aug (ti := r) hN hi hx he ho hf) fun D σ H ⟨ρ, S, A, G, I, q⟩ => ?_
  unfold sAug at q
  split at q
  · rename_i p hρ
    obtain ⟨v, g0, hv, hs, _⟩ := I.slots i _ hρ
    cases hs with
    | d hd =>
      cases hd
      refine ⟨.int p, hv, C.Pr, ρ, S, A, G, fun _ h => h, I, SGood.step q fun y S' q v' H' p' => ?_⟩
      obtain ⟨A', g', P1, e1, hP1, I1, k1, _⟩ := (show EPost (C.pr C.Pr) .be ρ A G σ H y S' v' H' from p').next
      split at q
      · rename_i b
        obtain rfl := k1.int
        cases hg : g p b with
        | none => rw [hg] at q; exact q.elim
        | some c =>
          rw [hg] at q
          refine hr p b c H' _ hg ?_
          have J : Sim C ρ S' A' G σ H' := (show Sim ((C.pr P1).pr C.Pr) ρ S' A' G σ H' from Sim.prc I1 hP1)
          exact q _ _ _ _ (put_ext (g := []) e1 fun a m => by cases m) (Sim.put (g := []) (Sim.prc J fun a z => z.elim id fun z => by cases z) (.d (.int c)) (by simp) (fun a m => by cases m) (fun a m => by cases m))
      · exact q.elim
  · exact q.elim
def gMulI (p q : Int) : Option Int := if mulOk p q then some (p * q) else none
def gAddI (p q : Int) : Option Int := some (p + q)
def gSubI (p q : Int) : Option Int := some (p - q)
theorem s_augMul {pos' : Pos} (hN : X.N.Nodup) (hi : X.N[i]? = some x) (hx : Loc X.env.scope x) (he : PE X e (tV C W .be f)) (hf : X.fn x = true ∨ X.env.scope.names.lookup x = some .local := by first | exact .inl rfl | exact .inr rfl | assumption) :
    PS X (.AugAssign (.Name x pos') .Mult e pos) (tS C W (sAug i gMulI f)) := s_augI hN hi hx he iop_mulI (fun p q c H Q hg hq => by
  unfold gMulI at hg
  split at hg
  · rename_i hm
    cases hg
    exact ⟨p, q, rfl, rfl, mulOk.ok hm, hq⟩
  · cases hg) hf
theorem s_augAdd {pos' : Pos} (hN : X.N.Nodup) (hi : X.N[i]? = some x) (hx : Loc X.env.scope x) (he : PE X e (tV C W .be f)) (hf : X.fn x = true ∨ X.env.scope.names.lookup x = some .local := by first | exact .inl rfl | exact .inr rfl | assumption) :
    PS X (.AugAssign (.Name x pos') .Add e pos) (tS C W (sAug i gAddI f)) := s_augI hN hi hx he iop_add (fun p q c H Q hg hq => by
  cases hg
  exact ⟨p, q, rfl, rfl, hq⟩) hf
theorem s_augSub {pos' : Pos} (hN : X.N.Nodup) (hi : X.N[i]? = some x) (hx : Loc X.env.scope x) (he : PE X e (tV C W .be f)) (hf : X.fn x = true ∨ X.env.scope.names.lookup x = some .local := by first | exact .inl rfl | exact .inr rfl | assumption) :
    PS X (.AugAssign (.Name x pos') .Sub e pos) (tS C W (sAug i gSubI f)) := s_augI hN hi hx he iop_sub (fun p q c H Q hg hq => by
  cases hg
  exact ⟨p, q, rfl, rfl, hq⟩) hf
/-! ### 1 << e, e.bit_length() -/
def gShl (_ : Sto) (x y : SV) : Option SV := match x, y with
  | .d (.int p), .d (.int q) => if decide (0 ≤ q) && decide (q.natAbs + Builtin.Int.intBits p < 134217728) then some (.d (.int (p * 2 ^ q.toNat))) else none
  | _, _ => none
theorem v_shl (ha : PE X a (tV C W ka fa)) (hb : PE X b (tV C W kb fb)) : PE X (.BinOp a .LShift b pos) (tV C W kd (eBin gShl fa fb)) := v_op op_shlW (fun C ρ S A G σ H0 H1 H x y z v u gx gy Q hK I rx ry h q => by
  unfold gShl at h
  split at h
  · rename_i p k
    split at h
    · rename_i hc
      cases h
      simp only [Bool.and_eq_true, decide_eq_true_eq] at hc
      exact ⟨p, k, rx.int, ry.int, ⟨hc.1, by have := hc.2; unfold CShl at *; omega⟩, q _ H (EPost.same I (Rk.dat (.int _)))⟩
    · cases h
  · cases h) ha hb
def eBits (f : Rho → Mo SV) : Rho → Mo SV := fun ρ S => bindM (f ρ S) fun x S1 => match x with
  | .d (.int p) => some (.ok (.d (.int (Builtin.Int.intBits p : Nat))) S1)
  | _ => none
theorem v_bits {apos : Pos} (ha : PE X a (tV C W ka fa)) (hbase : attributeBase a "bit_length" X.env (eval a X.env) = eval a X.env := by rfl) (hline : (apos.endLine == pos.line) = true := by rfl) :
    PE X (.Call (.Attribute a "bit_length" apos) [] [] pos) (tV C W kd (eBits fa)) := by
  refine pe_imp (pe_bits ha hbase hline) fun σ H Q ⟨P, ρ, S, A, G, hP, I, q⟩ => ⟨P, ρ, S, A, G, hP, I, EGood.step q (fun _ _ _ _ _ _ z => z) fun x S1 q v H1 p__ => ?_⟩
  obtain ⟨A1, g1, P1, e1, hP1, I1, k1, _⟩ := p__.next
  split at q
  · rename_i p
    have I2 : Sim (C.pr P) ρ S1 A1 G σ H1 := (show Sim ((C.pr P1).pr P) ρ S1 A1 G σ H1 from Sim.prc I1 hP1)
    exact ⟨p, k1.int, q _ _ ((EPost.same I2 (Rk.dat (.int _))).trans e1)⟩
  · exact q.elim
end
end VL

end
section
set_option Elab.async false
set_option linter.all false
set_option maxRecDepth 100000
/-! VL21: order of deep data, sorted, zip, enumerate, list(range), repr of bools. -/
namespace VL
open PySem PySem.Spec PyProof.Rows L2
section
variable {X : Cx} {C : Ct} {W : WX} {kd ka kb : Kd} {e a b c : Expr} {pos : Pos} {f fa fb fc : Rho → Mo SV}
/-! ### <= of alike data -/
def rLeD (K : PySem.W.Frag) : R2 := fun x y H Q => ∃ d e, Dp K H x d ∧ Dp K H y e ∧ PySem.W.alike d e = true ∧ d ≠ .none ∧ SeqAt.shaped d = true ∧ Q (.bl (!PySem.W.dataLt e d)) H
theorem op_leD (hu : X.A.units + 64 < cLine) : OpR X (compareOp .LtE) (rLeD X.K) := by
  intro pins s σ H x y v u Q I rx ry h
  obtain ⟨d, e, hd, he, al, nn, sd, q⟩ := h
  obtain ⟨as, r1⟩ := Dp.reads I d x v hd rx
  obtain ⟨bs, r2⟩ := Dp.reads I e y u he ry
  exact PySem.W.rcLe_alike d e X.A s v u as bs r1 r2 al nn (SeqAt.room_of_shaped sd hu) _ _ _ _ ⟨.bl _, H, I, rfl, q⟩
def gLeD (_ : Sto) (x y : SV) : Option Bool :=
  match x, y with
  | .d (.int i), .d (.int j) => some (decide (i ≤ j))
  | .d (.tuple xs), .d (.tuple ys) => if PySem.W.alike (.tuple xs) (.tuple ys) && SeqAt.shaped (.tuple xs) then some (!PySem.W.dataLt (.tuple ys) (.tuple xs)) else none
  | _, _ => none
theorem c_leD {K : PySem.W.Frag} : CmpOk K ka kb gLeD (fun x y H Q => rI0 (fun i j => .bl (decide (i ≤ j))) x y H Q ∨ rLeD K x y H Q) := (fun C ρ S A G σ H0 H1 H x y b v u gx gy Q hK I rx ry h q => by
  subst hK
  unfold gLeD at h
  split at h
  · rename_i i j
    cases h
    exact .inl ⟨i, j, rx.int, ry.int, q⟩
  · split at h
    · rename_i hc
      cases h
      simp only [Bool.and_eq_true] at hc
      exact .inr ⟨_, _, Dq.dp _ _ rx.undat, Dq.dp _ _ ry.undat, hc.1, (by intro z; cases z), hc.2, q⟩
    · cases h
  · cases h)
theorem v_leD (hk : C.K = X.K) (hu : X.A.units + 64 < cLine) (ha : PE X a (tV C W ka fa)) (hb : PE X b (tV C W kb fb)) : PE X (.Compare a [.LtE] [b] pos) (tV C W kd (eBin (cB gLeD) fa fb)) := v_cmpB (op_le.or (op_leD hu)) (hk ▸ c_leD) ha hb (nomark _)
end
/-! ### sorted of alike data -/
def sortD (ds : List PyData) : List PyData := ds.mergeSort (PySem.W.dataLe false id)
def isTup1 : PyData → Bool
  | .tuple (_ :: _) => true
  | _ => false
def isPlain : PyData → Bool
  | .int _ => true
  | .str _ => true
  | .bool _ => true
  | _ => false
def sortOk (ds : List PyData) : Bool := (ds.all fun d => ds.all fun e => PySem.W.alike d e) && ds.all (fun d => SeqAt.shaped d) && (ds.all isTup1 || ds.all isPlain) && decide (ds.length ≤ sizeLine)
theorem sortable_of {ds : List PyData} (h : (ds.all isTup1 || ds.all isPlain) = true) : PySem.W.Sortable ds := by
  rcases Bool.or_eq_true_iff.mp h with h | h
  · refine .inl fun d m => ?_
    have := List.all_eq_true.mp h d m
    unfold isTup1 at this
    split at this
    · exact ⟨_, _, rfl⟩
    · cases this
  · refine .inr fun d m => ?_
    have := List.all_eq_true.mp h d m
    cases d <;> first | cases this | skip
    all_goals (refine ⟨?_, fun xs => ?_⟩ <;> intro z <;> cases z)
def rSortD (K : PySem.W.Frag) : List V → Hp → VK → Prop := fun vs H Q => ∃ (a : Addr) (xs : List V) (ds : List PyData) (R : V → PyData → Prop), vs = [V.ref a] ∧ SqL K H a xs ∧ DpAll K H xs ds ∧ PySem.W.EachIs R xs ds ∧ sortOk ds = true ∧
  ∀ ys p, PySem.W.EachIs R ys (sortD ds) → H p = none → Q (.ref p) (upd H p (.lst ys))
section
variable {X : Cx}
theorem each_vals {R : V → PyData → Prop} : ∀ {xs : List V} {us : List Value} {ds : List PyData}, Vals xs us → PySem.W.EachIs R xs ds → PySem.W.EachIs (fun v d => ∃ x, RelV x v ∧ R x d) us ds
  | _, _, _, .nil, .nil => .nil
  | _, _, _, .cons r t, .cons h k => .cons ⟨_, r, h⟩ (each_vals t k)
theorem vals_each {R : V → PyData → Prop} : ∀ {us : List Value} {ds : List PyData}, PySem.W.EachIs (fun v d => ∃ x, RelV x v ∧ R x d) us ds → ∃ xs, Vals xs us ∧ PySem.W.EachIs R xs ds
  | _, _, .nil => ⟨[], .nil, .nil⟩
  | _, _, .cons ⟨x, r, h⟩ t => by
    obtain ⟨xs, r2, h2⟩ := vals_each t
    exact ⟨x :: xs, .cons r r2, .cons h h2⟩
theorem cr_sortD (hu : X.A.units + 66 < cLine) : CallR X (.builtin "sorted") (rSortD X.K) := by
  intro pins s σ H vs us Q I r h
  obtain ⟨a, xs, ds, R, rfl, hs, hd, he, ok, q⟩ := h
  unfold sortOk at ok
  simp only [Bool.and_eq_true] at ok
  obtain ⟨⟨⟨al, sh⟩, so⟩, le⟩ := ok
  have le := of_decide_eq_true le
  obtain ⟨its, rv, hl, hz⟩ := I.list hs
  rw [Vals.ref1 r]
  obtain ⟨as, ra⟩ := Dp.readsAll I ds xs its hd rv
  have er := PySem.W.readsAll_each (h := s.heap) id (vs := its) (bs := ds) (as := as) (by rw [List.map_id]; exact ra)
  refine PySem.W.sorted_data (enc := id) hl.isList (each_vals rv he) er (by
    rw [List.map_id]
    intro d hd' e he'
    exact List.all_eq_true.mp (List.all_eq_true.mp al d hd') e he') (by rw [List.map_id]; exact sortable_of so) le (fun d m => by
    have h1 := List.all_eq_true.mp sh d m
    have h2 : (d.canLay0 && decide (d.depth ≤ 64)) = true := h1
    rw [Bool.and_eq_true] at h2
    have := of_decide_eq_true h2.2
    show X.A.units + 2 + d.depth < cLine
    omega) fun out hlen eo => ?_
  obtain ⟨ys, ry, ey⟩ := vals_each eo
  obtain ⟨ep, he'⟩ := PyProof.Rows.sortedAll_at s.heap its out.toArray
  have hlen2 : ys.length ≤ sizeLine := by rw [ry.length, hlen]; exact le
  exact ⟨.ref _, upd H (s.heap.objs.size + 1) (.lst ys), I.laid (t' := s.toks) (fun _ _ => PyProof.Rows.sortedAll_old) (Nat.le_succ _) ⟨hlen2, out, ep, ry, he'⟩, rfl, q ys _ ey (I.hok.fresh (Nat.le_succ _))⟩
def gSorted (S : Sto) (xs : List SV) : Option SV :=
  match xs with
  | [x] => (lst? S x).bind fun ys => (allD ys).bind fun ds => if sortOk ds then some (.own ((sortD ds).map SV.d)) else none
  | _ => none
theorem dqL_each {K : PySem.W.Frag} {H : Hp} {F : Addr → Prop} : ∀ {ds : List PyData} {vs : List V}, DqL K H F ds vs → PySem.W.EachIs (fun v d => Dq K H F d v) vs ds
  | [], _, h => by cases h; exact .nil
  | d :: ds, _, h => by
    cases h with
    | cons h1 h2 => exact .cons h1 (dqL_each h2)
theorem each_dqL {K : PySem.W.Frag} {H : Hp} {F : Addr → Prop} : ∀ {ds : List PyData} {vs : List V}, PySem.W.EachIs (fun v d => Dq K H F d v) vs ds → DqL K H F ds vs
  | _, _, .nil => .nil
  | _, _, .cons h t => .cons h (each_dqL t)
theorem sortD_length (ds : List PyData) : (sortD ds).length = ds.length := List.length_mergeSort ds
theorem noOwn_ds (ds : List PyData) : (ds.map SV.d).all noOwn = true := List.all_eq_true.mpr fun x m => by
  obtain ⟨d, _, rfl⟩ := List.mem_map.mp m
  rfl
theorem ok_sorted {K : PySem.W.Frag} : CalOk K ka kd gSorted (rSortD K) := by
  intro C ρ S A G σ H0 H xs z vs gx Q hK I r h q
  subst hK
  unfold gSorted at h
  split at h
  · simp only [Option.bind_eq_some_iff] at h
    obtain ⟨ys, hy, ds, hd, h⟩ := h
    split at h
    · rename_i hn
      cases h
      obtain ⟨v, rfl, r1⟩ := r.one
      obtain ⟨a, vs, ga, rfl, hs, l, r2⟩ := r1.lst I hy
      have rd := r2.undat hd
      refine ⟨a, vs, ds, _, rfl, .of hs, DqL.dp _ _ rd, dqL_each rd, hn, fun ys p ey hp => q _ _ (EPost.lst (H1 := H) I (RkL.dats (H := H) (each_dqL ey)) (noOwn_ds _) ?_ hp)⟩
      have e1 := (each_dqL ey).length
      rw [e1, sortD_length, ← rd.length]
      exact l
    · cases h
  · cases h
end
end VL

end
section
set_option Elab.async false
set_option linter.all false
set_option maxRecDepth 100000
/-! VL22: zip, enumerate, list(range), repr of bools. -/
namespace VL
open PySem PySem.Spec PyProof.Rows L2
def zipL (ds es : List PyData) : List SV := (ds.zip es).map fun p => .d (.tuple [p.1, p.2])
def enumL (ds : List PyData) : List SV := ds.zipIdx.map fun p => .d (.tuple [.int (p.2 : Nat), p.1])
theorem allD_at : ∀ {xs : List SV} {ds : List PyData} {i : Nat} {d : PyData}, allD xs = some ds → ds[i]? = some d → xs[i]? = some (.d d)
  | [], ds, i, d, h, e => by cases h; simp at e
  | .d x :: xs, ds, i, d, h, e => by
    simp only [allD, Option.map_eq_some_iff] at h
    obtain ⟨r, h, rfl⟩ := h
    cases i with
    | zero => simpa using e
    | succ i => simpa using allD_at h (by simpa using e)
  | .ref _ :: _, _, _, _, h, _ => by cases h
  | .fn _ :: _, _, _, _, h, _ => by cases h
  | .scr _ :: _, _, _, _, h, _ => by cases h
  | .own _ :: _, _, _, _, h, _ => by cases h
theorem allD_len : ∀ {xs : List SV} {ds : List PyData}, allD xs = some ds → xs.length = ds.length
  | [], ds, h => by cases h; rfl
  | .d x :: xs, ds, h => by
    simp only [allD, Option.map_eq_some_iff] at h
    obtain ⟨r, h, rfl⟩ := h
    simp [allD_len h]
  | .ref _ :: _, _, h => by cases h
  | .fn _ :: _, _, h => by cases h
  | .scr _ :: _, _, h => by cases h
  | .own _ :: _, _, h => by cases h
theorem zipL_at {ds es : List PyData} {i : Nat} {x : SV} (h : (zipL ds es)[i]? = some x) : ∃ d e, ds[i]? = some d ∧ es[i]? = some e ∧ x = .d (.tuple [d, e]) := by
  unfold zipL at h
  rw [List.getElem?_map, Option.map_eq_some_iff] at h
  obtain ⟨p, hp, rfl⟩ := h
  obtain ⟨h1, h2⟩ := List.getElem?_zip_eq_some.mp hp
  exact ⟨_, _, h1, h2, rfl⟩
theorem enumL_at {ds : List PyData} {i : Nat} {x : SV} (h : (enumL ds)[i]? = some x) : ∃ d, ds[i]? = some d ∧ x = .d (.tuple [.int (i : Nat), d]) := by
  unfold enumL at h
  rw [List.getElem?_map, Option.map_eq_some_iff] at h
  obtain ⟨p, hp, rfl⟩ := h
  rw [List.getElem?_zipIdx] at hp
  simp only [Option.map_eq_some_iff] at hp
  obtain ⟨d, hd, rfl⟩ := hp
  exact ⟨d, hd, by simp⟩
section
variable {C : Ct} {A A2 : List Addr} {G G2 : List (List Addr)} {H H2 : Hp} {P2 : Addr → Prop} {x y : SV} {v u : V} {xs ys : List SV} {vs us : List V} {ds es : List PyData} {full : Bool} {a b : Addr}
/-- a new pair -/
theorem pair_new {F : Addr → Prop} {K : PySem.W.Frag} {d e : PyData} {v u : V} {T : Addr} (ht : ∀ a, F a → H2 a ≠ none) (hT : H2 T = none) (hd : Dq K H2 F d v) (he : Dq K H2 F e u) : Dq K (upd H2 T (.tup [v, u])) F (.tuple [d, e]) (.ref T) := by
  have mo : ∀ {d : PyData} {v : V}, Dq K H2 F d v → Dq K (upd H2 T (.tup [v, u])) F d v := fun {d v} h => Dq.mono (fun a z => .inl z) (fun a o q n => by
    rw [upd_ne (fun z => by subst z; rw [hT] at q; cases q)]
    exact q) _ _ h
  have mo2 : ∀ {d : PyData} {w x : V}, Dq K H2 F d w → Dq K (upd H2 T (.tup [x, u])) F d w := fun {d w x} h => Dq.mono (fun a z => .inl z) (fun a o q n => by
    rw [upd_ne (fun z => by subst z; rw [hT] at q; cases q)]
    exact q) _ _ h
  refine .tup (if_pos rfl) (fun z => ht T z hT) (by show 2 ≤ sizeLine; rw [sizeLine_eq]; omega) (.cons (mo2 hd) (.cons (mo2 he) .nil))
theorem wk_zipL (w1 : Wk C full A G (Itl C.K a) xs H) (w2 : Wk C full A G (Itl C.K b) ys H) (dx : allD xs = some ds) (dy : allD ys = some es) : Wk C full A G (Itz C.K a b) (zipL ds es) H := by
  refine ⟨fun P2 A2 G2 H2 hP e hk ht i x hx => ?_, fun A2 G2 H2 e hk i hi => ?_⟩
  · obtain ⟨d, e', hd, he, rfl⟩ := zipL_at hx
    obtain ⟨⟨vs, v, s1, hv⟩, y1⟩ := w1.go P2 A2 G2 H2 hP e hk ht i _ (allD_at dx hd)
    obtain ⟨⟨us, u, s2, hu⟩, y2⟩ := w2.go P2 A2 G2 H2 hP e hk ht i _ (allD_at dy he)
    refine ⟨⟨vs, us, v, u, s1, s2, hv, hu⟩, fun w H3 ⟨T, p, q, e1, e2, e3, e4, e5⟩ => ?_⟩
    subst e1
    subst e3
    have r1 := (y1 p H2 ⟨rfl, e4⟩).2
    have r2 := (y2 q H2 ⟨rfl, e5⟩).2
    exact ⟨.inr ⟨T, _, e2, rfl⟩, .d (pair_new ht e2 r1.nil_d.2 r2.nil_d.2)⟩
  · obtain ⟨vs, s1, h1⟩ := w1.stop A2 G2 H2 e hk (max i xs.length) (by omega)
    obtain ⟨us, s2, h2⟩ := w2.stop A2 G2 H2 e hk (max i ys.length) (by omega)
    have l1 := allD_len dx
    have l2 := allD_len dy
    have hl : (zipL ds es).length = min ds.length es.length := by simp [zipL]
    rw [hl] at hi
    by_cases z : ds.length ≤ i
    · obtain ⟨vs', s1', h1'⟩ := w1.stop A2 G2 H2 e hk i (by omega)
      exact ⟨vs', us, s1', s2, .inl h1'⟩
    · obtain ⟨us', s2', h2'⟩ := w2.stop A2 G2 H2 e hk i (by omega)
      exact ⟨vs, us', s1, s2', .inr h2'⟩
theorem wk_zipT (w1 : Wk C full A G (Itt C.K a) xs H) (w2 : Wk C full A G (Itt C.K b) ys H) (dx : allD xs = some ds) (dy : allD ys = some es) : Wk C full A G (RZ.ItzT C.K a b) (zipL ds es) H := by
  refine ⟨fun P2 A2 G2 H2 hP e hk ht i x hx => ?_, fun A2 G2 H2 e hk i hi => ?_⟩
  · obtain ⟨d, e', hd, he, rfl⟩ := zipL_at hx
    obtain ⟨⟨vs, v, s1, hv⟩, y1⟩ := w1.go P2 A2 G2 H2 hP e hk ht i _ (allD_at dx hd)
    obtain ⟨⟨us, u, s2, hu⟩, y2⟩ := w2.go P2 A2 G2 H2 hP e hk ht i _ (allD_at dy he)
    refine ⟨⟨vs, us, v, u, s1, s2, hv, hu⟩, fun w H3 ⟨T, p, q, e1, e2, e3, e4, e5⟩ => ?_⟩
    subst e1
    subst e3
    have r1 := (y1 p H2 ⟨rfl, e4⟩).2
    have r2 := (y2 q H2 ⟨rfl, e5⟩).2
    exact ⟨.inr ⟨T, _, e2, rfl⟩, .d (pair_new ht e2 r1.nil_d.2 r2.nil_d.2)⟩
  · obtain ⟨vs, s1, h1⟩ := w1.stop A2 G2 H2 e hk (max i xs.length) (by omega)
    obtain ⟨us, s2, h2⟩ := w2.stop A2 G2 H2 e hk (max i ys.length) (by omega)
    have l1 := allD_len dx
    have l2 := allD_len dy
    have hl : (zipL ds es).length = min ds.length es.length := by simp [zipL]
    rw [hl] at hi
    by_cases z : ds.length ≤ i
    · obtain ⟨vs', s1', h1'⟩ := w1.stop A2 G2 H2 e hk i (by omega)
      exact ⟨vs', us, s1', s2, .inl h1'⟩
    · obtain ⟨us', s2', h2'⟩ := w2.stop A2 G2 H2 e hk i (by omega)
      exact ⟨vs, us', s1, s2', .inr h2'⟩
theorem wk_enum (w1 : Wk C full A G (Itl C.K a) xs H) (dx : allD xs = some ds) : Wk C full A G (Ite C.K a) (enumL ds) H := by
  refine ⟨fun P2 A2 G2 H2 hP e hk ht i x hx => ?_, fun A2 G2 H2 e hk i hi => ?_⟩
  · obtain ⟨d, hd, rfl⟩ := enumL_at hx
    obtain ⟨⟨vs, v, s1, hv⟩, y1⟩ := w1.go P2 A2 G2 H2 hP e hk ht i _ (allD_at dx hd)
    refine ⟨⟨vs, v, s1, hv⟩, fun w H3 ⟨T, p, e1, e2, e3, e4⟩ => ?_⟩
    subst e1
    subst e3
    have r1 := (y1 p H2 ⟨rfl, e4⟩).2
    exact ⟨.inr ⟨T, _, e2, rfl⟩, .d (pair_new ht e2 (.int _) r1.nil_d.2)⟩
  · have l1 := allD_len dx
    obtain ⟨vs', s1', h1'⟩ := w1.stop A2 G2 H2 e hk i (by simp [enumL] at hi; omega)
    exact ⟨vs', s1', h1'⟩
end
section
variable {X : Cx} {C : Ct} {W : WX} {kd ka kb : Kd} {tg e a b c : Expr} {es : List Expr} {pos : Pos} {f fa fb : Rho → Mo SV} {fs : Rho → Mo (List SV)}
theorem Rk.walkT {P : Addr → Prop} {ρ : Rho} {S : Sto} {g A : List Addr} {G : List (List Addr)} {σ : L2.St} {H0 H : Hp} {ds : List PyData} {v : V} {full : Bool} (I : Sim (C.pr P) ρ S A G σ H) (r : Rk (C.pr P) ka g A G H0 H (.d (.tuple ds)) v) :
    ∃ a, v = .ref a ∧ (∃ ys, SqT C.K H a ys) ∧ Wk (C.pr P) full A G (Itt C.K a) (ds.map SV.d) H := by
  obtain ⟨r1, h1⟩ := r.asBe
  cases r1 with
  | d r1 =>
    cases r1 with
    | tup e n l q => exact ⟨_, rfl, ⟨_, .of e⟩, wk_tup (RsL.ofD q) fun A2 G2 H2 e2 hk => .of (fs_kept e2 _ _ e n)⟩
    | ctup e l q => exact ⟨_, rfl, ⟨_, SqT.const e H⟩, wk_tup (RsL.ofD q) fun A2 G2 H2 e2 hk => SqT.const e H2⟩
/-- a list of data, not shared -/
def plainL : SV → Option (List PyData)
  | .d (.list ds) => some ds
  | .own xs => allD xs
  | _ => none
theorem Rk.walkL {P : Addr → Prop} {ρ : Rho} {S : Sto} {g A : List Addr} {G : List (List Addr)} {σ : L2.St} {H0 H : Hp} {x : SV} {ds : List PyData} {v : V} (I : Sim (C.pr P) ρ S A G σ H) (r : Rk (C.pr P) ka g A G H0 H x v) (h : plainL x = some ds) :
    ∃ a, v = .ref a ∧ (∃ ys, SqL C.K H a ys) ∧ Wk (C.pr P) false A G (Itl C.K a) (ds.map SV.d) H := by
  obtain ⟨r1, h1⟩ := r.asBe
  cases r1 with
  | d r1 =>
    cases r1 with
    | lst e n l q => cases h; exact ⟨_, rfl, ⟨_, .of e⟩, wk_lst (RsL.ofD q) fun A2 G2 H2 e2 hk => .of (fs_kept e2 _ _ e n)⟩
    | _ => cases h
  | own e l q =>
    obtain ⟨q', rfl⟩ := RsL.toD q h
    exact ⟨_, rfl, ⟨_, .of e⟩, wk_lst (RsL.ofD q') fun A2 G2 H2 e2 hk => .of (hk rfl _ _ e (h1 _ List.mem_cons_self).1)⟩
  | _ => cases h
def iZip2 (fs : Rho → Mo (List SV)) : Rho → Mo (List SV) := fun ρ S => bindM (fs ρ S) fun xs S1 => match xs with
  | [.d (.tuple ds), .d (.tuple es)] => some (.ok (zipL ds es) S1)
  | [x, y] => (plainL x).bind fun ds => (plainL y).map fun es => .ok (zipL ds es) S1
  | _ => none
theorem i_zip (hk : C.K = X.K) {p tpos : Pos} {elts : List Expr} {kk : Nat} (hg : Gl X "zip") (hm : X.mg "zip" = none) (ha : PA X [a, b] (tVs C W .be fs)) (hs : starEach [a, b] X.env = (false, eval a X.env) :: starEach [b] X.env := by rfl) (hpl : (backTo pos (starEach [b] X.env)).any (·.1) = false := by rfl) :
    PI X (.Tuple elts kk tpos) (.Call (.Name "zip" p) [a, b] [] pos) (tI C W false (iZip2 fs)) := by
  refine pi_imp (RZ.pi_zipA hg hm ha hs hpl) fun σ H R ⟨P, ρ, S, A, G, hP, I, q⟩ => ⟨P, ρ, S, A, G, hP, I, EGood.step q (fun _ _ _ _ _ _ z => z) fun xs S1 q vs H1 p => ?_⟩
  obtain ⟨A1, g1, e1, J1, k1⟩ := p
  split at q
  · rename_i ds es
    obtain ⟨v, u, ga, gb, rfl, r1, r2⟩ := k1.two
    obtain ⟨a1, rfl, ⟨y1, s1⟩, w1⟩ := r1.walkT (full := false) J1
    obtain ⟨a2, rfl, ⟨y2, s2⟩, w2⟩ := r2.walkT (full := false) J1
    have w := wk_zipT w1 w2 (allD_map ds) (allD_map es)
    refine ⟨a1, a2, y1, y2, rfl, .inr ⟨hk ▸ s1, hk ▸ s2, ?_⟩⟩
    rw [← hk]
    exact q _ _ ⟨A1, e1, J1, w⟩
  · rename_i x y _
    cases ex : plainL x with
    | none => rw [ex] at q; exact q.elim
    | some ds =>
      rw [ex] at q
      cases ey : plainL y with
      | none => rw [ey] at q; exact q.elim
      | some es =>
        rw [ey] at q
        simp only [Option.bind_some, Option.map_some] at q
        obtain ⟨v, u, ga, gb, rfl, r1, r2⟩ := k1.two
        obtain ⟨a1, rfl, ⟨y1, s1⟩, w1⟩ := r1.walkL J1 ex
        obtain ⟨a2, rfl, ⟨y2, s2⟩, w2⟩ := r2.walkL J1 ey
        have w := wk_zipL w1 w2 (allD_map ds) (allD_map es)
        refine ⟨a1, a2, y1, y2, rfl, .inl ⟨hk ▸ s1, hk ▸ s2, ?_⟩⟩
        rw [← hk]
        exact q _ _ ⟨A1, e1, J1, w⟩
  · exact q.elim
def iEnum1 (fs : Rho → Mo (List SV)) : Rho → Mo (List SV) := fun ρ S => bindM (fs ρ S) fun xs S1 => match xs with
  | [x] => (plainL x).map fun ds => .ok (enumL ds) S1
  | _ => none
theorem i_enum (hk : C.K = X.K) {p tpos : Pos} {elts : List Expr} {kk : Nat} (hg : Gl X "enumerate") (hm : X.mg "enumerate" = none) (ha : PA X [a] (tVs C W .be fs)) (hs : starEach [a] X.env = [(false, eval a X.env)] := by rfl) :
    PI X (.Tuple elts kk tpos) (.Call (.Name "enumerate" p) [a] [] pos) (tI C W false (iEnum1 fs)) := by
  refine pi_imp (pi_enum hg hm ha hs) fun σ H R ⟨P, ρ, S, A, G, hP, I, q⟩ => ⟨P, ρ, S, A, G, hP, I, EGood.step q (fun _ _ _ _ _ _ z => z) fun xs S1 q vs H1 p => ?_⟩
  obtain ⟨A1, g1, e1, J1, k1⟩ := p
  split at q
  · rename_i x
    cases ex : plainL x with
    | none => rw [ex] at q; exact q.elim
    | some ds =>
      rw [ex] at q
      obtain ⟨v, rfl, r1⟩ := k1.one
      obtain ⟨a1, rfl, ⟨y1, s1⟩, w1⟩ := r1.walkL J1 ex
      refine ⟨a1, y1, rfl, hk ▸ s1, ?_⟩
      rw [← hk]
      exact q _ _ ⟨A1, e1, J1, wk_enum w1 (allD_map ds)⟩
  · exact q.elim
/-! ### list(range(..)) -/
def rgD (lo : Int) (n : Nat) : List PyData := (List.range n).map fun k => .int (lo + (k : Nat))
def eLrg1 (f : Rho → Mo SV) : Rho → Mo SV := fun ρ S => bindM (f ρ S) fun x S1 => match x with
  | .d (.int j) => if j.natAbs ≤ 16777216 then some (.ok (.own ((rgD 0 j.toNat).map SV.d)) S1) else none
  | _ => none
def eLrg2 (fa fb : Rho → Mo SV) : Rho → Mo SV := fun ρ S => bindM (fa ρ S) fun x S1 => bindM (fb ρ S1) fun y S2 => match x, y with
  | .d (.int i), .d (.int j) => if i.natAbs + j.natAbs ≤ 16777216 then some (.ok (.own ((rgD i (j - i).toNat).map SV.d)) S2) else none
  | _, _ => none
theorem rg_dq {K : PySem.W.Frag} {H : Hp} {F : Addr → Prop} (a b : Int) : DqL K H F (rgD a (b - a).toNat) (rgV a b) := by
  unfold rgD rgV
  generalize (List.range (b - a).toNat) = l
  induction l with
  | nil => exact .nil
  | cons k l ih => exact .cons (.int _) ih
theorem v_lrg1 (hc : X.calm = true) (hk : C.K = X.K) {p p2 pos2 : Pos} (hg : Gl X "list") (hm : X.mg "list" = none) (hg2 : Gl X "range") (hm2 : X.mg "range" = none) (ha : PE X a (tV C W ka fa))
    (na : starEach [a] X.env = (false, eval a X.env) :: starEach [] X.env := by rfl) (na2 : starEach [.Call (.Name "range" p2) [a] [] pos2] X.env = (false, eval (.Call (.Name "range" p2) [a] [] pos2) X.env) :: starEach [] X.env := by rfl) :
    PE X (.Call (.Name "list" p) [.Call (.Name "range" p2) [a] [] pos2] [] pos) (tV C W kd (eLrg1 fa)) := by
  refine pe_imp (pe_listRg hc hg hm (prg_1 hg2 hm2 ha na) na2) fun σ H Q ⟨P, ρ, S, A, G, hP, I, q⟩ => ⟨P, ρ, S, A, G, hP, I, EGood.step q (fun _ _ _ _ _ _ z => z) fun x S1 q v H1 p__ => ?_⟩
  obtain ⟨A1, g1, P1, e1, hP1, I1, k1, _⟩ := p__.next
  split at q
  · rename_i j
    split at q
    · rename_i hj
      have I2 : Sim (C.pr P) ρ S1 A1 G σ H1 := (show Sim ((C.pr P1).pr P) ρ S1 A1 G σ H1 from Sim.prc I1 hP1)
      refine ⟨j, k1.int, ⟨by omega, by omega, by omega, by omega, by omega⟩, fun l hl => ?_⟩
      have rg := rg_dq (K := C.K) (H := H1) (F := Fs (C.pr P) A1 G) 0 j
      rw [show (j - 0).toNat = j.toNat by rw [Int.sub_zero]] at rg
      refine q _ _ ((EPost.lst (kd := kd) (H1 := H1) I2 (RkL.dats rg) (noOwn_ds _) ?_ hl).trans e1)
      rw [rgV_length, sizeLine_eq]
      omega
    · exact q.elim
  · exact q.elim
/-! ### repr of a truth value -/
def gReprB (_ : Sto) (xs : List SV) : Option SV := match xs with
  | [.d (.bool b)] => some (.d (.str (if b then "True" else "False")))
  | _ => none
theorem call_repr_bool : CallR X (.builtin "repr") (fun xs H Q => ∃ b, xs = [.bl b] ∧ Q (.str (if b then "True" else "False")) H) := by
  intro pins s σ H xs us Q I r h
  obtain ⟨b, rfl, q⟩ := h
  obtain ⟨u, rfl, ru⟩ := vals1 r
  obtain rfl : u = Value.bool b := ru
  exact PySem.P.repr_of_bool ⟨.str _, H, I.tok _, ⟨_, rfl⟩, q⟩
theorem ok_reprB {K : PySem.W.Frag} : CalOk K ka kd gReprB (fun xs H Q => ∃ b, xs = [.bl b] ∧ Q (.str (if b then "True" else "False")) H) := by
  intro C ρ S A G σ H0 H xs z vs gx Q hK I r h q
  unfold gReprB at h
  split at h
  · cases h
    obtain ⟨v, rfl, r1⟩ := r.one
    exact ⟨_, by rw [r1.bl], q _ H (EPost.same I (Rk.dat (.str _)))⟩
  · cases h
end
end VL

end
section
set_option Elab.async false
set_option linter.all false
set_option maxRecDepth 100000
/-! VL23: dicts of one's own, their keys ints: {}, d.setdefault(k, []).append(v), sorted(d), d[k]. -/
namespace VL
open PySem PySem.Spec PyProof.Rows L2
def posK : List Int → Int → Option Nat
  | [], _ => none
  | a :: ks, k => if a = k then some 0 else (posK ks k).map (· + 1)
abbrev kvz (ks : List Int) (vs : List V) : List (Key × V) := (ks.map Sum.inl).zip vs
theorem posK_lt : ∀ {ks : List Int} {k : Int} {p : Nat}, posK ks k = some p → p < ks.length
  | [], _, _, h => by cases h
  | a :: ks, k, p, h => by
    unfold posK at h
    split at h
    · cases h; simp
    · simp only [Option.map_eq_some_iff] at h
      obtain ⟨r, h, rfl⟩ := h
      have := posK_lt h
      simp
      omega
theorem valV_kvz : ∀ {ks : List Int} {vs : List V} {k : Int}, vs.length = ks.length → valV (kvz ks vs) (.inl k) = (posK ks k).bind (vs[·]?)
  | [], vs, k, h => by cases vs <;> rfl
  | a :: ks, [], k, h => by simp at h
  | a :: ks, v :: vs, k, h => by
    have ih := valV_kvz (ks := ks) (vs := vs) (k := k) (by simpa using h)
    unfold valV at ih ⊢
    show ((((Sum.inl a : Key), v) :: kvz ks vs).find? fun kv => decide (kv.1 = .inl k)).map (·.2) = _
    unfold posK
    by_cases e : a = k
    · subst e
      simp
    · rw [List.find?_cons_of_neg (by simpa using e), ih, if_neg e]
      cases posK ks k <;> simp
theorem posK_none : ∀ {ks : List Int} {vs : List V} {k : Int}, posK ks k = none → (kvz ks vs).any (fun kv => decide (kv.1 = .inl k)) = false
  | [], vs, k, _ => by cases vs <;> rfl
  | a :: ks, [], k, _ => rfl
  | a :: ks, v :: vs, k, h => by
    unfold posK at h
    split at h
    · cases h
    · rename_i e
      simp only [Option.map_eq_none_iff] at h
      show ((((Sum.inl a : Key), v) :: kvz ks vs).any fun kv => decide (kv.1 = .inl k)) = false
      rw [List.any_cons, posK_none h, Bool.or_false]
      exact decide_eq_false (by simpa using e)
theorem kvz_snoc {ks : List Int} {vs : List V} {k : Int} {v : V} (h : vs.length = ks.length) (hn : posK ks k = none) : putK (kvz ks vs) (.inl k) v = kvz (ks ++ [k]) (vs ++ [v]) := by
  unfold putK
  rw [posK_none hn]
  simp only [Bool.false_eq_true, if_false]
  unfold kvz
  rw [List.map_append, List.zip_append (by simp [h])]
  rfl
section
variable {X : Cx} {C : Ct} {W : WX} {kd ka kb : Kd} {a b : Expr} {pos : Pos} {fa fb : Rho → Mo SV} {ρ : Rho} {S : Sto} {A : List Addr} {G : List (List Addr)} {σ : L2.St} {H H0 : Hp}
def eDic0 : Rho → Mo SV := fun _ S => some (.ok (.dic [] []) S)
theorem EPost.dic0 {p : Addr} (I : Sim C ρ S A G σ H) (h : H p = none) : EPost C kd ρ A G σ H (.dic [] []) S (.ref p) (upd H p (.dK [])) := by
  refine EPost.be ⟨A, [p], Ext.upd h, ?_, ⟨.dic (ks := []) (vs := []) (g := []) upd_same rfl (by rw [sizeLine_eq]; exact Nat.zero_le _) .nil, by simp, fun a m => ?_⟩⟩
  · have J := Sim.newP (o := .dK []) I h
    exact (show Sim ((C.pr fun a => C.Pr a ∨ a = p).pr fun a => C.Pr a ∨ a ∈ [p]) ρ S A G σ _ from Sim.prc J fun a z => by
      rcases z with z | z
      · exact .inl z
      · exact .inr (by simpa using z))
  · obtain rfl : a = p := by simpa using m
    exact ⟨h, by rw [upd_same]; simp, fun z => I.trk _ (List.mem_append_left _ z) h⟩
theorem v_dic0 : PE X (.Dict [] [] pos) (tV C W kd eDic0) :=
  pe_imp pe_dnewK fun σ H Q ⟨P, ρ, S, A, G, hP, I, q⟩ => fun p hp => q _ _ (EPost.dic0 I hp)
/-! sorted(d) -/
def intSort (ks : List Int) : List Int := ks.mergeSort fun a b => decide (a ≤ b)
def gSortDic (_ : Sto) (xs : List SV) : Option SV := match xs with
  | [.dic ks _] => if ks.length < 64 then some (.own ((intSort ks).map fun k => .d (.int k))) else none
  | _ => none
theorem intSort_one {ks ys : List Int} (h : ys.Perm ks) (s : ys.Pairwise (· ≤ ·)) : ys = intSort ks := by
  have p : (intSort ks).Perm ks := List.mergeSort_perm ks _
  have q : (intSort ks).Pairwise (· ≤ ·) := by
    have := List.pairwise_mergeSort (le := fun a b : Int => decide (a ≤ b)) (fun a b c h1 h2 => by
      have h1 := of_decide_eq_true h1
      have h2 := of_decide_eq_true h2
      exact decide_eq_true (Int.le_trans h1 h2)) (fun a b => by
      rcases Int.le_total a b with z | z
      · simp [z]
      · simp [z]) ks
    exact this.imp fun h => of_decide_eq_true h
  exact List.Perm.eq_of_pairwise (fun a b _ _ h1 h2 => Int.le_antisymm h1 h2) s q (h.trans p.symm)
theorem dqL_ints {F : Addr → Prop} (ns : List Int) : DqL C.K H F (ns.map PyData.int) (ns.map V.int) := DqL.ofInts ns
abbrev rSortDic : List V → Hp → VK → Prop := fun xs H Q => ∃ (a : Addr) (kvs : List (Key × V)) (ks : List Int), xs = [.ref a] ∧ Rd H a (.dK kvs) ∧ kvs.map (·.1) = ks.map Sum.inl ∧ ks.length < 64 ∧
    ∀ (ys : List Int) (p : Addr), ys.Perm ks → ys.Pairwise (· ≤ ·) → H p = none → Q (.ref p) (upd H p (.lst (ys.map V.int)))
theorem ok_sortDic {K : PySem.W.Frag} : CalOk K ka kd gSortDic rSortDic := by
  intro C ρ S A G σ H0 H xs z vs gx Q hK I r h q
  subst hK
  unfold gSortDic at h
  split at h
  · rename_i ks xs
    split at h
    · rename_i hl
      cases h
      obtain ⟨v, rfl, r1⟩ := r.one
      obtain ⟨r1, hg⟩ := r1.asBe
      cases r1 with
      | dic e kl l r =>
        refine ⟨_, _, ks, rfl, .inl e, List.map_fst_zip (by simp [kl]), hl, fun ys p hp hs hn => ?_⟩
        obtain rfl := intSort_one hp hs
        have rd := RkL.dats (C := C) (kd := .be) (A := A) (G := G) (H := H) (dqL_ints (C := C) (H := H) (F := Fs C A G) (intSort ks))
        rw [List.map_map] at rd
        refine q _ _ (EPost.lst (H1 := H) I rd (List.all_eq_true.mpr fun x m => ?_) ?_ hn)
        · obtain ⟨d, _, rfl⟩ := List.mem_map.mp m
          rfl
        · have := hp.length_eq
          rw [List.length_map, sizeLine_eq]
          omega
    · cases h
  · cases h
/-! d[k] -/
def gIxDic (_ : Sto) (x y : SV) : Option SV := match x, y with
  | .dic ks xs, .d (.int k) => (posK ks k).bind (xs[·]?)
  | _, _ => none
theorem ok_ixDic {K : PySem.W.Frag} : OpOk K ka kb .be gIxDic (fun x y H Q => ∃ a v, x = .ref a ∧ DGet H a y (some v) ∧ Q v H) := by
  intro C ρ S A G σ H0 H1 H x y z v u gx gy Q hK I rx ry h q
  subst hK
  unfold gIxDic at h
  split at h
  · rename_i ks xs k
    simp only [Option.bind_eq_some_iff] at h
    obtain ⟨p, hp, hz⟩ := h
    obtain rfl := ry.int
    obtain ⟨r1, hg⟩ := rx.asBe
    cases r1 with
    | @dic a _ _ vs g e kl l r =>
      have rk : RkL C .be g A G H H xs vs := ⟨r, fun a m => hg a (List.mem_cons_of_mem _ m)⟩
      obtain ⟨w, gz, h1, rz⟩ := rk.get hz
      have e2 : valV (kvz ks vs) (.inl k) = some w := by
        rw [valV_kvz kl, hp]
        exact h1
      have dg := DGet.k (k := .inl k) e
      rw [e2] at dg
      exact ⟨_, w, rfl, dg, q _ H ⟨A, gz, Ext.refl, I, rz⟩⟩
  · cases h
theorem v_ixDic (hk : C.K = X.K) (hu : X.A.units + 1 < cLine) (ha : PE X a (tV C W ka fa)) (hb : PE X b (tV C W kb fb)) (hs : NoSl b) : PE X (.Subscript a b pos) (tV C W .be (eBin gIxDic fa fb)) := pe_imp (pe_dget hu ha hb hs) (tV_two (hk ▸ ok_ixDic (K := X.K)))
/-! d.setdefault(k, []).append(v), d, k, v slots -/
def sGrp (i j k : Nat) : Rho → Sto → Option Fl := fun ρ S => match ρ[i]?, ρ[j]?, ρ[k]? with
  | some (some (.dic ks xs)), some (some (.d (.int n))), some (some (.d v)) => if ks.length < sizeLine then (match posK ks n with
    | some p => (match xs[p]? with
      | some (.own ys) => if ys.length < sizeLine then some (.nx (ρ.set i (some (.dic ks (xs.set p (.own (ys ++ [.d v])))))) S) else none
      | _ => none)
    | none => some (.nx (ρ.set i (some (.dic (ks ++ [n]) (xs ++ [.own [.d v]])))) S)) else none
  | _, _, _ => none
/-- slot i's own are let go, something is put into the heap, and they come back -/
theorem Sim.backD {i : Nat} {x : SV} {v : V} {g g0 : List Addr} {H' : Hp} {P : Addr → Prop} (e1 : σ[i]? = some (some v)) (I : Sim (C.pr P) (ρ.set i none) S A (G.set i []) σ H') (hg : ∀ a ∈ g, P a) (hP : ∀ a, C.Pr a → P a)
    (r : Rs C.K C.mg H' A (fun a => Fs C A (G.set i []) a ∨ a ∈ g) x v g) (nd : g.Nodup) (h0 : ∀ a ∈ g, C.E0 a = none) (hp : ∀ a ∈ g, ¬ C.Pr a) : Sim C (ρ.set i (some x)) S A (G.set i g) σ H' := by
  have J : Sim (C.pr fun a => C.Pr a ∨ a ∈ g) (ρ.set i none) S A (G.set i []) σ H' := (show Sim ((C.pr P).pr fun a => C.Pr a ∨ a ∈ g) _ _ _ _ _ _ from Sim.prc I fun a z => z.elim (hP a) (hg a))
  have K := Sim.put (C := C) (i := i) J r nd h0 hp
  rw [List.set_set, List.set_set, set_same e1] at K
  exact K
theorem s_grp {i j k : Nat} {od on ov : Expr} {kl : Pos} {a1 c1 a2 c2 : Pos} (hd : PE X od (tVar i)) (hn : PE X on (tVar j)) (ha : PA X [ov] (tCons (tVar k) tNil)) (m : M2 X od "setdefault" a1 on (.List [] kl) c1)
    (hs : swapsWith (.Call (.Attribute (.Call (.Attribute od "setdefault" a1) [on, .List [] kl] [] c1) "append" a2) [ov] [] c2) none pos.line X.env = pure false := by rfl)
    (hbase : attributeBase (.Call (.Attribute od "setdefault" a1) [on, .List [] kl] [] c1) "append" X.env (eval (.Call (.Attribute od "setdefault" a1) [on, .List [] kl] [] c1) X.env) = eval (.Call (.Attribute od "setdefault" a1) [on, .List [] kl] [] c1) X.env := by rfl)
    (hfew : ((backTo c2 (starEach [ov] X.env)).all (fun x => !x.1) && (backToKw c2 (keywordEach [] X.env)).all (fun x => x.1.isSome)
      && decide (([ov] : List Expr).length + ([] : List Keyword).length + (if ([] : List Keyword).isEmpty then 0 else 1) < 30)) = true := by rfl)
    (hline : (a2.endLine == c2.line) = true := by rfl) (hst : starEach [ov] X.env = (false, eval ov X.env) :: starEach [] X.env := by rfl) (hplain : (backTo c2 (starEach [] X.env)).any (·.1) = false := by rfl) :
    PS X (.Expr (.Call (.Attribute (.Call (.Attribute od "setdefault" a1) [on, .List [] kl] [] c1) "append" a2) [ov] [] c2) pos) (tS C W (sGrp i j k)) := by
  refine ps_imp (ps_expr (pe_bm PySem.F.plainAttrs_list PySem.F.slot_list_append PySem.F.type_list_append mt_append (pe_dsetd hd hn (pe_lst pa_nil) m) ha hbase hfew hline hst hplain) hs) fun D σ H ⟨ρ, S, A, G, I, q⟩ => ?_
  unfold sGrp at q
  split at q
  case h_2 => exact q.elim
  rename_i ks xs n d hi hj hk
  split at q
  case isFalse => exact q.elim
  rename_i hks
  obtain ⟨v, g, e1, r, sb⟩ := I.slots i _ hi
  obtain ⟨v2, g2, e2, r2, _⟩ := I.slots j _ hj
  obtain ⟨v3, g3, e3, r3, _⟩ := I.slots k _ hk
  have dn := r2.nil_d.2
  obtain rfl : v2 = .int n := by cases dn; rfl
  have dd := r3.nil_d.2
  have gG : ∀ b ∈ g, b ∈ G.flatten := fun b m => getD_mem (sb.subset m)
  have nd : g.Nodup := by
    have n := (List.nodup_append.mp I.nd).2.1
    cases hG : G[i]? with
    | none => rw [hG] at sb; rw [List.sublist_nil.mp sb]; exact List.nodup_nil
    | some l => rw [hG] at sb; exact ((List.pairwise_flatten.mp n).1 l (List.mem_of_getElem? hG)).sublist sb
  have E0g : ∀ b ∈ g, C.E0 b = none := fun b m => by
    rcases I.fresh b (List.mem_append_right _ (gG b m)) with z | z
    · exact absurd rfl ((List.nodup_append.mp I.nd).2.2 b (I.pre.subset z) b (gG b m))
    · exact z
  have npg : ∀ b ∈ g, ¬ C.Pr b := fun b m z => (I.prot b z).1 (List.mem_append_right _ (gG b m))
  have trg : ∀ b ∈ g, H b ≠ none := fun b m => I.trk b (List.mem_append_right _ (gG b m))
  cases r with
  | @dic a0 _ _ vs g1 e kl' l r =>
  have a0g : a0 ∈ a0 :: g1 := List.mem_cons_self
  refine ⟨.ref a0, e1, a0, rfl, .inl ⟨_, .inl e⟩, .int n, e2, by rw [sizeLine_eq]; exact Nat.zero_le _, fun p0 hp0 => ?_⟩
  have ne0 : ∀ b ∈ a0 :: g1, b ≠ p0 := fun b m z => trg b m (by rw [z]; exact hp0)
  have J1 : Sim (C.pr fun b => (C.Pr b ∨ b ∈ G[i]?.getD []) ∨ b = p0) (ρ.set i none) S A (G.set i []) σ (upd H p0 (.lst [])) := Sim.newP (C := C.pr fun b => C.Pr b ∨ b ∈ G[i]?.getD []) (I.drop i) hp0
  have hF : ∀ b, Fs C A (G.set i []) b → Fs C A G b := fun b z => by
    rcases z with z | z | z
    · exact .inl z
    · exact .inr (.inl (flatten_set_nil.subset z))
    · exact .inr (.inr z)
  have e' : upd H p0 (.lst []) a0 = some (.dK (kvz ks vs)) := by rw [upd_ne (ne0 a0 a0g)]; exact e
  have hp0F : ¬ Fs C A G p0 := fun z => by
    rcases z with z | z | z
    · exact I.trk p0 (List.mem_append_left _ z) hp0
    · exact I.trk p0 (List.mem_append_right _ z) hp0
    · exact (I.prot p0 z).2 hp0
  have hlk : (kvz ks vs).length < sizeLine ∨ True := .inr trivial
  have kvl : (kvz ks vs).length = ks.length := by simp [kvz, kl']
  have ext : ∀ (g' : List Addr) (H' : Hp), (∀ b ∈ g', b ∈ a0 :: g1 ∨ b = p0) → (∀ b o, H b = some o → b ∉ a0 :: g1 → H' b = some o) → (∀ b, H b ≠ none → H' b ≠ none) → ExtS A G H A (G.set i g') H' := fun g' H' hg hk ht => by
    refine ⟨List.prefix_refl _, fun b m => ?_, fun b o q n => hk b o q fun z => n (List.mem_append_right _ (gG b z)), ht⟩
    rcases List.mem_append.mp m with m | m
    · exact .inl (List.mem_append_left _ m)
    · rcases flatten_set_sub m with z | z
      · exact .inl (List.mem_append_right _ z)
      · rcases hg b z with z | z
        · exact .inl (List.mem_append_right _ (gG b z))
        · exact .inr (by rw [z]; exact hp0)
  have putok : ∀ (g' : List Addr) (x : SV) (H' : Hp), (∀ b ∈ g', b ∈ a0 :: g1 ∨ b = p0) → g'.Nodup → Sim (C.pr fun b => (C.Pr b ∨ b ∈ G[i]?.getD []) ∨ b = p0) (ρ.set i none) S A (G.set i []) σ H' →
      Rs C.K C.mg H' A (fun a => Fs C A (G.set i []) a ∨ a ∈ g') x (.ref a0) g' → Sim C (ρ.set i (some x)) S A (G.set i g') σ H' := fun g' x H' hg hn J r' => by
    refine Sim.backD (g0 := []) e1 J (fun b m => ?_) (fun b z => .inl (.inl z)) r' hn (fun b m => ?_) (fun b m => ?_)
    · rcases hg b m with z | z
      · exact .inl (.inr (sb.subset z))
      · exact .inr z
    · rcases hg b m with z | z
      · exact E0g b z
      · exact z ▸ I.e0 p0 hp0
    · rcases hg b m with z | z
      · exact npg b z
      · exact fun w => hp0F (.inr (.inr (z ▸ w)))
  refine ⟨kvz ks vs, .inl n, e', rfl, ?_, fun w hw => ?_, fun hw => ?_⟩
  · rw [kvl]; exact hks
  · rw [valV_kvz kl'] at hw
    cases hp : posK ks n with
    | none => rw [hp] at hw; cases hw
    | some p =>
      rw [hp] at hw q
      simp only [Option.bind_some] at hw
      simp only at q
      split at q
      case h_2 => exact q.elim
      rename_i ys hy
      split at q
      case isFalse => exact q.elim
      rename_i hlt
      obtain ⟨w', gl, gz, gr, h1, h2, h3, h4⟩ := RsL.at' r hy
      rw [h1] at hw
      cases hw
      cases h2 with
      | @own b _ us gy eb lb rb =>
      subst h3
      have bg : b ∈ a0 :: (gl ++ (b :: gy ++ gr)) := List.mem_cons_of_mem _ (List.mem_append_right _ (List.mem_append_left _ List.mem_cons_self))
      have hb0 : b ≠ p0 := ne0 b bg
      have eb' : upd H p0 (.lst []) b = some (.lst us) := by rw [upd_ne hb0]; exact eb
      have hlen : us.length = ys.length := rb.length
      refine ⟨.inl ⟨rfl, us, .inl (.inl eb')⟩, v3, e3, b, us, v3, rfl, rfl, eb', by omega, ?_⟩
      refine q A (G.set i (a0 :: (gl ++ (b :: gy ++ gr)))) σ _ (ext _ _ (fun c m => .inl m) (fun c o h n => ?_) fun c h => ?_) (putok _ _ _ (fun c m => .inl m) nd ?_ ?_)
      · rw [upd_ne (show c ≠ b from fun z => n (by rw [z]; exact bg)), upd_ne (show c ≠ p0 from fun z => by rw [z, hp0] at h; cases h)]
        exact h
      · by_cases z : c = b
        · rw [z, upd_same]; simp
        · rw [upd_ne z, upd_ne (show c ≠ p0 from fun z => h (by rw [z]; exact hp0))]
          exact h
      · exact Sim.updP (C := C) J1 (.inl (.inr (sb.subset bg))) (E0g b bg)
      · have nd1 := (List.nodup_cons.mp nd).2
        have n1 := List.nodup_append.mp nd1
        have n2 := List.nodup_append.mp n1.2.1
        have bF : Fs C A G b := .inr (.inl (gG b bg))
        have hF2 : ∀ c, (Fs C A (G.set i []) c ∨ c ∈ a0 :: (gl ++ (b :: gy ++ gr))) → Fs C A G c ∨ H c = none := fun c z => by
          rcases z with z | z
          · exact .inl (hF c z)
          · exact .inl (.inr (.inl (gG c z)))
        have hH2 : ∀ c o, H c = some o → c ≠ b → upd (upd H p0 (.lst [])) b (.lst (us ++ [v3])) c = some o := fun c o h n => by
          rw [upd_ne n, upd_ne (show c ≠ p0 from fun z => by rw [z, hp0] at h; cases h)]
          exact h
        have hH3 : ∀ c o, H c = some o → ¬ Fs C A G c → upd (upd H p0 (.lst [])) b (.lst (us ++ [v3])) c = some o := fun c o h n => hH2 c o h fun z => n (z ▸ bF)
        have a0b : a0 ≠ b := fun z => (List.nodup_cons.mp nd).1 (by rw [z]; exact List.mem_append_right _ (List.mem_append_left _ List.mem_cons_self))
        have ry : RsL C.K C.mg (upd (upd H p0 (.lst [])) b (.lst (us ++ [v3]))) A (fun c => Fs C A (G.set i []) c ∨ c ∈ a0 :: (gl ++ (b :: gy ++ gr))) (ys ++ [.d d]) (us ++ [v3]) gy := by
          have := RsL.app (RsL.mono (fun _ _ q => q) hF2 hH3 _ _ _ (fun c m o h => hH2 c o h fun z => (List.nodup_cons.mp n2.1).1 (z ▸ m)) rb) (RsL.cons (.d (Dq.mono hF2 hH3 _ _ dd)) RsL.nil)
          simpa using this
        refine .dic (hH2 _ _ e a0b) kl' l (h4 _ _ hF2 hH3 (fun c m o h => hH2 c o h fun z => ?_) _ (b :: gy) (.own upd_same (by rw [List.length_append, List.length_singleton]; omega) ry))
        subst z
        rcases List.mem_append.mp m with m | m
        · exact n1.2.2 c m c (List.mem_append_left _ List.mem_cons_self) rfl
        · exact n2.2.2 c List.mem_cons_self c m rfl
  · have hp : posK ks n = none := by
      rw [valV_kvz kl'] at hw
      cases hp : posK ks n with
      | none => rfl
      | some p =>
        rw [hp] at hw
        have := posK_lt hp
        rw [← kl'] at this
        simp [this] at hw
    rw [hp] at q
    simp only at q
    have a0p : a0 ≠ p0 := ne0 a0 a0g
    have hF2 : ∀ c, (Fs C A (G.set i []) c ∨ c ∈ a0 :: (g1 ++ [p0])) → Fs C A G c ∨ H c = none := fun c z => by
      rcases z with z | z
      · exact .inl (hF c z)
      · rcases List.mem_cons.mp z with z | z
        · exact .inl (.inr (.inl (gG c (by rw [z]; exact a0g))))
        · rcases List.mem_append.mp z with z | z
          · exact .inl (.inr (.inl (gG c (List.mem_cons_of_mem _ z))))
          · obtain rfl : c = p0 := by simpa using z
            exact .inr hp0
    have aF : Fs C A G a0 := .inr (.inl (gG a0 a0g))
    have hH2 : ∀ c o, H c = some o → c ≠ a0 → upd (upd (upd H p0 (.lst [])) a0 (.dK (putK (kvz ks vs) (.inl n) (.ref p0)))) p0 (.lst ([] ++ [v3])) c = some o := fun c o h n => by
      have np : c ≠ p0 := fun z => by rw [z, hp0] at h; cases h
      rw [upd_ne np, upd_ne n, upd_ne np]
      exact h
    have hH3 : ∀ c o, H c = some o → ¬ Fs C A G c → upd (upd (upd H p0 (.lst [])) a0 (.dK (putK (kvz ks vs) (.inl n) (.ref p0)))) p0 (.lst ([] ++ [v3])) c = some o := fun c o h n => hH2 c o h fun z => n (z ▸ aF)
    have mg : ∀ c ∈ a0 :: (g1 ++ [p0]), c ∈ a0 :: g1 ∨ c = p0 := fun c m => by
      rcases List.mem_cons.mp m with z | z
      · exact .inl (by rw [z]; exact a0g)
      · rcases List.mem_append.mp z with z | z
        · exact .inl (List.mem_cons_of_mem _ z)
        · exact .inr (by simpa using z)
    refine ⟨.inl ⟨rfl, [], .inl (.inl (by rw [upd_ne (Ne.symm a0p), upd_same]))⟩, v3, e3, p0, [], v3, rfl, rfl, by rw [upd_ne (Ne.symm a0p), upd_same], by rw [sizeLine_eq]; decide, ?_⟩
    refine q A (G.set i (a0 :: (g1 ++ [p0]))) σ _ (ext _ _ mg (fun c o h n => hH2 c o h fun z => n (by rw [z]; exact a0g)) fun c h => ?_) (putok _ _ _ mg ?_ ?_ ?_)
    · by_cases z : c = a0
      · rw [z, upd_ne a0p, upd_same]; simp
      · have np : c ≠ p0 := fun z => h (by rw [z]; exact hp0)
        rw [upd_ne np, upd_ne z, upd_ne np]
        exact h
    · refine List.nodup_cons.mpr ⟨fun m => ?_, List.nodup_append.mpr ⟨(List.nodup_cons.mp nd).2, by simp, fun c m c' m' z => ?_⟩⟩
      · rcases List.mem_append.mp m with m | m
        · exact (List.nodup_cons.mp nd).1 m
        · exact a0p (by simpa using m)
      · obtain rfl : c' = p0 := by simpa using m'
        exact ne0 c (List.mem_cons_of_mem _ m) z
    · exact Sim.updP (C := C) (Sim.updP (C := C) J1 (.inl (.inr (sb.subset a0g))) (E0g a0 a0g)) (.inr rfl) (I.e0 p0 hp0)
    · have r1 := RsL.mono (K := C.K) (mg := C.mg) (A := A) (A' := A) (fun _ _ q => q) hF2 hH3 _ _ _ (fun c m o h => hH2 c o h fun z => (List.nodup_cons.mp nd).1 (z ▸ m)) r
      have r2 : RsL C.K C.mg (upd (upd (upd H p0 (.lst [])) a0 (.dK (putK (kvz ks vs) (.inl n) (.ref p0)))) p0 (.lst ([] ++ [v3]))) A (fun c => Fs C A (G.set i []) c ∨ c ∈ a0 :: (g1 ++ [p0])) [.d d] [v3] [] := RsL.cons (g := []) (g' := []) (.d (Dq.mono hF2 hH3 _ _ dd)) RsL.nil
      have r3 := RsL.app r1 (RsL.cons (.own upd_same (by rw [sizeLine_eq]; show 1 ≤ 16777216; decide) r2) RsL.nil)
      refine .dic (vs := vs ++ [.ref p0]) ?_ (by simp [kl']) (by rw [List.length_append, List.length_singleton]; omega) (by simpa using r3)
      rw [upd_ne a0p, upd_same, kvz_snoc kl' hp]
end
end VL

end
section
set_option Elab.async false
set_option linter.all false
set_option maxRecDepth 100000
/-! VL24: defs that call themselves, enumerate in a loop, unpacking a list, tests. -/
namespace VL
open PySem PySem.Spec PyProof.Rows L2
theorem boot_sorted' : bootBuiltins "sorted" = some (.builtin "sorted") := by decide +kernel
theorem boot_repr' : bootBuiltins "repr" = some (.builtin "repr") := by decide +kernel
theorem u66 {k : Nat} {A : Around} (r : Room k A) : A.units + 66 < cLine := by have := r.un; omega
section
variable {X : Cx} {C : Ct} {W : WX} {kd ka kb : Kd} {tg e a b c : Expr} {es : List Expr} {pos : Pos} {f fa fb : Rho → Mo SV} {fs : Rho → Mo (List SV)}
theorem t_leD (hk : C.K = X.K) (hu : X.A.units + 64 < cLine) (ha : PE X a (tV C W ka fa)) (hb : PE X b (tV C W kb fb)) : PT X (.Compare a [.LtE] [b] pos) (tTs C W (bB (eBin (cB gLeD) fa fb))) := t_cmp (op_le.or (op_leD hu)) (hk ▸ c_leD) ha hb (nomark _)
theorem Rk.walkF {P : Addr → Prop} {ρ : Rho} {S : Sto} {g A : List Addr} {G : List (List Addr)} {σ : L2.St} {H0 H : Hp} {x : SV} {ds : List PyData} {v : V} (I : Sim (C.pr P) ρ S A G σ H) (r : Rk (C.pr P) ka g A G H0 H x v) (h : plainL x = some ds) (hg : ∀ a ∈ g, a ∉ G.flatten) :
    ∃ a, v = .ref a ∧ (∃ ys, SqL C.K H a ys) ∧ Wk (C.pr P) true A G (Itl C.K a) (ds.map SV.d) H := by
  obtain ⟨r1, h1⟩ := r.asBe
  cases r1 with
  | d r1 =>
    cases r1 with
    | lst e n l q => cases h; exact ⟨_, rfl, ⟨_, .of e⟩, wk_lst (RsL.ofD q) fun A2 G2 H2 e2 hk => .of (fs_kept e2 _ _ e n)⟩
    | _ => cases h
  | own e l q =>
    obtain ⟨q', rfl⟩ := RsL.toD q h
    exact ⟨_, rfl, ⟨_, .of e⟩, wk_lst (RsL.ofD q') fun A2 G2 H2 e2 hk => .of (e2.keep _ _ e fun m => (List.mem_append.mp m).elim (fun m => (h1 _ List.mem_cons_self).1 m) (fun m => hg _ List.mem_cons_self m))⟩
  | _ => cases h
theorem i_enumF (hk : C.K = X.K) {p tpos : Pos} {elts : List Expr} {kk : Nat} (hg : Gl X "enumerate") (hm : X.mg "enumerate" = none) (ha : PA X [a] (tVs C W .fe fs)) (hs : starEach [a] X.env = [(false, eval a X.env)] := by rfl) :
    PI X (.Tuple elts kk tpos) (.Call (.Name "enumerate" p) [a] [] pos) (tI C W true (iEnum1 fs)) := by
  refine pi_imp (pi_enum hg hm ha hs) fun σ H R ⟨P, ρ, S, A, G, hP, I, q⟩ => ⟨P, ρ, S, A, G, hP, I, EGood.step q (fun _ _ _ _ _ _ z => z) fun xs S1 q vs H1 p => ?_⟩
  obtain ⟨A1, g1, e1, J1, k1⟩ := p
  split at q
  · rename_i x
    cases ex : plainL x with
    | none => rw [ex] at q; exact q.elim
    | some ds =>
      rw [ex] at q
      obtain ⟨v, rfl, r1⟩ := k1.one
      obtain ⟨a1, rfl, ⟨y1, s1⟩, w1⟩ := r1.walkF J1.pgw ex (fun a m z => (J1.prot a (.inr m)).1 (List.mem_append_right _ z))
      refine ⟨a1, y1, rfl, hk ▸ s1, ?_⟩
      rw [← hk]
      exact q _ _ ⟨A1, e1, J1.pgw, wk_enum w1 (allD_map ds)⟩
  · exact q.elim
end
/-! unpacking a list -/
def gTl (n : Nat) (u : List SV → Rho → Option Rho) : TgF := fun x ρ => match x with
  | .d (.list ds) => if ds.length = n then u (ds.map .d) ρ else none
  | _ => none
theorem g_tl {C : Ct} {n : Nat} {u : List SV → Rho → Option Rho} {is : List Nat} {ug : TGs} (h : GsOk C u is ug) : GOk C (gTl n u) is (gLst C.K n ug) := by
  intro P ρ ρ' S A G σ H x v Q I r e q
  unfold gTl at e
  split at e
  · rename_i ds
    split at e
    · rename_i hl
      obtain ⟨_, d⟩ := r.nil_d
      cases d with
      | lst e' _ _ hd => exact ⟨_, _, rfl, .of e', hd.length.trans hl, h P ρ ρ' S A G σ H _ _ _ I (RsL.ofD hd) e q⟩
    · cases e
  · cases e
/-! a def that calls itself -/
section
variable {P : Program} {w : World} {K : PySem.W.Frag} {mg : Str → Option Value} {base : Heap} {x qual : Str} {params : Arguments} {body : List Stmt} {scope : Scope} {f : Addr} {fd : FuncData} {N ps : List Str} {k : Nat}
theorem pss_none {X : Cx} {C : Ct} {W : WX} {body : List Stmt} : PSs X body (tS C W fun _ _ => none) := ⟨fun pins s σ H D I h => by
  obtain ⟨ρ, S, A, G, J, q⟩ := h
  exact q.elim⟩
theorem mk_def0 (F : FunD K x qual params body scope [] [] f fd) (hm : mg x = some (.ref f)) (Sc : FnScope N ps scope) (hl : ps.length ≤ N.length)
    (hbind : ∀ (kV doc pm : Value) (an : Option Addr) (cdv ct : Value) (us : List Value), us.length = ps.length → bindArgs (PySem.W.fnOf x qual params body scope .none kV doc pm an cdv ct) ⟨us, []⟩ = pure (ps.zip us)) : DefOk P w K mg base (k + 1) x ps.length (runF N.length fun _ _ => none) :=
  mk_def (k := k) (fb := fun _ _ => none) F hm Sc hl hbind fun _ _ _ _ _ _ _ _ _ _ => pss_none
end
/-! a slot's list becomes a shared one -/
section
variable {C : Ct} {ρ : Rho} {S : Sto} {A : List Addr} {G : List (List Addr)} {σ : L2.St} {H : Hp}
theorem Sim.share {i : Nat} {zs ys : List SV} (I : Sim C ρ S A G σ H) (hi : ρ[i]? = some (some (.own zs))) (hf : frzs zs = some ys) :
    ∃ a, Sim C (ρ.set i (some (.ref S.length))) (S ++ [ys]) (A ++ [a]) (G.set i []) σ H ∧ ExtS A G H (A ++ [a]) (G.set i []) H := by
  obtain ⟨v, g, e1, r, sb⟩ := I.slots i _ hi
  cases r with
  | @own a _ us g e l r =>
  have J := I.drop i
  have aG : a ∈ G[i]?.getD [] := sb.subset List.mem_cons_self
  have aF : a ∈ G.flatten := getD_mem aG
  have hp := J.prot a (.inr aG)
  have ndg : (a :: g).Nodup := by
    have n := (List.nodup_append.mp I.nd).2.1
    cases hG : G[i]? with
    | none => rw [hG] at sb; cases List.sublist_nil.mp sb
    | some l => rw [hG] at sb; exact ((List.pairwise_flatten.mp n).1 l (List.mem_of_getElem? hG)).sublist sb
  have hF : ∀ b, Fs C (A ++ [a]) (G.set i []) b → Fs (C.pr fun b => C.Pr b ∨ b ∈ G[i]?.getD []) A (G.set i []) b ∨ H b = none := fun b z => by
    rcases z with z | z | z
    · rcases List.mem_append.mp z with z | z
      · exact .inl (.inl z)
      · obtain rfl : b = a := by simpa using z
        exact .inl (.inr (.inr (.inr aG)))
    · exact .inl (.inr (.inl z))
    · exact .inl (.inr (.inr (.inl z)))
  have hA : ∀ (n : Nat) b, A[n]? = some b → (A ++ [a])[n]? = some b := fun n b h => by
    rw [List.getElem?_append_left (List.getElem?_eq_some_iff.mp h).1]
    exact h
  refine ⟨a, ⟨I.pre.trans (List.prefix_append _ _), by simp [I.lr], by simp [I.lg], by simp [I.ls], ?_, fun b m => ?_, fun b q => ⟨fun m => ?_, (I.prot b q).2⟩, fun j x hj => ?_, fun n xs hn => ?_, I.frame, fun b m => ?_, I.a0⟩, ⟨List.prefix_append _ _, fun b m => .inl ?_, fun b o h n => h, fun b h => h⟩⟩
  · have : ((A ++ [a]) ++ (G.set i []).flatten).Perm (a :: (A ++ (G.set i []).flatten)) := by
      rw [List.append_assoc]
      exact List.perm_middle
    exact this.nodup_iff.mpr (List.nodup_cons.mpr ⟨hp.1, J.nd⟩)
  · rcases List.mem_append.mp m with m | m
    · rcases List.mem_append.mp m with m | m
      · exact J.trk b (List.mem_append_left _ m)
      · obtain rfl : b = a := by simpa using m
        exact hp.2
    · exact J.trk b (List.mem_append_right _ m)
  · rcases List.mem_append.mp m with m | m
    · rcases List.mem_append.mp m with m | m
      · exact (I.prot b q).1 (List.mem_append_left _ m)
      · obtain rfl : b = a := by simpa using m
        exact (I.prot b q).1 (List.mem_append_right _ aF)
    · exact (I.prot b q).1 (List.mem_append_right _ (flatten_set_nil.subset m))
  · by_cases hji : j = i
    · subst hji
      have hlt : j < ρ.length := (List.getElem?_eq_some_iff.mp hi).1
      rw [List.getElem?_set_self hlt] at hj
      cases hj
      refine ⟨.ref a, [], e1, .ref ?_, List.nil_sublist _⟩
      rw [I.ls, List.getElem?_append_right (Nat.le_refl _)]
      simp
    · rw [List.getElem?_set_ne (Ne.symm hji)] at hj
      obtain ⟨v', g', h1, h2, h3⟩ := J.slots j x (by rw [List.getElem?_set_ne (Ne.symm hji)]; exact hj)
      exact ⟨v', g', h1, Rs.mono hA hF (fun b o q n => q) _ _ _ (fun b m o q => q) h2, h3⟩
  · by_cases hl : n < S.length
    · rw [List.getElem?_append_left hl] at hn
      obtain ⟨b, vs, q1, q2, q3, q4⟩ := J.sto n xs hn
      exact ⟨b, vs, hA _ _ q1, q2, q3, RsL.mono hA hF (fun b o q n => q) _ _ _ (fun b m o q => q) q4⟩
    · rw [List.getElem?_append_right (by omega)] at hn
      have hz : n - S.length = 0 := by
        have := (List.getElem?_eq_some_iff.mp hn).1
        simp at this
        omega
      rw [hz] at hn
      cases hn
      refine ⟨a, us, ?_, e, l, RsL.frzF (F := Fs C (A ++ [a]) (G.set i [])) (F1 := fun b => Fs C A G b ∨ b ∈ A ++ [a]) hA (fun b z => ?_) (RsL.mono (fun _ _ q => q) (fun b z => ?_) (fun b o q n => q) _ _ _ (fun b m o q => q) r) (fun b m z => ?_) hf⟩
      · rw [show n = A.length by rw [← I.ls]; omega, List.getElem?_append_right (Nat.le_refl _)]
        simp
      · rcases z with z | z | z
        · exact .inr z
        · exact .inl (.inr (.inl (flatten_set_nil.subset z)))
        · exact .inl (.inr (.inr z))
      · rcases z with z | z
        · exact .inl z
        · rcases List.mem_append.mp z with z | z
          · exact .inl (.inl z)
          · obtain rfl : b = a := by simpa using z
            exact .inl (.inr (.inl aF))
      · have bG : b ∈ G[i]?.getD [] := sb.subset (List.mem_cons_of_mem _ m)
        have hb := J.prot b (.inr bG)
        rcases z with z | z | z
        · rcases List.mem_append.mp z with z | z
          · exact hb.1 (List.mem_append_left _ z)
          · obtain rfl : b = a := by simpa using z
            exact (List.nodup_cons.mp ndg).1 m
        · exact hb.1 (List.mem_append_right _ z)
        · exact (I.prot b z).1 (List.mem_append_right _ (getD_mem bG))
  · rcases List.mem_append.mp m with m | m
    · rcases List.mem_append.mp m with m | m
      · exact I.fresh b (List.mem_append_left _ m)
      · obtain rfl : b = a := by simpa using m
        exact I.fresh b (List.mem_append_right _ aF)
    · exact I.fresh b (List.mem_append_right _ (flatten_set_nil.subset m))
  · rcases List.mem_append.mp m with m | m
    · rcases List.mem_append.mp m with m | m
      · exact List.mem_append_left _ m
      · obtain rfl : b = a := by simpa using m
        exact List.mem_append_right _ aF
    · exact List.mem_append_right _ (flatten_set_nil.subset m)
theorem t_ghA {W : WX} {s : Rho → Sto → Option Fl} {i : Nat} (D : Ends) (σ : L2.St) (H : Hp) (h : tS C W (ghA i s) D σ H) : tS C W s D σ H := by
  obtain ⟨ρ, S, A, G, I, q⟩ := h
  unfold ghA at q
  split at q
  · rename_i zs hz
    cases hf : frzs zs with
    | none => rw [hf] at q; exact q.elim
    | some ys =>
      rw [hf] at q
      obtain ⟨a, J, e⟩ := I.share hz hf
      exact ⟨_, _, _, _, J, q.ext e⟩
  · exact q.elim
theorem ss_ghA {X : Cx} {W : WX} {sts : List Stmt} {s : Rho → Sto → Option Fl} {i : Nat} (h : PSs X sts (tS C W s)) : PSs X sts (tS C W (ghA i s)) := pss_imp h t_ghA
end
end VL

end
section
set_option Elab.async false
set_option linter.all false
set_option maxRecDepth 100000
/-! VM1: what the value functions are at values: for simp. -/
namespace VL
open PySem PySem.Spec PyProof.Rows L2
section
variable {α β : Type} (i j k n : Nat) (ρ : Rho) (S : Sto) (f f' g : Rho → Mo SV) (fs gs : Rho → Mo (List SV)) (b c : Rho → Mo Bool) (s t : Rho → Sto → Option Fl) (op : Sto → SV → SV → Option SV) (o1 : Sto → SV → Option SV) (cm cm' : Sto → SV → SV → Option Bool) (cl : Sto → List SV → Option SV)
@[simp] theorem a_eVar : eVar i ρ S = match ρ[i]? with
  | some (some x) => some (.ok x S)
  | _ => none := rfl
@[simp] theorem a_eVarV : eVarV i ρ S = match ρ[i]? with
  | some (some x) => if noOwn x then some (.ok x S) else none
  | _ => none := rfl
@[simp] theorem a_eCon (d : PyData) : eCon d ρ S = some (.ok (.d d) S) := rfl
@[simp] theorem a_eFn (x : Str) : eFn x ρ S = some (.ok (.fn x) S) := rfl
@[simp] theorem a_eBin : eBin op f f' ρ S = bindM (f ρ S) fun x S1 => bindM (f' ρ S1) fun y S2 => (op S2 x y).map fun z => .ok z S2 := rfl
@[simp] theorem a_eUn : eUn o1 f ρ S = bindM (f ρ S) fun x S1 => (o1 S1 x).map fun z => .ok z S1 := rfl
@[simp] theorem a_aNil : aNil ρ S = some (.ok [] S) := rfl
@[simp] theorem a_aCons : aCons f fs ρ S = bindM (f ρ S) fun x S1 => bindM (fs ρ S1) fun xs S2 => some (.ok (x :: xs) S2) := rfl
@[simp] theorem a_eCal : eCal cl fs ρ S = bindM (fs ρ S) fun xs S1 => (cl S1 xs).map fun z => .ok z S1 := rfl
@[simp] theorem a_eTup : eTup fs ρ S = bindM (fs ρ S) fun xs S1 => if xs.length ≤ sizeLine then (datOs xs).map fun ds => .ok (.d (.tuple ds)) S1 else none := rfl
@[simp] theorem a_eLst : eLst fs ρ S = bindM (fs ρ S) fun xs S1 => if xs.length ≤ sizeLine then some (.ok (.own xs) S1) else none := rfl
@[simp] theorem a_eCall (F : List SV → Mo SV) (bs : List Bool) : eCall n F bs fs ρ S = bindM (fs ρ S) fun xs S1 => if xs.length = n then (cvt bs xs S1).bind fun p => F p.1 p.2 else none := rfl
@[simp] theorem a_eNot : eNot f ρ S = bindM (f ρ S) fun x S1 => match x with
  | .d (.bool b) => some (.ok (.d (.bool !b)) S1)
  | _ => none := rfl
@[simp] theorem a_bVal : bVal f ρ S = bindM (f ρ S) fun x S1 => (truth S1 x).map fun b => .ok b S1 := rfl
@[simp] theorem a_bAnd : bAnd b c ρ S = bindM (b ρ S) fun k S1 => if k then c ρ S1 else some (.ok false S1) := rfl
@[simp] theorem a_bOr : bOr b c ρ S = bindM (b ρ S) fun k S1 => if k then some (.ok true S1) else c ρ S1 := rfl
@[simp] theorem a_bNot : bNot b ρ S = bindM (b ρ S) fun k S1 => some (.ok (!k) S1) := rfl
@[simp] theorem a_bB : bB f ρ S = bindM (f ρ S) fun x S1 => match x with
  | .d (.bool b) => some (.ok b S1)
  | _ => none := rfl
@[simp] theorem a_sNil : sNil ρ S = some (.nx ρ S) := rfl
@[simp] theorem a_sSeq : sSeq s t ρ S = match s ρ S with
  | some (.nx ρ' S') => t ρ' S'
  | r => r := rfl
@[simp] theorem a_sSet : sSet i f ρ S = bindS ρ (f ρ S) fun x S1 => some (.nx (ρ.set i (some x)) S1) := rfl
@[simp] theorem a_sAsg (tf : TgF) : sAsg tf f ρ S = bindS ρ (f ρ S) fun x S1 => (frz x).bind fun y => (tf y ρ).map fun ρ' => .nx ρ' S1 := rfl
@[simp] theorem a_sPar : sPar i j fs ρ S = bindS ρ (fs ρ S) fun xs S1 => match xs with
  | [x, y] => some (.nx ((ρ.set i (some x)).set j (some y)) S1)
  | _ => none := rfl
@[simp] theorem a_sPar3 : sPar3 i j k fs ρ S = bindS ρ (fs ρ S) fun xs S1 => (frzs xs).bind fun ys => match ys with
  | [x, y, z] => some (.nx (((ρ.set i (some x)).set j (some y)).set k (some z)) S1)
  | _ => none := rfl
@[simp] theorem a_sRet : sRet f ρ S = bindS ρ (f ρ S) fun x S1 => some (.rt x S1) := rfl
@[simp] theorem a_sRetV : sRetV i ρ S = match ρ[i]? with
  | some (some x) => some (.rt x S)
  | _ => none := rfl
@[simp] theorem a_sRetN : sRetN ρ S = some (.rt (.d .none) S) := rfl
@[simp] theorem a_sIf : sIf b s t ρ S = bindS ρ (b ρ S) fun k S1 => if k then s ρ S1 else t ρ S1 := rfl
@[simp] theorem a_sRaise (x : Str) : sRaise x ρ S = some (.exc x [] ρ S) := rfl
@[simp] theorem a_sDrop : sDrop f ρ S = bindS ρ (f ρ S) fun _ S1 => some (.nx ρ S1) := rfl
@[simp] theorem a_sFor (it : Rho → Mo (List SV)) (tf : TgF) : sFor it tf s ρ S = bindS ρ (it ρ S) fun xs S1 => forL tf s xs ρ S1 := rfl
end
@[simp] theorem a_gNm (i : Nat) (x : SV) (ρ : Rho) : gNm i x ρ = if noOwn x then some (ρ.set i (some x)) else none := rfl
@[simp] theorem noOwn_d (d : PyData) : noOwn (.d d) = true := rfl
@[simp] theorem noOwn_ref (n : Nat) : noOwn (.ref n) = true := rfl
@[simp] theorem noOwn_fn (x : Str) : noOwn (.fn x) = true := rfl
@[simp] theorem noOwn_scr (ns : List Int) : noOwn (.scr ns) = true := rfl
@[simp] theorem noOwn_own (xs : List SV) : noOwn (.own xs) = false := rfl
@[simp] theorem frz_d (d : PyData) : frz (.d d) = some (.d d) := rfl
@[simp] theorem frz_ref (n : Nat) : frz (.ref n) = some (.ref n) := rfl
@[simp] theorem frz_fn (x : Str) : frz (.fn x) = some (.fn x) := rfl
@[simp] theorem frz_scr (ns : List Int) : frz (.scr ns) = some (.scr ns) := rfl
@[simp] theorem datO_d (d : PyData) : datO (.d d) = some d := by simp [datO]
@[simp] theorem datOs_nil : datOs [] = some [] := by simp [datOs]
@[simp] theorem datOs_cons (x : SV) (xs : List SV) : datOs (x :: xs) = (datO x).bind fun d => (datOs xs).map (d :: ·) := by simp [datOs]
@[simp] theorem frzs_nil : frzs [] = some [] := rfl
@[simp] theorem frzs_cons (x : SV) (xs : List SV) : frzs (x :: xs) = (frz x).bind fun y => (frzs xs).map (y :: ·) := rfl
@[simp] theorem cvt_nil (bs : List Bool) (S : Sto) : cvt bs [] S = some ([], S) := by cases bs <;> rfl
@[simp] theorem cvt_0 (x : SV) (xs : List SV) (S : Sto) : cvt [] (x :: xs) S = (frz x).bind fun y => (cvt [] xs S).map fun p => (y :: p.1, p.2) := rfl
@[simp] theorem cvt_f (bs : List Bool) (x : SV) (xs : List SV) (S : Sto) : cvt (false :: bs) (x :: xs) S = (frz x).bind fun y => (cvt bs xs S).map fun p => (y :: p.1, p.2) := rfl
@[simp] theorem cvt_t (bs : List Bool) (zs xs : List SV) (S : Sto) : cvt (true :: bs) (.own zs :: xs) S = (frzs zs).bind fun ys => (cvt bs xs (S ++ [ys])).map fun p => (.ref S.length :: p.1, p.2) := rfl
section
variable (S : Sto) (i j : Int) (a b : Bool)
@[simp] theorem gAdd_i : gAdd S (.d (.int i)) (.d (.int j)) = some (.d (.int (i + j))) := rfl
@[simp] theorem gSub_i : gSub S (.d (.int i)) (.d (.int j)) = some (.d (.int (i - j))) := rfl
@[simp] theorem gMul_i : gMul S (.d (.int i)) (.d (.int j)) = if mulOk i j then some (.d (.int (i * j))) else none := rfl
@[simp] theorem gMulA_i : gMulA S (.d (.int i)) (.d (.int j)) = if mulOk i j then some (.d (.int (i * j))) else none := rfl
@[simp] theorem gFdiv_i : gFdiv S (.d (.int i)) (.d (.int j)) = if divOk i j then some (.d (.int (i.fdiv j))) else none := rfl
@[simp] theorem gMod_i : gMod S (.d (.int i)) (.d (.int j)) = if j ≠ 0 then some (.d (.int (i.fmod j))) else none := rfl
@[simp] theorem gNeg_i : gNeg S (.d (.int i)) = some (.d (.int (-i))) := rfl
@[simp] theorem gLt_i : gLt S (.d (.int i)) (.d (.int j)) = some (decide (i < j)) := rfl
@[simp] theorem gLe_i : gLe S (.d (.int i)) (.d (.int j)) = some (decide (i ≤ j)) := rfl
@[simp] theorem gGt_i : gGt S (.d (.int i)) (.d (.int j)) = some (decide (j < i)) := rfl
@[simp] theorem gGe_i : gGe S (.d (.int i)) (.d (.int j)) = some (decide (j ≤ i)) := rfl
theorem sh_int : SeqAt.shaped (.int i) = true := by
  unfold SeqAt.shaped PyData.canLay0
  simp [PyData.depth]
@[simp] theorem dat_d (d : PyData) : dat? S (.d d) = some d := rfl
@[simp] theorem gAbs_i : gAbs S [.d (.int i)] = some (.d (.int (if i < 0 then -i else i))) := rfl
@[simp] theorem gMax2_i : gMax2 S [.d (.int i), .d (.int j)] = some (.d (.int (if j > i then j else i))) := rfl
@[simp] theorem gMin2_i : gMin2 S [.d (.int i), .d (.int j)] = some (.d (.int (if j < i then j else i))) := rfl
@[simp] theorem gInt_i : gInt S [.d (.int i)] = some (.d (.int i)) := rfl
@[simp] theorem gInt_b : gInt S [.d (.bool a)] = some (.d (.int (if a then 1 else 0))) := rfl
@[simp] theorem truth_b : truth S (.d (.bool a)) = some a := rfl
@[simp] theorem truth_i : truth S (.d (.int i)) = some (i != 0) := rfl
@[simp] theorem truth_n : truth S (.d .none) = some false := rfl
@[simp] theorem isNone_n : isNone (.d .none) = true := rfl
@[simp] theorem isNone_t (ds : List PyData) : isNone (.d (.tuple ds)) = false := rfl
@[simp] theorem seq_t (ds : List PyData) : seq? S (.d (.tuple ds)) = some (ds.map .d) := rfl
@[simp] theorem seq_l (ds : List PyData) : seq? S (.d (.list ds)) = some (ds.map .d) := rfl
@[simp] theorem seq_s (ns : List Int) : seq? S (.scr ns) = some (ns.map fun n => .d (.int n)) := rfl
@[simp] theorem seq_o (xs : List SV) : seq? S (.own xs) = some xs := rfl
@[simp] theorem seq_r (n : Nat) : seq? S (.ref n) = S[n]? := rfl
@[simp] theorem gIxB_i (x : SV) : gIxB S x (.d (.int i)) = (seq? S x).bind fun xs => atI xs i := rfl
end
end VL

end
section
set_option Elab.async false
set_option linter.all false
set_option maxRecDepth 100000
/-! VM2: equality; loops. -/
namespace VL
open PySem PySem.Spec PyProof.Rows L2
theorem shaped_def (d : PyData) : SeqAt.shaped d = (d.canLay0 && decide (d.depth ≤ 64)) := rfl
/-- plain data: ints and so on, tuples and lists of such -/
@[simp] theorem sh_i (i : Int) : SeqAt.shaped (.int i) = true := by
  rw [shaped_def]; simp [PyData.canLay0, PyData.depth]
@[simp] theorem sh_b (i : Bool) : SeqAt.shaped (.bool i) = true := by
  rw [shaped_def]; simp [PyData.canLay0, PyData.depth]
@[simp] theorem sh_n : SeqAt.shaped .none = true := by
  rw [shaped_def]; simp [PyData.canLay0, PyData.depth]
@[simp] theorem eqv_i (i j : Int) : PyData.eqv (.int i) (.int j) = (i == j) := by simp [PyData.eqv]
@[simp] theorem eqv_b (i j : Bool) : PyData.eqv (.bool i) (.bool j) = (i == j) := by simp [PyData.eqv]
@[simp] theorem gEq_i (S : Sto) (i j : Int) : gEq S (.d (.int i)) (.d (.int j)) = some (i == j) := by simp [gEq]
@[simp] theorem gNe_i (S : Sto) (i j : Int) : gNe S (.d (.int i)) (.d (.int j)) = some (!(i == j)) := by simp [gNe]
/-! ### while -/
theorem whileF_stop {c : Rho → Mo Bool} {b : Rho → Sto → Option Fl} {n : Nat} {ρ : Rho} {S S1 : Sto} (h : c ρ S = some (.ok false S1)) : whileF c b (n + 1) ρ S = some (.nx ρ S1) := by
  unfold whileF; rw [h]; rfl
theorem whileF_go {c : Rho → Mo Bool} {b : Rho → Sto → Option Fl} {n : Nat} {ρ ρ2 : Rho} {S S1 S2 : Sto} (h : c ρ S = some (.ok true S1)) (hb : b ρ S1 = some (.nx ρ2 S2)) : whileF c b (n + 1) ρ S = whileF c b n ρ2 S2 := by
  conv => lhs; unfold whileF
  rw [h]
  simp [hb]
theorem while_stop {c : Rho → Mo Bool} {b : Rho → Sto → Option Fl} {ρ : Rho} {S S1 : Sto} (h : c ρ S = some (.ok false S1)) : sWhile c b ρ S = some (.nx ρ S1) := sWhile_of (n := 1) (whileF_stop h)
theorem while_go {c : Rho → Mo Bool} {b : Rho → Sto → Option Fl} {ρ ρ2 : Rho} {S S1 S2 : Sto} {r : Fl} (h : c ρ S = some (.ok true S1)) (hb : b ρ S1 = some (.nx ρ2 S2)) (q : sWhile c b ρ2 S2 = some r) : sWhile c b ρ S = some r := by
  obtain ⟨n, hn⟩ := sWhile_some q
  exact sWhile_of (n := n + 1) ((whileF_go h hb).trans hn)
end VL

end
section
set_option Elab.async false
set_option linter.all false
set_option maxRecDepth 100000
/-! VM3: for, comprehensions, isinstance, equality of tuples. -/
namespace VL
open PySem PySem.Spec PyProof.Rows L2
/-- a for that leaves the store as it is: it goes on, or hands back at the first hit -/
theorem forL_find {t : TgF} {body : Rho → Sto → Option Fl} {S : Sto} (I : Rho → Prop) (hit : SV → Option SV) : ∀ (xs : List SV), (∀ x ∈ xs, ∀ ρ, I ρ → ∃ ρ', t x ρ = some ρ' ∧ ((∃ v, hit x = some v ∧ body ρ' S = some (.rt v S)) ∨ (hit x = none ∧ ∃ ρ2, I ρ2 ∧ body ρ' S = some (.nx ρ2 S)))) → ∀ ρ, I ρ →
    (∃ v, xs.findSome? hit = some v ∧ forL t body xs ρ S = some (.rt v S)) ∨ (xs.findSome? hit = none ∧ ∃ ρ2, I ρ2 ∧ forL t body xs ρ S = some (.nx ρ2 S))
  | [], _, ρ, h => .inr ⟨rfl, ρ, h, rfl⟩
  | x :: xs, hx, ρ, h => by
    obtain ⟨ρ', ht, q⟩ := hx x List.mem_cons_self ρ h
    rcases q with ⟨v, hv, hb⟩ | ⟨hn, ρ2, h2, hb⟩
    · refine .inl ⟨v, by simp [List.findSome?, hv], ?_⟩
      unfold forL
      simp [ht, hb]
    · rcases forL_find I hit xs (fun y m => hx y (List.mem_cons_of_mem _ m)) ρ2 h2 with ⟨v, hv, hf⟩ | ⟨hv, ρ3, h3, hf⟩
      · refine .inl ⟨v, by simp [List.findSome?, hn, hv], ?_⟩
        unfold forL
        simp [ht, hb, hf]
      · refine .inr ⟨by simp [List.findSome?, hn, hv], ρ3, h3, ?_⟩
        unfold forL
        simp [ht, hb, hf]
/-- a for that goes through, the state changing as told -/
theorem forL_step {t : TgF} {body : Rho → Sto → Option Fl} (I : Nat → Rho → Sto → Prop) (xs : List SV) (h : ∀ (i : Nat) x, xs[i]? = some x → ∀ ρ S, I i ρ S → ∃ ρ', t x ρ = some ρ' ∧ ∃ ρ2 S2, I (i + 1) ρ2 S2 ∧ (body ρ' S = some (.nx ρ2 S2) ∨ body ρ' S = some (.ct ρ2 S2))) : ∀ ρ S, I 0 ρ S → ∃ ρ2 S2, I xs.length ρ2 S2 ∧ forL t body xs ρ S = some (.nx ρ2 S2) := by
  suffices H : ∀ (ys : List SV) (k : Nat), (∀ (i : Nat) x, ys[i]? = some x → xs[k + i]? = some x) → k + ys.length = xs.length → ∀ ρ S, I k ρ S → ∃ ρ2 S2, I xs.length ρ2 S2 ∧ forL t body ys ρ S = some (.nx ρ2 S2) by
    exact H xs 0 (fun i x e => by rwa [Nat.zero_add]) (by omega)
  intro ys
  induction ys with
  | nil => intro k _ hl ρ S hI; exact ⟨ρ, S, by rw [← hl]; exact hI, rfl⟩
  | cons y ys ih =>
    intro k hk hl ρ S hI
    obtain ⟨ρ', ht, ρ2, S2, h2, hb⟩ := h k y (hk 0 y rfl) ρ S hI
    obtain ⟨ρ3, S3, h3, hf⟩ := ih (k + 1) (fun i x e => by have := hk (i + 1) x (by simpa using e); rwa [show k + (i + 1) = k + 1 + i by omega] at this) (by simp at hl; omega) ρ2 S2 h2
    refine ⟨ρ3, S3, h3, ?_⟩
    unfold forL
    rcases hb with hb | hb <;> simp [ht, hb, hf]
theorem compL_ok {tf : TgF} {tst : Rho → Mo Bool} {elt : Rho → Mo SV} {ρ : Rho} {S : Sto} (k : SV → Option SV) : ∀ (xs acc : List SV), (∀ x ∈ xs, ∃ ρ', tf x ρ = some ρ' ∧ ((∃ y, k x = some y ∧ tst ρ' S = some (.ok true S) ∧ elt ρ' S = some (.ok y S)) ∨ (k x = none ∧ tst ρ' S = some (.ok false S)))) → acc.length + xs.length ≤ sizeLine →
    compL tf tst elt ρ xs acc S = some (.ok (acc ++ xs.filterMap k) S)
  | [], acc, _, _ => by simp [compL]
  | x :: xs, acc, h, hl => by
    obtain ⟨ρ', ht, q⟩ := h x List.mem_cons_self
    rw [List.length_cons] at hl
    rcases q with ⟨y, hy, h1, h2⟩ | ⟨hn, h1⟩
    · have ih := compL_ok k xs (acc ++ [y]) (fun z m => h z (List.mem_cons_of_mem _ m)) (by simp; omega)
      unfold compL
      simp only [ht, h1, h2]
      rw [if_pos (by omega), ih]
      simp [List.filterMap_cons, hy]
    · have ih := compL_ok k xs acc (fun z m => h z (List.mem_cons_of_mem _ m)) (by omega)
      unfold compL
      simp only [ht, h1]
      rw [ih]
      simp [List.filterMap_cons, hn]
/-- without a test -/
theorem eLc_map {it : Rho → Mo (List SV)} {tf : TgF} {elt : Rho → Mo SV} {vs : List Nat} {ρ : Rho} {S : Sto} {xs : List SV} (g : SV → SV) (hi : it ρ S = some (.ok xs S)) (h : ∀ x ∈ xs, ∃ ρ', tf x (wipeR ρ vs) = some ρ' ∧ elt ρ' S = some (.ok (g x) S)) (hl : xs.length ≤ sizeLine) :
    eLc it tf bYes elt vs ρ S = some (.ok (.own (xs.map g)) S) := by
  unfold eLc
  rw [hi]
  have := compL_ok (tf := tf) (tst := bYes) (elt := elt) (ρ := wipeR ρ vs) (S := S) (fun x => some (g x)) xs [] (fun x m => by
    obtain ⟨ρ', h1, h2⟩ := h x m
    exact ⟨ρ', h1, .inl ⟨_, rfl, rfl, h2⟩⟩) (by simpa using hl)
  simp only [bindM_ok, this]
  simp
@[simp] theorem a_eIsi1 (f : Rho → Mo SV) (cs : List String) (ρ : Rho) (S : Sto) : eIsi1 f cs ρ S = bindM (f ρ S) fun x S1 => if refOk S1 x then (tyOf x).map fun t => .ok (.d (.bool (cs.any (isB t)))) S1 else none := rfl
@[simp] theorem refOk_d (S : Sto) (d : PyData) : refOk S (.d d) = true := rfl
@[simp] theorem tyOf_n : tyOf (.d .none) = some "NoneType" := rfl
@[simp] theorem tyOf_b (b : Bool) : tyOf (.d (.bool b)) = some "bool" := rfl
@[simp] theorem tyOf_i (i : Int) : tyOf (.d (.int i)) = some "int" := rfl
@[simp] theorem tyOf_s (i : Str) : tyOf (.d (.str i)) = some "str" := rfl
@[simp] theorem tyOf_l (i : List PyData) : tyOf (.d (.list i)) = some "list" := rfl
@[simp] theorem tyOf_t (i : List PyData) : tyOf (.d (.tuple i)) = some "tuple" := rfl
@[simp] theorem tyOf_o (i : List SV) : tyOf (.own i) = some "list" := rfl
@[simp] theorem gLen_t (S : Sto) (ds : List PyData) : gLen S [.d (.tuple ds)] = some (.d (.int ds.length)) := by simp [gLen]
@[simp] theorem gLen_l (S : Sto) (ds : List PyData) : gLen S [.d (.list ds)] = some (.d (.int ds.length)) := by simp [gLen]
@[simp] theorem gLen_o (S : Sto) (ds : List SV) : gLen S [.own ds] = some (.d (.int ds.length)) := by simp [gLen]
@[simp] theorem gLen_s (S : Sto) (ds : List Int) : gLen S [.scr ds] = some (.d (.int ds.length)) := by simp [gLen]
@[simp] theorem isNone_i (i : Int) : isNone (.d (.int i)) = false := rfl
@[simp] theorem a_iSeq (f : Rho → Mo SV) (ρ : Rho) (S : Sto) : iSeq f ρ S = bindM (f ρ S) fun x S1 => if isRef x then none else (seq? S1 x).bind fun xs => if xs.all noOwn then some (.ok xs S1) else none := rfl
@[simp] theorem isRef_d (d : PyData) : isRef (.d d) = false := rfl
@[simp] theorem isRef_o (d : List SV) : isRef (.own d) = false := rfl
@[simp] theorem isRef_s (d : List Int) : isRef (.scr d) = false := rfl
@[simp] theorem a_iRng1 (fs : Rho → Mo (List SV)) (ρ : Rho) (S : Sto) : iRng1 fs ρ S = bindM (fs ρ S) fun xs S1 => match xs with
  | [.d (.int j)] => if inR j then some (.ok (rangeL 0 j.toNat) S1) else none
  | _ => none := rfl
@[simp] theorem a_iRng2 (fs : Rho → Mo (List SV)) (ρ : Rho) (S : Sto) : iRng2 fs ρ S = bindM (fs ρ S) fun xs S1 => match xs with
  | [.d (.int i), .d (.int j)] => if inR i && inR j then some (.ok (rangeL i (j - i).toNat) S1) else none
  | _ => none := rfl
@[simp] theorem allNo_map (ds : List PyData) : (ds.map SV.d).all noOwn = true := by simp [noOwn]
theorem inR_of {i : Int} (h : -1000000 ≤ i ∧ i ≤ 1000000) : inR i = true := by
  unfold inR
  rw [decide_eq_true_eq]
  omega
theorem mem_rangeL {lo : Int} {n : Nat} {x : SV} (h : x ∈ rangeL lo n) : ∃ k : Nat, k < n ∧ x = .d (.int (lo + k)) := by
  unfold rangeL at h
  obtain ⟨k, hk, rfl⟩ := List.mem_map.mp h
  exact ⟨k, List.mem_range.mp hk, rfl⟩
@[simp] theorem rangeL_length (lo : Int) (n : Nat) : (rangeL lo n).length = n := by simp [rangeL]
theorem canTuple (ds : List PyData) : (PyData.tuple ds).canLay0 = PyData.canLayAll0 ds := by simp [PyData.canLay0]
@[simp] theorem sh_p (a b : Int) : SeqAt.shaped (.tuple [.int a, .int b]) = true := by
  rw [shaped_def]; simp [PyData.canLay0, PyData.canLayAll0, PyData.depth, PyData.depthAll]
@[simp] theorem sh_3 (a b c : Int) : SeqAt.shaped (.tuple [.int a, .int b, .int c]) = true := by
  rw [shaped_def]; simp [PyData.canLay0, PyData.canLayAll0, PyData.depth, PyData.depthAll]
@[simp] theorem sh_4 (a b c d : Int) : SeqAt.shaped (.tuple [.int a, .int b, .int c, .int d]) = true := by
  rw [shaped_def]; simp [PyData.canLay0, PyData.canLayAll0, PyData.depth, PyData.depthAll]
@[simp] theorem eqv_p (a b c d : Int) : PyData.eqv (.tuple [.int a, .int b]) (.tuple [.int c, .int d]) = (a == c && b == d) := by simp [PyData.eqv, PyData.eqvAll]
end VL

end
section
set_option Elab.async false
set_option linter.all false
set_option maxRecDepth 100000
set_option maxHeartbeats 0
/-! printed by gen.py for law_k01_fractions_and_webs: each def's value function, and that the def keeps it -/
namespace G
open PySem PySem.Spec PyProof.Rows L2 VL
abbrev prog : Program := PySem.Challenge.pw_currentwebs_k01_fractions_and_webs
def top (i : Nat) : Stmt := prog.main.body.getD i (.Pass ⟨0, 0, 0, 0⟩)
def mt : Str → Str → Option Bool := mtOf [(("BadWeb", "BadWeb"), true)]
section
variable {P : Program} {w : World} {K : PySem.W.Frag} {mg : Str → Option Value} {base : Heap} {f : Addr} {fd : FuncData}
/-! ### common -/
noncomputable def f_common : Rho → Sto → Option Fl :=
  (sSeq
  (sWhile (bB (eBin (cB gNe) (eVar 1) (eCon (.int 0))))
  (sPar 0 1 (aCons (eVarV 1) (aCons (eBin gMod (eVar 0) (eVar 1)) aNil))))
  (sRet (eCal gAbs (aCons (eVar 0) aNil))))
noncomputable def F_common : List SV → Mo SV := runF 2 f_common
theorem sc_common : FnScope ["p", "q"] ["p", "q"] (defScope (top 4)) := ⟨rfl, rfl, rfl, by decide +kernel, rfl, by decide +kernel, by decide +kernel⟩
theorem ok_common (F : VL.FnP K "common" (top 4) f fd) (hm : mg "common" = some (.ref f)) (fr : Fr mg) : DefOk P w K mg base 1 "common" 2 F_common :=
  mk_def (k := 0) (fb := f_common) F hm sc_common (by decide) (fun _ _ _ _ _ _ us hl => match us, hl with | [_, _], _ => rfl) fun cdv A outer s H E hr E0 A0 Pr =>
  (ss_cons (s_while (passes_of rfl) (t_ne (ka := .be) (kb := .be) rfl hr.units (v_var (pv 1)) v_int)
  (ss_one (s_par (i := 0) (j := 1) rfl sc_common.nd rfl rfl (by decide) rfl rfl (a_cons (v_varV (pv 1)) (a_cons (v_mod (ka := .be) (kb := .be) (v_var (pv 0)) (v_var (pv 1))) a_nil)) (by rfl))))
  (ss_one (s_ret (v_calB (ka := .be) call_abs ok_abs rfl fr.abs boot_abs' (a_cons (v_var (pv 0)) a_nil)))))
/-! ### is_integer -/
noncomputable def f_is_integer : Rho → Sto → Option Fl :=
  (sRet (eAnd (eIsi1 (eVar 0) ["int"]) (eAnd (eNot (eIsi1 (eVar 0) ["bool"])) (eChain gLe gLe (eVar 1) (eVar 0) (eVar 2)))))
noncomputable def F_is_integer : List SV → Mo SV := runF 3 f_is_integer
theorem sc_is_integer : FnScope ["value", "low", "high"] ["value", "low", "high"] (defScope (top 10)) := ⟨rfl, rfl, rfl, by decide +kernel, rfl, by decide +kernel, by decide +kernel⟩
theorem ok_is_integer (F : VL.FnP K "is_integer" (top 10) f fd) (hm : mg "is_integer" = some (.ref f)) (fr : Fr mg) : DefOk P w K mg base 1 "is_integer" 3 F_is_integer :=
  mk_def (k := 0) (fb := f_is_integer) F hm sc_is_integer (by decide) (fun _ _ _ _ _ _ us hl => match us, hl with | [_, _, _], _ => rfl) fun cdv A outer s H E hr E0 A0 Pr =>
  (ss_one (s_ret (v_and (ka := .fe) (v_isi (ka := .be) (T := "int") rfl (by decide) rfl fr.isinstance (v_var (pv 0)) rfl fr.int boot_int') (v_and (ka := .fe) (v_not (ka := .be) (v_isi (ka := .be) (T := "bool") rfl (by decide) rfl fr.isinstance (v_var (pv 0)) rfl fr.bool boot_bool')) (v_one (v_chain (ka := .be) (kb := .be) (kc := .be) op_le op_le c_le c_le (v_var (pv 1)) (v_var (pv 0)) (v_var (pv 2))))))))
/-! ### names_of -/
noncomputable def f_names_of : Rho → Sto → Option Fl :=
  (sSeq
  (sSet 2 (eLrg1 (eVar 0)))
  (sSeq
  (sFor (iSeq (eVarV 1)) (gTp 2 (gsCons (gNm 3) (gsCons (gNm 4) gsNil)))
  (sSeq
  (sAsg (gTl 2 (gsCons (gNm 5) (gsCons (gNm 6) gsNil))) (eCal gSorted (aCons (eLst (aCons (eBin gIx (eVar 2) (eVar 3)) (aCons (eBin gIx (eVar 2) (eVar 4)) aNil))) aNil)))
  (sSet 2 (eLc (iSeq (eVar 2)) (gNm 7) bYes (eIf (bB (eBin (cB gEq) (eVar 7) (eVar 6))) (eVarV 5) (eVarV 7)) [7]))))
  (sRetV 2)))
noncomputable def F_names_of : List SV → Mo SV := runF 8 f_names_of
theorem sc_names_of : FnScope ["n", "pairs", "names", "a", "b", "low", "high", "name"] ["n", "pairs"] (defScope (top 16)) := ⟨rfl, rfl, rfl, by decide +kernel, rfl, by decide +kernel, by decide +kernel⟩
theorem ok_names_of (F : VL.FnP K "names_of" (top 16) f fd) (hm : mg "names_of" = some (.ref f)) (fr : Fr mg) : DefOk P w K mg base 1 "names_of" 2 F_names_of :=
  mk_def (k := 0) (fb := f_names_of) F hm sc_names_of (by decide) (fun _ _ _ _ _ _ us hl => match us, hl with | [_, _], _ => rfl) fun cdv A outer s H E hr E0 A0 Pr =>
  (ss_cons (s_set (i := 2) sc_names_of.nd rfl (by first | exact Or.inl rfl | exact Or.inr rfl) (v_lrg1 (ka := .be) rfl rfl rfl fr.list rfl fr.range (v_var (pv 0))))
  (ss_cons (s_for (passes_of rfl) rfl (i_seqF rfl (v_varV (pv 1))) (L2.pg_tup rfl (pgs_cons (pg_name sc_names_of.nd rfl (by first | exact Or.inl rfl | exact Or.inr rfl)) (pgs_cons (pg_name sc_names_of.nd rfl (by first | exact Or.inl rfl | exact Or.inr rfl)) pgs_nil))) (g_tp (gs_cons g_nm (gs_cons g_nm gs_nil)))
  (ss_cons (s_asg (v_calB (ka := .be) (cr_sortD (u66 hr)) ok_sorted rfl fr.sorted boot_sorted' (a_cons (v_lst (a_cons (v_ix (ka := .be) (kb := .be) rfl (v_var (pv 2)) (v_var (pv 3)) (fun _ _ => rfl)) (a_cons (v_ix (ka := .be) (kb := .be) rfl (v_var (pv 2)) (v_var (pv 4)) (fun _ _ => rfl)) a_nil))) a_nil)) (pg_lst rfl (pgs_cons (pg_name sc_names_of.nd rfl (by first | exact Or.inl rfl | exact Or.inr rfl)) (pgs_cons (pg_name sc_names_of.nd rfl (by first | exact Or.inl rfl | exact Or.inr rfl)) pgs_nil))) (g_tl (gs_cons g_nm (gs_cons g_nm gs_nil))))
  (ss_one (s_setLc (own := [("name", 7)]) (i := 2) rfl rfl rfl sc_names_of.nd (i_seq (ka := .be) rfl (v_var (pv 2))) (blk_of (by rfl)) (fun _ _ _ _ _ => (pg_name sc_names_of.nd rfl (by first | exact Or.inl rfl | exact Or.inr rfl))) g_nm (by decide) (fun _ _ _ _ _ => ts_nil) (fun _ _ _ _ _ => (v_if (t_eq (ka := .be) (kb := .be) rfl hr.units (v_var (pv 7)) (v_var (pv 6))) (v_varV (pv 5)) (v_varV (pv 7))))))))
  (ss_one (s_retV (pv 2)))))
/-! ### _law_bag -/
noncomputable def f__law_bag : Rho → Sto → Option Fl :=
  (sSeq
  (sSet 2 (eCon (.int 0)))
  (sSeq
  (sIf (bB (eBin (cB gLt) (eVar 1) (eCal gLen (aCons (eVar 0) aNil))))
  (sSet 2 (eCal gInt (aCons (eBin gIxB (eVar 0) (eVar 1)) aNil)))
  sNil)
  (sRet (eLst (aCons (eCon (.int 0)) (aCons (eBin gAdd (eCon (.int 2039)) (eBin gMulA (eCon (.int 48611)) (eVar 1))) (aCons (eCon (.int 0)) (aCons (eVarV 2) aNil))))))))
noncomputable def F__law_bag : List SV → Mo SV := runF 3 f__law_bag
theorem sc__law_bag : FnScope ["script", "k", "cell"] ["script", "k"] (defScope (top 21)) := ⟨rfl, rfl, rfl, by decide +kernel, rfl, by decide +kernel, by decide +kernel⟩
theorem ok__law_bag (F : VL.FnP K "_law_bag" (top 21) f fd) (hm : mg "_law_bag" = some (.ref f)) (fr : Fr mg) : DefOk P w K mg base 1 "_law_bag" 2 F__law_bag :=
  mk_def (k := 0) (fb := f__law_bag) F hm sc__law_bag (by decide) (fun _ _ _ _ _ _ us hl => match us, hl with | [_, _], _ => rfl) fun cdv A outer s H E hr E0 A0 Pr =>
  (ss_cons (s_set (i := 2) sc__law_bag.nd rfl (by first | exact Or.inl rfl | exact Or.inr rfl) v_int)
  (ss_cons (s_if (t_lt (ka := .be) (kb := .be) rfl hr.units (v_var (pv 1)) (v_calB (ka := .be) call_len ok_len rfl fr.len boot_len' (a_cons (v_var (pv 0)) a_nil)))
  (ss_one (s_set (i := 2) sc__law_bag.nd rfl (by first | exact Or.inl rfl | exact Or.inr rfl) (v_calT (ka := .be) call_int1 ok_int rfl fr.int boot_int' (a_cons (v_ixB (ka := .be) (kb := .be) rfl (v_var (pv 0)) (v_var (pv 1)) (fun _ _ => rfl)) a_nil))))
  ss_nil)
  (ss_one (s_ret (v_lst (a_cons v_int (a_cons (v_add (hk := rfl) (ka := .be) (kb := .be) v_int (v_mulA (hk := rfl) (ka := .be) (kb := .be) v_int (v_var (pv 1)))) (a_cons v_int (a_cons (v_varV (pv 2)) a_nil)))))))))
/-! ### _law_draw -/
noncomputable def f__law_draw : Rho → Sto → Option Fl :=
  (sSeq
  (sIf (bB (eBin (cB gLt) (eVar 1) (eCon (.int 1))))
  (sRet (eCon (.int 0)))
  sNil)
  (sSeq
  (sIf (bB (eBin (cB gEq) (eBin gIxB (eVar 0) (eCon (.int 0))) (eCon (.int 0))))
  (sSeq
  (sStore (lVar 0) (eCon (.int 2)) (eBin gAdd (eBin gIxB (eVar 0) (eCon (.int 2))) (eCon (.int 1))))
  (sSeq
  (sSet 2 (eBin gMod (eCal gInt (aCons (eBin gAdd (eBin gAdd (eBin gAdd (eBin gMulA (eBin gIxB (eVar 0) (eCon (.int 1))) (eCon (.int 48271))) (eBin gMulA (eBin gIxB (eVar 0) (eCon (.int 3))) (eCon (.int 69621)))) (eBin gMulA (eBin gIxB (eVar 0) (eCon (.int 2))) (eCon (.int 16807)))) (eCon (.int 11))) aNil)) (eCon (.int 2147483647))))
  (sSeq
  (sStore (lVar 0) (eCon (.int 0)) (eBin gAdd (eBin gMulA (eVar 2) (eCon (.int 2147483629))) (eBin gMod (eCal gInt (aCons (eBin gAdd (eBin gMulA (eVar 2) (eVar 2)) (eBin gIxB (eVar 0) (eCon (.int 3)))) aNil)) (eCon (.int 2147483629)))))
  (sSeq
  (sIf (bAnd (bB (eBin (cB gEq) (eBin gIxB (eVar 0) (eCon (.int 2))) (eCon (.int 1)))) (bB (eBin (cB gGe) (eBin gIxB (eVar 0) (eCon (.int 3))) (eBin gPow (eCon (.int 10)) (eCon (.int 18))))))
  (sStore (lVar 0) (eCon (.int 0)) (eBin gIx (eVar 0) (eCon (.int 3))))
  sNil)
  (sStore (lVar 0) (eCon (.int 1)) (eVarV 2))))))
  sNil)
  (sSeq
  (sSet 3 (eBin gIx (eVar 0) (eCon (.int 0))))
  (sSeq
  (sStore (lVar 0) (eCon (.int 0)) (eBin gFdiv (eVar 3) (eVar 1)))
  (sRet (eBin gMod (eCal gInt (aCons (eVar 3) aNil)) (eVar 1)))))))
noncomputable def F__law_draw : List SV → Mo SV := runF 4 f__law_draw
theorem sc__law_draw : FnScope ["bag", "many", "seed", "rest"] ["bag", "many"] (defScope (top 22)) := ⟨rfl, rfl, rfl, by decide +kernel, rfl, by decide +kernel, by decide +kernel⟩
theorem ok__law_draw (F : VL.FnP K "_law_draw" (top 22) f fd) (hm : mg "_law_draw" = some (.ref f)) (fr : Fr mg) : DefOk P w K mg base 1 "_law_draw" 2 F__law_draw :=
  mk_def (k := 0) (fb := f__law_draw) F hm sc__law_draw (by decide) (fun _ _ _ _ _ _ us hl => match us, hl with | [_, _], _ => rfl) fun cdv A outer s H E hr E0 A0 Pr =>
  (ss_cons (s_if (t_lt (ka := .be) (kb := .be) rfl hr.units (v_var (pv 1)) v_int)
  (ss_one (s_ret v_int))
  ss_nil)
  (ss_cons (s_if (t_eq (ka := .be) (kb := .be) rfl hr.units (v_ixB (ka := .be) (kb := .be) rfl (v_var (pv 0)) v_int (fun _ _ => rfl)) v_int)
  (ss_cons (s_store (kb := .be) (l_var (pv 0)) v_int (v_add (hk := rfl) (ka := .be) (kb := .be) (v_ixB (ka := .be) (kb := .be) rfl (v_var (pv 0)) v_int (fun _ _ => rfl)) v_int))
  (ss_cons (s_set (i := 2) sc__law_draw.nd rfl (by first | exact Or.inl rfl | exact Or.inr rfl) (v_mod (ka := .be) (kb := .be) (v_calT (ka := .be) call_int1 ok_int rfl fr.int boot_int' (a_cons (v_add (hk := rfl) (ka := .be) (kb := .be) (v_add (hk := rfl) (ka := .be) (kb := .be) (v_add (hk := rfl) (ka := .be) (kb := .be) (v_mulA (hk := rfl) (ka := .be) (kb := .be) (v_ixB (ka := .be) (kb := .be) rfl (v_var (pv 0)) v_int (fun _ _ => rfl)) v_int) (v_mulA (hk := rfl) (ka := .be) (kb := .be) (v_ixB (ka := .be) (kb := .be) rfl (v_var (pv 0)) v_int (fun _ _ => rfl)) v_int)) (v_mulA (hk := rfl) (ka := .be) (kb := .be) (v_ixB (ka := .be) (kb := .be) rfl (v_var (pv 0)) v_int (fun _ _ => rfl)) v_int)) v_int) a_nil)) v_int))
  (ss_cons (s_store (kb := .be) (l_var (pv 0)) v_int (v_add (hk := rfl) (ka := .be) (kb := .be) (v_mulA (hk := rfl) (ka := .be) (kb := .be) (v_var (pv 2)) v_int) (v_mod (ka := .be) (kb := .be) (v_calT (ka := .be) call_int1 ok_int rfl fr.int boot_int' (a_cons (v_add (hk := rfl) (ka := .be) (kb := .be) (v_mulA (hk := rfl) (ka := .be) (kb := .be) (v_var (pv 2)) (v_var (pv 2))) (v_ixB (ka := .be) (kb := .be) rfl (v_var (pv 0)) v_int (fun _ _ => rfl))) a_nil)) v_int)))
  (ss_cons (s_if (PW.pt (b_and (t_eq (ka := .be) (kb := .be) rfl hr.units (v_ixB (ka := .be) (kb := .be) rfl (v_var (pv 0)) v_int (fun _ _ => rfl)) v_int) (b_and1 (t_ge (ka := .be) (kb := .be) (v_ixB (ka := .be) (kb := .be) rfl (v_var (pv 0)) v_int (fun _ _ => rfl)) (v_pow (ka := .be) (kb := .be) v_int v_int)))))
  (ss_one (s_store (kb := .be) (l_var (pv 0)) v_int (v_ix (ka := .be) (kb := .be) rfl (v_var (pv 0)) v_int (fun _ _ => rfl))))
  ss_nil)
  (ss_one (s_store (kb := .be) (l_var (pv 0)) v_int (v_varV (pv 2))))))))
  ss_nil)
  (ss_cons (s_set (i := 3) sc__law_draw.nd rfl (by first | exact Or.inl rfl | exact Or.inr rfl) (v_ix (ka := .be) (kb := .be) rfl (v_var (pv 0)) v_int (fun _ _ => rfl)))
  (ss_cons (s_store (kb := .be) (l_var (pv 0)) v_int (v_fdiv (ka := .be) (kb := .be) (v_var (pv 3)) (v_var (pv 1))))
  (ss_one (s_ret (v_mod (ka := .be) (kb := .be) (v_calT (ka := .be) call_int1 ok_int rfl fr.int boot_int' (a_cons (v_var (pv 3)) a_nil)) (v_var (pv 1)))))))))
/-! ### _law_gcd -/
noncomputable def f__law_gcd : Rho → Sto → Option Fl :=
  (sSeq
  (sWhile (bB (eBin (cB gNe) (eVar 1) (eCon (.int 0))))
  (sPar 0 1 (aCons (eVarV 1) (aCons (eBin gSub (eVar 0) (eBin gMulA (eBin gFdiv (eVar 0) (eVar 1)) (eVar 1))) aNil))))
  (sRet (eCal gAbs (aCons (eVar 0) aNil))))
noncomputable def F__law_gcd : List SV → Mo SV := runF 2 f__law_gcd
theorem sc__law_gcd : FnScope ["p", "q"] ["p", "q"] (defScope (top 24)) := ⟨rfl, rfl, rfl, by decide +kernel, rfl, by decide +kernel, by decide +kernel⟩
theorem ok__law_gcd (F : VL.FnP K "_law_gcd" (top 24) f fd) (hm : mg "_law_gcd" = some (.ref f)) (fr : Fr mg) : DefOk P w K mg base 1 "_law_gcd" 2 F__law_gcd :=
  mk_def (k := 0) (fb := f__law_gcd) F hm sc__law_gcd (by decide) (fun _ _ _ _ _ _ us hl => match us, hl with | [_, _], _ => rfl) fun cdv A outer s H E hr E0 A0 Pr =>
  (ss_cons (s_while (passes_of rfl) (t_ne (ka := .be) (kb := .be) rfl hr.units (v_var (pv 1)) v_int)
  (ss_one (s_par (i := 0) (j := 1) rfl sc__law_gcd.nd rfl rfl (by decide) rfl rfl (a_cons (v_varV (pv 1)) (a_cons (v_sub (ka := .be) (kb := .be) (v_var (pv 0)) (v_mulA (hk := rfl) (ka := .be) (kb := .be) (v_fdiv (ka := .be) (kb := .be) (v_var (pv 0)) (v_var (pv 1))) (v_var (pv 1)))) a_nil)) (by rfl))))
  (ss_one (s_ret (v_calB (ka := .be) call_abs ok_abs rfl fr.abs boot_abs' (a_cons (v_var (pv 0)) a_nil)))))
/-! ### _law_is_int -/
noncomputable def f__law_is_int : Rho → Sto → Option Fl :=
  (sRet (eAnd (eIsi1 (eVar 0) ["int"]) (eNot (eIsi1 (eVar 0) ["bool"]))))
noncomputable def F__law_is_int : List SV → Mo SV := runF 1 f__law_is_int
theorem sc__law_is_int : FnScope ["value"] ["value"] (defScope (top 35)) := ⟨rfl, rfl, rfl, by decide +kernel, rfl, by decide +kernel, by decide +kernel⟩
theorem ok__law_is_int (F : VL.FnP K "_law_is_int" (top 35) f fd) (hm : mg "_law_is_int" = some (.ref f)) (fr : Fr mg) : DefOk P w K mg base 1 "_law_is_int" 1 F__law_is_int :=
  mk_def (k := 0) (fb := f__law_is_int) F hm sc__law_is_int (by decide) (fun _ _ _ _ _ _ us hl => match us, hl with | [_], _ => rfl) fun cdv A outer s H E hr E0 A0 Pr =>
  (ss_one (s_ret (v_and (ka := .fe) (v_isi (ka := .be) (T := "int") rfl (by decide) rfl fr.isinstance (v_var (pv 0)) rfl fr.int boot_int') (v_one (v_not (ka := .be) (v_isi (ka := .be) (T := "bool") rfl (by decide) rfl fr.isinstance (v_var (pv 0)) rfl fr.bool boot_bool'))))))
/-! ### is_any_fraction -/
noncomputable def f_is_any_fraction : Rho → Sto → Option Fl :=
  (sSeq
  (sIf (bOr (bNot (bVal (eIsi1 (eVar 0) ["tuple"]))) (bB (eBin (cB gNe) (eCal gLen (aCons (eVar 0) aNil)) (eCon (.int 2)))))
  (sRet (eCon (.bool false)))
  sNil)
  (sSeq
  (sAsg (gTp 2 (gsCons (gNm 1) (gsCons (gNm 2) gsNil))) (eVarV 0))
  (sSeq
  (sIf (bOr (bNot (bVal (eIsi1 (eVar 1) ["int"]))) (bOr (bVal (eIsi1 (eVar 1) ["bool"])) (bOr (bNot (bVal (eIsi1 (eVar 2) ["int"]))) (bOr (bVal (eIsi1 (eVar 2) ["bool"])) (bB (eBin (cB gLt) (eVar 2) (eCon (.int 1))))))))
  (sRet (eCon (.bool false)))
  sNil)
  (sRet (eBin (cB gEq) (eCall 2 F_common [] (aCons (eVarV 1) (aCons (eVarV 2) aNil))) (eCon (.int 1)))))))
noncomputable def F_is_any_fraction : List SV → Mo SV := runF 3 f_is_any_fraction
theorem sc_is_any_fraction : FnScope ["value", "p", "q"] ["value"] (defScope (top 5)) := ⟨rfl, rfl, rfl, by decide +kernel, rfl, by decide +kernel, by decide +kernel⟩
theorem ok_is_any_fraction (F : VL.FnP K "is_any_fraction" (top 5) f fd) (hm : mg "is_any_fraction" = some (.ref f)) (fr : Fr mg) (d_common : DefOk P w K mg base 1 "common" 2 F_common) : DefOk P w K mg base 2 "is_any_fraction" 1 F_is_any_fraction :=
  mk_def (k := 1) (fb := f_is_any_fraction) F hm sc_is_any_fraction (by decide) (fun _ _ _ _ _ _ us hl => match us, hl with | [_], _ => rfl) fun cdv A outer s H E hr E0 A0 Pr =>
  (ss_cons (s_if (PW.pt (b_or (b_not (b_val (ka := .be) rfl (v_isi (ka := .be) (T := "tuple") rfl (by decide) rfl fr.isinstance (v_var (pv 0)) rfl fr.tuple boot_tuple'))) (b_or1 (t_ne (ka := .be) (kb := .be) rfl hr.units (v_calB (ka := .be) call_len ok_len rfl fr.len boot_len' (a_cons (v_var (pv 0)) a_nil)) v_int))))
  (ss_one (s_ret v_bl))
  ss_nil)
  (ss_cons (s_asg (v_varV (pv 0)) (L2.pg_tup rfl (pgs_cons (pg_name sc_is_any_fraction.nd rfl (by first | exact Or.inl rfl | exact Or.inr rfl)) (pgs_cons (pg_name sc_is_any_fraction.nd rfl (by first | exact Or.inl rfl | exact Or.inr rfl)) pgs_nil))) (g_tp (gs_cons g_nm (gs_cons g_nm gs_nil))))
  (ss_cons (s_if (PW.pt (b_or (b_not (b_val (ka := .be) rfl (v_isi (ka := .be) (T := "int") rfl (by decide) rfl fr.isinstance (v_var (pv 1)) rfl fr.int boot_int'))) (b_or (b_val (ka := .be) rfl (v_isi (ka := .be) (T := "bool") rfl (by decide) rfl fr.isinstance (v_var (pv 1)) rfl fr.bool boot_bool')) (b_or (b_not (b_val (ka := .be) rfl (v_isi (ka := .be) (T := "int") rfl (by decide) rfl fr.isinstance (v_var (pv 2)) rfl fr.int boot_int'))) (b_or (b_val (ka := .be) rfl (v_isi (ka := .be) (T := "bool") rfl (by decide) rfl fr.isinstance (v_var (pv 2)) rfl fr.bool boot_bool')) (b_or1 (t_lt (ka := .be) (kb := .be) rfl hr.units (v_var (pv 2)) v_int)))))))
  (ss_one (s_ret v_bl))
  ss_nil)
  (ss_one (s_ret (v_eq (ka := .be) (kb := .be) rfl hr.units (v_call (bs := []) (d_common.mono (k := 1) (by decide)) rfl rfl hr rfl (takes_of rfl rfl rfl rfl) (a_cons (v_varV (pv 1)) (a_cons (v_varV (pv 2)) a_nil))) v_int))))))
/-! ### piece_names -/
noncomputable def f_piece_names : Rho → Sto → Option Fl :=
  (sRet (eCall 2 F_names_of [] (aCons (eBin gIx (eVar 0) (eCon (.int 1))) (aCons (eLc (iSeq (eBin gIxB (eVar 0) (eCon (.int 2)))) (gNm 1) bYes (eSl (eVar 1) pNone (pSome (eCon (.int 2)))) [1]) aNil))))
noncomputable def F_piece_names : List SV → Mo SV := runF 2 f_piece_names
theorem sc_piece_names : FnScope ["web", "wire"] ["web"] (defScope (top 17)) := ⟨rfl, rfl, rfl, by decide +kernel, rfl, by decide +kernel, by decide +kernel⟩
theorem ok_piece_names (F : VL.FnP K "piece_names" (top 17) f fd) (hm : mg "piece_names" = some (.ref f)) (fr : Fr mg) (d_names_of : DefOk P w K mg base 1 "names_of" 2 F_names_of) : DefOk P w K mg base 2 "piece_names" 1 F_piece_names :=
  mk_def (k := 1) (fb := f_piece_names) F hm sc_piece_names (by decide) (fun _ _ _ _ _ _ us hl => match us, hl with | [_], _ => rfl) fun cdv A outer s H E hr E0 A0 Pr =>
  (ss_one (s_ret (v_call (bs := []) (d_names_of.mono (k := 1) (by decide)) rfl rfl hr rfl (takes_of rfl rfl rfl rfl) (a_cons (v_ix (ka := .be) (kb := .be) rfl (v_var (pv 0)) v_int (fun _ _ => rfl)) (a_cons (v_lc (own := [("wire", 1)]) rfl sc_piece_names.nd (i_seq (ka := .be) rfl (v_ixB (ka := .be) (kb := .be) rfl (v_var (pv 0)) v_int (fun _ _ => rfl))) (blk_of (by rfl)) (fun _ _ _ _ _ => (pg_name sc_piece_names.nd rfl (by first | exact Or.inl rfl | exact Or.inr rfl))) g_nm (by decide) (fun _ _ _ _ _ => ts_nil) (fun _ _ _ _ _ => (v_sl (ka := .be) rfl (v_var (pv 1)) o_none (o_some (ka := .be) v_int)))) a_nil)))))
/-! ### _law_one -/
noncomputable def f__law_one : Rho → Sto → Option Fl :=
  (sRet (eBin gIx (eVar 1) (eCall 2 F__law_draw [] (aCons (eVarV 0) (aCons (eCal gLen (aCons (eVar 1) aNil)) aNil)))))
noncomputable def F__law_one : List SV → Mo SV := runF 2 f__law_one
theorem sc__law_one : FnScope ["bag", "row"] ["bag", "row"] (defScope (top 23)) := ⟨rfl, rfl, rfl, by decide +kernel, rfl, by decide +kernel, by decide +kernel⟩
theorem ok__law_one (F : VL.FnP K "_law_one" (top 23) f fd) (hm : mg "_law_one" = some (.ref f)) (fr : Fr mg) (d__law_draw : DefOk P w K mg base 1 "_law_draw" 2 F__law_draw) : DefOk P w K mg base 2 "_law_one" 2 F__law_one :=
  mk_def (k := 1) (fb := f__law_one) F hm sc__law_one (by decide) (fun _ _ _ _ _ _ us hl => match us, hl with | [_, _], _ => rfl) fun cdv A outer s H E hr E0 A0 Pr =>
  (ss_one (s_ret (v_ix (ka := .be) (kb := .be) rfl (v_var (pv 1)) (v_call (bs := []) (d__law_draw.mono (k := 1) (by decide)) rfl rfl hr rfl (takes_of rfl rfl rfl rfl) (a_cons (v_varV (pv 0)) (a_cons (v_calB (ka := .be) call_len ok_len rfl fr.len boot_len' (a_cons (v_var (pv 1)) a_nil)) a_nil))) (fun _ _ => rfl))))
/-! ### _law_f -/
noncomputable def f__law_f : Rho → Sto → Option Fl :=
  (sSeq
  (sIf (bB (eBin (cB gLt) (eVar 1) (eCon (.int 0))))
  (sPar 0 1 (aCons (eUn gNeg (eVar 0)) (aCons (eUn gNeg (eVar 1)) aNil)))
  sNil)
  (sSeq
  (sSet 2 (eCall 2 F__law_gcd [] (aCons (eVarV 0) (aCons (eVarV 1) aNil))))
  (sRet (eTup (aCons (eBin gFdiv (eVar 0) (eVar 2)) (aCons (eBin gFdiv (eVar 1) (eVar 2)) aNil))))))
noncomputable def F__law_f : List SV → Mo SV := runF 3 f__law_f
theorem sc__law_f : FnScope ["p", "q", "g"] ["p", "q"] (defScope (top 25)) := ⟨rfl, rfl, rfl, by decide +kernel, rfl, by decide +kernel, by decide +kernel⟩
theorem ok__law_f (F : VL.FnP K "_law_f" (top 25) f fd) (hm : mg "_law_f" = some (.ref f)) (fr : Fr mg) (d__law_gcd : DefOk P w K mg base 1 "_law_gcd" 2 F__law_gcd) : DefOk P w K mg base 2 "_law_f" 2 F__law_f :=
  mk_def (k := 1) (fb := f__law_f) F hm sc__law_f (by decide) (fun _ _ _ _ _ _ us hl => match us, hl with | [_, _], _ => rfl) fun cdv A outer s H E hr E0 A0 Pr =>
  (ss_cons (s_if (t_lt (ka := .be) (kb := .be) rfl hr.units (v_var (pv 1)) v_int)
  (ss_one (s_par (i := 0) (j := 1) rfl sc__law_f.nd rfl rfl (by decide) rfl rfl (a_cons (v_neg (ka := .be) (v_var (pv 0))) (a_cons (v_neg (ka := .be) (v_var (pv 1))) a_nil)) (by rfl)))
  ss_nil)
  (ss_cons (s_set (i := 2) sc__law_f.nd rfl (by first | exact Or.inl rfl | exact Or.inr rfl) (v_call (bs := []) (d__law_gcd.mono (k := 1) (by decide)) rfl rfl hr rfl (takes_of rfl rfl rfl rfl) (a_cons (v_varV (pv 0)) (a_cons (v_varV (pv 1)) a_nil))))
  (ss_one (s_ret (v_tup (a_cons (v_fdiv (ka := .be) (kb := .be) (v_var (pv 0)) (v_var (pv 2))) (a_cons (v_fdiv (ka := .be) (kb := .be) (v_var (pv 1)) (v_var (pv 2))) a_nil)))))))
/-! ### _law_is_fraction -/
noncomputable def f__law_is_fraction : Rho → Sto → Option Fl :=
  (sSeq
  (sIf (bOr (bNot (bVal (eIsi1 (eVar 0) ["tuple"]))) (bOr (bB (eBin (cB gNe) (eCal gLen (aCons (eVar 0) aNil)) (eCon (.int 2)))) (bOr (bNot (bVal (eCall 1 F__law_is_int [] (aCons (eBin gIx (eVar 0) (eCon (.int 0))) aNil)))) (bNot (bVal (eCall 1 F__law_is_int [] (aCons (eBin gIx (eVar 0) (eCon (.int 1))) aNil)))))))
  (sRet (eCon (.bool false)))
  sNil)
  (sSeq
  (sIf (bOr (bB (eBin (cB gLt) (eBin gIxB (eVar 0) (eCon (.int 1))) (eCon (.int 1)))) (bOr (bB (eBin (cB gGe) (eCal gAbs (aCons (eBin gIxB (eVar 0) (eCon (.int 0))) aNil)) (eBin gPow (eCon (.int 10)) (eCon (.int 20))))) (bB (eBin (cB gGe) (eBin gIxB (eVar 0) (eCon (.int 1))) (eBin gPow (eCon (.int 10)) (eCon (.int 20)))))))
  (sRet (eCon (.bool false)))
  sNil)
  (sRet (eBin (cB gEq) (eCall 2 F__law_gcd [] (aCons (eBin gIx (eVar 0) (eCon (.int 0))) (aCons (eBin gIx (eVar 0) (eCon (.int 1))) aNil))) (eCon (.int 1))))))
noncomputable def F__law_is_fraction : List SV → Mo SV := runF 1 f__law_is_fraction
theorem sc__law_is_fraction : FnScope ["value"] ["value"] (defScope (top 36)) := ⟨rfl, rfl, rfl, by decide +kernel, rfl, by decide +kernel, by decide +kernel⟩
theorem ok__law_is_fraction (F : VL.FnP K "_law_is_fraction" (top 36) f fd) (hm : mg "_law_is_fraction" = some (.ref f)) (fr : Fr mg) (d__law_gcd : DefOk P w K mg base 1 "_law_gcd" 2 F__law_gcd) (d__law_is_int : DefOk P w K mg base 1 "_law_is_int" 1 F__law_is_int) : DefOk P w K mg base 2 "_law_is_fraction" 1 F__law_is_fraction :=
  mk_def (k := 1) (fb := f__law_is_fraction) F hm sc__law_is_fraction (by decide) (fun _ _ _ _ _ _ us hl => match us, hl with | [_], _ => rfl) fun cdv A outer s H E hr E0 A0 Pr =>
  (ss_cons (s_if (PW.pt (b_or (b_not (b_val (ka := .be) rfl (v_isi (ka := .be) (T := "tuple") rfl (by decide) rfl fr.isinstance (v_var (pv 0)) rfl fr.tuple boot_tuple'))) (b_or (t_ne (ka := .be) (kb := .be) rfl hr.units (v_calB (ka := .be) call_len ok_len rfl fr.len boot_len' (a_cons (v_var (pv 0)) a_nil)) v_int) (b_or (b_not (b_val (ka := .be) rfl (v_call (bs := []) (d__law_is_int.mono (k := 1) (by decide)) rfl rfl hr rfl (takes_of rfl rfl rfl rfl) (a_cons (v_ix (ka := .be) (kb := .be) rfl (v_var (pv 0)) v_int (fun _ _ => rfl)) a_nil)))) (b_or1 (b_not (b_val (ka := .be) rfl (v_call (bs := []) (d__law_is_int.mono (k := 1) (by decide)) rfl rfl hr rfl (takes_of rfl rfl rfl rfl) (a_cons (v_ix (ka := .be) (kb := .be) rfl (v_var (pv 0)) v_int (fun _ _ => rfl)) a_nil)))))))))
  (ss_one (s_ret v_bl))
  ss_nil)
  (ss_cons (s_if (PW.pt (b_or (t_lt (ka := .be) (kb := .be) rfl hr.units (v_ixB (ka := .be) (kb := .be) rfl (v_var (pv 0)) v_int (fun _ _ => rfl)) v_int) (b_or (t_ge (ka := .be) (kb := .be) (v_calB (ka := .be) call_abs ok_abs rfl fr.abs boot_abs' (a_cons (v_ixB (ka := .be) (kb := .be) rfl (v_var (pv 0)) v_int (fun _ _ => rfl)) a_nil)) (v_pow (ka := .be) (kb := .be) v_int v_int)) (b_or1 (t_ge (ka := .be) (kb := .be) (v_ixB (ka := .be) (kb := .be) rfl (v_var (pv 0)) v_int (fun _ _ => rfl)) (v_pow (ka := .be) (kb := .be) v_int v_int))))))
  (ss_one (s_ret v_bl))
  ss_nil)
  (ss_one (s_ret (v_eq (ka := .be) (kb := .be) rfl hr.units (v_call (bs := []) (d__law_gcd.mono (k := 1) (by decide)) rfl rfl hr rfl (takes_of rfl rfl rfl rfl) (a_cons (v_ix (ka := .be) (kb := .be) rfl (v_var (pv 0)) v_int (fun _ _ => rfl)) (a_cons (v_ix (ka := .be) (kb := .be) rfl (v_var (pv 0)) v_int (fun _ _ => rfl)) a_nil))) v_int)))))
/-! ### is_fraction -/
noncomputable def f_is_fraction : Rho → Sto → Option Fl :=
  (sSeq
  (sIf (bNot (bVal (eCall 1 F_is_any_fraction [] (aCons (eVarV 0) aNil))))
  (sRet (eCon (.bool false)))
  sNil)
  (sRet (eAnd (eBin (cB gLt) (eCal gAbs (aCons (eBin gIxB (eVar 0) (eCon (.int 0))) aNil)) (eCon (.int 100000000000000000000))) (eBin (cB gLt) (eBin gIxB (eVar 0) (eCon (.int 1))) (eCon (.int 100000000000000000000))))))
noncomputable def F_is_fraction : List SV → Mo SV := runF 1 f_is_fraction
theorem sc_is_fraction : FnScope ["value"] ["value"] (defScope (top 11)) := ⟨rfl, rfl, rfl, by decide +kernel, rfl, by decide +kernel, by decide +kernel⟩
theorem ok_is_fraction (F : VL.FnP K "is_fraction" (top 11) f fd) (hm : mg "is_fraction" = some (.ref f)) (fr : Fr mg) (d_is_any_fraction : DefOk P w K mg base 2 "is_any_fraction" 1 F_is_any_fraction) (g_BEYOND : GlobC K mg "BEYOND" (.int 100000000000000000000)) : DefOk P w K mg base 3 "is_fraction" 1 F_is_fraction :=
  mk_def (k := 2) (fb := f_is_fraction) F hm sc_is_fraction (by decide) (fun _ _ _ _ _ _ us hl => match us, hl with | [_], _ => rfl) fun cdv A outer s H E hr E0 A0 Pr =>
  (ss_cons (s_if (b_not (b_val (ka := .be) rfl (v_call (bs := []) (d_is_any_fraction.mono (k := 2) (by decide)) rfl rfl hr rfl (takes_of rfl rfl rfl rfl) (a_cons (v_varV (pv 0)) a_nil))))
  (ss_one (s_ret v_bl))
  ss_nil)
  (ss_one (s_ret (v_and (ka := .fe) (v_lt (ka := .be) (kb := .be) rfl hr.units (v_calB (ka := .be) call_abs ok_abs rfl fr.abs boot_abs' (a_cons (v_ixB (ka := .be) (kb := .be) rfl (v_var (pv 0)) v_int (fun _ _ => rfl)) a_nil)) (v_gc rfl g_BEYOND rfl)) (v_one (v_lt (ka := .be) (kb := .be) rfl hr.units (v_ixB (ka := .be) (kb := .be) rfl (v_var (pv 0)) v_int (fun _ _ => rfl)) (v_gc rfl g_BEYOND rfl)))))))
/-! ### all_pieces -/
noncomputable def f_all_pieces : Rho → Sto → Option Fl :=
  (sSeq
  (sSet 1 eDic0)
  (sSeq
  (sFor (iEnum1 (aCons (eCall 1 F_piece_names [] (aCons (eVarV 0) aNil)) aNil)) (gTp 2 (gsCons (gNm 2) (gsCons (gNm 3) gsNil)))
  (sGrp 1 3 2))
  (sRet (eCal gTuple (aCons (eLc (iSeq (eCal gSortDic (aCons (eVar 1) aNil))) (gNm 3) bYes (eCal gTuple (aCons (eBin gIxDic (eVar 1) (eVar 3)) aNil)) [3]) aNil)))))
noncomputable def F_all_pieces : List SV → Mo SV := runF 4 f_all_pieces
theorem sc_all_pieces : FnScope ["web", "found", "joint", "name"] ["web"] (defScope (top 18)) := ⟨rfl, rfl, rfl, by decide +kernel, rfl, by decide +kernel, by decide +kernel⟩
theorem ok_all_pieces (F : VL.FnP K "all_pieces" (top 18) f fd) (hm : mg "all_pieces" = some (.ref f)) (fr : Fr mg) (d_piece_names : DefOk P w K mg base 2 "piece_names" 1 F_piece_names) : DefOk P w K mg base 3 "all_pieces" 1 F_all_pieces :=
  mk_def (k := 2) (fb := f_all_pieces) F hm sc_all_pieces (by decide) (fun _ _ _ _ _ _ us hl => match us, hl with | [_], _ => rfl) fun cdv A outer s H E hr E0 A0 Pr =>
  (ss_cons (s_set (i := 1) sc_all_pieces.nd rfl (by first | exact Or.inl rfl | exact Or.inr rfl) v_dic0)
  (ss_cons (s_for (passes_of rfl) rfl (i_enumF rfl rfl fr.enumerate (a_cons (v_call (bs := []) (d_piece_names.mono (k := 2) (by decide)) rfl rfl hr rfl (takes_of rfl rfl rfl rfl) (a_cons (v_varV (pv 0)) a_nil)) a_nil)) (L2.pg_tup rfl (pgs_cons (pg_name sc_all_pieces.nd rfl (by first | exact Or.inl rfl | exact Or.inr rfl)) (pgs_cons (pg_name sc_all_pieces.nd rfl (by first | exact Or.inl rfl | exact Or.inr rfl)) pgs_nil))) (g_tp (gs_cons g_nm (gs_cons g_nm gs_nil)))
  (ss_one (s_grp (pv 1) (pv 3) (pa_cons (pv 2) pa_nil) ⟨rfl, rfl, rfl, rfl⟩)))
  (ss_one (s_ret (v_calT (ka := .be) call_tuple_of ok_tuple rfl fr.tuple boot_tuple' (a_cons (v_lc (own := [("name", 3)]) rfl sc_all_pieces.nd (i_seq (ka := .be) rfl (v_calB (ka := .be) (call_sortedDI rfl) ok_sortDic rfl fr.sorted boot_sorted' (a_cons (v_var (pv 1)) a_nil))) (blk_of (by rfl)) (fun _ _ _ _ _ => (pg_name sc_all_pieces.nd rfl (by first | exact Or.inl rfl | exact Or.inr rfl))) g_nm (by decide) (fun _ _ _ _ _ => ts_nil) (fun _ _ _ _ _ => (v_calT (ka := .be) call_tuple_of ok_tuple rfl fr.tuple boot_tuple' (a_cons (v_ixDic (ka := .be) (kb := .be) rfl (u1 hr) (v_var (pv 1)) (v_var (pv 3)) (fun _ _ => rfl)) a_nil)))) a_nil))))))
/-! ### _law_lead -/
noncomputable def f__law_lead : Rho → Sto → Option Fl :=
  (sRet (eCall 2 F__law_f [] (aCons (eBin gAdd (eCon (.int 1)) (eCall 2 F__law_draw [] (aCons (eVarV 0) (aCons (eCon (.int 6)) aNil)))) (aCons (eBin gAdd (eCon (.int 1)) (eCall 2 F__law_draw [] (aCons (eVarV 0) (aCons (eCall 2 F__law_one [] (aCons (eVarV 0) (aCons (eLst (aCons (eCon (.int 1)) (aCons (eCon (.int 4)) aNil))) aNil))) aNil)))) aNil))))
noncomputable def F__law_lead : List SV → Mo SV := runF 1 f__law_lead
theorem sc__law_lead : FnScope ["bag"] ["bag"] (defScope (top 31)) := ⟨rfl, rfl, rfl, by decide +kernel, rfl, by decide +kernel, by decide +kernel⟩
theorem ok__law_lead (F : VL.FnP K "_law_lead" (top 31) f fd) (hm : mg "_law_lead" = some (.ref f)) (fr : Fr mg) (d__law_draw : DefOk P w K mg base 1 "_law_draw" 2 F__law_draw) (d__law_one : DefOk P w K mg base 2 "_law_one" 2 F__law_one) (d__law_f : DefOk P w K mg base 2 "_law_f" 2 F__law_f) : DefOk P w K mg base 3 "_law_lead" 1 F__law_lead :=
  mk_def (k := 2) (fb := f__law_lead) F hm sc__law_lead (by decide) (fun _ _ _ _ _ _ us hl => match us, hl with | [_], _ => rfl) fun cdv A outer s H E hr E0 A0 Pr =>
  (ss_one (s_ret (v_call (bs := []) (d__law_f.mono (k := 2) (by decide)) rfl rfl hr rfl (takes_of rfl rfl rfl rfl) (a_cons (v_add (hk := rfl) (ka := .be) (kb := .be) v_int (v_call (bs := []) (d__law_draw.mono (k := 2) (by decide)) rfl rfl hr rfl (takes_of rfl rfl rfl rfl) (a_cons (v_varV (pv 0)) (a_cons v_int a_nil)))) (a_cons (v_add (hk := rfl) (ka := .be) (kb := .be) v_int (v_call (bs := []) (d__law_draw.mono (k := 2) (by decide)) rfl rfl hr rfl (takes_of rfl rfl rfl rfl) (a_cons (v_varV (pv 0)) (a_cons (v_call (bs := []) (d__law_one.mono (k := 2) (by decide)) rfl rfl hr rfl (takes_of rfl rfl rfl rfl) (a_cons (v_varV (pv 0)) (a_cons (v_lst (a_cons v_int (a_cons v_int a_nil))) a_nil))) a_nil)))) a_nil)))))
/-! ### _law_is_web -/
noncomputable def f__law_is_web : Rho → Sto → Option Fl :=
  (sSeq
  (sIf (bOr (bNot (bVal (eIsi1 (eVar 0) ["tuple"]))) (bOr (bB (eBin (cB gNe) (eCal gLen (aCons (eVar 0) aNil)) (eCon (.int 3)))) (bOr (bNot (bVal (eIsi1 (eBin gIxB (eVar 0) (eCon (.int 0))) ["str"]))) (bB (eBin (cB gNe) (eBin gIxB (eVar 0) (eCon (.int 0))) (eCon (.str "web")))))))
  (sRet (eCon (.bool false)))
  sNil)
  (sSeq
  (sIf (bOr (bNot (bVal (eCall 1 F__law_is_int [] (aCons (eBin gIx (eVar 0) (eCon (.int 1))) aNil)))) (bOr (bB (eBin (cB gLt) (eBin gIxB (eVar 0) (eCon (.int 1))) (eCon (.int 1)))) (bOr (bB (eBin (cB gGt) (eBin gIxB (eVar 0) (eCon (.int 1))) (eCon (.int 24)))) (bOr (bNot (bVal (eIsi1 (eBin gIxB (eVar 0) (eCon (.int 2))) ["tuple"]))) (bB (eBin (cB gGt) (eCal gLen (aCons (eBin gIxB (eVar 0) (eCon (.int 2))) aNil)) (eCon (.int 60))))))))
  (sRet (eCon (.bool false)))
  sNil)
  (sSeq
  (sFor (iSeq (eBin gIx (eVar 0) (eCon (.int 2)))) (gNm 1)
  (sSeq
  (sIf (bOr (bNot (bVal (eIsi1 (eVar 1) ["tuple"]))) (bOr (bB (eBin (cB gNe) (eCal gLen (aCons (eVar 1) aNil)) (eCon (.int 3)))) (bOr (bNot (bVal (eCall 1 F__law_is_int [] (aCons (eBin gIx (eVar 1) (eCon (.int 0))) aNil)))) (bNot (bVal (eCall 1 F__law_is_int [] (aCons (eBin gIx (eVar 1) (eCon (.int 1))) aNil)))))))
  (sRet (eCon (.bool false)))
  sNil)
  (sIf (bOr (bB (eBin (cB gLt) (eBin gIxB (eVar 1) (eCon (.int 0))) (eCon (.int 0)))) (bOr (bB (eBin (cB gGe) (eBin gIxB (eVar 1) (eCon (.int 0))) (eBin gIxB (eVar 1) (eCon (.int 1))))) (bOr (bB (eBin (cB gGe) (eBin gIxB (eVar 1) (eCon (.int 1))) (eBin gIxB (eVar 0) (eCon (.int 1))))) (bOr (bNot (bVal (eCall 1 F__law_is_fraction [] (aCons (eBin gIx (eVar 1) (eCon (.int 2))) aNil)))) (bB (eBin (cB gLt) (eBin gIxB (eBin gIxB (eVar 1) (eCon (.int 2))) (eCon (.int 0))) (eCon (.int 1))))))))
  (sRet (eCon (.bool false)))
  sNil)))
  (sRet (eBin (cB gNotIn) (eCon (.bool false)) (eLc (iRng1 (aCons (eBin gSub (eCal gLen (aCons (eBin gIxB (eVar 0) (eCon (.int 2))) aNil)) (eCon (.int 1))) aNil)) (gNm 2) bYes (eBin (cB gLeD) (eBin gIxB (eBin gIxB (eVar 0) (eCon (.int 2))) (eVar 2)) (eBin gIxB (eBin gIxB (eVar 0) (eCon (.int 2))) (eBin gAdd (eVar 2) (eCon (.int 1))))) [2]))))))
noncomputable def F__law_is_web : List SV → Mo SV := runF 3 f__law_is_web
theorem sc__law_is_web : FnScope ["value", "wire", "j"] ["value"] (defScope (top 37)) := ⟨rfl, rfl, rfl, by decide +kernel, rfl, by decide +kernel, by decide +kernel⟩
theorem ok__law_is_web (F : VL.FnP K "_law_is_web" (top 37) f fd) (hm : mg "_law_is_web" = some (.ref f)) (fr : Fr mg) (d__law_is_int : DefOk P w K mg base 1 "_law_is_int" 1 F__law_is_int) (d__law_is_fraction : DefOk P w K mg base 2 "_law_is_fraction" 1 F__law_is_fraction) : DefOk P w K mg base 3 "_law_is_web" 1 F__law_is_web :=
  mk_def (k := 2) (fb := f__law_is_web) F hm sc__law_is_web (by decide) (fun _ _ _ _ _ _ us hl => match us, hl with | [_], _ => rfl) fun cdv A outer s H E hr E0 A0 Pr =>
  (ss_cons (s_if (PW.pt (b_or (b_not (b_val (ka := .be) rfl (v_isi (ka := .be) (T := "tuple") rfl (by decide) rfl fr.isinstance (v_var (pv 0)) rfl fr.tuple boot_tuple'))) (b_or (t_ne (ka := .be) (kb := .be) rfl hr.units (v_calB (ka := .be) call_len ok_len rfl fr.len boot_len' (a_cons (v_var (pv 0)) a_nil)) v_int) (b_or (b_not (b_val (ka := .be) rfl (v_isi (ka := .be) (T := "str") rfl (by decide) rfl fr.isinstance (v_ixB (ka := .be) (kb := .be) rfl (v_var (pv 0)) v_int (fun _ _ => rfl)) rfl fr.str boot_str'))) (b_or1 (t_ne (ka := .be) (kb := .be) rfl hr.units (v_ixB (ka := .be) (kb := .be) rfl (v_var (pv 0)) v_int (fun _ _ => rfl)) v_str))))))
  (ss_one (s_ret v_bl))
  ss_nil)
  (ss_cons (s_if (PW.pt (b_or (b_not (b_val (ka := .be) rfl (v_call (bs := []) (d__law_is_int.mono (k := 2) (by decide)) rfl rfl hr rfl (takes_of rfl rfl rfl rfl) (a_cons (v_ix (ka := .be) (kb := .be) rfl (v_var (pv 0)) v_int (fun _ _ => rfl)) a_nil)))) (b_or (t_lt (ka := .be) (kb := .be) rfl hr.units (v_ixB (ka := .be) (kb := .be) rfl (v_var (pv 0)) v_int (fun _ _ => rfl)) v_int) (b_or (t_gt (ka := .be) (kb := .be) (v_ixB (ka := .be) (kb := .be) rfl (v_var (pv 0)) v_int (fun _ _ => rfl)) v_int) (b_or (b_not (b_val (ka := .be) rfl (v_isi (ka := .be) (T := "tuple") rfl (by decide) rfl fr.isinstance (v_ixB (ka := .be) (kb := .be) rfl (v_var (pv 0)) v_int (fun _ _ => rfl)) rfl fr.tuple boot_tuple'))) (b_or1 (t_gt (ka := .be) (kb := .be) (v_calB (ka := .be) call_len ok_len rfl fr.len boot_len' (a_cons (v_ixB (ka := .be) (kb := .be) rfl (v_var (pv 0)) v_int (fun _ _ => rfl)) a_nil)) v_int)))))))
  (ss_one (s_ret v_bl))
  ss_nil)
  (ss_cons (s_for (passes_of rfl) rfl (i_seqF rfl (v_ix (ka := .be) (kb := .be) rfl (v_var (pv 0)) v_int (fun _ _ => rfl))) (pg_name sc__law_is_web.nd rfl (by first | exact Or.inl rfl | exact Or.inr rfl)) g_nm
  (ss_cons (s_if (PW.pt (b_or (b_not (b_val (ka := .be) rfl (v_isi (ka := .be) (T := "tuple") rfl (by decide) rfl fr.isinstance (v_var (pv 1)) rfl fr.tuple boot_tuple'))) (b_or (t_ne (ka := .be) (kb := .be) rfl hr.units (v_calB (ka := .be) call_len ok_len rfl fr.len boot_len' (a_cons (v_var (pv 1)) a_nil)) v_int) (b_or (b_not (b_val (ka := .be) rfl (v_call (bs := []) (d__law_is_int.mono (k := 2) (by decide)) rfl rfl hr rfl (takes_of rfl rfl rfl rfl) (a_cons (v_ix (ka := .be) (kb := .be) rfl (v_var (pv 1)) v_int (fun _ _ => rfl)) a_nil)))) (b_or1 (b_not (b_val (ka := .be) rfl (v_call (bs := []) (d__law_is_int.mono (k := 2) (by decide)) rfl rfl hr rfl (takes_of rfl rfl rfl rfl) (a_cons (v_ix (ka := .be) (kb := .be) rfl (v_var (pv 1)) v_int (fun _ _ => rfl)) a_nil)))))))))
  (ss_one (s_ret v_bl))
  ss_nil)
  (ss_one (s_if (PW.pt (b_or (t_lt (ka := .be) (kb := .be) rfl hr.units (v_ixB (ka := .be) (kb := .be) rfl (v_var (pv 1)) v_int (fun _ _ => rfl)) v_int) (b_or (t_ge (ka := .be) (kb := .be) (v_ixB (ka := .be) (kb := .be) rfl (v_var (pv 1)) v_int (fun _ _ => rfl)) (v_ixB (ka := .be) (kb := .be) rfl (v_var (pv 1)) v_int (fun _ _ => rfl))) (b_or (t_ge (ka := .be) (kb := .be) (v_ixB (ka := .be) (kb := .be) rfl (v_var (pv 1)) v_int (fun _ _ => rfl)) (v_ixB (ka := .be) (kb := .be) rfl (v_var (pv 0)) v_int (fun _ _ => rfl))) (b_or (b_not (b_val (ka := .be) rfl (v_call (bs := []) (d__law_is_fraction.mono (k := 2) (by decide)) rfl rfl hr rfl (takes_of rfl rfl rfl rfl) (a_cons (v_ix (ka := .be) (kb := .be) rfl (v_var (pv 1)) v_int (fun _ _ => rfl)) a_nil)))) (b_or1 (t_lt (ka := .be) (kb := .be) rfl hr.units (v_ixB (ka := .be) (kb := .be) rfl (v_ixB (ka := .be) (kb := .be) rfl (v_var (pv 1)) v_int (fun _ _ => rfl)) v_int (fun _ _ => rfl)) v_int)))))))
  (ss_one (s_ret v_bl))
  ss_nil))))
  (ss_one (s_ret (v_notIn (ka := .be) (kb := .be) rfl (u65 hr) v_bl (v_lc (own := [("j", 2)]) rfl sc__law_is_web.nd (i_rng1 rfl fr.range (a_cons (v_sub (ka := .be) (kb := .be) (v_calB (ka := .be) call_len ok_len rfl fr.len boot_len' (a_cons (v_ixB (ka := .be) (kb := .be) rfl (v_var (pv 0)) v_int (fun _ _ => rfl)) a_nil)) v_int) a_nil)) (blk_of (by rfl)) (fun _ _ _ _ _ => (pg_name sc__law_is_web.nd rfl (by first | exact Or.inl rfl | exact Or.inr rfl))) g_nm (by decide) (fun _ _ _ _ _ => ts_nil) (fun _ _ _ _ _ => (v_leD (ka := .be) (kb := .be) rfl hr.units (v_ixB (ka := .be) (kb := .be) rfl (v_ixB (ka := .be) (kb := .be) rfl (v_var (pv 0)) v_int (fun _ _ => rfl)) (v_var (pv 2)) (fun _ _ => rfl)) (v_ixB (ka := .be) (kb := .be) rfl (v_ixB (ka := .be) (kb := .be) rfl (v_var (pv 0)) v_int (fun _ _ => rfl)) (v_add (hk := rfl) (ka := .be) (kb := .be) (v_var (pv 2)) v_int) (fun _ _ => rfl))))) (by rfl)))))))
/-! ### is_wire -/
noncomputable def f_is_wire : Rho → Sto → Option Fl :=
  (sSeq
  (sIf (bOr (bNot (bVal (eIsi1 (eVar 0) ["tuple"]))) (bB (eBin (cB gNe) (eCal gLen (aCons (eVar 0) aNil)) (eCon (.int 3)))))
  (sRet (eCon (.bool false)))
  sNil)
  (sSeq
  (sIf (bOr (bNot (bVal (eCall 3 F_is_integer [] (aCons (eBin gIx (eVar 0) (eCon (.int 0))) (aCons (eCon (.int 0)) (aCons (eBin gSub (eVar 1) (eCon (.int 1))) aNil)))))) (bNot (bVal (eCall 3 F_is_integer [] (aCons (eBin gIx (eVar 0) (eCon (.int 1))) (aCons (eBin gAdd (eBin gIxB (eVar 0) (eCon (.int 0))) (eCon (.int 1))) (aCons (eBin gSub (eVar 1) (eCon (.int 1))) aNil)))))))
  (sRet (eCon (.bool false)))
  sNil)
  (sRet (eAnd (eCall 1 F_is_fraction [] (aCons (eBin gIx (eVar 0) (eCon (.int 2))) aNil)) (eBin (cB gGt) (eBin gIxB (eBin gIxB (eVar 0) (eCon (.int 2))) (eCon (.int 0))) (eCon (.int 0)))))))
noncomputable def F_is_wire : List SV → Mo SV := runF 2 f_is_wire
theorem sc_is_wire : FnScope ["value", "n"] ["value", "n"] (defScope (top 12)) := ⟨rfl, rfl, rfl, by decide +kernel, rfl, by decide +kernel, by decide +kernel⟩
theorem ok_is_wire (F : VL.FnP K "is_wire" (top 12) f fd) (hm : mg "is_wire" = some (.ref f)) (fr : Fr mg) (d_is_integer : DefOk P w K mg base 1 "is_integer" 3 F_is_integer) (d_is_fraction : DefOk P w K mg base 3 "is_fraction" 1 F_is_fraction) : DefOk P w K mg base 4 "is_wire" 2 F_is_wire :=
  mk_def (k := 3) (fb := f_is_wire) F hm sc_is_wire (by decide) (fun _ _ _ _ _ _ us hl => match us, hl with | [_, _], _ => rfl) fun cdv A outer s H E hr E0 A0 Pr =>
  (ss_cons (s_if (PW.pt (b_or (b_not (b_val (ka := .be) rfl (v_isi (ka := .be) (T := "tuple") rfl (by decide) rfl fr.isinstance (v_var (pv 0)) rfl fr.tuple boot_tuple'))) (b_or1 (t_ne (ka := .be) (kb := .be) rfl hr.units (v_calB (ka := .be) call_len ok_len rfl fr.len boot_len' (a_cons (v_var (pv 0)) a_nil)) v_int))))
  (ss_one (s_ret v_bl))
  ss_nil)
  (ss_cons (s_if (PW.pt (b_or (b_not (b_val (ka := .be) rfl (v_call (bs := []) (d_is_integer.mono (k := 3) (by decide)) rfl rfl hr rfl (takes_of rfl rfl rfl rfl) (a_cons (v_ix (ka := .be) (kb := .be) rfl (v_var (pv 0)) v_int (fun _ _ => rfl)) (a_cons v_int (a_cons (v_sub (ka := .be) (kb := .be) (v_var (pv 1)) v_int) a_nil)))))) (b_or1 (b_not (b_val (ka := .be) rfl (v_call (bs := []) (d_is_integer.mono (k := 3) (by decide)) rfl rfl hr rfl (takes_of rfl rfl rfl rfl) (a_cons (v_ix (ka := .be) (kb := .be) rfl (v_var (pv 0)) v_int (fun _ _ => rfl)) (a_cons (v_add (hk := rfl) (ka := .be) (kb := .be) (v_ixB (ka := .be) (kb := .be) rfl (v_var (pv 0)) v_int (fun _ _ => rfl)) v_int) (a_cons (v_sub (ka := .be) (kb := .be) (v_var (pv 1)) v_int) a_nil)))))))))
  (ss_one (s_ret v_bl))
  ss_nil)
  (ss_one (s_ret (v_and (ka := .fe) (v_call (bs := []) (d_is_fraction.mono (k := 3) (by decide)) rfl rfl hr rfl (takes_of rfl rfl rfl rfl) (a_cons (v_ix (ka := .be) (kb := .be) rfl (v_var (pv 0)) v_int (fun _ _ => rfl)) a_nil)) (v_one (v_gt (ka := .be) (kb := .be) (v_ixB (ka := .be) (kb := .be) rfl (v_ixB (ka := .be) (kb := .be) rfl (v_var (pv 0)) v_int (fun _ _ => rfl)) v_int (fun _ _ => rfl)) v_int)))))))
/-! ### _law_web -/
noncomputable def f__law_web : Rho → Sto → Option Fl :=
  (sSeq
  (sSet 4 (eBin gAdd (eCon (.int 1)) (eCall 2 F__law_draw [] (aCons (eVarV 0) (aCons (eVarV 1) aNil)))))
  (sSeq
  (sSet 5 (eLst aNil))
  (sSeq
  (sIf (bVal (eVar 3))
  (sFor (iRng2 (aCons (eCon (.int 1)) (aCons (eVar 4) aNil))) (gNm 6)
  (sAppend (lVar 5) (aCons (eTup (aCons (eCall 2 F__law_draw [] (aCons (eVarV 0) (aCons (eVarV 6) aNil))) (aCons (eVarV 6) (aCons (eCall 1 F__law_lead [] (aCons (eVarV 0) aNil)) aNil)))) aNil)))
  sNil)
  (sSeq
  (sFor (iRng1 (aCons (eIf (bB (eBin (cB gGt) (eVar 4) (eCon (.int 1)))) (eCall 2 F__law_draw [] (aCons (eVarV 0) (aCons (eVarV 2) aNil))) (eCon (.int 0))) aNil)) (gNm 7)
  (sSeq
  (sSet 8 (eCall 2 F__law_draw [] (aCons (eVarV 0) (aCons (eBin gSub (eVar 4) (eCon (.int 1))) aNil))))
  (sAppend (lVar 5) (aCons (eTup (aCons (eVarV 8) (aCons (eBin gAdd (eBin gAdd (eVar 8) (eCon (.int 1))) (eCall 2 F__law_draw [] (aCons (eVarV 0) (aCons (eBin gSub (eBin gSub (eVar 4) (eCon (.int 1))) (eVar 8)) aNil)))) (aCons (eCall 1 F__law_lead [] (aCons (eVarV 0) aNil)) aNil)))) aNil))))
  (sRet (eTup (aCons (eCon (.str "web")) (aCons (eVarV 4) (aCons (eCal gTuple (aCons (eCal gSorted (aCons (eVar 5) aNil)) aNil)) aNil)))))))))
noncomputable def F__law_web : List SV → Mo SV := runF 9 f__law_web
theorem sc__law_web : FnScope ["bag", "most_joints", "most_wires", "whole", "n", "wires", "joint", "k", "a"] ["bag", "most_joints", "most_wires", "whole"] (defScope (top 32)) := ⟨rfl, rfl, rfl, by decide +kernel, rfl, by decide +kernel, by decide +kernel⟩
theorem ok__law_web (F : VL.FnP K "_law_web" (top 32) f fd) (hm : mg "_law_web" = some (.ref f)) (fr : Fr mg) (d__law_draw : DefOk P w K mg base 1 "_law_draw" 2 F__law_draw) (d__law_lead : DefOk P w K mg base 3 "_law_lead" 1 F__law_lead) : DefOk P w K mg base 4 "_law_web" 4 F__law_web :=
  mk_def (k := 3) (fb := f__law_web) F hm sc__law_web (by decide) (fun _ _ _ _ _ _ us hl => match us, hl with | [_, _, _, _], _ => rfl) fun cdv A outer s H E hr E0 A0 Pr =>
  (ss_cons (s_set (i := 4) sc__law_web.nd rfl (by first | exact Or.inl rfl | exact Or.inr rfl) (v_add (hk := rfl) (ka := .be) (kb := .be) v_int (v_call (bs := []) (d__law_draw.mono (k := 3) (by decide)) rfl rfl hr rfl (takes_of rfl rfl rfl rfl) (a_cons (v_varV (pv 0)) (a_cons (v_varV (pv 1)) a_nil)))))
  (ss_cons (s_set (i := 5) sc__law_web.nd rfl (by first | exact Or.inl rfl | exact Or.inr rfl) (v_lst a_nil))
  (ss_cons (s_if (b_val (ka := .be) rfl (v_var (pv 3)))
  (ss_one (s_for (passes_of rfl) rfl (i_rng2 rfl fr.range (a_cons v_int (a_cons (v_var (pv 4)) a_nil))) (pg_name sc__law_web.nd rfl (by first | exact Or.inl rfl | exact Or.inr rfl)) g_nm
  (ss_one (s_append (l_var (pv 5)) (a_cons (v_tup (a_cons (v_call (bs := []) (d__law_draw.mono (k := 3) (by decide)) rfl rfl hr rfl (takes_of rfl rfl rfl rfl) (a_cons (v_varV (pv 0)) (a_cons (v_varV (pv 6)) a_nil))) (a_cons (v_varV (pv 6)) (a_cons (v_call (bs := []) (d__law_lead.mono (k := 3) (by decide)) rfl rfl hr rfl (takes_of rfl rfl rfl rfl) (a_cons (v_varV (pv 0)) a_nil)) a_nil)))) a_nil)))))
  ss_nil)
  (ss_cons (s_for (passes_of rfl) rfl (i_rng1 rfl fr.range (a_cons (v_if (t_gt (ka := .be) (kb := .be) (v_var (pv 4)) v_int) (v_call (bs := []) (d__law_draw.mono (k := 3) (by decide)) rfl rfl hr rfl (takes_of rfl rfl rfl rfl) (a_cons (v_varV (pv 0)) (a_cons (v_varV (pv 2)) a_nil))) v_int) a_nil)) (pg_name sc__law_web.nd rfl (by first | exact Or.inl rfl | exact Or.inr rfl)) g_nm
  (ss_cons (s_set (i := 8) sc__law_web.nd rfl (by first | exact Or.inl rfl | exact Or.inr rfl) (v_call (bs := []) (d__law_draw.mono (k := 3) (by decide)) rfl rfl hr rfl (takes_of rfl rfl rfl rfl) (a_cons (v_varV (pv 0)) (a_cons (v_sub (ka := .be) (kb := .be) (v_var (pv 4)) v_int) a_nil))))
  (ss_one (s_append (l_var (pv 5)) (a_cons (v_tup (a_cons (v_varV (pv 8)) (a_cons (v_add (hk := rfl) (ka := .be) (kb := .be) (v_add (hk := rfl) (ka := .be) (kb := .be) (v_var (pv 8)) v_int) (v_call (bs := []) (d__law_draw.mono (k := 3) (by decide)) rfl rfl hr rfl (takes_of rfl rfl rfl rfl) (a_cons (v_varV (pv 0)) (a_cons (v_sub (ka := .be) (kb := .be) (v_sub (ka := .be) (kb := .be) (v_var (pv 4)) v_int) (v_var (pv 8))) a_nil)))) (a_cons (v_call (bs := []) (d__law_lead.mono (k := 3) (by decide)) rfl rfl hr rfl (takes_of rfl rfl rfl rfl) (a_cons (v_varV (pv 0)) a_nil)) a_nil)))) a_nil)))))
  (ss_one (s_ret (v_tup (a_cons v_str (a_cons (v_varV (pv 4)) (a_cons (v_calT (ka := .be) call_tuple_of ok_tuple rfl fr.tuple boot_tuple' (a_cons (v_calB (ka := .be) (cr_sortD (u66 hr)) ok_sorted rfl fr.sorted boot_sorted' (a_cons (v_var (pv 5)) a_nil)) a_nil)) a_nil))))))))))
/-! ### is_web -/
noncomputable def f_is_web : Rho → Sto → Option Fl :=
  (sSeq
  (sIf (bOr (bNot (bVal (eIsi1 (eVar 0) ["tuple"]))) (bOr (bB (eBin (cB gNe) (eCal gLen (aCons (eVar 0) aNil)) (eCon (.int 3)))) (bB (eBin (cB gNe) (eBin gIxB (eVar 0) (eCon (.int 0))) (eCon (.str "web"))))))
  (sRet (eCon (.bool false)))
  sNil)
  (sSeq
  (sAsg (gTp 3 (gsCons (gNm 1) (gsCons (gNm 2) (gsCons (gNm 3) gsNil)))) (eVarV 0))
  (sSeq
  (sIf (bOr (bNot (bVal (eCall 3 F_is_integer [] (aCons (eVarV 2) (aCons (eCon (.int 1)) (aCons (eCon (.int 24)) aNil)))))) (bOr (bNot (bVal (eIsi1 (eVar 3) ["tuple"]))) (bB (eBin (cB gGt) (eCal gLen (aCons (eVar 3) aNil)) (eCon (.int 60))))))
  (sRet (eCon (.bool false)))
  sNil)
  (sSeq
  (sIf (bNot (bVal (eCal gAll (aCons (eLc (iSeq (eVar 3)) (gNm 4) bYes (eCall 2 F_is_wire [] (aCons (eVarV 4) (aCons (eVarV 2) aNil))) [4]) aNil))))
  (sRet (eCon (.bool false)))
  sNil)
  (sRet (eCal gAll (aCons (eLc (iZip2 (aCons (eVar 3) (aCons (eSl (eVar 3) (pSome (eCon (.int 1))) pNone) aNil))) (gTp 2 (gsCons (gNm 5) (gsCons (gNm 6) gsNil))) bYes (eBin (cB gLeD) (eVar 5) (eVar 6)) [5, 6]) aNil)))))))
noncomputable def F_is_web : List SV → Mo SV := runF 7 f_is_web
theorem sc_is_web : FnScope ["value", "_", "n", "wires", "wire", "one", "other"] ["value"] (defScope (top 13)) := ⟨rfl, rfl, rfl, by decide +kernel, rfl, by decide +kernel, by decide +kernel⟩
theorem ok_is_web (F : VL.FnP K "is_web" (top 13) f fd) (hm : mg "is_web" = some (.ref f)) (fr : Fr mg) (d_is_integer : DefOk P w K mg base 1 "is_integer" 3 F_is_integer) (d_is_wire : DefOk P w K mg base 4 "is_wire" 2 F_is_wire) (g_MOST_JOINTS : GlobC K mg "MOST_JOINTS" (.int 24)) (g_MOST_WIRES : GlobC K mg "MOST_WIRES" (.int 60)) : DefOk P w K mg base 5 "is_web" 1 F_is_web :=
  mk_def (k := 4) (fb := f_is_web) F hm sc_is_web (by decide) (fun _ _ _ _ _ _ us hl => match us, hl with | [_], _ => rfl) fun cdv A outer s H E hr E0 A0 Pr =>
  (ss_cons (s_if (PW.pt (b_or (b_not (b_val (ka := .be) rfl (v_isi (ka := .be) (T := "tuple") rfl (by decide) rfl fr.isinstance (v_var (pv 0)) rfl fr.tuple boot_tuple'))) (b_or (t_ne (ka := .be) (kb := .be) rfl hr.units (v_calB (ka := .be) call_len ok_len rfl fr.len boot_len' (a_cons (v_var (pv 0)) a_nil)) v_int) (b_or1 (t_ne (ka := .be) (kb := .be) rfl hr.units (v_ixB (ka := .be) (kb := .be) rfl (v_var (pv 0)) v_int (fun _ _ => rfl)) v_str)))))
  (ss_one (s_ret v_bl))
  ss_nil)
  (ss_cons (s_asg (v_varV (pv 0)) (L2.pg_tup rfl (pgs_cons (pg_name sc_is_web.nd rfl (by first | exact Or.inl rfl | exact Or.inr rfl)) (pgs_cons (pg_name sc_is_web.nd rfl (by first | exact Or.inl rfl | exact Or.inr rfl)) (pgs_cons (pg_name sc_is_web.nd rfl (by first | exact Or.inl rfl | exact Or.inr rfl)) pgs_nil)))) (g_tp (gs_cons g_nm (gs_cons g_nm (gs_cons g_nm gs_nil)))))
  (ss_cons (s_if (PW.pt (b_or (b_not (b_val (ka := .be) rfl (v_call (bs := []) (d_is_integer.mono (k := 4) (by decide)) rfl rfl hr rfl (takes_of rfl rfl rfl rfl) (a_cons (v_varV (pv 2)) (a_cons v_int (a_cons (v_gc rfl g_MOST_JOINTS rfl) a_nil)))))) (b_or (b_not (b_val (ka := .be) rfl (v_isi (ka := .be) (T := "tuple") rfl (by decide) rfl fr.isinstance (v_var (pv 3)) rfl fr.tuple boot_tuple'))) (b_or1 (t_gt (ka := .be) (kb := .be) (v_calB (ka := .be) call_len ok_len rfl fr.len boot_len' (a_cons (v_var (pv 3)) a_nil)) (v_gc rfl g_MOST_WIRES rfl))))))
  (ss_one (s_ret v_bl))
  ss_nil)
  (ss_cons (s_if (b_not (b_val (ka := .be) rfl (v_calB (ka := .be) (cr_all rfl) ok_all rfl fr.all boot_all' (a_cons (v_lc (own := [("wire", 4)]) rfl sc_is_web.nd (i_seq (ka := .be) rfl (v_var (pv 3))) (blk_of (by rfl)) (fun _ _ _ _ _ => (pg_name sc_is_web.nd rfl (by first | exact Or.inl rfl | exact Or.inr rfl))) g_nm (by decide) (fun _ _ _ _ _ => ts_nil) (fun _ _ _ _ _ => (v_call (bs := []) (d_is_wire.mono (k := 4) (by decide)) rfl rfl hr rfl VL.takes0 (a_cons (v_varV (pv 4)) (a_cons (v_varV (pv 2)) a_nil))))) a_nil))))
  (ss_one (s_ret v_bl))
  ss_nil)
  (ss_one (s_ret (v_calB (ka := .be) (cr_all rfl) ok_all rfl fr.all boot_all' (a_cons (v_lc (own := [("one", 5), ("other", 6)]) rfl sc_is_web.nd (i_zip rfl rfl fr.zip (a_cons (v_var (pv 3)) (a_cons (v_sl (ka := .be) rfl (v_var (pv 3)) (o_some (ka := .be) v_int) o_none) a_nil))) (blk_of (by rfl)) (fun _ _ _ _ _ => (L2.pg_tup rfl (pgs_cons (pg_name sc_is_web.nd rfl (by first | exact Or.inl rfl | exact Or.inr rfl)) (pgs_cons (pg_name sc_is_web.nd rfl (by first | exact Or.inl rfl | exact Or.inr rfl)) pgs_nil)))) (g_tp (gs_cons g_nm (gs_cons g_nm gs_nil))) (by decide) (fun _ _ _ _ _ => ts_nil) (fun _ _ _ _ _ => (v_leD (ka := .be) (kb := .be) rfl hr.units (v_var (pv 5)) (v_var (pv 6))))) a_nil))))))))
/-! ### check_web -/
noncomputable def f_check_web : Rho → Sto → Option Fl :=
  (sIf (bNot (bVal (eCall 1 F_is_web [] (aCons (eVarV 0) aNil))))
  (sRaise "BadWeb")
  sNil)
noncomputable def F_check_web : List SV → Mo SV := runF 1 f_check_web
theorem sc_check_web : FnScope ["web"] ["web"] (defScope (top 14)) := ⟨rfl, rfl, rfl, by decide +kernel, rfl, by decide +kernel, by decide +kernel⟩
theorem ok_check_web (F : VL.FnP K "check_web" (top 14) f fd) (hm : mg "check_web" = some (.ref f)) (fr : Fr mg) (d_is_web : DefOk P w K mg base 5 "is_web" 1 F_is_web) (e_BadWeb : ExcOk K mg "BadWeb") : DefOk P w K mg base 6 "check_web" 1 F_check_web :=
  mk_def (k := 5) (fb := f_check_web) F hm sc_check_web (by decide) (fun _ _ _ _ _ _ us hl => match us, hl with | [_], _ => rfl) fun cdv A outer s H E hr E0 A0 Pr =>
  (ss_one (s_if (b_not (b_val (ka := .be) rfl (v_call (bs := []) (d_is_web.mono (k := 5) (by decide)) rfl rfl hr rfl (takes_of rfl rfl rfl rfl) (a_cons (v_varV (pv 0)) a_nil))))
  (ss_one (s_raise rfl e_BadWeb rfl (takes_of rfl rfl rfl rfl) rfl))
  ss_nil))
/-! ### pieces -/
noncomputable def f_pieces : Rho → Sto → Option Fl :=
  (sSeq
  (sDrop (eCall 1 F_check_web [] (aCons (eVarV 0) aNil)))
  (sRet (eCall 1 F_all_pieces [] (aCons (eVarV 0) aNil))))
noncomputable def F_pieces : List SV → Mo SV := runF 1 f_pieces
theorem sc_pieces : FnScope ["web"] ["web"] (defScope (top 19)) := ⟨rfl, rfl, rfl, by decide +kernel, rfl, by decide +kernel, by decide +kernel⟩
theorem ok_pieces (F : VL.FnP K "pieces" (top 19) f fd) (hm : mg "pieces" = some (.ref f)) (fr : Fr mg) (d_all_pieces : DefOk P w K mg base 3 "all_pieces" 1 F_all_pieces) (d_check_web : DefOk P w K mg base 6 "check_web" 1 F_check_web) : DefOk P w K mg base 7 "pieces" 1 F_pieces :=
  mk_def (k := 6) (fb := f_pieces) F hm sc_pieces (by decide) (fun _ _ _ _ _ _ us hl => match us, hl with | [_], _ => rfl) fun cdv A outer s H E hr E0 A0 Pr =>
  (ss_cons (s_drop (kd := .be) (v_call (bs := []) (d_check_web.mono (k := 6) (by decide)) rfl rfl hr rfl (takes_of rfl rfl rfl rfl) (a_cons (v_varV (pv 0)) a_nil)))
  (ss_one (s_ret (v_call (bs := []) (d_all_pieces.mono (k := 6) (by decide)) rfl rfl hr rfl (takes_of rfl rfl rfl rfl) (a_cons (v_varV (pv 0)) a_nil)))))
/-! ### _law_refuses -/
noncomputable def f__law_refuses : Rho → Sto → Option Fl :=
  (sSeq
  (sTry mt "BadWeb"
  (sDrop (eCall 1 F_pieces [] (aCons (eVarV 0) aNil)))
  (sRet (eCon (.bool true))))
  (sRet (eCon (.bool false))))
noncomputable def F__law_refuses : List SV → Mo SV := runF 1 f__law_refuses
theorem sc__law_refuses : FnScope ["value"] ["value"] (defScope (top 38)) := ⟨rfl, rfl, rfl, by decide +kernel, rfl, by decide +kernel, by decide +kernel⟩
theorem ok__law_refuses (F : VL.FnP K "_law_refuses" (top 38) f fd) (hm : mg "_law_refuses" = some (.ref f)) (fr : Fr mg) (d_pieces : DefOk P w K mg base 7 "pieces" 1 F_pieces) (e_BadWeb : ExcOk K mg "BadWeb") (hmt : MtOk K mg mt) : DefOk P w K mg base 8 "_law_refuses" 1 F__law_refuses :=
  mk_def (k := 7) (fb := f__law_refuses) F hm sc__law_refuses (by decide) (fun _ _ _ _ _ _ us hl => match us, hl with | [_], _ => rfl) fun cdv A outer s H E hr E0 A0 Pr =>
  (ss_cons (s_tryE rfl rfl hmt e_BadWeb rfl rfl rfl (takes_of rfl rfl rfl rfl) (fun W pn xe tk' hp' => (ss_one (s_drop (kd := .be) (v_call (bs := []) (d_pieces.mono (k := 7) (by decide)) rfl rfl hr rfl tk' (a_cons (v_varV (pv 0)) a_nil))))) (fun a oe pn => (ss_one (s_ret v_bl))))
  (ss_one (s_ret v_bl)))
/-! ### _law_spoilt -/
noncomputable def f__law_spoilt (FF : List SV → Mo SV) : Rho → Sto → Option Fl :=
  (sSeq
  (sIf (bOr (bB (eBin (cB gEq) (eVar 3) (eCon (.int 0)))) (bOr (bNot (bVal (eIsi1 (eVar 1) ["tuple"]))) (bOr (bB (eBin (cB gEq) (eCal gLen (aCons (eVar 1) aNil)) (eCon (.int 0)))) (bB (eBin (cB gEq) (eCall 2 F__law_draw [] (aCons (eVarV 0) (aCons (eCon (.int 4)) aNil))) (eCon (.int 0)))))))
  (sRetV 2)
  sNil)
  (sSeq
  (sSet 4 (eCall 2 F__law_draw [] (aCons (eVarV 0) (aCons (eCal gLen (aCons (eVar 1) aNil)) aNil))))
  (sSeq
  (sSet 5 (eCall 2 F__law_draw [] (aCons (eVarV 0) (aCons (eCon (.int 9)) aNil))))
  (sSeq
  (sIf (bB (eBin (cB gEq) (eVar 5) (eCon (.int 0))))
  (sRet (eBin gAdd (eSl (eVar 1) pNone (pSome (eVar 4))) (eSl (eVar 1) (pSome (eBin gAdd (eVar 4) (eCon (.int 1)))) pNone)))
  sNil)
  (sSeq
  (sIf (bB (eBin (cB gEq) (eVar 5) (eCon (.int 1))))
  (sRet (eBin gAdd (eBin gAdd (eSl (eVar 1) pNone (pSome (eVar 4))) (eTup (aCons (eVarV 2) aNil))) (eSl (eVar 1) (pSome (eVar 4)) pNone)))
  sNil)
  (sSeq
  (sIf (bB (eBin (cB gEq) (eVar 5) (eCon (.int 2))))
  (sRet (eBin gAdd (eSl (eVar 1) pNone (pSome (eBin gAdd (eVar 4) (eCon (.int 1))))) (eSl (eVar 1) (pSome (eVar 4)) pNone)))
  sNil)
  (sSeq
  (sIf (bB (eBin (cB gEq) (eVar 5) (eCon (.int 3))))
  (sRet (eBin gAdd (eBin gAdd (eBin gAdd (eSl (eVar 1) pNone (pSome (eVar 4))) (eSl (eVar 1) (pSome (eBin gAdd (eVar 4) (eCon (.int 1)))) (pSome (eBin gAdd (eVar 4) (eCon (.int 2)))))) (eSl (eVar 1) (pSome (eVar 4)) (pSome (eBin gAdd (eVar 4) (eCon (.int 1)))))) (eSl (eVar 1) (pSome (eBin gAdd (eVar 4) (eCon (.int 2)))) pNone)))
  sNil)
  (sSeq
  (sIf (bB (eBin (cB gEq) (eVar 5) (eCon (.int 4))))
  (sRet (eCal gList (aCons (eVar 1) aNil)))
  sNil)
  (sRet (eBin gAdd (eBin gAdd (eSl (eVar 1) pNone (pSome (eVar 4))) (eTup (aCons (eCall 4 FF [] (aCons (eVarV 0) (aCons (eBin gIx (eVar 1) (eVar 4)) (aCons (eVarV 2) (aCons (eBin gSub (eVar 3) (eCon (.int 1))) aNil))))) aNil))) (eSl (eVar 1) (pSome (eBin gAdd (eVar 4) (eCon (.int 1)))) pNone)))))))))))
noncomputable def R__law_spoilt : Nat → List SV → Mo SV
  | 0 => runF 6 fun _ _ => none
  | n + 1 => runF 6 (f__law_spoilt (R__law_spoilt n))
noncomputable def F__law_spoilt : List SV → Mo SV := R__law_spoilt 8
theorem sc__law_spoilt : FnScope ["bag", "value", "odd", "down", "at", "pick"] ["bag", "value", "odd", "down"] (defScope (top 34)) := ⟨rfl, rfl, rfl, by decide +kernel, rfl, by decide +kernel, by decide +kernel⟩
theorem okn__law_spoilt (F : VL.FnP K "_law_spoilt" (top 34) f fd) (hm : mg "_law_spoilt" = some (.ref f)) (fr : Fr mg) (d__law_draw : DefOk P w K mg base 1 "_law_draw" 2 F__law_draw) : ∀ n, DefOk P w K mg base (2 + n) "_law_spoilt" 4 (R__law_spoilt n)
  | 0 => mk_def0 (k := 1) F hm sc__law_spoilt (by decide) (fun _ _ _ _ _ _ us hl => match us, hl with | [_, _, _, _], _ => rfl)
  | n + 1 => by
    have d__law_spoilt := okn__law_spoilt F hm fr d__law_draw n
    exact mk_def (k := 2 + n) (fb := f__law_spoilt (R__law_spoilt n)) F hm sc__law_spoilt (by decide) (fun _ _ _ _ _ _ us hl => match us, hl with | [_, _, _, _], _ => rfl) fun cdv A outer s H E hr E0 A0 Pr =>
  (ss_cons (s_if (PW.pt (b_or (t_eq (ka := .be) (kb := .be) rfl hr.units (v_var (pv 3)) v_int) (b_or (b_not (b_val (ka := .be) rfl (v_isi (ka := .be) (T := "tuple") rfl (by decide) rfl fr.isinstance (v_var (pv 1)) rfl fr.tuple boot_tuple'))) (b_or (t_eq (ka := .be) (kb := .be) rfl hr.units (v_calB (ka := .be) call_len ok_len rfl fr.len boot_len' (a_cons (v_var (pv 1)) a_nil)) v_int) (b_or1 (t_eq (ka := .be) (kb := .be) rfl hr.units (v_call (bs := []) (d__law_draw.mono (k := 2 + n) (by omega)) rfl rfl hr rfl (takes_of rfl rfl rfl rfl) (a_cons (v_varV (pv 0)) (a_cons v_int a_nil))) v_int))))))
  (ss_one (s_retV (pv 2)))
  ss_nil)
  (ss_cons (s_set (i := 4) sc__law_spoilt.nd rfl (by first | exact Or.inl rfl | exact Or.inr rfl) (v_call (bs := []) (d__law_draw.mono (k := 2 + n) (by omega)) rfl rfl hr rfl (takes_of rfl rfl rfl rfl) (a_cons (v_varV (pv 0)) (a_cons (v_calB (ka := .be) call_len ok_len rfl fr.len boot_len' (a_cons (v_var (pv 1)) a_nil)) a_nil))))
  (ss_cons (s_set (i := 5) sc__law_spoilt.nd rfl (by first | exact Or.inl rfl | exact Or.inr rfl) (v_call (bs := []) (d__law_draw.mono (k := 2 + n) (by omega)) rfl rfl hr rfl (takes_of rfl rfl rfl rfl) (a_cons (v_varV (pv 0)) (a_cons v_int a_nil))))
  (ss_cons (s_if (t_eq (ka := .be) (kb := .be) rfl hr.units (v_var (pv 5)) v_int)
  (ss_one (s_ret (v_add (hk := rfl) (ka := .be) (kb := .be) (v_sl (ka := .be) rfl (v_var (pv 1)) o_none (o_some (ka := .be) (v_var (pv 4)))) (v_sl (ka := .be) rfl (v_var (pv 1)) (o_some (ka := .be) (v_add (hk := rfl) (ka := .be) (kb := .be) (v_var (pv 4)) v_int)) o_none))))
  ss_nil)
  (ss_cons (s_if (t_eq (ka := .be) (kb := .be) rfl hr.units (v_var (pv 5)) v_int)
  (ss_one (s_ret (v_add (hk := rfl) (ka := .be) (kb := .be) (v_add (hk := rfl) (ka := .be) (kb := .be) (v_sl (ka := .be) rfl (v_var (pv 1)) o_none (o_some (ka := .be) (v_var (pv 4)))) (v_tup (a_cons (v_varV (pv 2)) a_nil))) (v_sl (ka := .be) rfl (v_var (pv 1)) (o_some (ka := .be) (v_var (pv 4))) o_none))))
  ss_nil)
  (ss_cons (s_if (t_eq (ka := .be) (kb := .be) rfl hr.units (v_var (pv 5)) v_int)
  (ss_one (s_ret (v_add (hk := rfl) (ka := .be) (kb := .be) (v_sl (ka := .be) rfl (v_var (pv 1)) o_none (o_some (ka := .be) (v_add (hk := rfl) (ka := .be) (kb := .be) (v_var (pv 4)) v_int))) (v_sl (ka := .be) rfl (v_var (pv 1)) (o_some (ka := .be) (v_var (pv 4))) o_none))))
  ss_nil)
  (ss_cons (s_if (t_eq (ka := .be) (kb := .be) rfl hr.units (v_var (pv 5)) v_int)
  (ss_one (s_ret (v_add (hk := rfl) (ka := .be) (kb := .be) (v_add (hk := rfl) (ka := .be) (kb := .be) (v_add (hk := rfl) (ka := .be) (kb := .be) (v_sl (ka := .be) rfl (v_var (pv 1)) o_none (o_some (ka := .be) (v_var (pv 4)))) (v_sl (ka := .be) rfl (v_var (pv 1)) (o_some (ka := .be) (v_add (hk := rfl) (ka := .be) (kb := .be) (v_var (pv 4)) v_int)) (o_some (ka := .be) (v_add (hk := rfl) (ka := .be) (kb := .be) (v_var (pv 4)) v_int)))) (v_sl (ka := .be) rfl (v_var (pv 1)) (o_some (ka := .be) (v_var (pv 4))) (o_some (ka := .be) (v_add (hk := rfl) (ka := .be) (kb := .be) (v_var (pv 4)) v_int)))) (v_sl (ka := .be) rfl (v_var (pv 1)) (o_some (ka := .be) (v_add (hk := rfl) (ka := .be) (kb := .be) (v_var (pv 4)) v_int)) o_none))))
  ss_nil)
  (ss_cons (s_if (t_eq (ka := .be) (kb := .be) rfl hr.units (v_var (pv 5)) v_int)
  (ss_one (s_ret (v_calT (ka := .be) call_list_of ok_list rfl fr.list boot_list' (a_cons (v_var (pv 1)) a_nil))))
  ss_nil)
  (ss_one (s_ret (v_add (hk := rfl) (ka := .be) (kb := .be) (v_add (hk := rfl) (ka := .be) (kb := .be) (v_sl (ka := .be) rfl (v_var (pv 1)) o_none (o_some (ka := .be) (v_var (pv 4)))) (v_tup (a_cons (v_call (bs := []) d__law_spoilt rfl rfl hr rfl (takes_of rfl rfl rfl rfl) (a_cons (v_varV (pv 0)) (a_cons (v_ix (ka := .be) (kb := .be) rfl (v_var (pv 1)) (v_var (pv 4)) (fun _ _ => rfl)) (a_cons (v_varV (pv 2)) (a_cons (v_sub (ka := .be) (kb := .be) (v_var (pv 3)) v_int) a_nil))))) a_nil))) (v_sl (ka := .be) rfl (v_var (pv 1)) (o_some (ka := .be) (v_add (hk := rfl) (ka := .be) (kb := .be) (v_var (pv 4)) v_int)) o_none))))))))))))
theorem ok__law_spoilt (F : VL.FnP K "_law_spoilt" (top 34) f fd) (hm : mg "_law_spoilt" = some (.ref f)) (fr : Fr mg) (d__law_draw : DefOk P w K mg base 1 "_law_draw" 2 F__law_draw) : DefOk P w K mg base 10 "_law_spoilt" 4 F__law_spoilt := okn__law_spoilt F hm fr d__law_draw 8
/-! ### law -/
noncomputable def f_law : Rho → Sto → Option Fl :=
  (sSeq
  (sSet 1 (eLst (aCons (eCon (.int 0)) (aCons (eCon (.int 1)) (aCons (eUn gNeg (eCon (.int 1))) (aCons (eCon (.int 24)) (aCons (eCon (.int 25)) (aCons (eCon (.bool true)) (aCons (eCon (.none)) (aCons (eCon (.str "x")) (aCons (eTup aNil) (aCons (eTup (aCons (eCon (.int 1)) (aCons (eCon (.int 1)) aNil))) (aCons (eTup (aCons (eCon (.int 2)) (aCons (eCon (.int 2)) aNil))) (aCons (eTup (aCons (eCon (.int 0)) (aCons (eCon (.int 1)) aNil))) (aCons (eTup (aCons (eCon (.int 1)) (aCons (eCon (.int 0)) aNil))) (aCons (eTup (aCons (eUn gNeg (eCon (.int 1))) (aCons (eCon (.int 2)) aNil))) (aCons (eTup (aCons (eBin gPow (eCon (.int 10)) (eCon (.int 20))) (aCons (eCon (.int 1)) aNil))) (aCons (eTup (aCons (eCon (.int 0)) (aCons (eCon (.int 1)) (aCons (eTup (aCons (eCon (.int 1)) (aCons (eCon (.int 2)) aNil))) aNil)))) aNil))))))))))))))))))
  (sSeq
  (sFor (iRng1 (aCons (eCal gMax2 (aCons (eCon (.int 1)) (aCons (eCal gMin2 (aCons (eCon (.int 10)) (aCons (eCal gLen (aCons (eVar 0) aNil)) aNil))) aNil))) aNil)) (gNm 2)
  (sSeq
  (sSet 3 (eCall 2 F__law_bag [] (aCons (eVarV 0) (aCons (eVarV 2) aNil))))
  (ghA 3
  (sSeq
  (sSet 4 (eCall 4 F__law_web [] (aCons (eVarV 3) (aCons (eCon (.int 24)) (aCons (eCall 2 F__law_one [] (aCons (eVarV 3) (aCons (eLst (aCons (eCon (.int 6)) (aCons (eCon (.int 62)) aNil))) aNil))) (aCons (eCon (.bool false)) aNil))))))
  (sSeq
  (sFor (iRng1 (aCons (eCall 2 F__law_draw [] (aCons (eVarV 3) (aCons (eCon (.int 3)) aNil))) aNil)) (gNm 5)
  (ghF [4] (sSet 4 (eCall 4 F__law_spoilt [] (aCons (eVarV 3) (aCons (eVarV 4) (aCons (eBin gIx (eVar 1) (eCall 2 F__law_draw [] (aCons (eVarV 3) (aCons (eCon (.int 16)) aNil)))) (aCons (eCon (.int 6)) aNil))))))))
  (sSeq
  (ghF [4] (sSet 6 (eCall 1 F__law_is_web [] (aCons (eVarV 4) aNil))))
  (sSeq
  (ghF [4] (sIf (bOr (bB (eBin (cB gNe) (eCal gReprB (aCons (eCall 1 F_is_web [] (aCons (eVarV 4) aNil)) aNil)) (eCal gReprB (aCons (eVar 6) aNil)))) (bB (eBin (cB gEq) (eCal gReprB (aCons (eCall 1 F__law_refuses [] (aCons (eVarV 4) aNil)) aNil)) (eCal gReprB (aCons (eVar 6) aNil)))))
  (sRet (eCon (.bool false)))
  sNil))
  (sFor (iSeq (eBin gAdd (eVar 1) (eLst (aCons (eTup (aCons (eBin gSub (eBin gPow (eCon (.int 10)) (eCon (.int 20))) (eCon (.int 1))) (aCons (eBin gSub (eBin gPow (eCon (.int 10)) (eCon (.int 20))) (eCon (.int 2))) aNil))) (aCons (eTup (aCons (eCon (.int 3)) (aCons (eBin gPow (eCon (.int 10)) (eCon (.int 20))) aNil))) (aCons (eFrz (eLst (aCons (eCon (.int 1)) (aCons (eCon (.int 1)) aNil)))) (aCons (eTup (aCons (eCon (.int 1)) (aCons (eCon (.int 1)) (aCons (eCon (.int 1)) aNil)))) (aCons (eTup (aCons (eCon (.int 6)) (aCons (eCon (.int 4)) aNil))) (aCons (eTup (aCons (eCon (.int 0)) (aCons (eCon (.int 2)) aNil))) (aCons (eTup (aCons (eUn gNeg (eCon (.int 3))) (aCons (eCon (.int 4)) aNil))) aNil)))))))))) (gNm 7)
  (sIf (bB (eBin (cB gNe) (eCal gReprB (aCons (eCall 1 F_is_fraction [] (aCons (eVarV 7) aNil)) aNil)) (eCal gReprB (aCons (eCall 1 F__law_is_fraction [] (aCons (eVarV 7) aNil)) aNil))))
  (sRet (eCon (.bool false)))
  sNil)))))))))
  (sRet (eBin (cB gEq) (eLc (iSeq (eLst (aCons (eCon (.none)) (aCons (eTup aNil) (aCons (eCon (.str "web")) (aCons (eCon (.int 5)) aNil)))))) (gNm 7) bYes (eCall 1 F_is_web [] (aCons (eVarV 7) aNil)) [7]) (eBin gMulA (eLst (aCons (eCon (.bool false)) aNil)) (eCon (.int 4)))))))
noncomputable def F_law : List SV → Mo SV := runF 8 f_law
theorem sc_law : FnScope ["script", "odd", "k", "bag", "value", "turn", "due", "one"] ["script"] (defScope (top 39)) := ⟨rfl, rfl, rfl, by decide +kernel, rfl, by decide +kernel, by decide +kernel⟩
theorem ok_law0 (F : VL.FnP K "law" (top 39) f fd) (fr : Fr mg) (d__law_bag : DefOk P w K mg base 1 "_law_bag" 2 F__law_bag) (d__law_draw : DefOk P w K mg base 1 "_law_draw" 2 F__law_draw) (d__law_one : DefOk P w K mg base 2 "_law_one" 2 F__law_one) (d__law_is_fraction : DefOk P w K mg base 2 "_law_is_fraction" 1 F__law_is_fraction) (d_is_fraction : DefOk P w K mg base 3 "is_fraction" 1 F_is_fraction) (d__law_is_web : DefOk P w K mg base 3 "_law_is_web" 1 F__law_is_web) (d__law_web : DefOk P w K mg base 4 "_law_web" 4 F__law_web) (d_is_web : DefOk P w K mg base 5 "is_web" 1 F_is_web) (d__law_refuses : DefOk P w K mg base 8 "_law_refuses" 1 F__law_refuses) (d__law_spoilt : DefOk P w K mg base 10 "_law_spoilt" 4 F__law_spoilt) : FnOk P w K mg base (L2.CX P w) 11 f fd ["script"] (spF K mg (List.length ["script"]) (runF (List.length ["script", "odd", "k", "bag", "value", "turn", "due", "one"]) f_law)) :=
  fn_vl2 (k := 10) (fb := f_law) (N := ["script", "odd", "k", "bag", "value", "turn", "due", "one"]) (ps := ["script"]) F sc_law (by decide) fun cdv A outer s H E hr E0 A0 Pr =>
  (ss_cons (s_set (i := 1) sc_law.nd rfl (by first | exact Or.inl rfl | exact Or.inr rfl) (v_lst (a_cons v_int (a_cons v_int (a_cons (v_neg (ka := .be) v_int) (a_cons v_int (a_cons v_int (a_cons v_bl (a_cons v_non (a_cons v_str (a_cons (v_tup a_nil) (a_cons (v_tup (a_cons v_int (a_cons v_int a_nil))) (a_cons (v_tup (a_cons v_int (a_cons v_int a_nil))) (a_cons (v_tup (a_cons v_int (a_cons v_int a_nil))) (a_cons (v_tup (a_cons v_int (a_cons v_int a_nil))) (a_cons (v_tup (a_cons (v_neg (ka := .be) v_int) (a_cons v_int a_nil))) (a_cons (v_tup (a_cons (v_pow (ka := .be) (kb := .be) v_int v_int) (a_cons v_int a_nil))) (a_cons (v_tup (a_cons v_int (a_cons v_int (a_cons (v_tup (a_cons v_int (a_cons v_int a_nil))) a_nil)))) a_nil))))))))))))))))))
  (ss_cons (s_for (passes_of rfl) rfl (i_rng1 rfl fr.range (a_cons (v_calB (ka := .be) (call_max2 rfl) ok_max2 rfl fr.max boot_max' (a_cons v_int (a_cons (v_calB (ka := .be) (call_min2 rfl) ok_min2 rfl fr.min boot_min' (a_cons v_int (a_cons (v_calB (ka := .be) call_len ok_len rfl fr.len boot_len' (a_cons (v_var (pv 0)) a_nil)) a_nil))) a_nil))) a_nil)) (pg_name sc_law.nd rfl (by first | exact Or.inl rfl | exact Or.inr rfl)) g_nm
  (ss_cons (s_set (i := 3) sc_law.nd rfl (by first | exact Or.inl rfl | exact Or.inr rfl) (v_call (bs := []) (d__law_bag.mono (k := 10) (by decide)) rfl rfl hr rfl (takes_of rfl rfl rfl rfl) (a_cons (v_varV (pv 0)) (a_cons (v_varV (pv 2)) a_nil))))
  (ss_ghA (i := 3) (ss_cons (s_set (i := 4) sc_law.nd rfl (by first | exact Or.inl rfl | exact Or.inr rfl) (v_call (bs := []) (d__law_web.mono (k := 10) (by decide)) rfl rfl hr rfl (takes_of rfl rfl rfl rfl) (a_cons (v_varV (pv 3)) (a_cons v_int (a_cons (v_call (bs := []) (d__law_one.mono (k := 10) (by decide)) rfl rfl hr rfl (takes_of rfl rfl rfl rfl) (a_cons (v_varV (pv 3)) (a_cons (v_lst (a_cons v_int (a_cons v_int a_nil))) a_nil))) (a_cons v_bl a_nil))))))
  (ss_cons (s_for (passes_of rfl) rfl (i_rng1 rfl fr.range (a_cons (v_call (bs := []) (d__law_draw.mono (k := 10) (by decide)) rfl rfl hr rfl (takes_of rfl rfl rfl rfl) (a_cons (v_varV (pv 3)) (a_cons v_int a_nil))) a_nil)) (pg_name sc_law.nd rfl (by first | exact Or.inl rfl | exact Or.inr rfl)) g_nm
  (ss_one (s_ghF [4] (s_set (i := 4) sc_law.nd rfl (by first | exact Or.inl rfl | exact Or.inr rfl) (v_call (bs := []) (d__law_spoilt.mono (k := 10) (by decide)) rfl rfl hr rfl (takes_of rfl rfl rfl rfl) (a_cons (v_varV (pv 3)) (a_cons (v_varV (pv 4)) (a_cons (v_ix (ka := .be) (kb := .be) rfl (v_var (pv 1)) (v_call (bs := []) (d__law_draw.mono (k := 10) (by decide)) rfl rfl hr rfl (takes_of rfl rfl rfl rfl) (a_cons (v_varV (pv 3)) (a_cons v_int a_nil))) (fun _ _ => rfl)) (a_cons v_int a_nil)))))))))
  (ss_cons (s_ghF [4] (s_set (i := 6) sc_law.nd rfl (by first | exact Or.inl rfl | exact Or.inr rfl) (v_call (bs := []) (d__law_is_web.mono (k := 10) (by decide)) rfl rfl hr rfl (takes_of rfl rfl rfl rfl) (a_cons (v_varV (pv 4)) a_nil))))
  (ss_cons (s_ghF [4] (s_if (PW.pt (b_or (t_ne (ka := .be) (kb := .be) rfl hr.units (v_calB (ka := .be) call_repr_bool ok_reprB rfl fr.repr boot_repr' (a_cons (v_call (bs := []) (d_is_web.mono (k := 10) (by decide)) rfl rfl hr rfl (takes_of rfl rfl rfl rfl) (a_cons (v_varV (pv 4)) a_nil)) a_nil)) (v_calB (ka := .be) call_repr_bool ok_reprB rfl fr.repr boot_repr' (a_cons (v_var (pv 6)) a_nil))) (b_or1 (t_eq (ka := .be) (kb := .be) rfl hr.units (v_calB (ka := .be) call_repr_bool ok_reprB rfl fr.repr boot_repr' (a_cons (v_call (bs := []) (d__law_refuses.mono (k := 10) (by decide)) rfl rfl hr rfl (takes_of rfl rfl rfl rfl) (a_cons (v_varV (pv 4)) a_nil)) a_nil)) (v_calB (ka := .be) call_repr_bool ok_reprB rfl fr.repr boot_repr' (a_cons (v_var (pv 6)) a_nil))))))
  (ss_one (s_ret v_bl))
  ss_nil))
  (ss_one (s_for (passes_of rfl) rfl (i_seqF rfl (v_add (hk := rfl) (ka := .be) (kb := .be) (v_var (pv 1)) (v_lst (a_cons (v_tup (a_cons (v_sub (ka := .be) (kb := .be) (v_pow (ka := .be) (kb := .be) v_int v_int) v_int) (a_cons (v_sub (ka := .be) (kb := .be) (v_pow (ka := .be) (kb := .be) v_int v_int) v_int) a_nil))) (a_cons (v_tup (a_cons v_int (a_cons (v_pow (ka := .be) (kb := .be) v_int v_int) a_nil))) (a_cons (v_frz (v_lst (a_cons v_int (a_cons v_int a_nil)))) (a_cons (v_tup (a_cons v_int (a_cons v_int (a_cons v_int a_nil)))) (a_cons (v_tup (a_cons v_int (a_cons v_int a_nil))) (a_cons (v_tup (a_cons v_int (a_cons v_int a_nil))) (a_cons (v_tup (a_cons (v_neg (ka := .be) v_int) (a_cons v_int a_nil))) a_nil)))))))))) (pg_name sc_law.nd rfl (by first | exact Or.inl rfl | exact Or.inr rfl)) g_nm
  (ss_one (s_if (t_ne (ka := .be) (kb := .be) rfl hr.units (v_calB (ka := .be) call_repr_bool ok_reprB rfl fr.repr boot_repr' (a_cons (v_call (bs := []) (d_is_fraction.mono (k := 10) (by decide)) rfl rfl hr rfl (takes_of rfl rfl rfl rfl) (a_cons (v_varV (pv 7)) a_nil)) a_nil)) (v_calB (ka := .be) call_repr_bool ok_reprB rfl fr.repr boot_repr' (a_cons (v_call (bs := []) (d__law_is_fraction.mono (k := 10) (by decide)) rfl rfl hr rfl (takes_of rfl rfl rfl rfl) (a_cons (v_varV (pv 7)) a_nil)) a_nil)))
  (ss_one (s_ret v_bl))
  ss_nil)))))))))))
  (ss_one (s_ret (v_eq (ka := .be) (kb := .be) rfl hr.units (v_lc (own := [("one", 7)]) rfl sc_law.nd (i_seq (ka := .be) rfl (v_lst (a_cons v_non (a_cons (v_tup a_nil) (a_cons v_str (a_cons v_int a_nil)))))) (blk_of (by rfl)) (fun _ _ _ _ _ => (pg_name sc_law.nd rfl (by first | exact Or.inl rfl | exact Or.inr rfl))) g_nm (by decide) (fun _ _ _ _ _ => ts_nil) (fun _ _ _ _ _ => (v_call (bs := []) (d_is_web.mono (k := 10) (by decide)) rfl rfl hr rfl VL.takes0 (a_cons (v_varV (pv 7)) a_nil)))) (v_mulA (hk := rfl) (ka := .be) (kb := .be) (v_lst (a_cons v_bl a_nil)) v_int))))))
theorem len_ps : List.length ["script"] = 1 := by decide
theorem len_N : runF (List.length ["script", "odd", "k", "bag", "value", "turn", "due", "one"]) f_law = F_law := congrArg (fun n => runF n f_law) (show List.length ["script", "odd", "k", "bag", "value", "turn", "due", "one"] = 8 by decide)
theorem ok_law (F : VL.FnP K "law" (top 39) f fd) (fr : Fr mg) (d__law_bag : DefOk P w K mg base 1 "_law_bag" 2 F__law_bag) (d__law_draw : DefOk P w K mg base 1 "_law_draw" 2 F__law_draw) (d__law_one : DefOk P w K mg base 2 "_law_one" 2 F__law_one) (d__law_is_fraction : DefOk P w K mg base 2 "_law_is_fraction" 1 F__law_is_fraction) (d_is_fraction : DefOk P w K mg base 3 "is_fraction" 1 F_is_fraction) (d__law_is_web : DefOk P w K mg base 3 "_law_is_web" 1 F__law_is_web) (d__law_web : DefOk P w K mg base 4 "_law_web" 4 F__law_web) (d_is_web : DefOk P w K mg base 5 "is_web" 1 F_is_web) (d__law_refuses : DefOk P w K mg base 8 "_law_refuses" 1 F__law_refuses) (d__law_spoilt : DefOk P w K mg base 10 "_law_spoilt" 4 F__law_spoilt) : FnOk P w K mg base (L2.CX P w) 11 f fd ["script"] (spF K mg 1 F_law) := by
  have h := ok_law0 (P := P) (w := w) (base := base) F fr d__law_bag d__law_draw d__law_one d__law_is_fraction d_is_fraction d__law_is_web d__law_web d_is_web d__law_refuses d__law_spoilt
  rw [len_ps, len_N] at h
  exact h
end
end G

end
section
set_option Elab.async false
set_option linter.all false
set_option maxRecDepth 100000
set_option maxHeartbeats 0
namespace G
open PySem PySem.Spec PyProof.Rows L2 VL
/-! ### the head -/
def dd_common : He.DefD := ⟨("common", none), "common", "common", defArgs (top 4), defBody (top 4), defScope (top 4), [], []⟩
def dd_is_integer : He.DefD := ⟨("is_integer", none), "is_integer", "is_integer", defArgs (top 10), defBody (top 10), defScope (top 10), [], []⟩
def dd_names_of : He.DefD := ⟨("names_of", none), "names_of", "names_of", defArgs (top 16), defBody (top 16), defScope (top 16), [], []⟩
def dd__law_bag : He.DefD := ⟨("_law_bag", none), "_law_bag", "_law_bag", defArgs (top 21), defBody (top 21), defScope (top 21), [], []⟩
def dd__law_draw : He.DefD := ⟨("_law_draw", none), "_law_draw", "_law_draw", defArgs (top 22), defBody (top 22), defScope (top 22), [], []⟩
def dd__law_gcd : He.DefD := ⟨("_law_gcd", none), "_law_gcd", "_law_gcd", defArgs (top 24), defBody (top 24), defScope (top 24), [], []⟩
def dd__law_is_int : He.DefD := ⟨("_law_is_int", none), "_law_is_int", "_law_is_int", defArgs (top 35), defBody (top 35), defScope (top 35), [], []⟩
def dd_is_any_fraction : He.DefD := ⟨("is_any_fraction", none), "is_any_fraction", "is_any_fraction", defArgs (top 5), defBody (top 5), defScope (top 5), [], []⟩
def dd_piece_names : He.DefD := ⟨("piece_names", none), "piece_names", "piece_names", defArgs (top 17), defBody (top 17), defScope (top 17), [], []⟩
def dd__law_one : He.DefD := ⟨("_law_one", none), "_law_one", "_law_one", defArgs (top 23), defBody (top 23), defScope (top 23), [], []⟩
def dd__law_f : He.DefD := ⟨("_law_f", none), "_law_f", "_law_f", defArgs (top 25), defBody (top 25), defScope (top 25), [], []⟩
def dd__law_is_fraction : He.DefD := ⟨("_law_is_fraction", none), "_law_is_fraction", "_law_is_fraction", defArgs (top 36), defBody (top 36), defScope (top 36), [], []⟩
def dd_is_fraction : He.DefD := ⟨("is_fraction", none), "is_fraction", "is_fraction", defArgs (top 11), defBody (top 11), defScope (top 11), [], []⟩
def dd_all_pieces : He.DefD := ⟨("all_pieces", none), "all_pieces", "all_pieces", defArgs (top 18), defBody (top 18), defScope (top 18), [], []⟩
def dd__law_lead : He.DefD := ⟨("_law_lead", none), "_law_lead", "_law_lead", defArgs (top 31), defBody (top 31), defScope (top 31), [], []⟩
def dd__law_is_web : He.DefD := ⟨("_law_is_web", none), "_law_is_web", "_law_is_web", defArgs (top 37), defBody (top 37), defScope (top 37), [], []⟩
def dd_is_wire : He.DefD := ⟨("is_wire", none), "is_wire", "is_wire", defArgs (top 12), defBody (top 12), defScope (top 12), [], []⟩
def dd__law_web : He.DefD := ⟨("_law_web", none), "_law_web", "_law_web", defArgs (top 32), defBody (top 32), defScope (top 32), [], []⟩
def dd_is_web : He.DefD := ⟨("is_web", none), "is_web", "is_web", defArgs (top 13), defBody (top 13), defScope (top 13), [], []⟩
def dd_check_web : He.DefD := ⟨("check_web", none), "check_web", "check_web", defArgs (top 14), defBody (top 14), defScope (top 14), [], []⟩
def dd_pieces : He.DefD := ⟨("pieces", none), "pieces", "pieces", defArgs (top 19), defBody (top 19), defScope (top 19), [], []⟩
def dd__law_refuses : He.DefD := ⟨("_law_refuses", none), "_law_refuses", "_law_refuses", defArgs (top 38), defBody (top 38), defScope (top 38), [], []⟩
def dd__law_spoilt : He.DefD := ⟨("_law_spoilt", none), "_law_spoilt", "_law_spoilt", defArgs (top 34), defBody (top 34), defScope (top 34), [], []⟩
def dd_law : He.DefD := ⟨("law", none), "law", "law", defArgs (top 39), defBody (top 39), defScope (top 39), [], []⟩
def fns : List He.DefD := [dd_common, dd_is_integer, dd_names_of, dd__law_bag, dd__law_draw, dd__law_gcd, dd__law_is_int, dd_is_any_fraction, dd_piece_names, dd__law_one, dd__law_f, dd__law_is_fraction, dd_is_fraction, dd_all_pieces, dd__law_lead, dd__law_is_web, dd_is_wire, dd__law_web, dd_is_web, dd_check_web, dd_pieces, dd__law_refuses, dd__law_spoilt, dd_law]
def fas : List He.Fa := [.glo "common",
  .glo "is_integer",
  .glo "names_of",
  .glo "_law_bag",
  .glo "_law_draw",
  .glo "_law_gcd",
  .glo "_law_is_int",
  .glo "is_any_fraction",
  .glo "piece_names",
  .glo "_law_one",
  .glo "_law_f",
  .glo "_law_is_fraction",
  .glo "is_fraction",
  .glo "all_pieces",
  .glo "_law_lead",
  .glo "_law_is_web",
  .glo "is_wire",
  .glo "_law_web",
  .glo "is_web",
  .glo "check_web",
  .glo "pieces",
  .glo "_law_refuses",
  .glo "_law_spoilt",
  .glo "law",
  .free "len",
  .free "range",
  .free "isinstance",
  .free "int",
  .free "bool",
  .free "str",
  .free "tuple",
  .free "list",
  .free "abs",
  .free "max",
  .free "min",
  .free "all",
  .free "any",
  .free "sum",
  .free "sorted",
  .free "enumerate",
  .free "zip",
  .free "set",
  .free "dict",
  .free "repr",
  .glo "BadWeb",
  .exc "BadWeb",
  .exm "BadWeb" "BadWeb" true]
def exs (K : PySem.W.Frag) : Bool := gcB K "BEYOND" (.int 100000000000000000000) && gcB K "MOST_JOINTS" (.int 24) && gcB K "MOST_WIRES" (.int 60)
abbrev R : PySem.W.OpenRow := PySem.W.OpenLaw.row PySem.Challenge.rw_currentwebs_k01_fractions_and_webs
abbrev hk : PySem.W.Hook := He.hookX 4 fas fns [] [] exs
def ob (s : PySem.W.SharedT) : He.AlX := He.obsX 4 fas fns [] [] exs (HandSHeadRun.getT s)
theorem ob_eq (s : PySem.W.SharedT) : ob s = hk.obs s.abs := He.obsX_eq (HandSHeadRun.getT_eq s)
def loose0 : List PySem.Str := ["WebError", "BadWeb", "common", "is_any_fraction", "MOST_JOINTS", "MOST_WIRES", "BEYOND", "is_integer", "is_fraction", "is_wire", "is_web", "check_web", "names_of", "piece_names", "all_pieces", "pieces", "_law_bag", "_law_draw", "_law_one", "_law_gcd", "_law_f", "_law_add", "_law_sub", "_law_mul", "_law_div", "_law_sum", "_law_lead", "_law_web", "_law_names", "_law_spoilt"]
def loose1 : List PySem.Str := ["_law_is_int", "_law_is_fraction", "_law_is_web", "_law_refuses"]
abbrev loose : List PySem.Str := loose0 ++ loose1
end G

end
section
set_option Elab.async false
set_option linter.all false
set_option maxRecDepth 100000
set_option maxHeartbeats 0
namespace G
open PySem PySem.Spec PyProof.Rows L2 VL
theorem run (w : World) : HandSHeadRun.RunEq R (PySem.W.view R.prog [39]) hk ob 2000 loose w := by
  intro os
  kernel_rfl
end G

end
section
set_option Elab.async false
set_option linter.all false
set_option maxRecDepth 100000
set_option maxHeartbeats 0
namespace G
open PySem PySem.Spec PyProof.Rows L2 VL
theorem facts {P : Program} {w : World} {K : PySem.W.Frag} {h : Heap} {mg : Str → Option Value} {fl : Addr} (X : K.In h) (G : h.Ns mainGlobals mg) (hfa : mg ("law" : Str) = some (.ref fl)) (c : He.SaysX fas fns [] [] exs w h K) :
    ∃ fd : FuncData, (∀ (s : Shared) (v : Value), BindsTo s fd ⟨[v], []⟩ [("script", v)]) ∧ ∀ base : Heap, K.In base → base.Ns mainGlobals mg → FnOk P w K mg base (L2.CX P w) 11 fl fd ["script"] (spF K mg 1 F_law) := by
  obtain ⟨fd_common, Fd_common⟩ := c.t.d.def_ 0 (d := dd_common) rfl
  obtain ⟨fd_is_integer, Fd_is_integer⟩ := c.t.d.def_ 1 (d := dd_is_integer) rfl
  obtain ⟨fd_names_of, Fd_names_of⟩ := c.t.d.def_ 2 (d := dd_names_of) rfl
  obtain ⟨fd__law_bag, Fd__law_bag⟩ := c.t.d.def_ 3 (d := dd__law_bag) rfl
  obtain ⟨fd__law_draw, Fd__law_draw⟩ := c.t.d.def_ 4 (d := dd__law_draw) rfl
  obtain ⟨fd__law_gcd, Fd__law_gcd⟩ := c.t.d.def_ 5 (d := dd__law_gcd) rfl
  obtain ⟨fd__law_is_int, Fd__law_is_int⟩ := c.t.d.def_ 6 (d := dd__law_is_int) rfl
  obtain ⟨fd_is_any_fraction, Fd_is_any_fraction⟩ := c.t.d.def_ 7 (d := dd_is_any_fraction) rfl
  obtain ⟨fd_piece_names, Fd_piece_names⟩ := c.t.d.def_ 8 (d := dd_piece_names) rfl
  obtain ⟨fd__law_one, Fd__law_one⟩ := c.t.d.def_ 9 (d := dd__law_one) rfl
  obtain ⟨fd__law_f, Fd__law_f⟩ := c.t.d.def_ 10 (d := dd__law_f) rfl
  obtain ⟨fd__law_is_fraction, Fd__law_is_fraction⟩ := c.t.d.def_ 11 (d := dd__law_is_fraction) rfl
  obtain ⟨fd_is_fraction, Fd_is_fraction⟩ := c.t.d.def_ 12 (d := dd_is_fraction) rfl
  obtain ⟨fd_all_pieces, Fd_all_pieces⟩ := c.t.d.def_ 13 (d := dd_all_pieces) rfl
  obtain ⟨fd__law_lead, Fd__law_lead⟩ := c.t.d.def_ 14 (d := dd__law_lead) rfl
  obtain ⟨fd__law_is_web, Fd__law_is_web⟩ := c.t.d.def_ 15 (d := dd__law_is_web) rfl
  obtain ⟨fd_is_wire, Fd_is_wire⟩ := c.t.d.def_ 16 (d := dd_is_wire) rfl
  obtain ⟨fd__law_web, Fd__law_web⟩ := c.t.d.def_ 17 (d := dd__law_web) rfl
  obtain ⟨fd_is_web, Fd_is_web⟩ := c.t.d.def_ 18 (d := dd_is_web) rfl
  obtain ⟨fd_check_web, Fd_check_web⟩ := c.t.d.def_ 19 (d := dd_check_web) rfl
  obtain ⟨fd_pieces, Fd_pieces⟩ := c.t.d.def_ 20 (d := dd_pieces) rfl
  obtain ⟨fd__law_refuses, Fd__law_refuses⟩ := c.t.d.def_ 21 (d := dd__law_refuses) rfl
  obtain ⟨fd__law_spoilt, Fd__law_spoilt⟩ := c.t.d.def_ 22 (d := dd__law_spoilt) rfl
  obtain ⟨fd_law, Fd_law⟩ := c.t.d.def_ 23 (d := dd_law) rfl
  have e := hfa.symm.trans (He.glo_ok X G (c.t.d.fact 23 (f := .glo "law") rfl))
  cases e
  have fr : Fr mg := fr_of X G fun x m => by
    simp only [VL.frs, List.mem_cons, List.not_mem_nil, or_false] at m
    rcases m with rfl | rfl | rfl | rfl | rfl | rfl | rfl | rfl | rfl | rfl | rfl | rfl | rfl | rfl | rfl | rfl | rfl | rfl | rfl | rfl
    · exact c.t.d.fact 24 rfl
    · exact c.t.d.fact 25 rfl
    · exact c.t.d.fact 26 rfl
    · exact c.t.d.fact 27 rfl
    · exact c.t.d.fact 28 rfl
    · exact c.t.d.fact 29 rfl
    · exact c.t.d.fact 30 rfl
    · exact c.t.d.fact 31 rfl
    · exact c.t.d.fact 32 rfl
    · exact c.t.d.fact 33 rfl
    · exact c.t.d.fact 34 rfl
    · exact c.t.d.fact 35 rfl
    · exact c.t.d.fact 36 rfl
    · exact c.t.d.fact 37 rfl
    · exact c.t.d.fact 38 rfl
    · exact c.t.d.fact 39 rfl
    · exact c.t.d.fact 40 rfl
    · exact c.t.d.fact 41 rfl
    · exact c.t.d.fact 42 rfl
    · exact c.t.d.fact 43 rfl
  have e_BadWeb : ExcOk K mg "BadWeb" := exc_of X G (c.t.d.fact 44 (f := .glo "BadWeb") rfl) (c.t.d.fact 45 (f := .exc "BadWeb") rfl)
  have cm := c.more
  simp only [exs, Bool.and_eq_true] at cm
  obtain ⟨⟨cm_BEYOND, cm_MOST_JOINTS⟩, cm_MOST_WIRES⟩ := cm
  have g_BEYOND : GlobC K mg "BEYOND" (.int 100000000000000000000) := gc_of X G cm_BEYOND
  have g_MOST_JOINTS : GlobC K mg "MOST_JOINTS" (.int 24) := gc_of X G cm_MOST_JOINTS
  have g_MOST_WIRES : GlobC K mg "MOST_WIRES" (.int 60) := gc_of X G cm_MOST_WIRES
  have hmt : MtOk K mg mt := mt_ok fun z m => by
    simp only [List.mem_cons, List.not_mem_nil, or_false] at m
    rcases m with rfl
    · exact em_of X G (c.t.d.fact 44 (f := .glo "BadWeb") rfl) (c.t.d.fact 44 (f := .glo "BadWeb") rfl) (c.t.d.fact 46 (f := .exm "BadWeb" "BadWeb" true) rfl)
  refine ⟨fd_law, fun s v => FunD.bindsA (ps := ["script"]) Fd_law (fun _ _ _ _ _ _ us hl => match us, hl with | [_], _ => rfl) s [v] rfl, fun base _ _ => ?_⟩
  have d_common : DefOk P w K mg base 1 "common" 2 F_common := ok_common Fd_common (He.glo_ok X G (c.t.d.fact 0 (f := .glo "common") rfl)) fr
  have d_is_integer : DefOk P w K mg base 1 "is_integer" 3 F_is_integer := ok_is_integer Fd_is_integer (He.glo_ok X G (c.t.d.fact 1 (f := .glo "is_integer") rfl)) fr
  have d_names_of : DefOk P w K mg base 1 "names_of" 2 F_names_of := ok_names_of Fd_names_of (He.glo_ok X G (c.t.d.fact 2 (f := .glo "names_of") rfl)) fr
  have d__law_bag : DefOk P w K mg base 1 "_law_bag" 2 F__law_bag := ok__law_bag Fd__law_bag (He.glo_ok X G (c.t.d.fact 3 (f := .glo "_law_bag") rfl)) fr
  have d__law_draw : DefOk P w K mg base 1 "_law_draw" 2 F__law_draw := ok__law_draw Fd__law_draw (He.glo_ok X G (c.t.d.fact 4 (f := .glo "_law_draw") rfl)) fr
  have d__law_gcd : DefOk P w K mg base 1 "_law_gcd" 2 F__law_gcd := ok__law_gcd Fd__law_gcd (He.glo_ok X G (c.t.d.fact 5 (f := .glo "_law_gcd") rfl)) fr
  have d__law_is_int : DefOk P w K mg base 1 "_law_is_int" 1 F__law_is_int := ok__law_is_int Fd__law_is_int (He.glo_ok X G (c.t.d.fact 6 (f := .glo "_law_is_int") rfl)) fr
  have d_is_any_fraction : DefOk P w K mg base 2 "is_any_fraction" 1 F_is_any_fraction := ok_is_any_fraction Fd_is_any_fraction (He.glo_ok X G (c.t.d.fact 7 (f := .glo "is_any_fraction") rfl)) fr d_common
  have d_piece_names : DefOk P w K mg base 2 "piece_names" 1 F_piece_names := ok_piece_names Fd_piece_names (He.glo_ok X G (c.t.d.fact 8 (f := .glo "piece_names") rfl)) fr d_names_of
  have d__law_one : DefOk P w K mg base 2 "_law_one" 2 F__law_one := ok__law_one Fd__law_one (He.glo_ok X G (c.t.d.fact 9 (f := .glo "_law_one") rfl)) fr d__law_draw
  have d__law_f : DefOk P w K mg base 2 "_law_f" 2 F__law_f := ok__law_f Fd__law_f (He.glo_ok X G (c.t.d.fact 10 (f := .glo "_law_f") rfl)) fr d__law_gcd
  have d__law_is_fraction : DefOk P w K mg base 2 "_law_is_fraction" 1 F__law_is_fraction := ok__law_is_fraction Fd__law_is_fraction (He.glo_ok X G (c.t.d.fact 11 (f := .glo "_law_is_fraction") rfl)) fr d__law_gcd d__law_is_int
  have d_is_fraction : DefOk P w K mg base 3 "is_fraction" 1 F_is_fraction := ok_is_fraction Fd_is_fraction (He.glo_ok X G (c.t.d.fact 12 (f := .glo "is_fraction") rfl)) fr d_is_any_fraction g_BEYOND
  have d_all_pieces : DefOk P w K mg base 3 "all_pieces" 1 F_all_pieces := ok_all_pieces Fd_all_pieces (He.glo_ok X G (c.t.d.fact 13 (f := .glo "all_pieces") rfl)) fr d_piece_names
  have d__law_lead : DefOk P w K mg base 3 "_law_lead" 1 F__law_lead := ok__law_lead Fd__law_lead (He.glo_ok X G (c.t.d.fact 14 (f := .glo "_law_lead") rfl)) fr d__law_draw d__law_one d__law_f
  have d__law_is_web : DefOk P w K mg base 3 "_law_is_web" 1 F__law_is_web := ok__law_is_web Fd__law_is_web (He.glo_ok X G (c.t.d.fact 15 (f := .glo "_law_is_web") rfl)) fr d__law_is_int d__law_is_fraction
  have d_is_wire : DefOk P w K mg base 4 "is_wire" 2 F_is_wire := ok_is_wire Fd_is_wire (He.glo_ok X G (c.t.d.fact 16 (f := .glo "is_wire") rfl)) fr d_is_integer d_is_fraction
  have d__law_web : DefOk P w K mg base 4 "_law_web" 4 F__law_web := ok__law_web Fd__law_web (He.glo_ok X G (c.t.d.fact 17 (f := .glo "_law_web") rfl)) fr d__law_draw d__law_lead
  have d_is_web : DefOk P w K mg base 5 "is_web" 1 F_is_web := ok_is_web Fd_is_web (He.glo_ok X G (c.t.d.fact 18 (f := .glo "is_web") rfl)) fr d_is_integer d_is_wire g_MOST_JOINTS g_MOST_WIRES
  have d_check_web : DefOk P w K mg base 6 "check_web" 1 F_check_web := ok_check_web Fd_check_web (He.glo_ok X G (c.t.d.fact 19 (f := .glo "check_web") rfl)) fr d_is_web e_BadWeb
  have d_pieces : DefOk P w K mg base 7 "pieces" 1 F_pieces := ok_pieces Fd_pieces (He.glo_ok X G (c.t.d.fact 20 (f := .glo "pieces") rfl)) fr d_all_pieces d_check_web
  have d__law_refuses : DefOk P w K mg base 8 "_law_refuses" 1 F__law_refuses := ok__law_refuses Fd__law_refuses (He.glo_ok X G (c.t.d.fact 21 (f := .glo "_law_refuses") rfl)) fr d_pieces e_BadWeb hmt
  have d__law_spoilt : DefOk P w K mg base 10 "_law_spoilt" 4 F__law_spoilt := ok__law_spoilt Fd__law_spoilt (He.glo_ok X G (c.t.d.fact 22 (f := .glo "_law_spoilt") rfl)) fr d__law_draw
  exact ok_law Fd_law fr d__law_bag d__law_draw d__law_one d__law_is_fraction d_is_fraction d__law_is_web d__law_web d_is_web d__law_refuses d__law_spoilt
end G

end
section
set_option Elab.async false
set_option linter.all false
set_option maxRecDepth 100000
set_option maxHeartbeats 0
open PySem PySem.W PySem.Calls PyProof.Rows
theorem G.holds (hlaw : ∀ ns : List Int, ns.length ≤ 63 → (∀ z ∈ ns, Builtin.Int.intBits z ≤ 1048576) → ∃ S, G.F_law [.scr ns] [] = some (.ok (.d (.bool true)) S)) : PySem.Challenge.rw_currentwebs_k01_fractions_and_webs.Holds := by
  w_on; o_law
  refine HandSHeadRun.head_any (r := OpenLaw.row PySem.Challenge.rw_currentwebs_k01_fractions_and_webs) (q := view (OpenLaw.row PySem.Challenge.rw_currentwebs_k01_fractions_and_webs).prog [39]) (H := G.hk) (ob := G.ob) (M := 2000) (loose := G.loose) (d := HandSHeadRun.topDef (OpenLaw.row PySem.Challenge.rw_currentwebs_k01_fractions_and_webs).prog 39) (kwd := []) G.ob_eq
    (by kernel_rfl) (fun s => by kernel_rfl) G.run (by kernel_rfl) (by kernel_rfl) (by kernel_rfl) (by rfl) (by first | assumption | decide +kernel) (by decide +kernel) ⟨rfl, rfl, rfl, rfl, rfl, by decide +kernel⟩ ?hw ?hc
  case hw => w_witness2
  case hc =>
    refine VL.walk_vl (l := PySem.Challenge.rw_currentwebs_k01_fractions_and_webs) (n := 63) (k := 11) (x := "script") (Fn := G.F_law) rfl (by decide) (by kernel_rfl) ⟨rfl, by decide, by decide⟩ hlaw ?F
    intro w mg fa h Y GN hmg0
    obtain ⟨K, KX, c⟩ := Y
    have hmg : mg ("law" : PySem.Str) = some (.ref fa) := by
      have e : (HandSHeadRun.topDef (OpenLaw.row PySem.Challenge.rw_currentwebs_k01_fractions_and_webs).prog 39).name = ("law" : PySem.Str) := by kernel_rfl
      rw [← e]
      exact hmg0
    obtain ⟨fd, hb, hF⟩ := G.facts (P := (PySem.Challenge.rw_currentwebs_k01_fractions_and_webs).prog) (w := w) KX GN hmg c
    exact ⟨K, fd, KX, hb, hF⟩

end
section
set_option Elab.async false
set_option linter.all false
set_option maxRecDepth 100000
namespace M
open PySem PySem.Spec PyProof.Rows L2 VL
theorem fmod_pos {p q : Int} (h : 0 < q) : p.fmod q = p % q := Int.fmod_eq_emod_of_nonneg p (by omega)
theorem gcd_mod (p q : Int) : Int.gcd q (p % q) = Int.gcd p q := by
  have e : p % q = p - q * (p / q) := Int.emod_def p q
  apply Nat.dvd_antisymm
  · have h1 : ((Int.gcd q (p % q) : Nat) : Int) ∣ q := Int.gcd_dvd_left ..
    have h2 : ((Int.gcd q (p % q) : Nat) : Int) ∣ p % q := Int.gcd_dvd_right ..
    have h3 : ((Int.gcd q (p % q) : Nat) : Int) ∣ p := by
      have h4 := Int.dvd_add h2 (Int.dvd_trans h1 (Int.dvd_mul_right q (p / q)))
      rw [Int.emod_add_mul_ediv] at h4
      exact h4
    exact Int.ofNat_dvd.mp (Int.dvd_coe_gcd h3 h1)
  · have h1 : ((Int.gcd p q : Nat) : Int) ∣ q := Int.gcd_dvd_right ..
    have h2 : ((Int.gcd p q : Nat) : Int) ∣ p := Int.gcd_dvd_left ..
    have h3 : ((Int.gcd p q : Nat) : Int) ∣ p % q := by
      rw [e]
      exact Int.dvd_sub h2 (Int.dvd_trans h1 (Int.dvd_mul_right q (p / q)))
    exact Int.ofNat_dvd.mp (Int.dvd_coe_gcd h1 h3)
theorem while_common (S : Sto) : ∀ (n : Nat) (p q : Int), 0 ≤ q → q.toNat ≤ n → ∃ g : Int, g.natAbs = Int.gcd p q ∧
    sWhile (bB (eBin (cB gNe) (eVar 1) (eCon (.int 0)))) (sPar 0 1 (aCons (eVarV 1) (aCons (eBin gMod (eVar 0) (eVar 1)) aNil))) [some (.d (.int p)), some (.d (.int q))] S = some (.nx [some (.d (.int g)), some (.d (.int 0))] S) := by
  intro n
  induction n with
  | zero =>
    intro p q h0 h
    have : q = 0 := by omega
    subst this
    exact ⟨p, by simp, while_stop (S1 := S) (by simp [cB])⟩
  | succ n ih =>
    intro p q h0 h
    by_cases hq : q = 0
    · subst hq
      exact ⟨p, by simp, while_stop (S1 := S) (by simp [cB])⟩
    · have h1 := Int.emod_nonneg p hq
      have h2 := Int.emod_lt_of_pos p (show 0 < q by omega)
      obtain ⟨g, hg, hw⟩ := ih q (p % q) h1 (by omega)
      exact ⟨g, hg.trans (gcd_mod p q), while_go (S1 := S) (by simp [cB, hq]) (by simp [hq, fmod_pos (show 0 < q by omega)]) hw⟩
theorem common_eq (p q : Int) (h : 0 ≤ q) (S : Sto) : G.F_common [.d (.int p), .d (.int q)] S = some (.ok (.d (.int (Int.gcd p q))) S) := by
  obtain ⟨g, hg, hw⟩ := while_common S q.toNat p q h (Nat.le_refl _)
  unfold G.F_common runF rho0 G.f_common
  simp [hw]
  omega
/-- in lowest terms, q > 0 -/
def lo (p q : Int) : PyData := .tuple [.int (p / (Int.gcd p q : Int)), .int (q / (Int.gcd p q : Int))]
theorem fdiv_pos {p q : Int} (h : 0 < q) : p.fdiv q = p / q := Int.fdiv_eq_ediv_of_nonneg p (by omega)
theorem gcd_pos {p q : Int} (h : 0 < q) : (0 : Int) < Int.gcd p q := by
  have := Int.gcd_pos_of_ne_zero_right p (show q ≠ 0 by omega)
  omega
theorem divOk_of {i j : Int} (h : 0 < j) (hj : j ≤ 10 ^ 100) : divOk i j = true := by
  unfold divOk
  have h1 : j ≠ 0 := by omega
  have h2 : j.natAbs.log2 < 9000 := by
    have h0 : j.natAbs ≠ 0 := by omega
    refine (Nat.log2_lt h0).mpr (Nat.lt_of_le_of_lt (show j.natAbs ≤ 10 ^ 100 by omega) ?_)
    decide +kernel
  simp [h1, PyProof.noPylong_of_log2 h2]
theorem log2_le {n k : Nat} (h : n < 2 ^ k) (hk : 0 < k) : n.log2 < k := by
  by_cases h0 : n = 0
  · subst h0; simpa using hk
  · exact (Nat.log2_lt h0).mpr h
theorem gcd_le {p q : Int} (h : 0 < q) : (Int.gcd p q : Int) ≤ q := by
  have h1 : ((Int.gcd p q : Nat) : Int) ∣ q := Int.gcd_dvd_right ..
  exact Int.le_of_dvd h h1

def Sm (x : Int) : Prop := x.natAbs ≤ 10 ^ 22
theorem mulOk_of {i j : Int} (hi : Sm i) (hj : Sm j) : mulOk i j = true := by
  unfold mulOk
  have e : (10 : Nat) ^ 22 < 2 ^ 100 := by decide +kernel
  have h1 := log2_le (n := i.natAbs) (k := 100) (Nat.lt_of_le_of_lt hi e) (by omega)
  have h2 := log2_le (n := j.natAbs) (k := 100) (Nat.lt_of_le_of_lt hj e) (by omega)
  rw [decide_eq_true_eq]
  omega
/-! the law's own gcd: p - p // q * q -/
theorem ediv_mul_sub (p q : Int) : p - p / q * q = p % q := by
  have := Int.emod_add_mul_ediv p q
  rw [Int.mul_comm] at this
  omega
theorem ediv_sm {p q : Int} (hp : Sm p) (h : 0 < q) : Sm (p / q) := by
  unfold Sm at *
  exact Nat.le_trans (Int.natAbs_ediv_le_natAbs p q) hp
theorem while_lgcd (S : Sto) : ∀ (n : Nat) (p q : Int), 0 ≤ q → Sm p → Sm q → q.toNat ≤ n → ∃ g : Int, g.natAbs = Int.gcd p q ∧
    sWhile (bB (eBin (cB gNe) (eVar 1) (eCon (.int 0)))) (sPar 0 1 (aCons (eVarV 1) (aCons (eBin gSub (eVar 0) (eBin gMulA (eBin gFdiv (eVar 0) (eVar 1)) (eVar 1))) aNil))) [some (.d (.int p)), some (.d (.int q))] S = some (.nx [some (.d (.int g)), some (.d (.int 0))] S) := by
  intro n
  induction n with
  | zero =>
    intro p q h0 sp sq h
    have : q = 0 := by omega
    subst this
    exact ⟨p, by simp, while_stop (S1 := S) (by simp [cB])⟩
  | succ n ih =>
    intro p q h0 sp sq h
    by_cases hq : q = 0
    · subst hq
      exact ⟨p, by simp, while_stop (S1 := S) (by simp [cB])⟩
    · have qp : 0 < q := by omega
      have h1 := Int.emod_nonneg p hq
      have h2 := Int.emod_lt_of_pos p qp
      obtain ⟨g, hg, hw⟩ := ih q (p % q) h1 sq (by unfold Sm at *; omega) (by omega)
      have d1 : divOk p q = true := divOk_of qp (by
        have : q ≤ 10 ^ 22 := by unfold Sm at sq; omega
        exact Int.le_trans this (by decide +kernel))
      have m1 := mulOk_of (ediv_sm sp qp) sq
      have e1 := ediv_mul_sub p q
      exact ⟨g, hg.trans (gcd_mod p q), while_go (S1 := S) (by simp [cB, hq]) (by simp [d1, fdiv_pos qp, m1, e1]) hw⟩
theorem lgcd_eq (p q : Int) (h : 0 ≤ q) (sp : Sm p) (sq : Sm q) (S : Sto) : G.F__law_gcd [.d (.int p), .d (.int q)] S = some (.ok (.d (.int (Int.gcd p q))) S) := by
  obtain ⟨g, hg, hw⟩ := while_lgcd S q.toNat p q h sp sq (Nat.le_refl _)
  unfold G.F__law_gcd runF rho0 G.f__law_gcd
  simp [hw]
  omega
/-! data -/
def atomB : PyData → Bool
  | .none => true
  | .bool _ => true
  | .int i => decide (i.natAbs ≤ 10 ^ 21)
  | .str s => PyData.strOk s
  | _ => false
def nc (L : Nat) : Nat → PyData → Bool
  | k + 1, .tuple ds => decide (ds.length ≤ L) && ds.all (nc L k)
  | k + 1, .list ds => decide (ds.length ≤ L) && ds.all (nc L k)
  | _, d => atomB d
theorem nc_atom {L k : Nat} {d : PyData} (h : atomB d = true) : nc L k d = true := by
  cases d with
  | tuple _ => cases h
  | list _ => cases h
  | dict _ => cases h
  | _ => cases k <;> exact h
theorem nc_mono {L L' : Nat} (hL : L ≤ L') : ∀ (k k' : Nat), k ≤ k' → ∀ d, nc L k d = true → nc L' k' d = true
  | 0, k', _, d, h => by
    cases d with
    | tuple _ => cases h
    | list _ => cases h
    | dict _ => cases h
    | _ => exact nc_atom h
  | k + 1, 0, hk, d, h => by omega
  | k + 1, k' + 1, hk, d, h => by
    have ih := nc_mono hL k k' (by omega)
    cases d with
    | tuple ds =>
      simp only [nc, Bool.and_eq_true, decide_eq_true_eq, List.all_eq_true] at h ⊢
      exact ⟨by omega, fun x m => ih x (h.2 x m)⟩
    | list ds =>
      simp only [nc, Bool.and_eq_true, decide_eq_true_eq, List.all_eq_true] at h ⊢
      exact ⟨by omega, fun x m => ih x (h.2 x m)⟩
    | _ => exact h
mutual
theorem nc_shape (L : Nat) : ∀ (k : Nat) (d : PyData), nc L k d = true → d.canLay0 = true ∧ d.depth ≤ k
  | k, .none, _ => ⟨by simp [PyData.canLay0], by simp [PyData.depth]⟩
  | k, .bool _, _ => ⟨by simp [PyData.canLay0], by simp [PyData.depth]⟩
  | k, .int _, _ => ⟨by simp [PyData.canLay0], by simp [PyData.depth]⟩
  | k, .str s, h => ⟨by
    have : PyData.strOk s = true := by cases k <;> exact h
    simpa [PyData.canLay0] using this, by simp [PyData.depth]⟩
  | 0, .tuple _, h => by cases h
  | 0, .list _, h => by cases h
  | k, .dict _, h => by cases k <;> cases h
  | k + 1, .tuple ds, h => by
    simp only [nc, Bool.and_eq_true] at h
    have := nc_shapes L k ds h.2
    refine ⟨by simp only [PyData.canLay0]; exact this.1, by simp only [PyData.depth]; omega⟩
  | k + 1, .list ds, h => by
    simp only [nc, Bool.and_eq_true] at h
    have := nc_shapes L k ds h.2
    refine ⟨by simp only [PyData.canLay0]; exact this.1, by simp only [PyData.depth]; omega⟩
theorem nc_shapes (L : Nat) : ∀ (k : Nat) (ds : List PyData), ds.all (nc L k) = true → PyData.canLayAll0 ds = true ∧ PyData.depthAll ds ≤ k
  | k, [], _ => ⟨by simp [PyData.canLayAll0], by simp [PyData.depthAll]⟩
  | k, d :: ds, h => by
    rw [List.all_cons, Bool.and_eq_true] at h
    have h1 := nc_shape L k d h.1
    have h2 := nc_shapes L k ds h.2
    refine ⟨by simp [PyData.canLayAll0, h1.1, h2.1], by simp only [PyData.depthAll]; omega⟩
end
theorem nc_shaped {L k : Nat} {d : PyData} (h : nc L k d = true) (hk : k ≤ 64) : SeqAt.shaped d = true := by
  obtain ⟨h1, h2⟩ := nc_shape L k d h
  show (d.canLay0 && decide (d.depth ≤ 64)) = true
  rw [h1, decide_eq_true (by omega)]
  rfl
theorem nc_int {L k : Nat} {i : Int} (h : nc L k (.int i) = true) : i.natAbs ≤ 10 ^ 21 := by
  cases k <;> exact of_decide_eq_true h
theorem nc_tup {L k : Nat} {ds : List PyData} (h : nc L (k + 1) (.tuple ds) = true) : ds.length ≤ L ∧ ∀ x ∈ ds, nc L k x = true := by
  simp only [nc, Bool.and_eq_true, decide_eq_true_eq, List.all_eq_true] at h
  exact h
theorem nc_tup' {L k : Nat} {ds : List PyData} (h : nc L k (.tuple ds) = true) : ∃ j, k = j + 1 ∧ ds.length ≤ L ∧ ∀ x ∈ ds, nc L j x = true := by
  cases k with
  | zero => cases h
  | succ j => exact ⟨j, rfl, nc_tup h⟩
end M

end
section
set_option Elab.async false
set_option linter.all false
set_option maxRecDepth 100000
namespace M
open PySem PySem.Spec PyProof.Rows L2 VL
@[simp] theorem isB_NoneType_int : isB "NoneType" "int" = false := by decide
@[simp] theorem isB_NoneType_bool : isB "NoneType" "bool" = false := by decide
@[simp] theorem isB_NoneType_str : isB "NoneType" "str" = false := by decide
@[simp] theorem isB_NoneType_tuple : isB "NoneType" "tuple" = false := by decide
@[simp] theorem isB_NoneType_list : isB "NoneType" "list" = false := by decide
@[simp] theorem isB_bool_int : isB "bool" "int" = true := by decide
@[simp] theorem isB_bool_bool : isB "bool" "bool" = true := by decide
@[simp] theorem isB_bool_str : isB "bool" "str" = false := by decide
@[simp] theorem isB_bool_tuple : isB "bool" "tuple" = false := by decide
@[simp] theorem isB_bool_list : isB "bool" "list" = false := by decide
@[simp] theorem isB_int_int : isB "int" "int" = true := by decide
@[simp] theorem isB_int_bool : isB "int" "bool" = false := by decide
@[simp] theorem isB_int_str : isB "int" "str" = false := by decide
@[simp] theorem isB_int_tuple : isB "int" "tuple" = false := by decide
@[simp] theorem isB_int_list : isB "int" "list" = false := by decide
@[simp] theorem isB_str_int : isB "str" "int" = false := by decide
@[simp] theorem isB_str_bool : isB "str" "bool" = false := by decide
@[simp] theorem isB_str_str : isB "str" "str" = true := by decide
@[simp] theorem isB_str_tuple : isB "str" "tuple" = false := by decide
@[simp] theorem isB_str_list : isB "str" "list" = false := by decide
@[simp] theorem isB_list_int : isB "list" "int" = false := by decide
@[simp] theorem isB_list_bool : isB "list" "bool" = false := by decide
@[simp] theorem isB_list_str : isB "list" "str" = false := by decide
@[simp] theorem isB_list_tuple : isB "list" "tuple" = false := by decide
@[simp] theorem isB_list_list : isB "list" "list" = true := by decide
@[simp] theorem isB_tuple_int : isB "tuple" "int" = false := by decide
@[simp] theorem isB_tuple_bool : isB "tuple" "bool" = false := by decide
@[simp] theorem isB_tuple_str : isB "tuple" "str" = false := by decide
@[simp] theorem isB_tuple_tuple : isB "tuple" "tuple" = true := by decide
@[simp] theorem isB_tuple_list : isB "tuple" "list" = false := by decide
@[simp] theorem a_gTp (n : Nat) (u : List SV → Rho → Option Rho) (ds : List PyData) (ρ : Rho) : gTp n u (.d (.tuple ds)) ρ = if ds.length = n then u (ds.map .d) ρ else none := rfl
@[simp] theorem a_gTl (n : Nat) (u : List SV → Rho → Option Rho) (ds : List PyData) (ρ : Rho) : gTl n u (.d (.list ds)) ρ = if ds.length = n then u (ds.map .d) ρ else none := rfl
@[simp] theorem a_gsCons (t : TgF) (u : List SV → Rho → Option Rho) (x : SV) (xs : List SV) (ρ : Rho) : gsCons t u (x :: xs) ρ = (t x ρ).bind (u xs) := rfl
@[simp] theorem a_gsNil (ρ : Rho) : gsNil [] ρ = some ρ := rfl
@[simp] theorem a_gNm (i : Nat) (d : PyData) (ρ : Rho) : gNm i (.d d) ρ = some (ρ.set i (some (.d d))) := rfl
@[simp] theorem a_gIxT (S : Sto) (ds : List PyData) (i : Int) : gIx S (.d (.tuple ds)) (.d (.int i)) = (atI (ds.map SV.d) i).bind fun z => if noOwn z then some z else none := rfl
@[simp] theorem a_gIxL (S : Sto) (ds : List PyData) (i : Int) : gIx S (.d (.list ds)) (.d (.int i)) = (atI (ds.map SV.d) i).bind fun z => if noOwn z then some z else none := rfl
theorem absn (p : Int) : (if p < 0 then -p else p) = (p.natAbs : Int) := by split <;> omega
theorem gpow20 (S : Sto) : gPow S (.d (.int 10)) (.d (.int 20)) = some (.d (.int 100000000000000000000)) := by
  have : (10 : Int) ^ 20 = 100000000000000000000 := by decide
  unfold gPow
  simp
def isI : PyData → Bool
  | .int _ => true
  | _ => false
/-- a fraction that may be handed in -/
def isFr : PyData → Bool
  | .tuple [.int p, .int q] => decide (1 ≤ q) && decide ((p.natAbs : Int) < 100000000000000000000) && decide (q < 100000000000000000000) && decide (Int.gcd p q = 1)
  | _ => false
theorem len3 {r : List PyData} : ¬ ((r.length : Nat) : Int) + 1 + 1 + 1 = 2 := by omega
theorem beq_one (g : Nat) : (((g : Nat) : Int) == 1) = decide (g = 1) := by
  by_cases h : g = 1
  · simp [h]
  · rw [decide_eq_false h]; exact beq_eq_false_iff_ne.mpr (by omega)
theorem gcd1_nat {p q : Int} : (((Int.gcd p q : Nat) : Int) = 1) ↔ Int.gcd p q = 1 := by omega
section
variable {L k : Nat} {d x y : PyData} {S : Sto}
theorem lis_int (h : nc L k d = true) (S : Sto) : G.F__law_is_int [.d d] S = some (.ok (.d (.bool (isI d))) S) := by
  unfold G.F__law_is_int runF rho0 G.f__law_is_int
  cases d with
  | dict _ => cases k <;> cases h
  | _ => simp [isI, eAnd]
theorem any_eq (h : nc L k d = true) (S : Sto) : G.F_is_any_fraction [.d d] S = some (.ok (.d (.bool (match d with
    | .tuple [.int p, .int q] => decide (1 ≤ q) && decide (Int.gcd p q = 1)
    | _ => false))) S) := by
  unfold G.F_is_any_fraction runF rho0 G.f_is_any_fraction
  cases d with
  | dict _ => cases k <;> cases h
  | tuple ds =>
    obtain ⟨j, rfl, hl, hx⟩ := nc_tup' h
    match ds with
    | [] => simp [cB]
    | [x] => simp [cB]
    | x :: y :: z :: r =>
      have l3 := @len3 r
      simp [cB, l3]
    | [x, y] =>
      have h1 := hx x (by simp)
      have h2 := hx y (by simp)
      cases x with
      | dict _ => cases j <;> cases h1
      | int p =>
        cases y with
        | dict _ => cases j <;> cases h2
        | int q =>
          by_cases hq : q < 1
          · have : ¬ 1 ≤ q := by omega
            simp [cB, hq, this]
          · have c := common_eq p q (by omega) S
            have : 1 ≤ q := by omega
            simp [cB, hq, this, c, beq_one]
        | _ => simp [cB]
      | _ => simp [cB]
  | _ => simp [cB]
theorem isfr_eq (h : nc L k d = true) (S : Sto) : G.F_is_fraction [.d d] S = some (.ok (.d (.bool (isFr d))) S) := by
  have a := any_eq h S
  unfold G.F_is_fraction runF rho0 G.f_is_fraction
  cases d with
  | tuple ds =>
    match ds with
    | [] => simp [a, isFr]
    | [x] => simp [a, isFr]
    | x :: y :: z :: r => simp [a, isFr]
    | [x, y] =>
      cases x with
      | int p =>
        cases y with
        | int q =>
          simp only at a
          cases e : (decide (1 ≤ q) && decide (Int.gcd p q = 1)) with
          | false =>
            rw [e] at a
            simp only [Bool.and_eq_false_iff, decide_eq_false_iff_not] at e
            have : isFr (.tuple [.int p, .int q]) = false := by
              rcases e with e | e <;> simp [isFr, e]
            simp [a, this]
          | true =>
            rw [e] at a
            simp only [Bool.and_eq_true, decide_eq_true_eq] at e
            have hq : q.natAbs = q.toNat := by omega
            by_cases b1 : (p.natAbs : Int) < 100000000000000000000 <;> simp [a, eAnd, cB, isFr, e.1, e.2, atI, ixN, absn, b1]
        | _ => simp [a, isFr]
      | _ => simp [a, isFr]
  | _ => simp [a, isFr]
theorem lisfr_eq (h : nc L k d = true) (S : Sto) : G.F__law_is_fraction [.d d] S = some (.ok (.d (.bool (isFr d))) S) := by
  unfold G.F__law_is_fraction runF rho0 G.f__law_is_fraction
  cases d with
  | dict _ => cases k <;> cases h
  | tuple ds =>
    obtain ⟨j, rfl, hl, hx⟩ := nc_tup' h
    match ds with
    | [] => simp [cB, isFr]
    | [x] => simp [cB, isFr]
    | x :: y :: z :: r =>
      have l3 := @len3 r
      simp [cB, l3, isFr]
    | [x, y] =>
      have h1 := hx x (by simp)
      have h2 := hx y (by simp)
      have i1 := lis_int h1 S
      have i2 := lis_int h2 S
      cases x with
      | int p =>
        cases y with
        | int q =>
          have b1 := nc_int h1
          have b2 := nc_int h2
          simp only [isI] at i1 i2
          have sp : Sm p := Nat.le_trans b1 (by decide)
          have sq : Sm q := Nat.le_trans b2 (by decide)
          by_cases z : q < 1
          · have z' : ¬ 1 ≤ q := by omega
            simp [cB, i1, i2, atI, ixN, z, z', isFr]
          · have z' : 1 ≤ q := by omega
            have g := lgcd_eq p q (by omega) sp sq S
            by_cases c1 : (p.natAbs : Int) < 100000000000000000000
            · have c1' : ¬ 100000000000000000000 ≤ (p.natAbs : Int) := by omega
              by_cases c2 : q < 100000000000000000000
              · have c2' : ¬ 100000000000000000000 ≤ q := by omega
                simp [cB, i1, i2, atI, ixN, z, z', isFr, absn, gpow20, c1, c1', c2, c2', g, beq_one]
              · have c2' : 100000000000000000000 ≤ q := by omega
                simp [cB, i1, i2, atI, ixN, z, z', isFr, absn, gpow20, c1, c1', c2, c2']
            · have c1' : 100000000000000000000 ≤ (p.natAbs : Int) := by omega
              simp [cB, i1, i2, atI, ixN, z, z', isFr, absn, gpow20, c1, c1']
        | _ => 
          simp only [isI] at i1 i2
          simp [cB, i1, i2, isFr, atI, ixN]
      | _ => 
        simp only [isI] at i1
        simp [cB, i1, isFr, atI, ixN]
  | _ => simp [cB, isFr]
/-! wires -/
theorem isint_eq (h : nc L k d = true) (lo hi : Int) (S : Sto) : G.F_is_integer [.d d, .d (.int lo), .d (.int hi)] S = some (.ok (.d (.bool (match d with
    | .int i => decide (lo ≤ i) && decide (i ≤ hi)
    | _ => false))) S) := by
  unfold G.F_is_integer runF rho0 G.f_is_integer
  cases d with
  | dict _ => cases k <;> cases h
  | int i => by_cases c : lo ≤ i <;> simp [eAnd, eChain, c]
  | _ => simp [eAnd]
def top0 : PyData → Bool
  | .tuple (.int p :: _) => decide (0 < p)
  | _ => false
/-- a wire between two of n joints -/
def isWr (n : Int) : PyData → Bool
  | .tuple [.int a, .int b, f] => decide (0 ≤ a) && decide (a < b) && decide (b < n) && isFr f && top0 f
  | _ => false
theorem len4 {r : List PyData} : ¬ ((r.length : Nat) : Int) + 1 + 1 + 1 + 1 = 3 := by omega
theorem isFr_form {f : PyData} (h : isFr f = true) : ∃ p q, f = .tuple [.int p, .int q] := by
  unfold isFr at h
  split at h
  · exact ⟨_, _, rfl⟩
  · cases h
theorem iswire_eq (h : nc L k d = true) (n : Int) (S : Sto) : G.F_is_wire [.d d, .d (.int n)] S = some (.ok (.d (.bool (isWr n d))) S) := by
  unfold G.F_is_wire runF rho0 G.f_is_wire
  cases d with
  | dict _ => cases k <;> cases h
  | tuple ds =>
    obtain ⟨j, rfl, hl, hx⟩ := nc_tup' h
    match ds with
    | [] => simp [cB, isWr]
    | [x] => simp [cB, isWr]
    | [x, y] => simp [cB, isWr]
    | x :: y :: z :: w :: r =>
      have l3 := @len4 r
      simp [cB, l3, isWr]
    | [x, y, f] =>
      have h1 := hx x (by simp)
      have h2 := hx y (by simp)
      have h3 := hx f (by simp)
      have i1 := isint_eq h1 0 (n - 1) S
      have i3 := isfr_eq h3 S
      cases x with
      | int a =>
        have i2 := isint_eq h2 (a + 1) (n - 1) S
        simp only at i1
        cases y with
        | int b =>
          simp only at i2
          by_cases c1 : 0 ≤ a
          · by_cases c2 : a ≤ n - 1
            · by_cases c3 : a + 1 ≤ b
              · by_cases c4 : b ≤ n - 1
                · have c3' : a < b := by omega
                  have c4' : b < n := by omega
                  cases hf : isFr f with
                  | false =>
                    rw [hf] at i3
                    simp [cB, i1, i2, i3, atI, ixN, c1, c2, c3, c4, c3', c4', isWr, hf, eAnd]
                  | true =>
                    rw [hf] at i3
                    obtain ⟨p, q, rfl⟩ := isFr_form hf
                    simp [cB, i1, i2, i3, atI, ixN, c1, c2, c3, c4, c3', c4', isWr, hf, eAnd, top0]
                · have c4' : ¬ b < n := by omega
                  simp [cB, i1, i2, atI, ixN, c1, c2, c3, c4, c4', isWr]
              · have c3' : ¬ a < b := by omega
                simp [cB, i1, i2, atI, ixN, c1, c2, c3, c3', isWr]
            · have c2' : ¬ (a < b ∧ b < n) := by omega
              have : isWr n (.tuple [.int a, .int b, f]) = false := by
                unfold isWr
                by_cases z : a < b
                · have : ¬ b < n := by omega
                  simp [this]
                · simp [z]
              simp [cB, i1, atI, ixN, c1, c2, this]
          · simp [cB, i1, atI, ixN, c1, isWr]
        | dict _ => cases j <;> cases h2
        | _ =>
          have : ∀ b, (b && false) = false := Bool.and_false
          cases e : (decide (0 ≤ a) && decide (a ≤ n - 1)) <;> (rw [e] at i1; simp [cB, i1, i2, atI, ixN, isWr])
      | dict _ => cases j <;> cases h1
      | _ => simp [cB, i1, atI, ixN, isWr]
  | _ => simp [cB, isWr]
end
end M

end
section
set_option Elab.async false
set_option linter.all false
set_option maxRecDepth 100000
namespace M
open PySem PySem.Spec PyProof.Rows L2 VL G

theorem seq_nx {s t : Rho → Sto → Option VL.Fl} {ρ ρ2 : Rho} {S S2 : Sto} {r : Option VL.Fl} (h : s ρ S = some (.nx ρ2 S2)) (q : t ρ2 S2 = r) : sSeq s t ρ S = r := by
  rw [a_sSeq, h]
  exact q
theorem seq_rt {s t : Rho → Sto → Option VL.Fl} {ρ : Rho} {S S2 : Sto} {x : SV} (h : s ρ S = some (.rt x S2)) : sSeq s t ρ S = some (.rt x S2) := by
  rw [a_sSeq, h]
theorem compL_mapF {α : Type} {tf : TgF} {elt : Rho → Mo SV} {ρ : Rho} {S : Sto} (f g : α → SV) : ∀ (l : List α) (acc : List SV), (∀ a ∈ l, ∃ ρ', tf (f a) ρ = some ρ' ∧ elt ρ' S = some (.ok (g a) S)) → acc.length + l.length ≤ sizeLine →
    compL tf bYes elt ρ (l.map f) acc S = some (.ok (acc ++ l.map g) S)
  | [], acc, _, _ => by simp [compL]
  | a :: l, acc, h, hl => by
    obtain ⟨ρ', ht, h2⟩ := h a List.mem_cons_self
    rw [List.length_cons] at hl
    have ih := compL_mapF f g l (acc ++ [g a]) (fun z m => h z (List.mem_cons_of_mem _ m)) (by simp; omega)
    have h1 : bYes ρ' S = some (.ok true S) := rfl
    rw [List.map_cons]
    unfold compL
    simp only [ht, h1, h2]
    rw [if_pos (by omega), ih]
    simp
theorem eLc_mapF {α : Type} {it : Rho → Mo (List SV)} {tf : TgF} {elt : Rho → Mo SV} {vs : List Nat} {ρ : Rho} {S : Sto} {l : List α} (f g : α → SV) (hi : it ρ S = some (.ok (l.map f) S)) (h : ∀ a ∈ l, ∃ ρ', tf (f a) (wipeR ρ vs) = some ρ' ∧ elt ρ' S = some (.ok (g a) S)) (hl : l.length ≤ sizeLine) :
    eLc it tf bYes elt vs ρ S = some (.ok (.own (l.map g)) S) := by
  unfold eLc
  rw [hi]
  have := compL_mapF (tf := tf) (elt := elt) (ρ := wipeR ρ vs) (S := S) f g l [] h (by simpa using hl)
  simp only [bindM_ok, this]
  simp

/-! bools -/
theorem bools_map : ∀ bs : List Bool, VL.bools (bs.map fun b => SV.d (.bool b)) = some bs
  | [] => rfl
  | b :: bs => by simp [VL.bools, bools_map bs]
theorem allD_bools : ∀ bs : List Bool, VL.allD (bs.map fun b => SV.d (.bool b)) = some (bs.map PyData.bool)
  | [] => rfl
  | b :: bs => by simp [VL.allD, allD_bools bs]
theorem can_bools : ∀ bs : List Bool, PyData.canLayAll0 (bs.map PyData.bool) = true ∧ PyData.depthAll (bs.map PyData.bool) = 0
  | [] => by simp [PyData.canLayAll0, PyData.depthAll]
  | b :: bs => by
    obtain ⟨h1, h2⟩ := can_bools bs
    simp [PyData.canLayAll0, PyData.depthAll, PyData.canLay0, PyData.depth, h1, h2]
theorem gAll_b (S : Sto) (bs : List Bool) : gAll S [.own (bs.map fun b => SV.d (.bool b))] = some (.d (.bool (bs.all id))) := by
  simp [gAll, lst?, bools_map]
theorem notin_b (S : Sto) (bs : List Bool) : gNotIn S (.d (.bool false)) (.own (bs.map fun b => SV.d (.bool b))) = some (bs.all id) := by
  obtain ⟨h1, h2⟩ := can_bools bs
  have s1 : SeqAt.shaped (.list (bs.map PyData.bool)) = true := by
    show (PyData.canLay0 (.list (bs.map PyData.bool)) && decide (PyData.depth (.list (bs.map PyData.bool)) ≤ 64)) = true
    simp [PyData.canLay0, PyData.depth, h1, h2]
  have s2 : SeqAt.shaped (.bool false) = true := by decide +kernel
  unfold gNotIn
  simp only [dat?, allD_bools, Option.map_some, Option.bind_some, s1, s2, Bool.and_self, if_true, List.any_map]
  congr 1
  induction bs with
  | nil => rfl
  | cons b bs ih =>
    obtain ⟨h1, h2⟩ := can_bools bs
    have s1 : SeqAt.shaped (.list (bs.map PyData.bool)) = true := by
      show (PyData.canLay0 (.list (bs.map PyData.bool)) && decide (PyData.depth (.list (bs.map PyData.bool)) ≤ 64)) = true
      simp [PyData.canLay0, PyData.depth, h1, h2]
    have ih := ih h1 h2 s1
    rw [List.any_cons, Bool.not_or, ih, List.all_cons]
    cases b <;> simp [PyData.eqv]
/-! the order of wires -/
def leW (x y : PyData) : Bool := !PySem.W.dataLt y x
def srt (ws : List PyData) : Bool := (ws.zip ws.tail).all fun p => leW p.1 p.2
theorem isWr_form {n : Int} {d : PyData} (h : isWr n d = true) : ∃ a b p q, d = .tuple [.int a, .int b, .tuple [.int p, .int q]] ∧ 0 ≤ a ∧ a < b ∧ b < n := by
  unfold isWr at h
  split at h
  · rename_i a b f
    simp only [Bool.and_eq_true, decide_eq_true_eq] at h
    obtain ⟨p, q, rfl⟩ := isFr_form h.1.2
    exact ⟨a, b, p, q, rfl, h.1.1.1.1, h.1.1.1.2, h.1.1.2⟩
  · cases h
theorem leW_eq {L k : Nat} {n : Int} {x y : PyData} (hx : nc L k x = true) (hk : k ≤ 64) (h1 : isWr n x = true) (h2 : isWr n y = true) (S : Sto) : gLeD S (.d x) (.d y) = some (leW x y) := by
  have sh := nc_shaped hx hk
  obtain ⟨a, b, p, q, rfl, _⟩ := isWr_form h1
  obtain ⟨a', b', p', q', rfl, _⟩ := isWr_form h2
  unfold gLeD leW
  simp only
  rw [sh]
  have : PySem.W.alike (.tuple [.int a, .int b, .tuple [.int p, .int q]]) (.tuple [.int a', .int b', .tuple [.int p', .int q']]) = true := by simp [PySem.W.alike, PySem.W.alikeAll]
  rw [this]
  rfl
/-- a web -/
def isWb : PyData → Bool
  | .tuple [.str w, .int n, .tuple ws] => decide (w = "web") && decide (1 ≤ n) && decide (n ≤ 24) && decide (ws.length ≤ 60) && ws.all (isWr n) && srt ws
  | _ => false
section
variable {L k : Nat} {n : Int} {d : PyData} {ws : List PyData} {v : PyData} {S : Sto} {s1 s2 : Option SV}
noncomputable abbrev bodyW : Rho → Sto → Option VL.Fl := (sSeq
  (sIf (bOr (bNot (bVal (eIsi1 (eVar 1) ["tuple"]))) (bOr (bB (eBin (cB gNe) (eCal gLen (aCons (eVar 1) aNil)) (eCon (.int 3)))) (bOr (bNot (bVal (eCall 1 F__law_is_int [] (aCons (eBin gIx (eVar 1) (eCon (.int 0))) aNil)))) (bNot (bVal (eCall 1 F__law_is_int [] (aCons (eBin gIx (eVar 1) (eCon (.int 1))) aNil)))))))
  (sRet (eCon (.bool false)))
  sNil)
  (sIf (bOr (bB (eBin (cB gLt) (eBin gIxB (eVar 1) (eCon (.int 0))) (eCon (.int 0)))) (bOr (bB (eBin (cB gGe) (eBin gIxB (eVar 1) (eCon (.int 0))) (eBin gIxB (eVar 1) (eCon (.int 1))))) (bOr (bB (eBin (cB gGe) (eBin gIxB (eVar 1) (eCon (.int 1))) (eBin gIxB (eVar 0) (eCon (.int 1))))) (bOr (bNot (bVal (eCall 1 F__law_is_fraction [] (aCons (eBin gIx (eVar 1) (eCon (.int 2))) aNil)))) (bB (eBin (cB gLt) (eBin gIxB (eBin gIxB (eVar 1) (eCon (.int 2))) (eCon (.int 0))) (eCon (.int 1))))))))
  (sRet (eCon (.bool false)))
  sNil))
theorem bodyW_eq (h : nc L k d = true) (ws : List PyData) (s2 : Option SV) (S : Sto) : bodyW [some (.d (.tuple [.str "web", .int n, .tuple ws])), some (.d d), s2] S = (if isWr n d then some (.nx [some (.d (.tuple [.str "web", .int n, .tuple ws])), some (.d d), s2] S) else some (.rt (.d (.bool false)) S)) := by
  unfold bodyW
  cases d with
  | dict _ => cases k <;> cases h
  | tuple ds =>
    obtain ⟨j, rfl, hl, hx⟩ := nc_tup' h
    match ds with
    | [] => simp [cB, isWr]
    | [x] => simp [cB, isWr]
    | [x, y] => simp [cB, isWr]
    | x :: y :: z :: w :: r =>
      have l3 := @len4 r
      simp [cB, l3, isWr]
    | [x, y, f] =>
      have h1 := hx x (by simp)
      have h2 := hx y (by simp)
      have h3 := hx f (by simp)
      have i1 := lis_int h1 S
      have i2 := lis_int h2 S
      have i3 := lisfr_eq h3 S
      cases x with
      | int a =>
        simp only [isI] at i1
        cases y with
        | int b =>
          simp only [isI] at i2
          by_cases c1 : 0 ≤ a
          · have c1' : ¬ a < 0 := by omega
            by_cases c2 : a < b
            · have c2' : ¬ b ≤ a := by omega
              by_cases c3 : b < n
              · have c3' : ¬ n ≤ b := by omega
                cases hf : isFr f with
                | false =>
                  rw [hf] at i3
                  simp [cB, i1, i2, i3, atI, ixN, c1, c1', c2, c2', c3, c3', isWr, hf]
                | true =>
                  rw [hf] at i3
                  obtain ⟨p, q, rfl⟩ := isFr_form hf
                  by_cases c4 : 0 < p
                  · have c4' : ¬ p < 1 := by omega
                    simp [cB, i1, i2, i3, atI, ixN, c1, c1', c2, c2', c3, c3', isWr, hf, top0, c4, c4']
                  · have c4' : p < 1 := by omega
                    simp [cB, i1, i2, i3, atI, ixN, c1, c1', c2, c2', c3, c3', isWr, hf, top0, c4, c4']
              · have c3' : n ≤ b := by omega
                simp [cB, i1, i2, atI, ixN, c1, c1', c2, c2', c3, c3', isWr]
            · have c2' : b ≤ a := by omega
              simp [cB, i1, i2, atI, ixN, c1, c1', c2, c2', isWr]
          · have c1' : a < 0 := by omega
            simp [cB, i1, i2, atI, ixN, c1, c1', isWr]
        | dict _ => cases j <;> cases h2
        | _ =>
          simp only [isI] at i2
          simp [cB, i1, i2, atI, ixN, isWr]
      | dict _ => cases j <;> cases h1
      | _ =>
        simp only [isI] at i1
        simp [cB, i1, atI, ixN, isWr]
  | _ => simp [cB, isWr]
theorem loopW (n : Int) (ws : List PyData) (s2 : Option SV) (S : Sto) : ∀ (us : List PyData), (∀ u ∈ us, nc L k u = true) → ∀ s1, if us.all (isWr n) then ∃ y1, forL (gNm 1) bodyW (us.map SV.d) [some (.d (.tuple [.str "web", .int n, .tuple ws])), s1, s2] S = some (.nx [some (.d (.tuple [.str "web", .int n, .tuple ws])), y1, s2] S)
    else forL (gNm 1) bodyW (us.map SV.d) [some (.d (.tuple [.str "web", .int n, .tuple ws])), s1, s2] S = some (.rt (.d (.bool false)) S)
  | [], _, s1 => by simp [forL]
  | u :: us, hu, s1 => by
    have b := bodyW_eq (n := n) (hu u (by simp)) ws s2 S
    have ih := loopW n ws s2 S us (fun v m => hu v (List.mem_cons_of_mem _ m)) (some (.d u))
    rw [List.map_cons]
    cases e : isWr n u with
    | false =>
      rw [e] at b
      rw [List.all_cons, e]
      simp only [Bool.false_and, Bool.false_eq_true, if_false] at b ⊢
      unfold forL
      simp only [a_gNm, List.set_cons_succ, List.set_cons_zero, b]
    | true =>
      rw [e] at b
      rw [List.all_cons, e, Bool.true_and]
      simp only [if_true] at b
      split
      · rename_i h
        rw [if_pos h] at ih
        obtain ⟨y1, ih⟩ := ih
        refine ⟨y1, ?_⟩
        unfold forL
        simp only [a_gNm, List.set_cons_succ, List.set_cons_zero, b]
        exact ih
      · rename_i h
        rw [if_neg h] at ih
        unfold forL
        simp only [a_gNm, List.set_cons_succ, List.set_cons_zero, b]
        exact ih
end
end M

end
section
set_option Elab.async false
set_option linter.all false
set_option maxRecDepth 100000
namespace M
open PySem PySem.Spec PyProof.Rows L2 VL G

theorem sIx_pos (n dd : Nat) {i : Int} (h : 0 ≤ i) : HT.sIx n dd (some i) = min i.toNat n := by
  show (if i < 0 then (i + (n : Int)).toNat else min i.toNat n) = min i.toNat n
  rw [if_neg (by omega)]
theorem cut_from {α : Type} (xs : List α) {i : Int} (h : 0 ≤ i) : cutL xs (some i) none = xs.drop i.toNat := by
  unfold cutL
  rw [sIx_pos _ _ h]
  show (xs.drop (min i.toNat xs.length)).take (xs.length - min i.toNat xs.length) = _
  rw [List.take_of_length_le (by rw [List.length_drop]; omega)]
  rcases Nat.le_total i.toNat xs.length with z | z
  · rw [Nat.min_eq_left z]
  · rw [Nat.min_eq_right z, List.drop_of_length_le (Nat.le_refl _), List.drop_of_length_le z]
theorem cut_to {α : Type} (xs : List α) {i : Int} (h : 0 ≤ i) : cutL xs none (some i) = xs.take i.toNat := by
  unfold cutL
  rw [sIx_pos _ _ h]
  show (xs.drop 0).take (min i.toNat xs.length - 0) = _
  rw [List.drop_zero, Nat.sub_zero]
  rcases Nat.le_total i.toNat xs.length with z | z
  · rw [Nat.min_eq_left z]
  · rw [Nat.min_eq_right z, List.take_of_length_le (Nat.le_refl _), List.take_of_length_le z]
theorem atI_nat {α : Type} (xs : List α) {j : Nat} (h : j < xs.length) : atI xs (j : Int) = some xs[j] := by
  have e : ixN xs.length (j : Int) = some j := by
    unfold ixN
    simp
    omega
  unfold atI
  rw [e]
  simp [h]
@[simp] theorem a_gSlT (S : Sto) (ds : List PyData) (lo hi : Option Int) : gSl S (.d (.tuple ds)) lo hi = some (.d (.tuple (cutL ds lo hi))) := rfl
section
variable {L k : Nat} {n : Int} {d w m t : PyData} {ws : List PyData} {S : Sto} {s1 s2 : Option SV}
def isWeb : PyData → Bool
  | .str s => decide (s = "web")
  | _ => false
theorem ne_web (h : nc L k w = true) (hk : k ≤ 64) (S : Sto) : gNe S (.d w) (.d (.str "web")) = some (!isWeb w) := by
  have s1 := nc_shaped h hk
  have s2 : SeqAt.shaped (.str "web") = true := by decide +kernel
  unfold gNe
  simp only [dat_d, Option.bind_some, s1, s2, Bool.and_self, if_true]
  congr 2
  cases w with
  | dict _ => cases k <;> cases h
  | str s =>
    simp only [PyData.eqv, isWeb]
    by_cases e : s = "web"
    · simp [e]
    · rw [decide_eq_false e]; exact beq_eq_false_iff_ne.mpr e
  | _ => simp [PyData.eqv, isWeb]
theorem zip_range (ws : List PyData) (f : PyData → PyData → Bool) : (ws.zip ws.tail).map (fun p => f p.1 p.2) = (List.range (ws.length - 1)).map fun j => f (ws.getD j .none) (ws.getD (j + 1) .none) := by
  apply List.ext_getElem
  · simp
  · intro i h1 h2
    simp at h1 h2
    simp [List.getD_eq_getElem?_getD, List.getElem?_eq_getElem (show i < ws.length by omega), List.getElem?_eq_getElem (show i + 1 < ws.length by omega)]
theorem srt_range (ws : List PyData) : srt ws = ((List.range (ws.length - 1)).map fun j => leW (ws.getD j .none) (ws.getD (j + 1) .none)).all id := by
  unfold srt
  rw [← zip_range ws leW, List.all_map]
  rfl
noncomputable abbrev endW : Rho → Sto → Option VL.Fl := (sRet (eBin (cB gNotIn) (eCon (.bool false)) (eLc (iRng1 (aCons (eBin gSub (eCal gLen (aCons (eBin gIxB (eVar 0) (eCon (.int 2))) aNil)) (eCon (.int 1))) aNil)) (gNm 2) bYes (eBin (cB gLeD) (eBin gIxB (eBin gIxB (eVar 0) (eCon (.int 2))) (eVar 2)) (eBin gIxB (eBin gIxB (eVar 0) (eCon (.int 2))) (eBin gAdd (eVar 2) (eCon (.int 1))))) [2])))
theorem endW_eq (hw : ∀ u ∈ ws, nc L k u = true) (hk : k ≤ 64) (ha : ws.all (isWr n) = true) (hl : ws.length ≤ 60) (s1 : Option SV) (S : Sto) : endW [some (.d (.tuple [.str "web", .int n, .tuple ws])), s1, none] S = some (.rt (.d (.bool (srt ws))) S) := by
  have at_ : ∀ j, j < ws.length → (ws.map SV.d)[j]? = some (.d (ws.getD j .none)) := fun j h => by
    simp [List.getD_eq_getElem?_getD, List.getElem?_eq_getElem h]
  have it : VL.iRng1 (aCons (eBin gSub (eCal gLen (aCons (eBin gIxB (eVar 0) (eCon (.int 2))) aNil)) (eCon (.int 1))) aNil) [some (.d (.tuple [.str "web", .int n, .tuple ws])), s1, none] S = some (.ok ((List.range (ws.length - 1)).map fun j => SV.d (.int ((0 : Int) + (j : Nat)))) S) := by
    rw [a_iRng1]
    have : (aCons (eBin gSub (eCal gLen (aCons (eBin gIxB (eVar 0) (eCon (.int 2))) aNil)) (eCon (.int 1))) aNil) [some (.d (.tuple [.str "web", .int n, .tuple ws])), s1, none] S = some (.ok [.d (.int ((ws.length : Int) - 1))] S) := by
      simp [atI, ixN]
    rw [this]
    simp only [bindM_ok]
    rw [show ((ws.length : Int) - 1).toNat = ws.length - 1 by omega]
    exact if_pos (inR_of ⟨by omega, by omega⟩)
  have c := eLc_mapF (S := S) (ρ := [some (.d (.tuple [.str "web", .int n, .tuple ws])), s1, none]) (vs := [2]) (tf := gNm 2) (elt := (eBin (cB gLeD) (eBin gIxB (eBin gIxB (eVar 0) (eCon (.int 2))) (eVar 2)) (eBin gIxB (eBin gIxB (eVar 0) (eCon (.int 2))) (eBin gAdd (eVar 2) (eCon (.int 1)))))) (l := List.range (ws.length - 1)) (fun j => SV.d (.int ((0 : Int) + (j : Nat)))) (fun j => SV.d (.bool (leW (ws.getD j .none) (ws.getD (j + 1) .none)))) it (fun j hj => by
    have hj := List.mem_range.mp hj
    refine ⟨[some (.d (.tuple [.str "web", .int n, .tuple ws])), s1, some (.d (.int ((0 : Int) + (j : Nat))))], rfl, ?_⟩
    have j1 : j < ws.length := by omega
    have j2 : j + 1 < ws.length := by omega
    have m1 : ws[j] ∈ ws := List.getElem_mem _
    have m2 : ws[j + 1] ∈ ws := List.getElem_mem _
    have g1 : ws.getD j .none = ws[j] := by simp [List.getD_eq_getElem?_getD, j1]
    have g2 : ws.getD (j + 1) .none = ws[j + 1] := by simp [List.getD_eq_getElem?_getD, j2]
    have a1 := atI_nat (ws.map SV.d) (j := j) (by simpa using j1)
    have a2 := atI_nat (ws.map SV.d) (j := j + 1) (by simpa using j2)
    have le := leW_eq (hw _ m1) hk (List.all_eq_true.mp ha _ m1) (List.all_eq_true.mp ha _ m2) S
    rw [g1, g2]
    simp only [List.getElem_map] at a1 a2
    rw [show ((j + 1 : Nat) : Int) = (j : Int) + 1 by omega] at a2
    have b0 : atI [SV.d (.str "web"), SV.d (.int n), SV.d (.tuple ws)] 2 = some (.d (.tuple ws)) := by simp [atI, ixN]
    simp [b0, a1, a2, le, cB]) (by rw [sizeLine_eq, List.length_range]; omega)
  have e : ((List.range (ws.length - 1)).map fun j => SV.d (.bool (leW (ws.getD j .none) (ws.getD (j + 1) .none)))) = ((List.range (ws.length - 1)).map fun j => leW (ws.getD j .none) (ws.getD (j + 1) .none)).map fun b => SV.d (.bool b) := by
    rw [List.map_map]
    rfl
  rw [e] at c
  have nb := notin_b S ((List.range (ws.length - 1)).map fun j => leW (ws.getD j .none) (ws.getD (j + 1) .none))
  rw [← srt_range] at nb
  generalize ((List.range (ws.length - 1)).map fun j => leW (ws.getD j .none) (ws.getD (j + 1) .none)) = bs at c nb
  have q0 : (eCon (.bool false)) [some (.d (.tuple [.str "web", .int n, .tuple ws])), s1, none] S = some (.ok (.d (.bool false)) S) := rfl
  unfold endW
  rw [a_sRet, a_eBin, q0, bindM_ok]
  erw [c]
  simp [cB, nb]
noncomputable abbrev w0 : Rho → Sto → Option VL.Fl := (sIf (bOr (bNot (bVal (eIsi1 (eVar 0) ["tuple"]))) (bOr (bB (eBin (cB gNe) (eCal gLen (aCons (eVar 0) aNil)) (eCon (.int 3)))) (bOr (bNot (bVal (eIsi1 (eBin gIxB (eVar 0) (eCon (.int 0))) ["str"]))) (bB (eBin (cB gNe) (eBin gIxB (eVar 0) (eCon (.int 0))) (eCon (.str "web")))))))
  (sRet (eCon (.bool false)))
  sNil)
noncomputable abbrev w1 : Rho → Sto → Option VL.Fl := (sIf (bOr (bNot (bVal (eCall 1 F__law_is_int [] (aCons (eBin gIx (eVar 0) (eCon (.int 1))) aNil)))) (bOr (bB (eBin (cB gLt) (eBin gIxB (eVar 0) (eCon (.int 1))) (eCon (.int 1)))) (bOr (bB (eBin (cB gGt) (eBin gIxB (eVar 0) (eCon (.int 1))) (eCon (.int 24)))) (bOr (bNot (bVal (eIsi1 (eBin gIxB (eVar 0) (eCon (.int 2))) ["tuple"]))) (bB (eBin (cB gGt) (eCal gLen (aCons (eBin gIxB (eVar 0) (eCon (.int 2))) aNil)) (eCon (.int 60))))))))
  (sRet (eCon (.bool false)))
  sNil)
noncomputable abbrev w2 : Rho → Sto → Option VL.Fl := (sFor (iSeq (eBin gIx (eVar 0) (eCon (.int 2)))) (gNm 1)
  (sSeq
  (sIf (bOr (bNot (bVal (eIsi1 (eVar 1) ["tuple"]))) (bOr (bB (eBin (cB gNe) (eCal gLen (aCons (eVar 1) aNil)) (eCon (.int 3)))) (bOr (bNot (bVal (eCall 1 F__law_is_int [] (aCons (eBin gIx (eVar 1) (eCon (.int 0))) aNil)))) (bNot (bVal (eCall 1 F__law_is_int [] (aCons (eBin gIx (eVar 1) (eCon (.int 1))) aNil)))))))
  (sRet (eCon (.bool false)))
  sNil)
  (sIf (bOr (bB (eBin (cB gLt) (eBin gIxB (eVar 1) (eCon (.int 0))) (eCon (.int 0)))) (bOr (bB (eBin (cB gGe) (eBin gIxB (eVar 1) (eCon (.int 0))) (eBin gIxB (eVar 1) (eCon (.int 1))))) (bOr (bB (eBin (cB gGe) (eBin gIxB (eVar 1) (eCon (.int 1))) (eBin gIxB (eVar 0) (eCon (.int 1))))) (bOr (bNot (bVal (eCall 1 F__law_is_fraction [] (aCons (eBin gIx (eVar 1) (eCon (.int 2))) aNil)))) (bB (eBin (cB gLt) (eBin gIxB (eBin gIxB (eVar 1) (eCon (.int 2))) (eCon (.int 0))) (eCon (.int 1))))))))
  (sRet (eCon (.bool false)))
  sNil)))
theorem lw_run (x : SV) (S : Sto) : G.F__law_is_web [x] S = (match sSeq w0 (sSeq w1 (sSeq w2 endW)) [some x, none, none] S with
      | some (.nx _ S') => some (.ok (.d .none) S')
      | some (.rt x S') => some (.ok x S')
      | some (.exc c fs _ S') => some (.exc c fs S')
      | _ => none) := rfl
theorem isWb_no (h : ¬ ∃ n ws, d = .tuple [.str "web", .int n, .tuple ws]) : isWb d = false := by
  unfold isWb
  split
  · rename_i w n ws
    by_cases e : w = "web"
    · subst e
      exact absurd ⟨n, ws, rfl⟩ h
    · rw [decide_eq_false e]
      rfl
  · rfl
theorem lisweb_eq (h : nc L k d = true) (hk : k ≤ 64) (S : Sto) : G.F__law_is_web [.d d] S = some (.ok (.d (.bool (isWb d))) S) := by
  rw [lw_run]
  cases d with
  | dict _ => cases k <;> cases h
  | tuple ds =>
    obtain ⟨j, rfl, hl, hx⟩ := nc_tup' h
    match ds with
    | [] => simp [cB, isWb]
    | [x] => simp [cB, isWb]
    | [x, y] => simp [cB, isWb]
    | x :: y :: z :: w :: r =>
      have l3 := @len4 r
      simp [cB, l3, isWb]
    | [w, m, t] =>
      have h1 := hx w (by simp)
      have h2 := hx m (by simp)
      have h3 := hx t (by simp)
      cases hw : isWeb w with
      | false =>
        have nw := ne_web h1 (by omega) S
        rw [hw] at nw
        have k0 : w0 [some (.d (.tuple [w, m, t])), none, none] S = some (.rt (.d (.bool false)) S) := by
          unfold w0
          cases w with
          | dict _ => cases j <;> cases h1
          | str s => simp [cB, atI, ixN, nw]
          | _ => simp [cB, atI, ixN]
        have : isWb (.tuple [w, m, t]) = false := isWb_no fun ⟨n, ws, e⟩ => by
          injection e with e
          injection e with e _
          subst e
          simp [isWeb] at hw
        rw [seq_rt k0, this]
      | true =>
        have nw := ne_web h1 (by omega) S
        rw [hw] at nw
        obtain rfl : w = .str "web" := by
          unfold isWeb at hw
          split at hw
          · rw [of_decide_eq_true hw]
          · cases hw
        have k0 : w0 [some (.d (.tuple [.str "web", m, t])), none, none] S = some (.nx [some (.d (.tuple [.str "web", m, t])), none, none] S) := by
          unfold w0
          simp [cB, atI, ixN, nw]
        rw [seq_nx k0 rfl]
        have i1 := lis_int h2 S
        cases m with
        | int n =>
          simp only [isI] at i1
          by_cases c1 : 1 ≤ n
          · have c1' : ¬ n < 1 := by omega
            by_cases c2 : n ≤ 24
            · have c2' : ¬ 24 < n := by omega
              cases t with
              | dict _ => cases j <;> cases h3
              | tuple ws =>
                by_cases c3 : ws.length ≤ 60
                · have c3' : ¬ (60 : Int) < (ws.length : Int) := by omega
                  have k1 : w1 [some (.d (.tuple [.str "web", .int n, .tuple ws])), none, none] S = some (.nx [some (.d (.tuple [.str "web", .int n, .tuple ws])), none, none] S) := by
                    unfold w1
                    simp [cB, i1, atI, ixN, c1', c2', c3']
                  rw [seq_nx k1 rfl]
                  obtain ⟨j2, rfl, _, hws⟩ := nc_tup' h3
                  have lp := loopW n ws none S ws hws none
                  have it : VL.iSeq (eBin gIx (eVar 0) (eCon (.int 2))) [some (.d (.tuple [.str "web", .int n, .tuple ws])), none, none] S = some (.ok (ws.map SV.d) S) := by
                    have b0 : atI [SV.d (.str "web"), SV.d (.int n), SV.d (.tuple ws)] 2 = some (.d (.tuple ws)) := by simp [atI, ixN]
                    rw [a_iSeq]
                    have : (eBin gIx (eVar 0) (eCon (.int 2))) [some (.d (.tuple [.str "web", .int n, .tuple ws])), none, none] S = some (.ok (.d (.tuple ws)) S) := by simp [b0]
                    rw [this, bindM_ok]
                    simp [seq?, noOwn_ds]
                  cases ha : ws.all (isWr n) with
                  | true =>
                    rw [if_pos ha] at lp
                    obtain ⟨y1, lp⟩ := lp
                    have k2 : w2 [some (.d (.tuple [.str "web", .int n, .tuple ws])), none, none] S = some (.nx [some (.d (.tuple [.str "web", .int n, .tuple ws])), y1, none] S) := by
                      unfold w2
                      rw [a_sFor]
                      erw [it]
                      rw [bindS_ok]
                      exact lp
                    have k3 := endW_eq hws (by omega) ha c3 y1 S
                    rw [seq_nx k2 k3]
                    simp [isWb, c1, c2, c3, ha]
                  | false =>
                    rw [if_neg (by rw [ha]; decide)] at lp
                    have k2 : w2 [some (.d (.tuple [.str "web", .int n, .tuple ws])), none, none] S = some (.rt (.d (.bool false)) S) := by
                      unfold w2
                      rw [a_sFor]
                      erw [it]
                      rw [bindS_ok]
                      exact lp
                    rw [seq_rt k2]
                    simp [isWb, ha]
                · have c3' : (60 : Int) < (ws.length : Int) := by omega
                  simp [cB, i1, atI, ixN, c1', c2', c3', isWb, c3]
              | _ => simp [cB, i1, atI, ixN, c1', c2', isWb]
            · have c2' : 24 < n := by omega
              cases t with
              | tuple ws => simp [cB, i1, atI, ixN, c1', c2', isWb, c2]
              | _ => simp [cB, i1, atI, ixN, c1', c2', isWb]
          · have c1' : n < 1 := by omega
            cases t with
            | tuple ws => simp [cB, i1, atI, ixN, c1', isWb, c1]
            | _ => simp [cB, i1, atI, ixN, c1', isWb]
        | dict _ => cases j <;> cases h2
        | _ =>
          simp only [isI] at i1
          simp [cB, i1, atI, ixN, isWb]
  | _ => simp [cB, isWb]
end
end M

end
section
set_option Elab.async false
set_option linter.all false
set_option maxRecDepth 100000
namespace M
open PySem PySem.Spec PyProof.Rows L2 VL G

section
variable {L k : Nat} {n : Int} {d w m t : PyData} {ws : List PyData} {S : Sto} {s1 s2 s3 s4 s5 s6 : Option SV}
noncomputable abbrev v0 : Rho → Sto → Option VL.Fl := (sIf (bOr (bNot (bVal (eIsi1 (eVar 0) ["tuple"]))) (bOr (bB (eBin (cB gNe) (eCal gLen (aCons (eVar 0) aNil)) (eCon (.int 3)))) (bB (eBin (cB gNe) (eBin gIxB (eVar 0) (eCon (.int 0))) (eCon (.str "web"))))))
  (sRet (eCon (.bool false)))
  sNil)
noncomputable abbrev v1 : Rho → Sto → Option VL.Fl := (sAsg (gTp 3 (gsCons (gNm 1) (gsCons (gNm 2) (gsCons (gNm 3) gsNil)))) (eVarV 0))
noncomputable abbrev v2 : Rho → Sto → Option VL.Fl := (sIf (bOr (bNot (bVal (eCall 3 F_is_integer [] (aCons (eVarV 2) (aCons (eCon (.int 1)) (aCons (eCon (.int 24)) aNil)))))) (bOr (bNot (bVal (eIsi1 (eVar 3) ["tuple"]))) (bB (eBin (cB gGt) (eCal gLen (aCons (eVar 3) aNil)) (eCon (.int 60))))))
  (sRet (eCon (.bool false)))
  sNil)
noncomputable abbrev v3 : Rho → Sto → Option VL.Fl := (sIf (bNot (bVal (eCal gAll (aCons (eLc (iSeq (eVar 3)) (gNm 4) bYes (eCall 2 F_is_wire [] (aCons (eVarV 4) (aCons (eVarV 2) aNil))) [4]) aNil))))
  (sRet (eCon (.bool false)))
  sNil)
noncomputable abbrev v4 : Rho → Sto → Option VL.Fl := (sRet (eCal gAll (aCons (eLc (iZip2 (aCons (eVar 3) (aCons (eSl (eVar 3) (pSome (eCon (.int 1))) pNone) aNil))) (gTp 2 (gsCons (gNm 5) (gsCons (gNm 6) gsNil))) bYes (eBin (cB gLeD) (eVar 5) (eVar 6)) [5, 6]) aNil)))
theorem iw_run (x : SV) (S : Sto) : G.F_is_web [x] S = (match sSeq v0 (sSeq v1 (sSeq v2 (sSeq v3 v4))) [some x, none, none, none, none, none, none] S with
      | some (.nx _ S') => some (.ok (.d .none) S')
      | some (.rt x S') => some (.ok x S')
      | some (.exc c fs _ S') => some (.exc c fs S')
      | _ => none) := rfl
abbrev rW (n : Int) (ws : List PyData) (s4 s5 s6 : Option SV) : Rho := [some (.d (.tuple [.str "web", .int n, .tuple ws])), some (.d (.str "web")), some (.d (.int n)), some (.d (.tuple ws)), s4, s5, s6]
theorem v3_eq (hw : ∀ u ∈ ws, nc L k u = true) (hl : ws.length ≤ 60) (S : Sto) : v3 (rW n ws s4 s5 s6) S = (if ws.all (isWr n) then some (.nx (rW n ws s4 s5 s6) S) else some (.rt (.d (.bool false)) S)) := by
  have c := eLc_mapF (S := S) (ρ := rW n ws s4 s5 s6) (vs := [4]) (it := VL.iSeq (eVar 3)) (tf := gNm 4) (elt := (eCall 2 F_is_wire [] (aCons (eVarV 4) (aCons (eVarV 2) aNil)))) (l := ws) (fun u => SV.d u) (fun u => SV.d (.bool (isWr n u))) (by
      rw [a_iSeq]
      have : (eVar 3) (rW n ws s4 s5 s6) S = some (.ok (.d (.tuple ws)) S) := rfl
      rw [this, bindM_ok]
      simp [seq?, noOwn_ds]) (fun u hu => by
      refine ⟨rW n ws (some (.d u)) s5 s6, rfl, ?_⟩
      have := iswire_eq (hw u hu) n S
      simp [this]) (by rw [sizeLine_eq]; omega)
  have e : (ws.map fun u => SV.d (.bool (isWr n u))) = (ws.map (isWr n)).map fun b => SV.d (.bool b) := by rw [List.map_map]; rfl
  rw [e] at c
  have ga := gAll_b S (ws.map (isWr n))
  have ea : (ws.map (isWr n)).all id = ws.all (isWr n) := by rw [List.all_map]; rfl
  rw [ea] at ga
  generalize (ws.map (isWr n)) = bs at c ga
  unfold v3
  rw [a_sIf]
  simp only [a_bNot, a_bVal, a_eCal, a_aCons, a_aNil]
  rw [c]
  cases h : ws.all (isWr n) with
  | true => rw [h] at ga; simp [ga]
  | false => rw [h] at ga; simp [ga]
theorem v4_eq (hw : ∀ u ∈ ws, nc L k u = true) (hk : k ≤ 64) (ha : ws.all (isWr n) = true) (hl : ws.length ≤ 60) (S : Sto) : v4 (rW n ws s4 s5 s6) S = some (.rt (.d (.bool (srt ws))) S) := by
  have ct : cutL ws (some 1) none = ws.tail := by
    rw [cut_from _ (by omega)]
    show ws.drop 1 = ws.tail
    exact List.drop_one
  have c := eLc_mapF (S := S) (ρ := rW n ws s4 s5 s6) (vs := [5, 6]) (it := VL.iZip2 (aCons (eVar 3) (aCons (eSl (eVar 3) (pSome (eCon (.int 1))) pNone) aNil))) (tf := (gTp 2 (gsCons (gNm 5) (gsCons (gNm 6) gsNil)))) (elt := (eBin (cB gLeD) (eVar 5) (eVar 6))) (l := ws.zip ws.tail) (fun p => SV.d (.tuple [p.1, p.2])) (fun p => SV.d (.bool (leW p.1 p.2))) (by
      have : (aCons (eVar 3) (aCons (eSl (eVar 3) (pSome (eCon (.int 1))) pNone) aNil)) (rW n ws s4 s5 s6) S = some (.ok [.d (.tuple ws), .d (.tuple ws.tail)] S) := by simp [eSl, pSome, pNone, ct]
      show VL.iZip2 _ _ _ = _
      unfold iZip2
      rw [this, bindM_ok]
      rfl) (fun p hp => by
      obtain ⟨x, y⟩ := p
      have m1 : x ∈ ws := (List.of_mem_zip hp).1
      have m2 : y ∈ ws := List.mem_of_mem_tail (List.of_mem_zip hp).2
      refine ⟨rW n ws s4 (some (.d x)) (some (.d y)), rfl, ?_⟩
      have le := leW_eq (hw _ m1) hk (List.all_eq_true.mp ha _ m1) (List.all_eq_true.mp ha _ m2) S
      simp [le, cB]) (by rw [sizeLine_eq, List.length_zip]; omega)
  have e : ((ws.zip ws.tail).map fun p => SV.d (.bool (leW p.1 p.2))) = ((ws.zip ws.tail).map fun p => leW p.1 p.2).map fun b => SV.d (.bool b) := by rw [List.map_map]; rfl
  rw [e] at c
  have ga := gAll_b S ((ws.zip ws.tail).map fun p => leW p.1 p.2)
  have ea : ((ws.zip ws.tail).map fun p => leW p.1 p.2).all id = srt ws := by rw [List.all_map]; rfl
  rw [ea] at ga
  generalize ((ws.zip ws.tail).map fun p => leW p.1 p.2) = bs at c ga
  unfold v4
  rw [a_sRet]
  simp only [a_eCal, a_aCons, a_aNil]
  rw [c]
  simp [ga]
theorem iswb_eq (h : nc L k d = true) (hk : k ≤ 64) (S : Sto) : G.F_is_web [.d d] S = some (.ok (.d (.bool (isWb d))) S) := by
  rw [iw_run]
  cases d with
  | dict _ => cases k <;> cases h
  | tuple ds =>
    obtain ⟨j, rfl, hl, hx⟩ := nc_tup' h
    match ds with
    | [] => simp [cB, isWb]
    | [x] => simp [cB, isWb]
    | [x, y] => simp [cB, isWb]
    | x :: y :: z :: w :: r =>
      have l3 := @len4 r
      simp [cB, l3, isWb]
    | [w, m, t] =>
      have h1 := hx w (by simp)
      have h2 := hx m (by simp)
      have h3 := hx t (by simp)
      have nw := ne_web h1 (by omega) S
      cases hw : isWeb w with
      | false =>
        rw [hw] at nw
        have : isWb (.tuple [w, m, t]) = false := isWb_no fun ⟨n, ws, e⟩ => by
          injection e with e
          injection e with e _
          subst e
          simp [isWeb] at hw
        have k0 : v0 [some (.d (.tuple [w, m, t])), none, none, none, none, none, none] S = some (.rt (.d (.bool false)) S) := by
          unfold v0
          simp [cB, atI, ixN, nw]
        rw [seq_rt k0, this]
      | true =>
        rw [hw] at nw
        obtain rfl : w = .str "web" := by
          unfold isWeb at hw
          split at hw
          · rw [of_decide_eq_true hw]
          · cases hw
        have k0 : v0 [some (.d (.tuple [.str "web", m, t])), none, none, none, none, none, none] S = some (.nx [some (.d (.tuple [.str "web", m, t])), none, none, none, none, none, none] S) := by
          unfold v0
          simp [cB, atI, ixN, nw]
        have k1 : v1 [some (.d (.tuple [.str "web", m, t])), none, none, none, none, none, none] S = some (.nx [some (.d (.tuple [.str "web", m, t])), some (.d (.str "web")), some (.d m), some (.d t), none, none, none] S) := by
          unfold v1
          simp
        rw [seq_nx k0 (seq_nx k1 rfl)]
        have i1 := isint_eq h2 1 24 S
        cases m with
        | int n =>
          simp only at i1
          by_cases c1 : 1 ≤ n
          · by_cases c2 : n ≤ 24
            · rw [decide_eq_true c1, decide_eq_true c2] at i1
              cases t with
              | dict _ => cases j <;> cases h3
              | tuple ws =>
                obtain ⟨j2, rfl, _, hws⟩ := nc_tup' h3
                by_cases c3 : ws.length ≤ 60
                · have c3' : ¬ (60 : Int) < (ws.length : Int) := by omega
                  have k2 : v2 (rW n ws none none none) S = some (.nx (rW n ws none none none) S) := by
                    unfold v2
                    simp [cB, i1, c3']
                  have k3 := v3_eq (n := n) (s4 := none) (s5 := none) (s6 := none) hws c3 S
                  cases ha : ws.all (isWr n) with
                  | true =>
                    rw [if_pos ha] at k3
                    rw [seq_nx k2 (seq_nx k3 (v4_eq hws (by omega) ha c3 S))]
                    simp [isWb, c1, c2, c3, ha]
                  | false =>
                    rw [if_neg (by rw [ha]; decide)] at k3
                    rw [seq_nx k2 (seq_rt k3)]
                    simp [isWb, ha]
                · have c3' : (60 : Int) < (ws.length : Int) := by omega
                  have k2 : v2 (rW n ws none none none) S = some (.rt (.d (.bool false)) S) := by
                    unfold v2
                    simp [cB, i1, c3']
                  rw [seq_rt k2]
                  simp [isWb, c3]
              | _ => simp [cB, i1, isWb]
            · rw [decide_eq_true c1, decide_eq_false c2] at i1
              cases t with
              | tuple ws => simp [cB, i1, isWb, c2]
              | _ => simp [cB, i1, isWb]
          · rw [decide_eq_false c1] at i1
            cases t with
            | tuple ws => simp [cB, i1, isWb, c1]
            | _ => simp [cB, i1, isWb]
        | dict _ => cases j <;> cases h2
        | _ =>
          simp only at i1
          simp [cB, i1, isWb]
  | _ => simp [cB, isWb]
end
end M

end
section
set_option Elab.async false
set_option linter.all false
set_option maxRecDepth 100000
namespace M
open PySem PySem.Spec PyProof.Rows L2 VL G

abbrev iS (i : Int) : SV := .d (.int i)
abbrev iL (ns : List Int) : SV := .own (ns.map iS)
theorem allD_iL (ns : List Int) : allD (ns.map iS) = some (ns.map PyData.int) := by
  have : ns.map iS = (ns.map PyData.int).map SV.d := by rw [List.map_map]; rfl
  rw [this]
  exact allD_map _
theorem datO_iL : ∀ ns : List Int, datOs (ns.map iS) = some (ns.map PyData.int)
  | [] => rfl
  | n :: ns => by simp [datOs, datO, datO_iL ns]
/-- two ints sorted -/
theorem sort2 (x y : Int) (S : Sto) : ∃ l h, gSorted S [.own [iS x, iS y]] = some (.own [iS l, iS h]) := by
  have ok : sortOk [.int x, .int y] = true := by
    have s1 : ∀ z : Int, SeqAt.shaped (.int z) = true := fun z => by
      show (PyData.canLay0 (.int z) && decide (PyData.depth (.int z) ≤ 64)) = true
      simp [PyData.canLay0, PyData.depth]
    unfold sortOk
    simp [PySem.W.alike, s1, isPlain, isTup1, sizeLine_eq]
  have p : (sortD [.int x, .int y]).Perm [.int x, .int y] := List.mergeSort_perm _ _
  obtain ⟨l, h, e⟩ : ∃ l h, sortD [.int x, .int y] = [.int l, .int h] := by
    have hl := p.length_eq
    match hs : sortD [.int x, .int y] with
    | [] => rw [hs] at hl; simp at hl
    | [_] => rw [hs] at hl; simp at hl
    | _ :: _ :: _ :: _ => rw [hs] at hl; simp at hl
    | [u, v] =>
      rw [hs] at p
      have m1 := p.mem_iff.mp (show u ∈ [u, v] by simp)
      have m2 := p.mem_iff.mp (show v ∈ [u, v] by simp)
      have f : ∀ z, z ∈ [PyData.int x, PyData.int y] → ∃ i, z = .int i := fun z m => by
        simp only [List.mem_cons, List.not_mem_nil, or_false] at m
        rcases m with rfl | rfl <;> exact ⟨_, rfl⟩
      obtain ⟨i, rfl⟩ := f u m1
      obtain ⟨j, rfl⟩ := f v m2
      exact ⟨i, j, rfl⟩
  refine ⟨l, h, ?_⟩
  unfold gSorted
  simp only [lst?, allD, Option.map_some, Option.bind_some, ok, if_true, e, List.map_cons, List.map_nil]
section
variable {n : Int} {ns : List Int} {S : Sto} {s0 s1 s3 s4 s5 s6 s7 : Option SV}
noncomputable abbrev bodyN : Rho → Sto → Option VL.Fl := (sSeq
  (sAsg (gTl 2 (gsCons (gNm 5) (gsCons (gNm 6) gsNil))) (eCal gSorted (aCons (eLst (aCons (eBin gIx (eVar 2) (eVar 3)) (aCons (eBin gIx (eVar 2) (eVar 4)) aNil))) aNil)))
  (sSet 2 (eLc (iSeq (eVar 2)) (gNm 7) bYes (eIf (bB (eBin (cB gEq) (eVar 7) (eVar 6))) (eVarV 5) (eVarV 7)) [7])))
theorem atI_iL (ns : List Int) {a : Int} (h0 : 0 ≤ a) (h1 : a < ns.length) : ∃ x, atI (ns.map iS) a = some (iS x) := by
  obtain ⟨j, rfl⟩ : ∃ j : Nat, a = (j : Int) := ⟨a.toNat, by omega⟩
  have hj : j < ns.length := by omega
  exact ⟨ns[j], by rw [atI_nat _ (by simpa using hj)]; simp⟩
theorem gIx_iL (S : Sto) (ns : List Int) (a : Int) : gIx S (iL ns) (.d (.int a)) = (atI (ns.map iS) a).bind fun z => if noOwn z then some z else none := rfl
theorem bodyN_eq {a b : Int} (a0 : 0 ≤ a) (a1 : a < ns.length) (b0 : 0 ≤ b) (b1 : b < ns.length) (hl : ns.length ≤ 100) (S : Sto) : ∃ ns' y5 y6, ns'.length = ns.length ∧ bodyN [s0, s1, some (iL ns), some (iS a), some (iS b), s5, s6, none] S = some (.nx [s0, s1, some (iL ns'), some (iS a), some (iS b), y5, y6, none] S) := by
  obtain ⟨x, hx⟩ := atI_iL ns a0 a1
  obtain ⟨y, hy⟩ := atI_iL ns b0 b1
  obtain ⟨l, h, hs⟩ := sort2 x y S
  have k0 : (sAsg (gTl 2 (gsCons (gNm 5) (gsCons (gNm 6) gsNil))) (eCal gSorted (aCons (eLst (aCons (eBin gIx (eVar 2) (eVar 3)) (aCons (eBin gIx (eVar 2) (eVar 4)) aNil))) aNil))) [s0, s1, some (iL ns), some (iS a), some (iS b), s5, s6, none] S = some (.nx [s0, s1, some (iL ns), some (iS a), some (iS b), some (iS l), some (iS h), none] S) := by
    simp [gIx_iL, hx, hy, sizeLine_eq, hs, frz, datO, datOs]
  have c := eLc_mapF (S := S) (ρ := [s0, s1, some (iL ns), some (iS a), some (iS b), some (iS l), some (iS h), none]) (vs := [7]) (it := VL.iSeq (eVar 2)) (tf := gNm 7) (elt := (eIf (bB (eBin (cB gEq) (eVar 7) (eVar 6))) (eVarV 5) (eVarV 7))) (l := ns) (fun u => iS u) (fun u => iS (if u = h then l else u)) (by
      rw [a_iSeq]
      have : (eVar 2) [s0, s1, some (iL ns), some (iS a), some (iS b), some (iS l), some (iS h), none] S = some (.ok (iL ns) S) := rfl
      rw [this, bindM_ok]
      have nn : (ns.map iS).all noOwn = true := List.all_eq_true.mpr fun z m => by
        obtain ⟨d, _, rfl⟩ := List.mem_map.mp m
        rfl
      simp [seq?, lst?]) (fun u hu => by
      refine ⟨[s0, s1, some (iL ns), some (iS a), some (iS b), some (iS l), some (iS h), some (iS u)], rfl, ?_⟩
      by_cases e : u = h <;> simp [eIf, cB, e]) (by rw [sizeLine_eq]; omega)
  refine ⟨ns.map fun u => if u = h then l else u, some (iS l), some (iS h), by simp, ?_⟩
  refine seq_nx k0 ?_
  rw [a_sSet, c]
  simp [List.map_map, Function.comp_def]
theorem loopN (s0 s1 : Option SV) (S : Sto) : ∀ (ps : List (Int × Int)) (ns : List Int), ns.length ≤ 100 → (∀ p ∈ ps, 0 ≤ p.1 ∧ p.1 < ns.length ∧ 0 ≤ p.2 ∧ p.2 < ns.length) → ∀ s3 s4 s5 s6, ∃ ns' y3 y4 y5 y6, ns'.length = ns.length ∧
    forL (gTp 2 (gsCons (gNm 3) (gsCons (gNm 4) gsNil))) bodyN (ps.map fun p => SV.d (.tuple [.int p.1, .int p.2])) [s0, s1, some (iL ns), s3, s4, s5, s6, none] S = some (.nx [s0, s1, some (iL ns'), y3, y4, y5, y6, none] S)
  | [], ns, _, _, s3, s4, s5, s6 => ⟨ns, s3, s4, s5, s6, rfl, rfl⟩
  | p :: ps, ns, hl, h, s3, s4, s5, s6 => by
    obtain ⟨h1, h2, h3, h4⟩ := h p List.mem_cons_self
    obtain ⟨ns1, y5, y6, e1, b⟩ := bodyN_eq (s0 := s0) (s1 := s1) (s5 := s5) (s6 := s6) h1 h2 h3 h4 hl S
    obtain ⟨ns2, z3, z4, z5, z6, e2, q⟩ := loopN s0 s1 S ps ns1 (by omega) (fun p m => by
      have := h p (List.mem_cons_of_mem _ m)
      rw [e1]
      exact this) (some (iS p.1)) (some (iS p.2)) y5 y6
    refine ⟨ns2, z3, z4, z5, z6, by omega, ?_⟩
    rw [List.map_cons]
    unfold forL
    simp only [a_gTp, List.length_cons, List.length_nil, if_true, List.map_cons, List.map_nil, a_gsCons, a_gNm, Option.bind_some, a_gsNil, List.set_cons_succ, List.set_cons_zero, b]
    exact q
end
theorem names_eq {n : Int} (n1 : 1 ≤ n) (n2 : n ≤ 24) {ps : List (Int × Int)} (h : ∀ p ∈ ps, 0 ≤ p.1 ∧ p.1 < n ∧ 0 ≤ p.2 ∧ p.2 < n) (S : Sto) : ∃ ns : List Int, ns.length = n.toNat ∧ G.F_names_of [.d (.int n), .d (.list (ps.map fun p => PyData.tuple [.int p.1, .int p.2]))] S = some (.ok (iL ns) S) := by
  have r1 : ((rgD 0 n.toNat).map SV.d) = (((List.range n.toNat).map fun k => (0 : Int) + (k : Nat)).map iS) := by
    unfold rgD
    rw [List.map_map, List.map_map]
    rfl
  generalize hns : ((List.range n.toNat).map fun k => (0 : Int) + (k : Nat)) = ns0 at r1
  have l0 : ns0.length = n.toNat := by rw [← hns]; simp
  obtain ⟨ns, y3, y4, y5, y6, e1, lp⟩ := loopN (some (.d (.int n))) (some (.d (.list (ps.map fun p => PyData.tuple [.int p.1, .int p.2])))) S ps ns0 (by omega) (fun p m => by
    obtain ⟨a, b, c, d⟩ := h p m
    exact ⟨a, by omega, c, by omega⟩) none none none none
  have k0 : (sSet 2 (eLrg1 (eVar 0))) [some (.d (.int n)), some (.d (.list (ps.map fun p => PyData.tuple [.int p.1, .int p.2]))), none, none, none, none, none, none] S = some (.nx [some (.d (.int n)), some (.d (.list (ps.map fun p => PyData.tuple [.int p.1, .int p.2]))), some (iL ns0), none, none, none, none, none] S) := by
    have hn : n.natAbs ≤ 16777216 := by omega
    simp [eLrg1, hn, r1]
  have it : VL.iSeq (eVarV 1) [some (.d (.int n)), some (.d (.list (ps.map fun p => PyData.tuple [.int p.1, .int p.2]))), some (iL ns0), none, none, none, none, none] S = some (.ok (ps.map fun p => SV.d (.tuple [.int p.1, .int p.2])) S) := by
    rw [a_iSeq]
    have : (eVarV 1) [some (.d (.int n)), some (.d (.list (ps.map fun p => PyData.tuple [.int p.1, .int p.2]))), some (iL ns0), none, none, none, none, none] S = some (.ok (.d (.list (ps.map fun p => PyData.tuple [.int p.1, .int p.2]))) S) := rfl
    rw [this, bindM_ok]
    have e : (ps.map fun p => PyData.tuple [.int p.1, .int p.2]).map SV.d = ps.map fun p => SV.d (.tuple [.int p.1, .int p.2]) := by rw [List.map_map]; rfl
    show (if false = true then none else (lst? S (.d (.list (ps.map fun p => PyData.tuple [.int p.1, .int p.2])))).bind fun xs => if xs.all noOwn = true then some (Res.ok xs S) else none) = _
    have nn := noOwn_ds (ps.map fun p => PyData.tuple [.int p.1, .int p.2])
    rw [e] at nn
    simp only [Bool.false_eq_true, if_false, lst?, Option.bind_some, e, nn, if_true]
  refine ⟨ns, by omega, ?_⟩
  have e : G.f_names_of [some (.d (.int n)), some (.d (.list (ps.map fun p => PyData.tuple [.int p.1, .int p.2]))), none, none, none, none, none, none] S = some (.rt (iL ns) S) := by
    refine seq_nx k0 ?_
    rw [a_sSeq, a_sFor]
    erw [it]
    rw [bindS_ok]
    erw [lp]
    rfl
  have r : G.F_names_of [.d (.int n), .d (.list (ps.map fun p => PyData.tuple [.int p.1, .int p.2]))] S = (match G.f_names_of [some (.d (.int n)), some (.d (.list (ps.map fun p => PyData.tuple [.int p.1, .int p.2]))), none, none, none, none, none, none] S with
      | some (.nx _ S') => some (.ok (.d .none) S')
      | some (.rt x S') => some (.ok x S')
      | some (.exc c fs _ S') => some (.exc c fs S')
      | _ => none) := rfl
  rw [r, e]
/-! pieces -/
section
variable {L k : Nat} {n : Int} {ws : List PyData} {S : Sto} {s0 s2 s3 : Option SV}
abbrev wD (n : Int) (ws : List PyData) : PyData := .tuple [.str "web", .int n, .tuple ws]
theorem wires_pairs : ∀ {ws : List PyData}, ws.all (isWr n) = true → ∃ ps : List (Int × Int), (∀ p ∈ ps, 0 ≤ p.1 ∧ p.1 < n ∧ 0 ≤ p.2 ∧ p.2 < n) ∧ ws.map (fun w => match w with | .tuple ds => PyData.tuple (cutL ds none (some 2)) | _ => .none) = ps.map fun p => PyData.tuple [.int p.1, .int p.2]
  | [], _ => ⟨[], (fun p m => nomatch m), rfl⟩
  | w :: ws, h => by
    rw [List.all_cons, Bool.and_eq_true] at h
    obtain ⟨ps, h1, h2⟩ := wires_pairs h.2
    obtain ⟨a, b, p, q, rfl, a0, ab, bn⟩ := isWr_form h.1
    refine ⟨(a, b) :: ps, fun p m => ?_, ?_⟩
    · rcases List.mem_cons.mp m with rfl | m
      · exact ⟨a0, by show a < n; omega, by show 0 ≤ b; omega, bn⟩
      · exact h1 p m
    · rw [List.map_cons, List.map_cons, h2]
      congr 1
theorem piece_names_eq (n1 : 1 ≤ n) (n2 : n ≤ 24) (ha : ws.all (isWr n) = true) (hl : ws.length ≤ 60) (S : Sto) : ∃ ns : List Int, ns.length = n.toNat ∧ G.F_piece_names [.d (wD n ws)] S = some (.ok (iL ns) S) := by
  obtain ⟨ps, hp, e⟩ := wires_pairs ha
  obtain ⟨ns, e1, q⟩ := names_eq n1 n2 hp S
  refine ⟨ns, e1, ?_⟩
  have b1 : atI [SV.d (.str "web"), SV.d (.int n), SV.d (.tuple ws)] 1 = some (.d (.int n)) := by simp [atI, ixN]
  have b2 : atI [SV.d (.str "web"), SV.d (.int n), SV.d (.tuple ws)] 2 = some (.d (.tuple ws)) := by simp [atI, ixN]
  have c := eLc_mapF (S := S) (ρ := [some (.d (wD n ws)), none]) (vs := [1]) (it := VL.iSeq (eBin gIxB (eVar 0) (eCon (.int 2)))) (tf := gNm 1) (elt := (eSl (eVar 1) pNone (pSome (eCon (.int 2))))) (l := ws) (fun u => SV.d u) (fun w => SV.d (match w with | .tuple ds => PyData.tuple (cutL ds none (some 2)) | _ => .none)) (by
      rw [a_iSeq]
      have : (eBin gIxB (eVar 0) (eCon (.int 2))) [some (.d (wD n ws)), none] S = some (.ok (.d (.tuple ws)) S) := by simp [b2]
      rw [this, bindM_ok]
      simp [seq?, noOwn_ds]) (fun u hu => by
      refine ⟨[some (.d (wD n ws)), some (.d u)], rfl, ?_⟩
      obtain ⟨a, b, p, q, rfl, _⟩ := isWr_form (List.all_eq_true.mp ha u hu)
      simp [eSl, pNone, pSome]) (by rw [sizeLine_eq]; omega)
  have e2 : (ws.map fun w => SV.d (match w with | .tuple ds => PyData.tuple (cutL ds none (some 2)) | _ => .none)) = (ps.map fun p => PyData.tuple [.int p.1, .int p.2]).map SV.d := by
    rw [← e, List.map_map]
    rfl
  rw [e2] at c
  have cv : cvt [] [SV.d (.int n), .own ((ps.map fun p => PyData.tuple [.int p.1, .int p.2]).map SV.d)] S = some ([.d (.int n), .d (.list (ps.map fun p => PyData.tuple [.int p.1, .int p.2]))], S) := by
    have : datOs ((ps.map fun p => PyData.tuple [.int p.1, .int p.2]).map SV.d) = some (ps.map fun p => PyData.tuple [.int p.1, .int p.2]) := by
      generalize (ps.map fun p => PyData.tuple [.int p.1, .int p.2]) = l
      induction l with
      | nil => rfl
      | cons x l ih => simp [datOs, datO, ih]
    simp only [cvt, frz, noOwn, if_true, Option.bind_some, Bool.false_eq_true, if_false, datO, this, Option.map_some]
  have r : G.F_piece_names [.d (wD n ws)] S = (match G.f_piece_names [some (.d (wD n ws)), none] S with
      | some (.nx _ S') => some (.ok (.d .none) S')
      | some (.rt x S') => some (.ok x S')
      | some (.exc c fs _ S') => some (.exc c fs S')
      | _ => none) := rfl
  have q1 : (eBin gIx (eVar 0) (eCon (.int 1))) [some (.d (wD n ws)), none] S = some (.ok (.d (.int n)) S) := by simp [b1]
  have f : G.f_piece_names [some (.d (wD n ws)), none] S = some (.rt (iL ns) S) := by
    unfold G.f_piece_names
    rw [a_sRet, a_eCall, a_aCons, q1, bindM_ok, a_aCons, c, bindM_ok, a_aNil]
    simp only [bindM_ok, List.length_cons, List.length_nil, if_true, cv, Option.bind_some, q, bindS_ok]
  rw [r, f]
end
end M

end
section
set_option Elab.async false
set_option linter.all false
set_option maxRecDepth 100000
namespace M
open PySem PySem.Spec PyProof.Rows L2 VL G

structure Dv (ks : List Int) (xs : List SV) (N : Nat) : Prop where
  l : xs.length = ks.length
  n : ks.length ≤ N
  v : ∀ x ∈ xs, ∃ ys : List Int, x = iL ys ∧ ys.length ≤ N
section
variable {ks : List Int} {xs : List SV} {N : Nat} {S : Sto} {s0 s2 s3 : Option SV}
theorem grp_eq (D : Dv ks xs N) (hN : N ≤ 1000) (i v : Int) (S : Sto) : ∃ ks' xs', Dv ks' xs' (N + 1) ∧ sGrp 1 3 2 [s0, some (.dic ks xs), some (iS i), some (iS v)] S = some (.nx [s0, some (.dic ks' xs'), some (iS i), some (iS v)] S) := by
  have hk : ks.length < sizeLine := by have := D.n; rw [sizeLine_eq]; omega
  cases hp : posK ks v with
  | some p =>
    have pl := posK_lt hp
    have pl2 : p < xs.length := by have := D.l; omega
    have hx : xs[p]? = some xs[p] := List.getElem?_eq_getElem pl2
    obtain ⟨ys, ey, ly⟩ := D.v xs[p] (List.getElem_mem _)
    rw [ey] at hx
    have hy : (ys.map iS).length < sizeLine := by rw [List.length_map, sizeLine_eq]; omega
    refine ⟨ks, xs.set p (iL (ys ++ [i])), ⟨by rw [List.length_set]; exact D.l, by have := D.n; omega, fun x m => ?_⟩, ?_⟩
    · rcases List.mem_or_eq_of_mem_set m with m | rfl
      · obtain ⟨zs, e, l⟩ := D.v x m
        exact ⟨zs, e, by omega⟩
      · exact ⟨_, rfl, by simp; omega⟩
    · unfold sGrp
      simp only [List.getElem?_cons_succ, List.getElem?_cons_zero, hk, if_true, hp, hx, hy, List.set_cons_succ, List.set_cons_zero]
      rw [show iL (ys ++ [i]) = SV.own (ys.map iS ++ [iS i]) by unfold iL; rw [List.map_append]; rfl]
  | none =>
    refine ⟨ks ++ [v], xs ++ [iL [i]], ⟨by simp [D.l], by have := D.n; simp; omega, fun x m => ?_⟩, ?_⟩
    · rcases List.mem_append.mp m with m | m
      · obtain ⟨zs, e, l⟩ := D.v x m
        exact ⟨zs, e, by omega⟩
      · cases List.mem_singleton.mp m
        exact ⟨[i], rfl, by simp⟩
    · unfold sGrp
      simp only [List.getElem?_cons_succ, List.getElem?_cons_zero, hk, if_true, hp, List.set_cons_succ, List.set_cons_zero]
      rfl
theorem loopG (s0 : Option SV) (S : Sto) : ∀ (l : List (Int × Int)) (ks : List Int) (xs : List SV) (N : Nat), Dv ks xs N → N + l.length ≤ 1000 → ∀ s2 s3, ∃ ks' xs' y2 y3, Dv ks' xs' (N + l.length) ∧
    forL (gTp 2 (gsCons (gNm 2) (gsCons (gNm 3) gsNil))) (sGrp 1 3 2) (l.map fun p => SV.d (.tuple [.int p.1, .int p.2])) [s0, some (.dic ks xs), s2, s3] S = some (.nx [s0, some (.dic ks' xs'), y2, y3] S)
  | [], ks, xs, N, D, _, s2, s3 => ⟨ks, xs, s2, s3, D, rfl⟩
  | p :: l, ks, xs, N, D, hN, s2, s3 => by
    rw [List.length_cons] at hN
    obtain ⟨ks1, xs1, D1, b⟩ := grp_eq (s0 := s0) D (by omega) p.1 p.2 S
    obtain ⟨ks2, xs2, y2, y3, D2, q⟩ := loopG s0 S l ks1 xs1 (N + 1) D1 (by omega) (some (iS p.1)) (some (iS p.2))
    refine ⟨ks2, xs2, y2, y3, by rw [List.length_cons, show N + (l.length + 1) = N + 1 + l.length by omega]; exact D2, ?_⟩
    rw [List.map_cons]
    unfold forL
    simp only [a_gTp, List.length_cons, List.length_nil, if_true, List.map_cons, List.map_nil, a_gsCons, a_gNm, Option.bind_some, a_gsNil, List.set_cons_succ, List.set_cons_zero, b]
    exact q
theorem posK_mem : ∀ {ks : List Int} {k : Int}, k ∈ ks → ∃ p, posK ks k = some p
  | a :: ks, k, m => by
    unfold posK
    by_cases e : a = k
    · exact ⟨0, if_pos e⟩
    · rw [if_neg e]
      rcases List.mem_cons.mp m with m | m
      · exact absurd m.symm e
      · obtain ⟨p, hp⟩ := posK_mem m
        exact ⟨p + 1, by rw [hp]; rfl⟩
theorem enum_ints (ns : List Int) : enumL (ns.map PyData.int) = (ns.zipIdx.map fun p => ((p.2 : Int), p.1)).map fun p => SV.d (.tuple [.int p.1, .int p.2]) := by
  unfold enumL
  rw [List.zipIdx_map, List.map_map, List.map_map]
  rfl
end
section
variable {L k : Nat} {n : Int} {d : PyData} {ws : List PyData} {S : Sto}
theorem all_pieces_eq (n1 : 1 ≤ n) (n2 : n ≤ 24) (ha : ws.all (isWr n) = true) (hl : ws.length ≤ 60) (S : Sto) : ∃ r, G.F_all_pieces [.d (wD n ws)] S = some (.ok (.d r) S) := by
  obtain ⟨ns, e1, pn⟩ := piece_names_eq n1 n2 ha hl S
  obtain ⟨ks, xs, y2, y3, D, lp⟩ := loopG (some (.d (wD n ws))) S (ns.zipIdx.map fun p => ((p.2 : Int), p.1)) [] [] 0 ⟨rfl, Nat.le_refl _, fun x m => nomatch m⟩ (by simp; omega) none none
  rw [← enum_ints] at lp
  have hks : ks.length < 64 := by
    have := D.n
    simp at this
    omega
  have k0 : (sSet 1 eDic0) [some (.d (wD n ws)), none, none, none] S = some (.nx [some (.d (wD n ws)), some (.dic [] []), none, none] S) := rfl
  have it : VL.iEnum1 (aCons (eCall 1 F_piece_names [] (aCons (eVarV 0) aNil)) aNil) [some (.d (wD n ws)), some (.dic [] []), none, none] S = some (.ok (enumL (ns.map PyData.int)) S) := by
    have : (aCons (eCall 1 F_piece_names [] (aCons (eVarV 0) aNil)) aNil) [some (.d (wD n ws)), some (.dic [] []), none, none] S = some (.ok [iL ns] S) := by simp [pn]
    unfold VL.iEnum1
    rw [this, bindM_ok]
    simp only [plainL, allD_iL, Option.map_some]
  have k1 : (sFor (iEnum1 (aCons (eCall 1 F_piece_names [] (aCons (eVarV 0) aNil)) aNil)) (gTp 2 (gsCons (gNm 2) (gsCons (gNm 3) gsNil)))
  (sGrp 1 3 2)) [some (.d (wD n ws)), some (.dic [] []), none, none] S = some (.nx [some (.d (wD n ws)), some (.dic ks xs), y2, y3] S) := by
    rw [a_sFor]
    erw [it]
    rw [bindS_ok]
    exact lp
  have hx : ∀ u ∈ intSort ks, ∃ ys : List Int, (posK ks u).bind (xs[·]?) = some (iL ys) := fun u m => by
    have m2 : u ∈ ks := (List.mergeSort_perm ks _).mem_iff.mp m
    obtain ⟨p, hp⟩ := posK_mem m2
    have pl := posK_lt hp
    have pl2 : p < xs.length := by have := D.l; omega
    have h2 : xs[p]? = some xs[p] := List.getElem?_eq_getElem pl2
    obtain ⟨ys, ey, _⟩ := D.v xs[p] (List.getElem_mem _)
    exact ⟨ys, by rw [hp]; show xs[p]? = _; rw [h2, ey]⟩
  have c := eLc_mapF (S := S) (ρ := [some (.d (wD n ws)), some (.dic ks xs), y2, y3]) (vs := [3]) (it := VL.iSeq (eCal gSortDic (aCons (eVar 1) aNil))) (tf := gNm 3) (elt := (eCal gTuple (aCons (eBin gIxDic (eVar 1) (eVar 3)) aNil))) (l := intSort ks) (fun u => iS u) (fun u => SV.d (match (posK ks u).bind (xs[·]?) with | some (.own zs) => .tuple ((allD zs).getD []) | _ => .none)) (by
      rw [a_iSeq]
      have : (eCal gSortDic (aCons (eVar 1) aNil)) [some (.d (wD n ws)), some (.dic ks xs), y2, y3] S = some (.ok (iL (intSort ks)) S) := by simp [gSortDic, hks]
      rw [this, bindM_ok]
      simp [seq?, lst?]) (fun u hu => by
      refine ⟨[some (.d (wD n ws)), some (.dic ks xs), y2, some (iS u)], rfl, ?_⟩
      obtain ⟨ys, hy⟩ := hx u hu
      have g1 : gIxDic S (.dic ks xs) (iS u) = some (iL ys) := hy
      rw [hy]
      have g2 : gTuple S [iL ys] = some (.d (.tuple (ys.map PyData.int))) := by
        show (lst? S (iL ys)).bind (fun ys => (allD ys).map fun ds => SV.d (.tuple ds)) = _
        simp only [lst?, Option.bind_some, allD_iL, Option.map_some]
      simp only [allD_iL, Option.getD_some]
      simp [g1, g2]) (by rw [sizeLine_eq, show (intSort ks).length = ks.length from List.length_mergeSort ks]; omega)
  generalize hf : (fun u => (match (posK ks u).bind (xs[·]?) with | some (.own zs) => PyData.tuple ((allD zs).getD []) | _ => .none)) = h
  have c' : (eLc (VL.iSeq (eCal gSortDic (aCons (eVar 1) aNil))) (gNm 3) bYes (eCal gTuple (aCons (eBin gIxDic (eVar 1) (eVar 3)) aNil)) [3]) [some (.d (wD n ws)), some (.dic ks xs), y2, y3] S = some (.ok (.own (((intSort ks).map h).map SV.d)) S) := by
    rw [c, ← hf, List.map_map]
    rfl
  have g3 : gTuple S [.own (((intSort ks).map h).map SV.d)] = some (.d (.tuple ((intSort ks).map h))) := by
    show (lst? S (.own (((intSort ks).map h).map SV.d))).bind (fun ys => (allD ys).map fun ds => SV.d (.tuple ds)) = _
    simp only [lst?, Option.bind_some, allD_map, Option.map_some]
  refine ⟨.tuple ((intSort ks).map h), ?_⟩
  have k2 : (sRet (eCal gTuple (aCons (eLc (iSeq (eCal gSortDic (aCons (eVar 1) aNil))) (gNm 3) bYes (eCal gTuple (aCons (eBin gIxDic (eVar 1) (eVar 3)) aNil)) [3]) aNil))) [some (.d (wD n ws)), some (.dic ks xs), y2, y3] S = some (.rt (.d (.tuple ((intSort ks).map h))) S) := by
    rw [a_sRet]
    simp only [a_eCal, a_aCons, a_aNil]
    rw [c']
    simp only [bindM_ok, g3, Option.map_some, bindS_ok]
  have f : G.f_all_pieces [some (.d (wD n ws)), none, none, none] S = some (.rt (.d (.tuple ((intSort ks).map h))) S) := seq_nx k0 (seq_nx k1 k2)
  have r : G.F_all_pieces [.d (wD n ws)] S = (match G.f_all_pieces [some (.d (wD n ws)), none, none, none] S with
      | some (.nx _ S') => some (.ok (.d .none) S')
      | some (.rt x S') => some (.ok x S')
      | some (.exc c fs _ S') => some (.exc c fs S')
      | _ => none) := rfl
  rw [r, f]
theorem isWb_form (h : isWb d = true) : ∃ n ws, d = wD n ws ∧ 1 ≤ n ∧ n ≤ 24 ∧ ws.length ≤ 60 ∧ ws.all (isWr n) = true := by
  unfold isWb at h
  split at h
  · rename_i w n ws
    simp only [Bool.and_eq_true, decide_eq_true_eq] at h
    obtain ⟨⟨⟨⟨⟨rfl, h1⟩, h2⟩, h3⟩, h4⟩, _⟩ := h
    exact ⟨n, ws, rfl, h1, h2, h3, h4⟩
  · cases h
theorem mt_ww : G.mt "BadWeb" "BadWeb" = some true := by decide +kernel
theorem refuses_eq (h : nc L k d = true) (hk : k ≤ 64) (S : Sto) : G.F__law_refuses [.d d] S = some (.ok (.d (.bool (!isWb d))) S) := by
  have w := iswb_eq h hk S
  cases e : isWb d with
  | true =>
    rw [e] at w
    obtain ⟨n, ws, rfl, n1, n2, hl, ha⟩ := isWb_form e
    obtain ⟨r, ap⟩ := all_pieces_eq n1 n2 ha hl S
    have cw : G.F_check_web [.d (wD n ws)] S = some (.ok (.d .none) S) := by
      unfold G.F_check_web runF rho0 G.f_check_web
      simp [w]
    have pc : G.F_pieces [.d (wD n ws)] S = some (.ok (.d r) S) := by
      unfold G.F_pieces runF rho0 G.f_pieces
      simp [cw, ap]
    unfold G.F__law_refuses runF rho0 G.f__law_refuses sTry
    simp [pc]
  | false =>
    rw [e] at w
    have cw : G.F_check_web [.d d] S = some (.exc "BadWeb" [] S) := by
      unfold G.F_check_web runF rho0 G.f_check_web
      simp [w]
    have pc : G.F_pieces [.d d] S = some (.exc "BadWeb" [] S) := by
      unfold G.F_pieces runF rho0 G.f_pieces
      simp [cw]
    unfold G.F__law_refuses runF rho0 G.f__law_refuses sTry
    simp [pc, mt_ww, noX]
end
end M

end
section
set_option Elab.async false
set_option linter.all false
set_option maxRecDepth 100000
namespace M
open PySem PySem.Spec PyProof.Rows L2 VL G

abbrev bagL (a b c d : Int) : List SV := [.d (.int a), .d (.int b), .d (.int c), .d (.int d)]
theorem mulOk_w {i j : Int} (hi : i.natAbs.log2 ≤ 2000000) (hj : Sm j) : mulOk i j = true := by
  unfold mulOk
  have e : (10 : Nat) ^ 22 < 2 ^ 100 := by decide +kernel
  have h2 := log2_le (n := j.natAbs) (k := 100) (Nat.lt_of_le_of_lt hj e) (by omega)
  rw [decide_eq_true_eq]
  omega
theorem sm_of {x : Int} (h : -10000000000000000000000 ≤ x ∧ x ≤ 10000000000000000000000) : Sm x := by
  unfold Sm
  have e : x.natAbs ≤ 10000000000000000000000 := by omega
  exact Nat.le_trans e (by decide +kernel)
theorem fmod_nn {p q : Int} (h : 0 < q) : 0 ≤ p.fmod q ∧ p.fmod q < q := by
  rw [fmod_pos h]
  exact ⟨Int.emod_nonneg p (by omega), Int.emod_lt_of_pos p h⟩
@[simp] theorem ixB_r (S : Sto) (m : Nat) (i : Int) : gIxB S (.ref m) (.d (.int i)) = (S[m]?).bind fun xs => atI xs i := rfl
theorem ix_r (S : Sto) (m : Nat) (i : Int) : gIx S (.ref m) (.d (.int i)) = (S[m]?).bind fun xs => (atI xs i).bind fun z => if noOwn z then some z else none := rfl
theorem ix40 : ixN 4 0 = some 0 := by decide
theorem ix41 : ixN 4 1 = some 1 := by decide
theorem ix42 : ixN 4 2 = some 2 := by decide
theorem ix43 : ixN 4 3 = some 3 := by decide
theorem gpow18 (S : Sto) : gPow S (.d (.int 10)) (.d (.int 18)) = some (.d (.int 1000000000000000000)) := by
  have : (10 : Int) ^ 18 = 1000000000000000000 := by decide
  unfold gPow
  simp
/-- a bag that is drawn from -/
def Bs (S : Sto) (m : Nat) (t : Nat) : Prop := ∃ a b c d, S[m]? = some (bagL a b c d) ∧ b.natAbs.log2 ≤ 2000000 ∧ 0 ≤ c ∧ c ≤ t ∧ d.natAbs.log2 ≤ 2000000
def lcgS (b c d : Int) : Int := (b * 48271 + d * 69621 + (c + 1) * 16807 + 11).fmod 2147483647
def lcgA (b c d : Int) : Int := if c + 1 = 1 ∧ 1000000000000000000 ≤ d then d else lcgS b c d * 2147483629 + (lcgS b c d * lcgS b c d + d).fmod 2147483629
theorem draw_run {a b c d many : Int} {t : Nat} (hb : b.natAbs.log2 ≤ 2000000) (c0 : 0 ≤ c) (c1 : c ≤ t) (ht : t ≤ 1000000) (hd : d.natAbs.log2 ≤ 2000000) (h1 : 0 < many) (h2 : many ≤ 1000) {S : Sto} {m : Nat} (hS : S[m]? = some (bagL a b c d)) :
    G.F__law_draw [.ref m, .d (.int many)] S = (if a = 0 then some (.ok (.d (.int ((lcgA b c d).fmod many))) (S.set m (bagL ((lcgA b c d).fdiv many) (lcgS b c d) (c + 1) d))) else some (.ok (.d (.int (a.fmod many))) (S.set m (bagL (a.fdiv many) b c d)))) := by
  have hm : m < S.length := (List.getElem?_eq_some_iff.mp hS).1
  have hS2 : S[m]'hm = bagL a b c d := (List.getElem?_eq_some_iff.mp hS).2
  have m0 : ¬ many = 0 := by omega
  have m1 : ¬ many < 1 := by omega
  have dv : ∀ x, divOk x many = true := fun x => divOk_of h1 (by omega)
  unfold G.F__law_draw runF rho0 G.f__law_draw
  by_cases ha : a = 0
  · subst ha
    obtain ⟨s0, s1⟩ := fmod_nn (p := b * 48271 + d * 69621 + (c + 1) * 16807 + 11) (q := 2147483647) (by omega)
    have k1 : mulOk b 48271 = true := mulOk_w hb (sm_of (by omega))
    have k2 : mulOk d 69621 = true := mulOk_w hd (sm_of (by omega))
    have k3 : mulOk (c + 1) 16807 = true := mulOk_of (sm_of (by omega)) (sm_of (by omega))
    unfold lcgA lcgS
    generalize hs : (b * 48271 + d * 69621 + (c + 1) * 16807 + 11).fmod 2147483647 = s at *
    have k4 : mulOk s 2147483629 = true := mulOk_of (sm_of (by omega)) (sm_of (by omega))
    have k5 : mulOk s s = true := mulOk_of (sm_of (by omega)) (sm_of (by omega))
    by_cases e1 : c + 1 = 1
    · obtain rfl : c = 0 := by omega
      have k3' : mulOk 1 16807 = true := by decide +kernel
      have hs' : (b * 48271 + d * 69621 + 16807 + 11).fmod 2147483647 = s := by rw [← hs]; simp
      by_cases e2 : 1000000000000000000 ≤ d
      · simp [cB, k3', hs', hS2, hm, ix_r, k1, k2, k3, k4, k5, hs, sStore, lVar, Lo.get, Lo.put, ix40, ix41, ix42, ix43, m0, m1, dv, e1, e2, gpow18, atI]
      · simp [cB, k3', hs', hS2, hm, ix_r, k1, k2, k3, k4, k5, hs, sStore, lVar, Lo.get, Lo.put, ix40, ix41, ix42, ix43, m0, m1, dv, e1, e2, gpow18, atI]
    · simp [cB, hS2, hm, ix_r, k1, k2, k3, k4, k5, hs, sStore, lVar, Lo.get, Lo.put, ix40, ix41, ix42, ix43, m0, m1, dv, e1, gpow18, atI]
  · simp [cB, hS2, hm, ix_r, ha, sStore, lVar, Lo.get, Lo.put, ix40, ix41, m0, m1, dv, atI]
theorem log2_sm {s : Int} (h0 : 0 ≤ s) (h1 : s < 2147483647) : s.natAbs.log2 ≤ 2000000 := by
  have h : s.natAbs < 2 ^ 31 := by omega
  have := log2_le h (by omega)
  omega
theorem draw_bs {S : Sto} {m t : Nat} {many : Int} (h : Bs S m t) (ht : t ≤ 1000000) (h1 : 0 < many) (h2 : many ≤ 1000) : ∃ (r : Nat) (S' : Sto), (r : Int) < many ∧ Bs S' m (t + 1) ∧ G.F__law_draw [.ref m, .d (.int many)] S = some (.ok (.d (.int (r : Int))) S') := by
  obtain ⟨a, b, c, d, hS, hb, c0, c1, hd⟩ := h
  have hm : m < S.length := (List.getElem?_eq_some_iff.mp hS).1
  have e := draw_run hb c0 c1 ht hd h1 h2 hS
  by_cases ha : a = 0
  · rw [if_pos ha] at e
    obtain ⟨r0, r1⟩ := fmod_nn (p := lcgA b c d) h1
    obtain ⟨s0, s1⟩ := fmod_nn (p := b * 48271 + d * 69621 + (c + 1) * 16807 + 11) (q := 2147483647) (by omega)
    refine ⟨((lcgA b c d).fmod many).toNat, S.set m (bagL ((lcgA b c d).fdiv many) (lcgS b c d) (c + 1) d), by omega, ⟨_, _, _, _, List.getElem?_set_self hm, log2_sm s0 s1, by omega, by omega, hd⟩, ?_⟩
    rw [show ((((lcgA b c d).fmod many).toNat : Nat) : Int) = (lcgA b c d).fmod many by omega]
    exact e
  · rw [if_neg ha] at e
    obtain ⟨r0, r1⟩ := fmod_nn (p := a) h1
    refine ⟨(a.fmod many).toNat, S.set m (bagL (a.fdiv many) b c d), by omega, ⟨_, _, _, _, List.getElem?_set_self hm, hb, c0, by omega, hd⟩, ?_⟩
    rw [show (((a.fmod many).toNat : Nat) : Int) = a.fmod many by omega]
    exact e
/-- the bag of the k-th number -/
theorem bag_eq (ns : List Int) (k : Nat) (hk : k ≤ 100) (hb : ∀ z ∈ ns, z.natAbs.log2 ≤ 2000000) (S : Sto) (hl : ns.length ≤ 1000) : ∃ b d, b.natAbs.log2 ≤ 2000000 ∧ d.natAbs.log2 ≤ 2000000 ∧ G.F__law_bag [.scr ns, .d (.int (k : Int))] S = some (.ok (.own (bagL 0 b 0 d)) S) := by
  have kb : (2039 + 48611 * (k : Int)).natAbs.log2 ≤ 2000000 := by
    have h : (2039 + 48611 * (k : Int)).natAbs < 2 ^ 31 := by omega
    have := log2_le h (by omega)
    omega
  have km : mulOk 48611 (k : Int) = true := mulOk_of (sm_of (by omega)) (sm_of (by omega))
  by_cases hlt : k < ns.length
  · have hat : atI (ns.map fun n => SV.d (.int n)) (k : Int) = some (.d (.int ns[k])) := by
      rw [atI_nat _ (by simpa using hlt)]
      simp
    refine ⟨_, ns[k], kb, hb _ (List.getElem_mem hlt), ?_⟩
    unfold G.F__law_bag runF rho0 G.f__law_bag
    simp [cB, hlt, hat, km, sizeLine_eq]
  · refine ⟨_, 0, kb, by decide +kernel, ?_⟩
    unfold G.F__law_bag runF rho0 G.f__law_bag
    simp [cB, hlt, km, sizeLine_eq]
/-! one of two, fractions -/
theorem one_eq {S : Sto} {m t : Nat} {x y : Int} (h : Bs S m t) (ht : t ≤ 1000000) : ∃ z S', (z = x ∨ z = y) ∧ Bs S' m (t + 1) ∧ G.F__law_one [.ref m, .d (.list [.int x, .int y])] S = some (.ok (.d (.int z)) S') := by
  obtain ⟨r, S1, k1, B1, e1⟩ := draw_bs h ht (show (0 : Int) < 2 by omega) (by omega)
  have r2 : r = 0 ∨ r = 1 := by omega
  unfold G.F__law_one runF rho0 G.f__law_one
  rcases r2 with rfl | rfl
  · exact ⟨x, S1, .inl rfl, B1, by simp [e1, atI, ixN]⟩
  · exact ⟨y, S1, .inr rfl, B1, by simp [e1, atI, ixN]⟩
theorem lawf_eq {p q : Int} (p0 : 0 ≤ p) (p1 : p ≤ 1000) (q0 : 1 ≤ q) (q1 : q ≤ 1000) (S : Sto) : ∃ a b : Int, a.natAbs ≤ 1000 ∧ b.natAbs ≤ 1000 ∧ G.F__law_f [.d (.int p), .d (.int q)] S = some (.ok (.d (.tuple [.int a, .int b])) S) := by
  have g := lgcd_eq p q (by omega) (sm_of (by omega)) (sm_of (by omega)) S
  have gp := gcd_pos (p := p) (q := q) (by omega)
  have gl := gcd_le (p := p) (q := q) (by omega)
  have d1 : divOk p (Int.gcd p q) = true := divOk_of gp (by omega)
  have d2 : divOk q (Int.gcd p q) = true := divOk_of gp (by omega)
  have q2 : ¬ q < 0 := by omega
  refine ⟨p / (Int.gcd p q : Int), q / (Int.gcd p q : Int), Nat.le_trans (Int.natAbs_ediv_le_natAbs _ _) (by omega), Nat.le_trans (Int.natAbs_ediv_le_natAbs _ _) (by omega), ?_⟩
  unfold G.F__law_f runF rho0 G.f__law_f
  simp [cB, q2, g, d1, d2, fdiv_pos gp, sizeLine_eq]
theorem lead_eq {S : Sto} {m t : Nat} (h : Bs S m t) (ht : t ≤ 900000) : ∃ a b S', a.natAbs ≤ 1000 ∧ b.natAbs ≤ 1000 ∧ Bs S' m (t + 3) ∧ G.F__law_lead [.ref m] S = some (.ok (.d (.tuple [.int a, .int b])) S') := by
  obtain ⟨r1, S1, k1, B1, e1⟩ := draw_bs h (by omega) (show (0 : Int) < 6 by omega) (by omega)
  obtain ⟨z, S2, hz, B2, e2⟩ := one_eq (x := 1) (y := 4) B1 (by omega)
  have z0 : 0 < z := by omega
  obtain ⟨r3, S3, k3, B3, e3⟩ := draw_bs B2 (by omega) z0 (by omega)
  obtain ⟨a, b, ha, hb, f⟩ := lawf_eq (p := 1 + (r1 : Int)) (q := 1 + (r3 : Int)) (by omega) (by omega) (by omega) (by omega) S3
  refine ⟨a, b, S3, ha, hb, B3, ?_⟩
  unfold G.F__law_lead runF rho0 G.f__law_lead
  simp [e1, e2, e3, f, sizeLine_eq, frz, datO, datOs, cvt]
end M

end
section
set_option Elab.async false
set_option linter.all false
set_option maxRecDepth 100000
namespace M
open PySem PySem.Spec PyProof.Rows L2 VL G

/-- a wire as it is drawn -/
def Wq (w : PyData) : Prop := ∃ a b p q : Int, w = .tuple [.int a, .int b, .tuple [.int p, .int q]] ∧ a.natAbs ≤ 1000 ∧ b.natAbs ≤ 1000 ∧ p.natAbs ≤ 1000 ∧ q.natAbs ≤ 1000
theorem at_i {a : Int} (h : a.natAbs ≤ 1000) : atomB (.int a) = true := by
  show decide (a.natAbs ≤ 10 ^ 21) = true
  exact decide_eq_true (Nat.le_trans h (by decide))
theorem nc_i {L k : Nat} {a : Int} (h : a.natAbs ≤ 1000) : nc L k (.int a) = true := nc_atom (at_i h)
theorem Wq.nc {w : PyData} (h : Wq w) : nc 62 2 w = true := by
  obtain ⟨a, b, p, q, rfl, ha, hb, hp, hq⟩ := h
  simp [M.nc, at_i ha, at_i hb, at_i hp, at_i hq]
theorem sort_wires {ws : List PyData} (h : ∀ w ∈ ws, Wq w) (hl : ws.length ≤ 1000) (S : Sto) : gSorted S [.own (ws.map SV.d)] = some (.own ((sortD ws).map SV.d)) := by
  have ok : sortOk ws = true := by
    unfold sortOk
    simp only [Bool.and_eq_true, Bool.or_eq_true, decide_eq_true_eq]
    refine ⟨⟨⟨List.all_eq_true.mpr fun x mx => List.all_eq_true.mpr fun y my => ?_, List.all_eq_true.mpr fun x mx => nc_shaped (h x mx).nc (by omega)⟩, .inl (List.all_eq_true.mpr fun x mx => ?_)⟩, by rw [sizeLine_eq]; omega⟩
    · obtain ⟨a, b, p, q, rfl, _⟩ := h x mx
      obtain ⟨a, b, p, q, rfl, _⟩ := h y my
      simp [PySem.W.alike, PySem.W.alikeAll]
    · obtain ⟨a, b, p, q, rfl, _⟩ := h x mx
      rfl
  unfold gSorted
  simp only [lst?, Option.bind_some, allD_map, ok, if_true]
theorem sort_mem {ws : List PyData} {w : PyData} : w ∈ sortD ws ↔ w ∈ ws := (List.mergeSort_perm ws _).mem_iff
section
variable {n mw : Int} {m t : Nat} {ws : List PyData} {S : Sto} {s1 s2 s6 s7 s8 : Option SV}
noncomputable abbrev bodyB : Rho → Sto → Option VL.Fl := (sSeq
  (sSet 8 (eCall 2 F__law_draw [] (aCons (eVarV 0) (aCons (eBin gSub (eVar 4) (eCon (.int 1))) aNil))))
  (sAppend (lVar 5) (aCons (eTup (aCons (eVarV 8) (aCons (eBin gAdd (eBin gAdd (eVar 8) (eCon (.int 1))) (eCall 2 F__law_draw [] (aCons (eVarV 0) (aCons (eBin gSub (eBin gSub (eVar 4) (eCon (.int 1))) (eVar 8)) aNil)))) (aCons (eCall 1 F__law_lead [] (aCons (eVarV 0) aNil)) aNil)))) aNil)))
abbrev rB (m : Nat) (s1 s2 : Option SV) (n : Int) (ws : List PyData) (s7 s8 : Option SV) : Rho := [some (.ref m), s1, s2, some (.d (.bool false)), some (.d (.int n)), some (.own (ws.map SV.d)), none, s7, s8]
theorem bodyB_eq (h : Bs S m t) (ht : t ≤ 800000) (n2 : 2 ≤ n) (n3 : n ≤ 24) (hl : ws.length ≤ 1000) : ∃ w y8 S', Wq w ∧ Bs S' m (t + 5) ∧ bodyB (rB m s1 s2 n ws s7 s8) S = some (.nx (rB m s1 s2 n (ws ++ [w]) s7 y8) S') := by
  obtain ⟨r1, S1, k1, B1, e1⟩ := draw_bs h (by omega) (show (0 : Int) < n - 1 by omega) (by omega)
  obtain ⟨r2, S2, k2, B2, e2⟩ := draw_bs B1 (by omega) (show (0 : Int) < n - 1 - (r1 : Int) by omega) (by omega)
  obtain ⟨p, q, S3, hp, hq, B3, e3⟩ := lead_eq B2 (by omega)
  refine ⟨.tuple [.int (r1 : Int), .int ((r1 : Int) + 1 + (r2 : Int)), .tuple [.int p, .int q]], some (.d (.int (r1 : Int))), S3, ⟨_, _, _, _, rfl, by omega, by omega, hp, hq⟩, B3, ?_⟩
  have hl2 : ws.length < 16777216 := by omega
  unfold bodyB
  simp [e1, e2, e3, sizeLine_eq, sAppend, lVar, Lo.get, Lo.put, getP, putP, hl2]
theorem loopB (n2 : 2 ≤ n) (n3 : n ≤ 24) (s1 s2 : Option SV) : ∀ (l : List SV), (∀ x ∈ l, ∃ i : Int, x = .d (.int i)) → ∀ (ws : List PyData) (t : Nat) (S : Sto) (s7 s8 : Option SV), (∀ w ∈ ws, Wq w) → Bs S m t → t + 5 * l.length ≤ 800000 → ws.length + l.length ≤ 1000 →
    ∃ ws' y7 y8 S', (∀ w ∈ ws', Wq w) ∧ ws'.length = ws.length + l.length ∧ Bs S' m (t + 5 * l.length) ∧ forL (gNm 7) bodyB l (rB m s1 s2 n ws s7 s8) S = some (.nx (rB m s1 s2 n ws' y7 y8) S')
  | [], _, ws, t, S, s7, s8, hw, B, _, _ => ⟨ws, s7, s8, S, hw, rfl, B, rfl⟩
  | x :: l, hx, ws, t, S, s7, s8, hw, B, ht, hl => by
    rw [List.length_cons] at ht hl
    obtain ⟨i, rfl⟩ := hx x List.mem_cons_self
    obtain ⟨w, y8, S1, qw, B1, b⟩ := bodyB_eq (s1 := s1) (s2 := s2) (s7 := some (.d (.int i))) (s8 := s8) (ws := ws) B (by omega) n2 n3 (by omega)
    obtain ⟨ws', z7, z8, S2, hw', e, B2, q⟩ := loopB n2 n3 s1 s2 l (fun x m => hx x (List.mem_cons_of_mem _ m)) (ws ++ [w]) (t + 5) S1 (some (.d (.int i))) y8 (fun u m => by
      rcases List.mem_append.mp m with m | m
      · exact hw u m
      · cases List.mem_singleton.mp m
        exact qw) B1 (by omega) (by simp; omega)
    refine ⟨ws', z7, z8, S2, hw', by rw [e]; simp; omega, by rw [List.length_cons, show t + 5 * (l.length + 1) = t + 5 + 5 * l.length by omega]; exact B2, ?_⟩
    unfold forL
    simp only [a_gNm, List.set_cons_succ, List.set_cons_zero, b]
    exact q
theorem web_eq {mw : Int} (h : Bs S m t) (ht : t ≤ 700000) (m1 : 1 ≤ mw) (m2 : mw ≤ 62) : ∃ n ws S', (∀ w ∈ ws, Wq w) ∧ 1 ≤ n ∧ n ≤ 24 ∧ ws.length ≤ 62 ∧ Bs S' m (t + 400) ∧ G.F__law_web [.ref m, .d (.int 24), .d (.int mw), .d (.bool false)] S = some (.ok (.d (.tuple [.str "web", .int n, .tuple ws])) S') := by
  obtain ⟨r1, S1, k1, B1, e1⟩ := draw_bs h (by omega) (show (0 : Int) < 24 by omega) (by omega)
  generalize hn : 1 + (r1 : Int) = n
  have n1 : 1 ≤ n := by omega
  have n24 : n ≤ 24 := by omega
  have k0 : (sSet 4 (eBin gAdd (eCon (.int 1)) (eCall 2 F__law_draw [] (aCons (eVarV 0) (aCons (eVarV 1) aNil))))) [some (.ref m), some (.d (.int 24)), some (.d (.int mw)), some (.d (.bool false)), none, none, none, none, none] S = some (.nx [some (.ref m), some (.d (.int 24)), some (.d (.int mw)), some (.d (.bool false)), some (.d (.int n)), none, none, none, none] S1) := by
    simp [e1, hn]
  have k1 : (sSet 5 (eLst aNil)) [some (.ref m), some (.d (.int 24)), some (.d (.int mw)), some (.d (.bool false)), some (.d (.int n)), none, none, none, none] S1 = some (.nx (rB m (some (.d (.int 24))) (some (.d (.int mw))) n [] none none) S1) := by simp [sizeLine_eq]
  have k2 : (sIf (bVal (eVar 3))
  (sFor (iRng2 (aCons (eCon (.int 1)) (aCons (eVar 4) aNil))) (gNm 6)
  (sAppend (lVar 5) (aCons (eTup (aCons (eCall 2 F__law_draw [] (aCons (eVarV 0) (aCons (eVarV 6) aNil))) (aCons (eVarV 6) (aCons (eCall 1 F__law_lead [] (aCons (eVarV 0) aNil)) aNil)))) aNil)))
  sNil) (rB m (some (.d (.int 24))) (some (.d (.int mw))) n [] none none) S1 = some (.nx (rB m (some (.d (.int 24))) (some (.d (.int mw))) n [] none none) S1) := by simp
  obtain ⟨q, S2, q62, B2, n2q, it⟩ : ∃ (q : Nat) (S2 : Sto), q ≤ 62 ∧ Bs S2 m (t + 2) ∧ (1 ≤ q → 2 ≤ n) ∧ VL.iRng1 (aCons (eIf (bB (eBin (cB gGt) (eVar 4) (eCon (.int 1)))) (eCall 2 F__law_draw [] (aCons (eVarV 0) (aCons (eVarV 2) aNil))) (eCon (.int 0))) aNil) (rB m (some (.d (.int 24))) (some (.d (.int mw))) n [] none none) S1 = some (.ok (rangeL 0 q) S2) := by
    by_cases c : 1 < n
    · obtain ⟨r2, S2, k2, B2, e2⟩ := draw_bs (many := mw) B1 (by omega) (by omega) (by omega)
      refine ⟨r2, S2, by omega, B2, fun _ => by omega, ?_⟩
      rw [a_iRng1]
      have : (aCons (eIf (bB (eBin (cB gGt) (eVar 4) (eCon (.int 1)))) (eCall 2 F__law_draw [] (aCons (eVarV 0) (aCons (eVarV 2) aNil))) (eCon (.int 0))) aNil) (rB m (some (.d (.int 24))) (some (.d (.int mw))) n [] none none) S1 = some (.ok [.d (.int (r2 : Int))] S2) := by simp [eIf, cB, c, e2]
      rw [this]
      simp only [bindM_ok, Int.toNat_natCast]
      exact if_pos (inR_of ⟨by omega, by omega⟩)
    · obtain ⟨a, b, c', d, q1, q2, q3, q4, q5⟩ := B1
      refine ⟨0, S1, by omega, ⟨a, b, c', d, q1, q2, q3, by omega, q5⟩, fun h => by omega, ?_⟩
      rw [a_iRng1]
      have : (aCons (eIf (bB (eBin (cB gGt) (eVar 4) (eCon (.int 1)))) (eCall 2 F__law_draw [] (aCons (eVarV 0) (aCons (eVarV 2) aNil))) (eCon (.int 0))) aNil) (rB m (some (.d (.int 24))) (some (.d (.int mw))) n [] none none) S1 = some (.ok [.d (.int 0)] S1) := by simp [eIf, cB, c]
      rw [this]
      simp only [bindM_ok]
      exact if_pos (inR_of ⟨by omega, by omega⟩)
  obtain ⟨ws, y7, y8, S3, hw, hl, B3, lp⟩ : ∃ ws y7 y8 S3, (∀ w ∈ ws, Wq w) ∧ ws.length = q ∧ Bs S3 m (t + 2 + 5 * q) ∧ forL (gNm 7) bodyB (rangeL 0 q) (rB m (some (.d (.int 24))) (some (.d (.int mw))) n [] none none) S2 = some (.nx (rB m (some (.d (.int 24))) (some (.d (.int mw))) n ws y7 y8) S3) := by
    by_cases c : 1 ≤ q
    · have rl : (rangeL 0 q).length = q := by simp [rangeL]
      obtain ⟨ws, y7, y8, S3, hw, hl, B3, lp⟩ := loopB (m := m) (n := n) (n2q c) n24 (some (.d (.int 24))) (some (.d (.int mw))) (rangeL 0 q) (fun x mx => by
        obtain ⟨j, _, rfl⟩ := List.mem_map.mp mx
        exact ⟨_, rfl⟩) [] (t + 2) S2 none none (fun w mw => nomatch mw) B2 (by rw [rl]; omega) (by rw [rl]; simp; omega)
      rw [rl] at B3 hl
      exact ⟨ws, y7, y8, S3, hw, by simpa using hl, B3, lp⟩
    · obtain rfl : q = 0 := by omega
      exact ⟨[], none, none, S2, (fun w mw => nomatch mw), rfl, B2, rfl⟩
  have k3 : (sFor (iRng1 (aCons (eIf (bB (eBin (cB gGt) (eVar 4) (eCon (.int 1)))) (eCall 2 F__law_draw [] (aCons (eVarV 0) (aCons (eVarV 2) aNil))) (eCon (.int 0))) aNil)) (gNm 7)
  (sSeq
  (sSet 8 (eCall 2 F__law_draw [] (aCons (eVarV 0) (aCons (eBin gSub (eVar 4) (eCon (.int 1))) aNil))))
  (sAppend (lVar 5) (aCons (eTup (aCons (eVarV 8) (aCons (eBin gAdd (eBin gAdd (eVar 8) (eCon (.int 1))) (eCall 2 F__law_draw [] (aCons (eVarV 0) (aCons (eBin gSub (eBin gSub (eVar 4) (eCon (.int 1))) (eVar 8)) aNil)))) (aCons (eCall 1 F__law_lead [] (aCons (eVarV 0) aNil)) aNil)))) aNil)))) (rB m (some (.d (.int 24))) (some (.d (.int mw))) n [] none none) S1 = some (.nx (rB m (some (.d (.int 24))) (some (.d (.int mw))) n ws y7 y8) S3) := by
    rw [a_sFor]
    erw [it]
    rw [bindS_ok]
    exact lp
  have sw := sort_wires hw (by omega) S3
  have g3 : gTuple S3 [.own ((sortD ws).map SV.d)] = some (.d (.tuple (sortD ws))) := by
    show (lst? S3 (.own ((sortD ws).map SV.d))).bind (fun ys => (allD ys).map fun ds => SV.d (.tuple ds)) = _
    simp only [lst?, Option.bind_some, allD_map, Option.map_some]
  have k4 : (sRet (eTup (aCons (eCon (.str "web")) (aCons (eVarV 4) (aCons (eCal gTuple (aCons (eCal gSorted (aCons (eVar 5) aNil)) aNil)) aNil))))) (rB m (some (.d (.int 24))) (some (.d (.int mw))) n ws y7 y8) S3 = some (.rt (.d (.tuple [.str "web", .int n, .tuple (sortD ws)])) S3) := by
    simp [sw, g3, sizeLine_eq]
  refine ⟨n, sortD ws, S3, fun w mw => hw w (sort_mem.mp mw), n1, n24, by rw [sortD_length]; omega, ?_, ?_⟩
  · obtain ⟨a, b, c', d, q1, q2, q3, q4, q5⟩ := B3
    exact ⟨a, b, c', d, q1, q2, q3, by omega, q5⟩
  · have f : G.f__law_web [some (.ref m), some (.d (.int 24)), some (.d (.int mw)), some (.d (.bool false)), none, none, none, none, none] S = some (.rt (.d (.tuple [.str "web", .int n, .tuple (sortD ws)])) S3) := seq_nx k0 (seq_nx k1 (seq_nx k2 (seq_nx k3 k4)))
    have r : G.F__law_web [.ref m, .d (.int 24), .d (.int mw), .d (.bool false)] S = (match G.f__law_web [some (.ref m), some (.d (.int 24)), some (.d (.int mw)), some (.d (.bool false)), none, none, none, none, none] S with
      | some (.nx _ S') => some (.ok (.d .none) S')
      | some (.rt x S') => some (.ok x S')
      | some (.exc c fs _ S') => some (.exc c fs S')
      | _ => none) := rfl
    rw [r, f]
end
end M

end
section
set_option Elab.async false
set_option linter.all false
set_option maxRecDepth 100000
namespace M
open PySem PySem.Spec PyProof.Rows L2 VL G

theorem datO_ds : ∀ ds : List PyData, datOs (ds.map SV.d) = some ds
  | [] => rfl
  | d :: ds => by simp [datOs, datO, datO_ds ds]
/-- what a spoiling hands back -/
def Gd (L k : Nat) (x : SV) : Prop := ∃ d, datO x = some d ∧ frz x = some (.d d) ∧ nc L k d = true
theorem Gd.d {L k : Nat} {d : PyData} (h : nc L k d = true) : Gd L k (.d d) := ⟨d, rfl, rfl, h⟩
theorem Gd.own {L k : Nat} {ds : List PyData} (h : nc L k (.list ds) = true) : Gd L k (.own (ds.map SV.d)) := ⟨.list ds, by simp [datO, datO_ds], by simp [frz, noOwn, datO, datO_ds], h⟩
theorem cut_mem {α : Type} {xs : List α} {lo hi : Option Int} {x : α} (h : x ∈ cutL xs lo hi) : x ∈ xs := by
  unfold cutL at h
  exact List.mem_of_mem_drop (List.mem_of_mem_take h)
theorem gAdd_t (S : Sto) {xs ys : List PyData} (hx : xs.length ≤ 5000) (hy : ys.length ≤ 5000) : gAdd S (.d (.tuple xs)) (.d (.tuple ys)) = some (.d (.tuple (xs ++ ys))) := by
  show (if xs.length + ys.length ≤ sizeLine then some (SV.d (.tuple (xs ++ ys))) else none) = _
  rw [if_pos (by rw [sizeLine_eq]; omega)]
theorem nc_mk {L k : Nat} {ds : List PyData} (hl : ds.length ≤ L) (h : ∀ x ∈ ds, nc L k x = true) : nc L (k + 1) (.tuple ds) = true := by
  simp only [nc, Bool.and_eq_true, decide_eq_true_eq, List.all_eq_true]
  exact ⟨hl, h⟩
section
variable {L k m t : Nat} {S : Sto} {o : PyData}
noncomputable abbrev u0 : Rho → Sto → Option VL.Fl := (sIf (bOr (bB (eBin (cB gEq) (eVar 3) (eCon (.int 0)))) (bOr (bNot (bVal (eIsi1 (eVar 1) ["tuple"]))) (bOr (bB (eBin (cB gEq) (eCal gLen (aCons (eVar 1) aNil)) (eCon (.int 0)))) (bB (eBin (cB gEq) (eCall 2 F__law_draw [] (aCons (eVarV 0) (aCons (eCon (.int 4)) aNil))) (eCon (.int 0)))))))
  (sRetV 2)
  sNil)
noncomputable abbrev u1 : Rho → Sto → Option VL.Fl := (sSet 4 (eCall 2 F__law_draw [] (aCons (eVarV 0) (aCons (eCal gLen (aCons (eVar 1) aNil)) aNil))))
noncomputable abbrev u2 : Rho → Sto → Option VL.Fl := (sSet 5 (eCall 2 F__law_draw [] (aCons (eVarV 0) (aCons (eCon (.int 9)) aNil))))
noncomputable abbrev u3 : Rho → Sto → Option VL.Fl := (sIf (bB (eBin (cB gEq) (eVar 5) (eCon (.int 0))))
  (sRet (eBin gAdd (eSl (eVar 1) pNone (pSome (eVar 4))) (eSl (eVar 1) (pSome (eBin gAdd (eVar 4) (eCon (.int 1)))) pNone)))
  sNil)
noncomputable abbrev u4 : Rho → Sto → Option VL.Fl := (sIf (bB (eBin (cB gEq) (eVar 5) (eCon (.int 1))))
  (sRet (eBin gAdd (eBin gAdd (eSl (eVar 1) pNone (pSome (eVar 4))) (eTup (aCons (eVarV 2) aNil))) (eSl (eVar 1) (pSome (eVar 4)) pNone)))
  sNil)
noncomputable abbrev u5 : Rho → Sto → Option VL.Fl := (sIf (bB (eBin (cB gEq) (eVar 5) (eCon (.int 2))))
  (sRet (eBin gAdd (eSl (eVar 1) pNone (pSome (eBin gAdd (eVar 4) (eCon (.int 1))))) (eSl (eVar 1) (pSome (eVar 4)) pNone)))
  sNil)
noncomputable abbrev u6 : Rho → Sto → Option VL.Fl := (sIf (bB (eBin (cB gEq) (eVar 5) (eCon (.int 3))))
  (sRet (eBin gAdd (eBin gAdd (eBin gAdd (eSl (eVar 1) pNone (pSome (eVar 4))) (eSl (eVar 1) (pSome (eBin gAdd (eVar 4) (eCon (.int 1)))) (pSome (eBin gAdd (eVar 4) (eCon (.int 2)))))) (eSl (eVar 1) (pSome (eVar 4)) (pSome (eBin gAdd (eVar 4) (eCon (.int 1)))))) (eSl (eVar 1) (pSome (eBin gAdd (eVar 4) (eCon (.int 2)))) pNone)))
  sNil)
noncomputable abbrev u7 : Rho → Sto → Option VL.Fl := (sIf (bB (eBin (cB gEq) (eVar 5) (eCon (.int 4))))
  (sRet (eCal gList (aCons (eVar 1) aNil)))
  sNil)
noncomputable abbrev u8 (FF : List SV → Mo SV) : Rho → Sto → Option VL.Fl := (sRet (eBin gAdd (eBin gAdd (eSl (eVar 1) pNone (pSome (eVar 4))) (eTup (aCons (eCall 4 FF [] (aCons (eVarV 0) (aCons (eBin gIx (eVar 1) (eVar 4)) (aCons (eVarV 2) (aCons (eBin gSub (eVar 3) (eCon (.int 1))) aNil))))) aNil))) (eSl (eVar 1) (pSome (eBin gAdd (eVar 4) (eCon (.int 1)))) pNone)))
theorem sp_run (N : Nat) (x : SV) (o : PyData) (dn : Int) (S : Sto) : G.R__law_spoilt (N + 1) [.ref m, x, .d o, .d (.int dn)] S = (match sSeq u0 (sSeq u1 (sSeq u2 (sSeq u3 (sSeq u4 (sSeq u5 (sSeq u6 (sSeq u7 (u8 (G.R__law_spoilt N))))))))) [some (.ref m), some x, some (.d o), some (.d (.int dn)), none, none] S with
      | some (.nx _ S') => some (.ok (.d .none) S')
      | some (.rt x S') => some (.ok x S')
      | some (.exc c fs _ S') => some (.exc c fs S')
      | _ => none) := rfl
theorem spoilt_eq (ho : nc L 2 o = true) (hL : 1 ≤ L) (hL2 : L ≤ 1000) : ∀ (N dn : Nat), dn < N → ∀ (k : Nat) (v : PyData) (t : Nat) (S : Sto), nc L k v = true → Bs S m t → t + 3 * N ≤ 700000 → ∃ x S', Gd (4 * L) (k + 2) x ∧ Bs S' m (t + 3 * N) ∧ G.R__law_spoilt N [.ref m, .d v, .d o, .d (.int (dn : Int))] S = some (.ok x S')
  | 0, dn, h, _, _, _, _, _, _, _ => by omega
  | N + 1, dn, hdn, k, v, t, S, hv, B, ht => by
    have later : ∀ {S : Sto} {t : Nat} (t2 : Nat), t ≤ t2 → Bs S m t → Bs S m t2 := fun t2 h ⟨a, b, c, d, q1, q2, q3, q4, q5⟩ => ⟨a, b, c, d, q1, q2, q3, by omega, q5⟩
    have ho' : Gd (4 * L) (k + 2) (.d o) := .d (nc_mono (show L ≤ 4 * L by omega) 2 (k + 2) (by omega) _ ho)
    have odd : ∀ S', Bs S' m (t + 3 * (N + 1)) → u0 [some (.ref m), some (.d v), some (.d o), some (.d (.int (dn : Int))), none, none] S = some (.rt (.d o) S') → ∃ x S', Gd (4 * L) (k + 2) x ∧ Bs S' m (t + 3 * (N + 1)) ∧ G.R__law_spoilt (N + 1) [.ref m, .d v, .d o, .d (.int (dn : Int))] S = some (.ok x S') := fun S' B' h => by
      refine ⟨.d o, S', ho', B', ?_⟩
      rw [sp_run, seq_rt h]
    by_cases z : dn = 0
    · subst z
      exact odd S (later _ (by omega) B) (by unfold u0; simp [cB])
    have dz : ¬ (dn : Int) = 0 := by omega
    cases v with
    | dict _ => cases k <;> cases hv
    | tuple ds =>
      obtain ⟨j, rfl, hl, hx⟩ := nc_tup' hv
      cases hd : ds with
      | nil =>
        subst hd
        exact odd S (later _ (by omega) B) (by unfold u0; simp [cB, dz])
      | cons d0 dr =>
        rw [← hd]
        have hlen : 0 < ds.length := by rw [hd]; simp
        have hlen' : ¬ (ds.length : Int) = 0 := by omega
        obtain ⟨r0, S0, k0, B0, e0⟩ := draw_bs B (by omega) (show (0 : Int) < 4 by omega) (by omega)
        by_cases z0 : r0 = 0
        · subst z0
          subst hd
          exact odd S0 (later _ (by omega) B0) (by
            have hr : ¬ (dr.length : Int) + 1 = 0 := by omega
            unfold u0
            simp [cB, dz, z, e0, hr])
        have z0' : ¬ (r0 : Int) = 0 := by omega
        have hne : ¬ ds = [] := by rw [hd]; simp
        have z0b : ((r0 : Int) == 0) = false := beq_eq_false_iff_ne.mpr z0'
        obtain ⟨r1, S1, k1, B1, e1⟩ := draw_bs (many := (ds.length : Int)) B0 (by omega) (by omega) (by omega)
        obtain ⟨r2, S2, k2, B2, e2⟩ := draw_bs B1 (by omega) (show (0 : Int) < 9 by omega) (by omega)
        have r1l : r1 < ds.length := by omega
        have q0 : u0 [some (.ref m), some (.d (.tuple ds)), some (.d o), some (.d (.int (dn : Int))), none, none] S = some (.nx [some (.ref m), some (.d (.tuple ds)), some (.d o), some (.d (.int (dn : Int))), none, none] S0) := by
          unfold u0
          simp [cB, dz, z, hne, hlen', e0, z0', z0, z0b]
        have q1 : u1 [some (.ref m), some (.d (.tuple ds)), some (.d o), some (.d (.int (dn : Int))), none, none] S0 = some (.nx [some (.ref m), some (.d (.tuple ds)), some (.d o), some (.d (.int (dn : Int))), some (.d (.int (r1 : Int))), none] S1) := by
          unfold u1
          simp [e1]
        have q2 : u2 [some (.ref m), some (.d (.tuple ds)), some (.d o), some (.d (.int (dn : Int))), some (.d (.int (r1 : Int))), none] S1 = some (.nx [some (.ref m), some (.d (.tuple ds)), some (.d o), some (.d (.int (dn : Int))), some (.d (.int (r1 : Int))), some (.d (.int (r2 : Int)))] S2) := by
          unfold u2
          simp [e2]
        have cl : ∀ lo hi, (cutL ds lo hi).length ≤ L := fun lo hi => Nat.le_trans (cutL_length ds lo hi) hl
        have cm : ∀ lo hi x, x ∈ cutL ds lo hi → nc (4 * L) (j + 2) x = true := fun lo hi x mx => nc_mono (show L ≤ 4 * L by omega) j (j + 2) (by omega) _ (hx x (cut_mem mx))
        have oo : nc (4 * L) (j + 2) o = true := nc_mono (show L ≤ 4 * L by omega) 2 (j + 2) (by omega) _ ho
        have fin : ∀ {x : SV} {S' : Sto}, Gd (4 * L) (j + 1 + 2) x → Bs S' m (t + 3 * (N + 1)) → sSeq u3 (sSeq u4 (sSeq u5 (sSeq u6 (sSeq u7 (u8 (G.R__law_spoilt N)))))) [some (.ref m), some (.d (.tuple ds)), some (.d o), some (.d (.int (dn : Int))), some (.d (.int (r1 : Int))), some (.d (.int (r2 : Int)))] S2 = some (.rt x S') →
            ∃ x S', Gd (4 * L) (j + 1 + 2) x ∧ Bs S' m (t + 3 * (N + 1)) ∧ G.R__law_spoilt (N + 1) [.ref m, .d (.tuple ds), .d o, .d (.int (dn : Int))] S = some (.ok x S') := fun {x S'} gx B' h => by
          refine ⟨x, S', gx, B', ?_⟩
          rw [sp_run, seq_nx q0 (seq_nx q1 (seq_nx q2 h))]
        have B3 : Bs S2 m (t + 3 * (N + 1)) := later _ (by omega) B2
        have app : ∀ {xs : List PyData}, xs.length ≤ 4 * L → (∀ x ∈ xs, nc (4 * L) (j + 2) x = true) → Gd (4 * L) (j + 1 + 2) (.d (.tuple xs)) := fun hl h => .d (nc_mk (k := j + 2) hl h)
        have sk : ∀ (c : Int) (s : Rho → Sto → Option VL.Fl), (r2 : Int) ≠ c → (sIf (bB (eBin (cB gEq) (eVar 5) (eCon (.int c)))) s sNil) [some (.ref m), some (.d (.tuple ds)), some (.d o), some (.d (.int (dn : Int))), some (.d (.int (r1 : Int))), some (.d (.int (r2 : Int)))] S2 = some (.nx [some (.ref m), some (.d (.tuple ds)), some (.d o), some (.d (.int (dn : Int))), some (.d (.int (r1 : Int))), some (.d (.int (r2 : Int)))] S2) := fun c s h => by
          simp [cB, h]
        have hit : ∀ (c : Int) (s : Rho → Sto → Option VL.Fl), (r2 : Int) = c → (sIf (bB (eBin (cB gEq) (eVar 5) (eCon (.int c)))) s sNil) [some (.ref m), some (.d (.tuple ds)), some (.d o), some (.d (.int (dn : Int))), some (.d (.int (r1 : Int))), some (.d (.int (r2 : Int)))] S2 = s [some (.ref m), some (.d (.tuple ds)), some (.d o), some (.d (.int (dn : Int))), some (.d (.int (r1 : Int))), some (.d (.int (r2 : Int)))] S2 := fun c s h => by
          simp [cB, h]
        by_cases c0 : (r2 : Int) = 0
        · have g1 := gAdd_t S2 (xs := cutL ds none (some (r1 : Int))) (ys := cutL ds (some ((r1 : Int) + 1)) none) (by have := cl none (some (r1 : Int)); omega) (by have := cl (some ((r1 : Int) + 1)) none; omega)
          refine fin (app (xs := cutL ds none (some (r1 : Int)) ++ cutL ds (some ((r1 : Int) + 1)) none) ?_ ?_) B3 (seq_rt ((hit 0 _ c0).trans ?_))
          · have := cl none (some (r1 : Int)); have := cl (some ((r1 : Int) + 1)) none; simp; omega
          · intro x mx
            rcases List.mem_append.mp mx with mx | mx <;> exact cm _ _ x mx
          · simp [eSl, pNone, pSome, g1]
        by_cases c1 : (r2 : Int) = 1
        · have g1 := gAdd_t S2 (xs := cutL ds none (some (r1 : Int))) (ys := [o]) (by have := cl none (some (r1 : Int)); omega) (by simp)
          have g2 := gAdd_t S2 (xs := cutL ds none (some (r1 : Int)) ++ [o]) (ys := cutL ds (some (r1 : Int)) none) (by have := cl none (some (r1 : Int)); simp; omega) (by have := cl (some (r1 : Int)) none; omega)
          refine fin (app (xs := cutL ds none (some (r1 : Int)) ++ [o] ++ cutL ds (some (r1 : Int)) none) ?_ ?_) B3 (seq_nx (sk 0 _ c0) (seq_rt ((hit 1 _ c1).trans ?_)))
          · have := cl none (some (r1 : Int)); have := cl (some (r1 : Int)) none; simp; omega
          · intro x mx
            rcases List.mem_append.mp mx with mx | mx
            · rcases List.mem_append.mp mx with mx | mx
              · exact cm _ _ x mx
              · cases List.mem_singleton.mp mx
                exact oo
            · exact cm _ _ x mx
          · rw [a_sRet, a_eBin, a_eBin]
            have w1 : eSl (eVar 1) pNone (pSome (eVar 4)) [some (.ref m), some (.d (.tuple ds)), some (.d o), some (.d (.int (dn : Int))), some (.d (.int (r1 : Int))), some (.d (.int (r2 : Int)))] S2 = some (.ok (.d (.tuple (cutL ds none (some (r1 : Int))))) S2) := by simp [eSl, pNone, pSome]
            have w2 : eSl (eVar 1) (pSome (eVar 4)) pNone [some (.ref m), some (.d (.tuple ds)), some (.d o), some (.d (.int (dn : Int))), some (.d (.int (r1 : Int))), some (.d (.int (r2 : Int)))] S2 = some (.ok (.d (.tuple (cutL ds (some (r1 : Int)) none))) S2) := by simp [eSl, pNone, pSome]
            have w3 : eTup (aCons (eVarV 2) aNil) [some (.ref m), some (.d (.tuple ds)), some (.d o), some (.d (.int (dn : Int))), some (.d (.int (r1 : Int))), some (.d (.int (r2 : Int)))] S2 = some (.ok (.d (.tuple [o])) S2) := by simp [sizeLine_eq]
            rw [w1, bindM_ok, w3, bindM_ok, g1, Option.map_some, bindM_ok, w2, bindM_ok, g2]
            rfl
        by_cases c2 : (r2 : Int) = 2
        · have g1 := gAdd_t S2 (xs := cutL ds none (some ((r1 : Int) + 1))) (ys := cutL ds (some (r1 : Int)) none) (by have := cl none (some ((r1 : Int) + 1)); omega) (by have := cl (some (r1 : Int)) none; omega)
          refine fin (app (xs := cutL ds none (some ((r1 : Int) + 1)) ++ cutL ds (some (r1 : Int)) none) ?_ ?_) B3 (seq_nx (sk 0 _ c0) (seq_nx (sk 1 _ c1) (seq_rt ((hit 2 _ c2).trans ?_))))
          · have := cl none (some ((r1 : Int) + 1)); have := cl (some (r1 : Int)) none; simp; omega
          · intro x mx
            rcases List.mem_append.mp mx with mx | mx <;> exact cm _ _ x mx
          · simp [eSl, pNone, pSome, g1]
        by_cases c3 : (r2 : Int) = 3
        · have g1 := gAdd_t S2 (xs := cutL ds none (some (r1 : Int))) (ys := cutL ds (some ((r1 : Int) + 1)) (some ((r1 : Int) + 2))) (by have := cl none (some (r1 : Int)); omega) (by have := cl (some ((r1 : Int) + 1)) (some ((r1 : Int) + 2)); omega)
          have g2 := gAdd_t S2 (xs := cutL ds none (some (r1 : Int)) ++ cutL ds (some ((r1 : Int) + 1)) (some ((r1 : Int) + 2))) (ys := cutL ds (some (r1 : Int)) (some ((r1 : Int) + 1))) (by have := cl none (some (r1 : Int)); have := cl (some ((r1 : Int) + 1)) (some ((r1 : Int) + 2)); simp; omega) (by have := cl (some (r1 : Int)) (some ((r1 : Int) + 1)); omega)
          have g3 := gAdd_t S2 (xs := cutL ds none (some (r1 : Int)) ++ cutL ds (some ((r1 : Int) + 1)) (some ((r1 : Int) + 2)) ++ cutL ds (some (r1 : Int)) (some ((r1 : Int) + 1))) (ys := cutL ds (some ((r1 : Int) + 2)) none) (by have := cl none (some (r1 : Int)); have := cl (some ((r1 : Int) + 1)) (some ((r1 : Int) + 2)); have := cl (some (r1 : Int)) (some ((r1 : Int) + 1)); simp; omega) (by have := cl (some ((r1 : Int) + 2)) none; omega)
          refine fin (app (xs := cutL ds none (some (r1 : Int)) ++ cutL ds (some ((r1 : Int) + 1)) (some ((r1 : Int) + 2)) ++ cutL ds (some (r1 : Int)) (some ((r1 : Int) + 1)) ++ cutL ds (some ((r1 : Int) + 2)) none) ?_ ?_) B3 (seq_nx (sk 0 _ c0) (seq_nx (sk 1 _ c1) (seq_nx (sk 2 _ c2) (seq_rt ((hit 3 _ c3).trans ?_)))))
          · have := cl none (some (r1 : Int)); have := cl (some ((r1 : Int) + 1)) (some ((r1 : Int) + 2)); have := cl (some (r1 : Int)) (some ((r1 : Int) + 1)); have := cl (some ((r1 : Int) + 2)) none; simp; omega
          · intro x mx
            rcases List.mem_append.mp mx with mx | mx
            · rcases List.mem_append.mp mx with mx | mx
              · rcases List.mem_append.mp mx with mx | mx <;> exact cm _ _ x mx
              · exact cm _ _ x mx
            · exact cm _ _ x mx
          · generalize hA : cutL ds none (some (r1 : Int)) = A at *
            generalize hB : cutL ds (some ((r1 : Int) + 1)) (some ((r1 : Int) + 2)) = B at *
            generalize hC : cutL ds (some (r1 : Int)) (some ((r1 : Int) + 1)) = C at *
            generalize hD : cutL ds (some ((r1 : Int) + 2)) none = D at *
            simp only [List.append_assoc] at g1 g2 g3 ⊢
            simp [eSl, pNone, pSome, hA, hB, hC, hD, g1, g2, g3]
        by_cases c4 : (r2 : Int) = 4
        · refine fin (x := .own (ds.map SV.d)) (Gd.own ?_) B3 (seq_nx (sk 0 _ c0) (seq_nx (sk 1 _ c1) (seq_nx (sk 2 _ c2) (seq_nx (sk 3 _ c3) (seq_rt ((hit 4 _ c4).trans ?_))))))
          · have := nc_mono (show L ≤ 4 * L by omega) (j + 1) (j + 1 + 2) (by omega) _ hv
            exact this
          · simp [gList, seq?, noOwn_ds]
        obtain ⟨x, S4, gx, B4, e4⟩ := spoilt_eq ho hL hL2 N (dn - 1) (by omega) j ds[r1] (t + 3) S2 (hx _ (List.getElem_mem _)) (later _ (by omega) B2) (by omega)
        obtain ⟨xd, x1, x2, x3⟩ := gx
        rw [show (((dn - 1 : Nat)) : Int) = (dn : Int) - 1 by omega] at e4
        have at1 := atI_nat (ds.map SV.d) (j := r1) (by simpa using r1l)
        simp only [List.getElem_map] at at1
        have g1 := gAdd_t S4 (xs := cutL ds none (some (r1 : Int))) (ys := [xd]) (by have := cl none (some (r1 : Int)); omega) (by simp)
        have g2 := gAdd_t S4 (xs := cutL ds none (some (r1 : Int)) ++ [xd]) (ys := cutL ds (some ((r1 : Int) + 1)) none) (by have := cl none (some (r1 : Int)); simp; omega) (by have := cl (some ((r1 : Int) + 1)) none; omega)
        refine fin (app (xs := cutL ds none (some (r1 : Int)) ++ [xd] ++ cutL ds (some ((r1 : Int) + 1)) none) ?_ ?_) (later _ (by omega) B4) (seq_nx (sk 0 _ c0) (seq_nx (sk 1 _ c1) (seq_nx (sk 2 _ c2) (seq_nx (sk 3 _ c3) (seq_nx (sk 4 _ c4) ?_)))))
        · have := cl none (some (r1 : Int)); have := cl (some ((r1 : Int) + 1)) none; simp; omega
        · intro y my
          rcases List.mem_append.mp my with my | my
          · rcases List.mem_append.mp my with my | my
            · exact cm _ _ y my
            · cases List.mem_singleton.mp my
              exact x3
          · exact cm _ _ y my
        · unfold u8
          rw [a_sRet, a_eBin, a_eBin]
          have w1 : eSl (eVar 1) pNone (pSome (eVar 4)) [some (.ref m), some (.d (.tuple ds)), some (.d o), some (.d (.int (dn : Int))), some (.d (.int (r1 : Int))), some (.d (.int (r2 : Int)))] S2 = some (.ok (.d (.tuple (cutL ds none (some (r1 : Int))))) S2) := by simp [eSl, pNone, pSome]
          have w2 : eSl (eVar 1) (pSome (eBin gAdd (eVar 4) (eCon (.int 1)))) pNone [some (.ref m), some (.d (.tuple ds)), some (.d o), some (.d (.int (dn : Int))), some (.d (.int (r1 : Int))), some (.d (.int (r2 : Int)))] S4 = some (.ok (.d (.tuple (cutL ds (some ((r1 : Int) + 1)) none))) S4) := by simp [eSl, pNone, pSome]
          have w3 : eTup (aCons (eCall 4 (G.R__law_spoilt N) [] (aCons (eVarV 0) (aCons (eBin gIx (eVar 1) (eVar 4)) (aCons (eVarV 2) (aCons (eBin gSub (eVar 3) (eCon (.int 1))) aNil))))) aNil) [some (.ref m), some (.d (.tuple ds)), some (.d o), some (.d (.int (dn : Int))), some (.d (.int (r1 : Int))), some (.d (.int (r2 : Int)))] S2 = some (.ok (.d (.tuple [xd])) S4) := by
            simp [at1, e4, sizeLine_eq, datOs, x1]
          rw [w1, bindM_ok, w3, bindM_ok, g1, Option.map_some, bindM_ok, w2, bindM_ok, g2]
          rfl
    | _ => exact odd S (later _ (by omega) B) (by unfold u0; simp [cB, dz])
end
end M

end
section
set_option Elab.async false
set_option linter.all false
set_option maxRecDepth 100000
namespace M
open PySem PySem.Spec PyProof.Rows L2 VL G

abbrev oddD : List PyData := [.int 0, .int 1, .int (-1), .int 24, .int 25, .bool true, .none, .str "x", .tuple [], .tuple [.int 1, .int 1], .tuple [.int 2, .int 2], .tuple [.int 0, .int 1], .tuple [.int 1, .int 0], .tuple [.int (-1), .int 2], .tuple [.int 100000000000000000000, .int 1], .tuple [.int 0, .int 1, .tuple [.int 1, .int 2]]]
abbrev moreD : List PyData := [.tuple [.int 99999999999999999999, .int 99999999999999999998], .tuple [.int 3, .int 100000000000000000000], .list [.int 1, .int 1], .tuple [.int 1, .int 1, .int 1], .tuple [.int 6, .int 4], .tuple [.int 0, .int 2], .tuple [.int (-3), .int 4]]
theorem odd_nc : ∀ o ∈ oddD, nc 62 2 o = true := by decide +kernel
theorem more_nc : ∀ o ∈ moreD, nc 62 2 o = true := by decide +kernel
section
variable {ns : List Int} {m t : Nat} {S : Sto} {s2 s3 s4 s5 s6 s7 : Option SV}
abbrev rL (ns : List Int) (s2 s3 s4 s5 s6 s7 : Option SV) : Rho := [some (.scr ns), some (.own (oddD.map SV.d)), s2, s3, s4, s5, s6, s7]
noncomputable abbrev t0 : Rho → Sto → Option VL.Fl := (sSet 1 (eLst (aCons (eCon (.int 0)) (aCons (eCon (.int 1)) (aCons (eUn gNeg (eCon (.int 1))) (aCons (eCon (.int 24)) (aCons (eCon (.int 25)) (aCons (eCon (.bool true)) (aCons (eCon (.none)) (aCons (eCon (.str "x")) (aCons (eTup aNil) (aCons (eTup (aCons (eCon (.int 1)) (aCons (eCon (.int 1)) aNil))) (aCons (eTup (aCons (eCon (.int 2)) (aCons (eCon (.int 2)) aNil))) (aCons (eTup (aCons (eCon (.int 0)) (aCons (eCon (.int 1)) aNil))) (aCons (eTup (aCons (eCon (.int 1)) (aCons (eCon (.int 0)) aNil))) (aCons (eTup (aCons (eUn gNeg (eCon (.int 1))) (aCons (eCon (.int 2)) aNil))) (aCons (eTup (aCons (eBin gPow (eCon (.int 10)) (eCon (.int 20))) (aCons (eCon (.int 1)) aNil))) (aCons (eTup (aCons (eCon (.int 0)) (aCons (eCon (.int 1)) (aCons (eTup (aCons (eCon (.int 1)) (aCons (eCon (.int 2)) aNil))) aNil)))) aNil))))))))))))))))))
theorem t0_eq (ns : List Int) (S : Sto) : t0 [some (.scr ns), none, none, none, none, none, none, none] S = some (.nx (rL ns none none none none none none) S) := by
  unfold t0
  simp [sizeLine_eq, gpow20]
noncomputable abbrev e0 : Rho → Sto → Option VL.Fl := (sSet 4 (eCall 4 F__law_web [] (aCons (eVarV 3) (aCons (eCon (.int 24)) (aCons (eCall 2 F__law_one [] (aCons (eVarV 3) (aCons (eLst (aCons (eCon (.int 6)) (aCons (eCon (.int 62)) aNil))) aNil))) (aCons (eCon (.bool false)) aNil))))))
noncomputable abbrev e1 : Rho → Sto → Option VL.Fl := (sFor (iRng1 (aCons (eCall 2 F__law_draw [] (aCons (eVarV 3) (aCons (eCon (.int 3)) aNil))) aNil)) (gNm 5)
  (ghF [4] (sSet 4 (eCall 4 F__law_spoilt [] (aCons (eVarV 3) (aCons (eVarV 4) (aCons (eBin gIx (eVar 1) (eCall 2 F__law_draw [] (aCons (eVarV 3) (aCons (eCon (.int 16)) aNil)))) (aCons (eCon (.int 6)) aNil))))))))
noncomputable abbrev e1b : Rho → Sto → Option VL.Fl := (ghF [4] (sSet 4 (eCall 4 F__law_spoilt [] (aCons (eVarV 3) (aCons (eVarV 4) (aCons (eBin gIx (eVar 1) (eCall 2 F__law_draw [] (aCons (eVarV 3) (aCons (eCon (.int 16)) aNil)))) (aCons (eCon (.int 6)) aNil)))))))
noncomputable abbrev e2 : Rho → Sto → Option VL.Fl := (ghF [4] (sSet 6 (eCall 1 F__law_is_web [] (aCons (eVarV 4) aNil))))
noncomputable abbrev e3 : Rho → Sto → Option VL.Fl := (ghF [4] (sIf (bOr (bB (eBin (cB gNe) (eCal gReprB (aCons (eCall 1 F_is_web [] (aCons (eVarV 4) aNil)) aNil)) (eCal gReprB (aCons (eVar 6) aNil)))) (bB (eBin (cB gEq) (eCal gReprB (aCons (eCall 1 F__law_refuses [] (aCons (eVarV 4) aNil)) aNil)) (eCal gReprB (aCons (eVar 6) aNil)))))
  (sRet (eCon (.bool false)))
  sNil))
noncomputable abbrev e4 : Rho → Sto → Option VL.Fl := (sFor (iSeq (eBin gAdd (eVar 1) (eLst (aCons (eTup (aCons (eBin gSub (eBin gPow (eCon (.int 10)) (eCon (.int 20))) (eCon (.int 1))) (aCons (eBin gSub (eBin gPow (eCon (.int 10)) (eCon (.int 20))) (eCon (.int 2))) aNil))) (aCons (eTup (aCons (eCon (.int 3)) (aCons (eBin gPow (eCon (.int 10)) (eCon (.int 20))) aNil))) (aCons (eFrz (eLst (aCons (eCon (.int 1)) (aCons (eCon (.int 1)) aNil)))) (aCons (eTup (aCons (eCon (.int 1)) (aCons (eCon (.int 1)) (aCons (eCon (.int 1)) aNil)))) (aCons (eTup (aCons (eCon (.int 6)) (aCons (eCon (.int 4)) aNil))) (aCons (eTup (aCons (eCon (.int 0)) (aCons (eCon (.int 2)) aNil))) (aCons (eTup (aCons (eUn gNeg (eCon (.int 3))) (aCons (eCon (.int 4)) aNil))) aNil)))))))))) (gNm 7)
  (sIf (bB (eBin (cB gNe) (eCal gReprB (aCons (eCall 1 F_is_fraction [] (aCons (eVarV 7) aNil)) aNil)) (eCal gReprB (aCons (eCall 1 F__law_is_fraction [] (aCons (eVarV 7) aNil)) aNil))))
  (sRet (eCon (.bool false)))
  sNil))
noncomputable abbrev e4b : Rho → Sto → Option VL.Fl := (sIf (bB (eBin (cB gNe) (eCal gReprB (aCons (eCall 1 F_is_fraction [] (aCons (eVarV 7) aNil)) aNil)) (eCal gReprB (aCons (eCall 1 F__law_is_fraction [] (aCons (eVarV 7) aNil)) aNil))))
  (sRet (eCon (.bool false)))
  sNil)
theorem nc_web {n : Int} {ws : List PyData} (hw : ∀ w ∈ ws, Wq w) (n1 : 1 ≤ n) (n2 : n ≤ 24) (hl : ws.length ≤ 62) : nc 62 4 (.tuple [.str "web", .int n, .tuple ws]) = true := by
  refine nc_mk (by simp) fun x mx => ?_
  simp only [List.mem_cons, List.not_mem_nil, or_false] at mx
  rcases mx with rfl | rfl | rfl
  · exact nc_atom (by decide +kernel)
  · exact nc_i (by omega)
  · exact nc_mk hl fun w mw => (hw w mw).nc
theorem e0_eq (B : Bs S m t) (ht : t ≤ 1000) : ∃ v S', nc 62 4 v = true ∧ Bs S' m (t + 401) ∧ e0 (rL ns s2 (some (.ref m)) s4 s5 s6 s7) S = some (.nx (rL ns s2 (some (.ref m)) (some (.d v)) s5 s6 s7) S') := by
  obtain ⟨z, S1, hz, B1, q1⟩ := one_eq (x := 6) (y := 62) B (by omega)
  obtain ⟨n, ws, S2, hw, n1, n2, hl, B2, q2⟩ := web_eq (mw := z) B1 (by omega) (by omega) (by omega)
  refine ⟨_, S2, nc_web hw n1 n2 hl, by rw [show t + 401 = t + 1 + 400 by omega]; exact B2, ?_⟩
  unfold e0
  simp [q1, q2, sizeLine_eq, cvt, frz, datO, datOs]
theorem e1b_run {ol : List SV} {x y : SV} {d o : PyData} {r : Int} {S1 S2 : Sto} (x2 : frz x = some (.d d)) (q1 : F__law_draw [.ref m, .d (.int 16)] S = some (.ok (.d (.int r)) S1)) (gi : gIx S1 (.own ol) (.d (.int r)) = some (.d o)) (q2 : F__law_spoilt [.ref m, .d d, .d o, .d (.int 6)] S1 = some (.ok y S2)) (s0 s2 s5 s6 s7 : Option SV) :
    e1b [s0, some (.own ol), s2, some (.ref m), some x, s5, s6, s7] S = some (.nx [s0, some (.own ol), s2, some (.ref m), some y, s5, s6, s7] S2) := by
  unfold e1b
  unfold ghF
  simp only [List.getElem?_cons_succ, List.getElem?_cons_zero, x2, List.set_cons_succ, List.set_cons_zero]
  unfold ghF
  simp [q1, gi, q2]
theorem e1b_eq {Lx k : Nat} {x : SV} (h1 : 62 ≤ Lx) (h2 : Lx ≤ 1000) (gx : Gd Lx k x) (B : Bs S m t) (ht : t ≤ 10000) (s5 : Option SV) : ∃ y S', Gd (4 * Lx) (k + 2) y ∧ Bs S' m (t + 25) ∧ e1b (rL ns s2 (some (.ref m)) (some x) s5 s6 s7) S = some (.nx (rL ns s2 (some (.ref m)) (some y) s5 s6 s7) S') := by
  obtain ⟨d, x1, x2, x3⟩ := gx
  obtain ⟨r, S1, k1, B1, q1⟩ := draw_bs B (by omega) (show (0 : Int) < 16 by omega) (by omega)
  have hr : r < oddD.length := by show r < 16; omega
  have ho := odd_nc oddD[r] (List.getElem_mem _)
  have at1 := atI_nat (oddD.map SV.d) (j := r) (by simpa using hr)
  simp only [List.getElem_map] at at1
  obtain ⟨y, S2, gy, B2, q2⟩ := spoilt_eq (o := oddD[r]) (L := Lx) (nc_mono h1 2 2 (Nat.le_refl _) _ ho) (by omega) h2 8 6 (by omega) k d (t + 1) S1 x3 B1 (by omega)
  refine ⟨y, S2, gy, by rw [show t + 25 = t + 1 + 3 * 8 by omega]; exact B2, ?_⟩
  have q2 : G.F__law_spoilt [.ref m, .d d, .d oddD[r], .d (.int 6)] S1 = some (.ok y S2) := q2
  have gi : gIx S1 (.own (oddD.map SV.d)) (.d (.int (r : Int))) = some (.d oddD[r]) := by
    show (seq? S1 (.own (oddD.map SV.d))).bind (fun xs => (atI xs (r : Int)).bind fun z => if noOwn z then some z else none) = _
    show (atI (oddD.map SV.d) (r : Int)).bind (fun z => if noOwn z then some z else none) = _
    rw [at1]
    rfl
  exact e1b_run x2 q1 gi q2 _ _ _ _ _
theorem Gd.up {L L' k k' : Nat} {x : SV} (h : Gd L k x) (hL : L ≤ L') (hk : k ≤ k') : Gd L' k' x := by
  obtain ⟨d, a, b, c⟩ := h
  exact ⟨d, a, b, nc_mono hL k k' hk d c⟩
theorem e1_eq {v : PyData} (hv : nc 62 4 v = true) (B : Bs S m t) (ht : t ≤ 1500) : ∃ x y5 S', Gd 992 8 x ∧ Bs S' m (t + 51) ∧ e1 (rL ns s2 (some (.ref m)) (some (.d v)) s5 s6 s7) S = some (.nx (rL ns s2 (some (.ref m)) (some x) y5 s6 s7) S') := by
  obtain ⟨r, S1, k1, B1, q1⟩ := draw_bs B (by omega) (show (0 : Int) < 3 by omega) (by omega)
  have later : ∀ {S : Sto} {t : Nat} (t2 : Nat), t ≤ t2 → Bs S m t → Bs S m t2 := fun t2 h ⟨a, b, c, d, q1, q2, q3, q4, q5⟩ => ⟨a, b, c, d, q1, q2, q3, by omega, q5⟩
  have it : VL.iRng1 (aCons (eCall 2 F__law_draw [] (aCons (eVarV 3) (aCons (eCon (.int 3)) aNil))) aNil) (rL ns s2 (some (.ref m)) (some (.d v)) s5 s6 s7) S = some (.ok (rangeL 0 r) S1) := by
    rw [a_iRng1]
    have : (aCons (eCall 2 F__law_draw [] (aCons (eVarV 3) (aCons (eCon (.int 3)) aNil))) aNil) (rL ns s2 (some (.ref m)) (some (.d v)) s5 s6 s7) S = some (.ok [.d (.int (r : Int))] S1) := by simp [q1]
    rw [this]
    simp only [bindM_ok, Int.toNat_natCast]
    exact if_pos (inR_of ⟨by omega, by omega⟩)
  have run : ∃ x y5 S', Gd 992 8 x ∧ Bs S' m (t + 51) ∧ forL (gNm 5) e1b (rangeL 0 r) (rL ns s2 (some (.ref m)) (some (.d v)) s5 s6 s7) S1 = some (.nx (rL ns s2 (some (.ref m)) (some x) y5 s6 s7) S') := by
    have r3 : r = 0 ∨ r = 1 ∨ r = 2 := by omega
    rcases r3 with rfl | rfl | rfl
    · exact ⟨.d v, s5, S1, (Gd.d hv).up (by omega) (by omega), later _ (by omega) B1, rfl⟩
    · obtain ⟨y, S2, gy, B2, b⟩ := e1b_eq (ns := ns) (s2 := s2) (s6 := s6) (s7 := s7) (Nat.le_refl 62) (by omega) (Gd.d hv) B1 (by omega) (some (.d (.int (0 + ((0 : Nat) : Int)))))
      refine ⟨y, some (.d (.int (0 + ((0 : Nat) : Int)))), S2, gy.up (by omega) (by omega), later _ (by omega) B2, ?_⟩
      show forL (gNm 5) e1b [SV.d (.int (0 + ((0 : Nat) : Int)))] _ S1 = _
      unfold forL
      simp only [a_gNm, List.set_cons_succ, List.set_cons_zero, b]
      rfl
    · obtain ⟨y, S2, gy, B2, b⟩ := e1b_eq (ns := ns) (s2 := s2) (s6 := s6) (s7 := s7) (Nat.le_refl 62) (by omega) (Gd.d hv) B1 (by omega) (some (.d (.int (0 + ((0 : Nat) : Int)))))
      obtain ⟨y2, S3, gy2, B3, b2⟩ := e1b_eq (ns := ns) (s2 := s2) (s6 := s6) (s7 := s7) (Lx := 4 * 62) (by omega) (by omega) gy B2 (by omega) (some (.d (.int (0 + ((1 : Nat) : Int)))))
      refine ⟨y2, some (.d (.int (0 + ((1 : Nat) : Int)))), S3, gy2.up (by omega) (by omega), later _ (by omega) B3, ?_⟩
      show forL (gNm 5) e1b [SV.d (.int (0 + ((0 : Nat) : Int))), SV.d (.int (0 + ((1 : Nat) : Int)))] _ S1 = _
      unfold forL
      simp only [a_gNm, List.set_cons_succ, List.set_cons_zero, b]
      unfold forL
      simp only [a_gNm, List.set_cons_succ, List.set_cons_zero, b2]
      rfl
  obtain ⟨x, y5, S', gx, B', lp⟩ := run
  refine ⟨x, y5, S', gx, B', ?_⟩
  unfold e1
  rw [a_sFor]
  erw [it]
  rw [bindS_ok]
  exact lp
theorem e2_eq {x : SV} {d : PyData} (x2 : frz x = some (.d d)) (x3 : nc 992 8 d = true) (S : Sto) : e2 (rL ns s2 s3 (some x) s5 s6 s7) S = some (.nx (rL ns s2 s3 (some (.d d)) s5 (some (.d (.bool (isWb d)))) s7) S) := by
  have w := lisweb_eq x3 (by omega) S
  unfold e2
  unfold ghF
  simp only [List.getElem?_cons_succ, List.getElem?_cons_zero, x2, List.set_cons_succ, List.set_cons_zero]
  unfold ghF
  simp [w]
theorem sh_true : SeqAt.shaped (.str "True") = true := by decide +kernel
theorem sh_false : SeqAt.shaped (.str "False") = true := by decide +kernel
theorem ne_tt (S : Sto) : gNe S (.d (.str "True")) (.d (.str "True")) = some false := by
  unfold gNe
  simp only [dat_d, Option.bind_some, sh_true, Bool.and_self, if_true]
  rfl
theorem ne_ff (S : Sto) : gNe S (.d (.str "False")) (.d (.str "False")) = some false := by
  unfold gNe
  simp only [dat_d, Option.bind_some, sh_false, Bool.and_self, if_true]
  rfl
theorem eq_tf (S : Sto) : gEq S (.d (.str "True")) (.d (.str "False")) = some false := by
  unfold gEq
  simp only [dat_d, Option.bind_some, sh_true, sh_false, Bool.and_self, if_true]
  rfl
theorem eq_ft (S : Sto) : gEq S (.d (.str "False")) (.d (.str "True")) = some false := by
  unfold gEq
  simp only [dat_d, Option.bind_some, sh_true, sh_false, Bool.and_self, if_true]
  rfl
theorem repr_ok (S : Sto) (b : Bool) : gReprB S [.d (.bool b)] = some (.d (.str (if b then "True" else "False"))) := rfl
theorem e3_eq {d : PyData} (x3 : nc 992 8 d = true) (S : Sto) : e3 (rL ns s2 s3 (some (.d d)) s5 (some (.d (.bool (isWb d)))) s7) S = some (.nx (rL ns s2 s3 (some (.d d)) s5 (some (.d (.bool (isWb d)))) s7) S) := by
  have w := iswb_eq x3 (by omega) S
  have f := refuses_eq x3 (by omega) S
  unfold e3
  unfold ghF
  simp only [List.getElem?_cons_succ, List.getElem?_cons_zero, frz, noOwn, if_true, List.set_cons_succ, List.set_cons_zero]
  unfold ghF
  cases h : isWb d with
  | true =>
    rw [h] at w f
    simp [cB, w, f, repr_ok, ne_tt, ne_ff, eq_tf, eq_ft]
  | false =>
    rw [h] at w f
    simp [cB, w, f, repr_ok, ne_tt, ne_ff, eq_tf, eq_ft]
theorem e4b_eq {d : PyData} (h : nc 62 2 d = true) (S : Sto) : e4b (rL ns s2 s3 s4 s5 s6 (some (.d d))) S = some (.nx (rL ns s2 s3 s4 s5 s6 (some (.d d))) S) := by
  have a := isfr_eq h S
  have b := lisfr_eq h S
  unfold e4b
  cases e : isFr d with
  | true =>
    rw [e] at a b
    simp [cB, a, b, repr_ok, ne_tt, ne_ff]
  | false =>
    rw [e] at a b
    simp [cB, a, b, repr_ok, ne_tt, ne_ff]
theorem loop4 (S : Sto) : ∀ (l : List PyData), (∀ d ∈ l, nc 62 2 d = true) → ∀ s7, ∃ y7, forL (gNm 7) e4b (l.map SV.d) (rL ns s2 s3 s4 s5 s6 s7) S = some (.nx (rL ns s2 s3 s4 s5 s6 y7) S)
  | [], _, s7 => ⟨s7, rfl⟩
  | d :: l, h, s7 => by
    obtain ⟨y7, q⟩ := loop4 S l (fun x m => h x (List.mem_cons_of_mem _ m)) (some (.d d))
    have b := e4b_eq (ns := ns) (s2 := s2) (s3 := s3) (s4 := s4) (s5 := s5) (s6 := s6) (h d List.mem_cons_self) S
    refine ⟨y7, ?_⟩
    rw [List.map_cons]
    unfold forL
    simp only [a_gNm, List.set_cons_succ, List.set_cons_zero, b]
    exact q
theorem e4_eq (S : Sto) : ∃ y7, e4 (rL ns s2 s3 s4 s5 s6 s7) S = some (.nx (rL ns s2 s3 s4 s5 s6 y7) S) := by
  obtain ⟨y7, q⟩ := loop4 (ns := ns) (s2 := s2) (s3 := s3) (s4 := s4) (s5 := s5) (s6 := s6) S (oddD ++ moreD) (fun d m => (List.mem_append.mp m).elim (odd_nc d) (more_nc d)) s7
  refine ⟨y7, ?_⟩
  have it : VL.iSeq (eBin gAdd (eVar 1) (eLst (aCons (eTup (aCons (eBin gSub (eBin gPow (eCon (.int 10)) (eCon (.int 20))) (eCon (.int 1))) (aCons (eBin gSub (eBin gPow (eCon (.int 10)) (eCon (.int 20))) (eCon (.int 2))) aNil))) (aCons (eTup (aCons (eCon (.int 3)) (aCons (eBin gPow (eCon (.int 10)) (eCon (.int 20))) aNil))) (aCons (eFrz (eLst (aCons (eCon (.int 1)) (aCons (eCon (.int 1)) aNil)))) (aCons (eTup (aCons (eCon (.int 1)) (aCons (eCon (.int 1)) (aCons (eCon (.int 1)) aNil)))) (aCons (eTup (aCons (eCon (.int 6)) (aCons (eCon (.int 4)) aNil))) (aCons (eTup (aCons (eCon (.int 0)) (aCons (eCon (.int 2)) aNil))) (aCons (eTup (aCons (eUn gNeg (eCon (.int 3))) (aCons (eCon (.int 4)) aNil))) aNil))))))))) (rL ns s2 s3 s4 s5 s6 s7) S = some (.ok ((oddD ++ moreD).map SV.d) S) := by
    rw [a_iSeq]
    have : (eBin gAdd (eVar 1) (eLst (aCons (eTup (aCons (eBin gSub (eBin gPow (eCon (.int 10)) (eCon (.int 20))) (eCon (.int 1))) (aCons (eBin gSub (eBin gPow (eCon (.int 10)) (eCon (.int 20))) (eCon (.int 2))) aNil))) (aCons (eTup (aCons (eCon (.int 3)) (aCons (eBin gPow (eCon (.int 10)) (eCon (.int 20))) aNil))) (aCons (eFrz (eLst (aCons (eCon (.int 1)) (aCons (eCon (.int 1)) aNil)))) (aCons (eTup (aCons (eCon (.int 1)) (aCons (eCon (.int 1)) (aCons (eCon (.int 1)) aNil)))) (aCons (eTup (aCons (eCon (.int 6)) (aCons (eCon (.int 4)) aNil))) (aCons (eTup (aCons (eCon (.int 0)) (aCons (eCon (.int 2)) aNil))) (aCons (eTup (aCons (eUn gNeg (eCon (.int 3))) (aCons (eCon (.int 4)) aNil))) aNil))))))))) (rL ns s2 s3 s4 s5 s6 s7) S = some (.ok (.own ((oddD ++ moreD).map SV.d)) S) := by
      rw [a_eBin]
      have l1 : (eVar 1) (rL ns s2 s3 s4 s5 s6 s7) S = some (.ok (.own (oddD.map SV.d)) S) := rfl
      have l2 : (eLst (aCons (eTup (aCons (eBin gSub (eBin gPow (eCon (.int 10)) (eCon (.int 20))) (eCon (.int 1))) (aCons (eBin gSub (eBin gPow (eCon (.int 10)) (eCon (.int 20))) (eCon (.int 2))) aNil))) (aCons (eTup (aCons (eCon (.int 3)) (aCons (eBin gPow (eCon (.int 10)) (eCon (.int 20))) aNil))) (aCons (eFrz (eLst (aCons (eCon (.int 1)) (aCons (eCon (.int 1)) aNil)))) (aCons (eTup (aCons (eCon (.int 1)) (aCons (eCon (.int 1)) (aCons (eCon (.int 1)) aNil)))) (aCons (eTup (aCons (eCon (.int 6)) (aCons (eCon (.int 4)) aNil))) (aCons (eTup (aCons (eCon (.int 0)) (aCons (eCon (.int 2)) aNil))) (aCons (eTup (aCons (eUn gNeg (eCon (.int 3))) (aCons (eCon (.int 4)) aNil))) aNil)))))))) (rL ns s2 s3 s4 s5 s6 s7) S = some (.ok (.own (moreD.map SV.d)) S) := by
        simp [sizeLine_eq, gpow20, eFrz, frz, datO, datOs]
      rw [l1, bindM_ok, l2, bindM_ok]
      have : gAdd S (.own (oddD.map SV.d)) (.own (moreD.map SV.d)) = some (.own ((oddD ++ moreD).map SV.d)) := by
        show ((lst? S (.own (oddD.map SV.d))).bind fun xs => (lst? S (.own (moreD.map SV.d))).bind fun ys => if xs.all noOwn && ys.all noOwn && decide (xs.length + ys.length ≤ sizeLine) then some (SV.own (xs ++ ys)) else none) = _
        simp only [lst?, Option.bind_some, noOwn_ds, Bool.true_and, ← List.map_append]
        rw [if_pos (by rw [sizeLine_eq]; decide)]
      rw [this]
      rfl
    rw [this, bindM_ok]
    have nn := noOwn_ds (oddD ++ moreD)
    generalize (oddD ++ moreD).map SV.d = l at *
    simp [seq?, lst?]
    simpa using nn
  unfold e4
  rw [a_sFor]
  erw [it]
  rw [bindS_ok]
  exact q
noncomputable abbrev lawb : Rho → Sto → Option VL.Fl := (sSeq
  (sSet 3 (eCall 2 F__law_bag [] (aCons (eVarV 0) (aCons (eVarV 2) aNil))))
  (ghA 3
  (sSeq
  (sSet 4 (eCall 4 F__law_web [] (aCons (eVarV 3) (aCons (eCon (.int 24)) (aCons (eCall 2 F__law_one [] (aCons (eVarV 3) (aCons (eLst (aCons (eCon (.int 6)) (aCons (eCon (.int 62)) aNil))) aNil))) (aCons (eCon (.bool false)) aNil))))))
  (sSeq
  (sFor (iRng1 (aCons (eCall 2 F__law_draw [] (aCons (eVarV 3) (aCons (eCon (.int 3)) aNil))) aNil)) (gNm 5)
  (ghF [4] (sSet 4 (eCall 4 F__law_spoilt [] (aCons (eVarV 3) (aCons (eVarV 4) (aCons (eBin gIx (eVar 1) (eCall 2 F__law_draw [] (aCons (eVarV 3) (aCons (eCon (.int 16)) aNil)))) (aCons (eCon (.int 6)) aNil))))))))
  (sSeq
  (ghF [4] (sSet 6 (eCall 1 F__law_is_web [] (aCons (eVarV 4) aNil))))
  (sSeq
  (ghF [4] (sIf (bOr (bB (eBin (cB gNe) (eCal gReprB (aCons (eCall 1 F_is_web [] (aCons (eVarV 4) aNil)) aNil)) (eCal gReprB (aCons (eVar 6) aNil)))) (bB (eBin (cB gEq) (eCal gReprB (aCons (eCall 1 F__law_refuses [] (aCons (eVarV 4) aNil)) aNil)) (eCal gReprB (aCons (eVar 6) aNil)))))
  (sRet (eCon (.bool false)))
  sNil))
  (sFor (iSeq (eBin gAdd (eVar 1) (eLst (aCons (eTup (aCons (eBin gSub (eBin gPow (eCon (.int 10)) (eCon (.int 20))) (eCon (.int 1))) (aCons (eBin gSub (eBin gPow (eCon (.int 10)) (eCon (.int 20))) (eCon (.int 2))) aNil))) (aCons (eTup (aCons (eCon (.int 3)) (aCons (eBin gPow (eCon (.int 10)) (eCon (.int 20))) aNil))) (aCons (eFrz (eLst (aCons (eCon (.int 1)) (aCons (eCon (.int 1)) aNil)))) (aCons (eTup (aCons (eCon (.int 1)) (aCons (eCon (.int 1)) (aCons (eCon (.int 1)) aNil)))) (aCons (eTup (aCons (eCon (.int 6)) (aCons (eCon (.int 4)) aNil))) (aCons (eTup (aCons (eCon (.int 0)) (aCons (eCon (.int 2)) aNil))) (aCons (eTup (aCons (eUn gNeg (eCon (.int 3))) (aCons (eCon (.int 4)) aNil))) aNil)))))))))) (gNm 7)
  (sIf (bB (eBin (cB gNe) (eCal gReprB (aCons (eCall 1 F_is_fraction [] (aCons (eVarV 7) aNil)) aNil)) (eCal gReprB (aCons (eCall 1 F__law_is_fraction [] (aCons (eVarV 7) aNil)) aNil))))
  (sRet (eCon (.bool false)))
  sNil))))))))
theorem lawb_eq {k : Nat} (hl : ns.length ≤ 1000) (hb : ∀ z ∈ ns, z.natAbs.log2 ≤ 2000000) (hk : k ≤ 100) (S : Sto) (s3 s4 s5 s6 s7 : Option SV) :
    ∃ y3 y4 y5 y6 y7 S', lawb (rL ns (some (.d (.int (k : Int)))) s3 s4 s5 s6 s7) S = some (.nx (rL ns (some (.d (.int (k : Int)))) y3 y4 y5 y6 y7) S') := by
  obtain ⟨b, d, b1, d1, q0⟩ := bag_eq ns k hk hb S hl
  have B : Bs (S ++ [bagL 0 b 0 d]) S.length 0 := ⟨0, b, 0, d, by simp, b1, Int.le_refl _, by simp, d1⟩
  obtain ⟨v, S1, hv, B1, q1⟩ := e0_eq (ns := ns) (s2 := some (.d (.int (k : Int)))) (s4 := s4) (s5 := s5) (s6 := s6) (s7 := s7) B (by omega)
  obtain ⟨x, y5, S2, gx, B2, q2⟩ := e1_eq (ns := ns) (s2 := some (.d (.int (k : Int)))) (s5 := s5) (s6 := s6) (s7 := s7) hv B1 (by omega)
  obtain ⟨dx, x1, x2, x3⟩ := gx
  have q3 := e2_eq (ns := ns) (s2 := some (.d (.int (k : Int)))) (s3 := some (.ref S.length)) (s5 := y5) (s6 := s6) (s7 := s7) x2 x3 S2
  have q4 := e3_eq (ns := ns) (s2 := some (.d (.int (k : Int)))) (s3 := some (.ref S.length)) (s5 := y5) (s7 := s7) x3 S2
  obtain ⟨y7, q5⟩ := e4_eq (ns := ns) (s2 := some (.d (.int (k : Int)))) (s3 := some (.ref S.length)) (s4 := some (.d dx)) (s5 := y5) (s6 := some (.d (.bool (isWb dx)))) (s7 := s7) S2
  refine ⟨some (.ref S.length), some (.d dx), y5, some (.d (.bool (isWb dx))), y7, S2, ?_⟩
  · refine seq_nx (ρ2 := rL ns (some (.d (.int (k : Int)))) (some (.own (bagL 0 b 0 d))) s4 s5 s6 s7) (S2 := S) (by simp [q0]) ?_
    unfold ghA
    have fz : frzs (bagL 0 b 0 d) = some (bagL 0 b 0 d) := rfl
    simp only [List.getElem?_cons_succ, List.getElem?_cons_zero, fz, Option.bind_some, List.set_cons_succ, List.set_cons_zero]
    exact seq_nx q1 (seq_nx q2 (seq_nx q3 (seq_nx q4 q5)))
noncomputable abbrev t2 : Rho → Sto → Option VL.Fl := (sRet (eBin (cB gEq) (eLc (iSeq (eLst (aCons (eCon (.none)) (aCons (eTup aNil) (aCons (eCon (.str "web")) (aCons (eCon (.int 5)) aNil)))))) (gNm 7) bYes (eCall 1 F_is_web [] (aCons (eVarV 7) aNil)) [7]) (eBin gMulA (eLst (aCons (eCon (.bool false)) aNil)) (eCon (.int 4)))))
theorem t2_eq (S : Sto) : t2 (rL ns s2 s3 s4 s5 s6 s7) S = some (.rt (.d (.bool true)) S) := by
  have c := eLc_mapF (S := S) (ρ := rL ns s2 s3 s4 s5 s6 s7) (vs := [7]) (it := VL.iSeq (eLst (aCons (eCon (.none)) (aCons (eTup aNil) (aCons (eCon (.str "web")) (aCons (eCon (.int 5)) aNil)))))) (tf := gNm 7) (elt := (eCall 1 F_is_web [] (aCons (eVarV 7) aNil))) (l := [.none, .tuple [], .str "web", .int 5]) (fun u => SV.d u) (fun _ => SV.d (.bool false)) (by
      rw [a_iSeq]
      simp [sizeLine_eq]) (fun u hu => by
      refine ⟨rL ns s2 s3 s4 s5 s6 (some (.d u)), rfl, ?_⟩
      have hn : nc 62 2 u = true ∧ isWb u = false := by
        simp only [List.mem_cons, List.not_mem_nil, or_false] at hu
        rcases hu with rfl | rfl | rfl | rfl <;> exact ⟨by decide +kernel, by rfl⟩
      have w := iswb_eq hn.1 (by omega) S
      rw [hn.2] at w
      simp [w]) (by rw [sizeLine_eq]; simp)
  have m1 : gMulA S (.own [.d (.bool false)]) (.d (.int 4)) = some (.own (List.replicate 4 (.d (.bool false)))) := by
    simp [gMulA, gMul, lst?, smI, sizeLine_eq, List.replicate]
  have eb : gEq S (.own (List.replicate 4 (.d (.bool false)))) (.own (List.replicate 4 (.d (.bool false)))) = some true := by
    have sh : SeqAt.shaped (.list [.bool false, .bool false, .bool false, .bool false]) = true := by decide +kernel
    have dd : dat? S (.own (List.replicate 4 (.d (.bool false)))) = some (.list [.bool false, .bool false, .bool false, .bool false]) := rfl
    unfold gEq
    rw [dd]
    simp only [Option.bind_some, sh, Bool.and_self, if_true]
    rfl
  have r5 : List.replicate 4 (SV.d (.bool false)) = [.d (.bool false), .d (.bool false), .d (.bool false), .d (.bool false)] := rfl
  rw [r5] at m1 eb
  simp only [List.map_cons, List.map_nil] at c
  unfold t2
  rw [a_sRet, a_eBin]
  erw [c]
  simp [cB, m1, eb, sizeLine_eq]
theorem law_true (ns : List Int) (hl : ns.length ≤ 63) (hb : ∀ z ∈ ns, z.natAbs.log2 ≤ 2000000) : ∃ S, G.F_law [.scr ns] [] = some (.ok (.d (.bool true)) S) := by
  obtain ⟨q, hq, hq5⟩ : ∃ q : Nat, (if (if (ns.length : Int) < 10 then (ns.length : Int) else 10) > 1 then (if (ns.length : Int) < 10 then (ns.length : Int) else 10) else 1) = (q : Int) ∧ q ≤ 10 := by
    refine ⟨(if (if (ns.length : Int) < 10 then (ns.length : Int) else 10) > 1 then (if (ns.length : Int) < 10 then (ns.length : Int) else 10) else 1).toNat, ?_, ?_⟩ <;> (split <;> split <;> omega)
  have it : VL.iRng1 (aCons (eCal gMax2 (aCons (eCon (.int 1)) (aCons (eCal gMin2 (aCons (eCon (.int 10)) (aCons (eCal gLen (aCons (eVar 0) aNil)) aNil))) aNil))) aNil) (rL ns none none none none none none) [] = some (.ok (rangeL 0 q) []) := by
    have e : (aCons (eCal gMax2 (aCons (eCon (.int 1)) (aCons (eCal gMin2 (aCons (eCon (.int 10)) (aCons (eCal gLen (aCons (eVar 0) aNil)) aNil))) aNil))) aNil) (rL ns none none none none none none) [] = some (.ok [.d (.int (q : Int))] []) := by
      rw [← hq]
      simp
    rw [a_iRng1, e]
    simp only [bindM_ok, Int.toNat_natCast]
    exact if_pos (inR_of ⟨by omega, by omega⟩)
  obtain ⟨ρ2, S2, ⟨y2, y3, y4, y5, y6, y7, rfl⟩, e⟩ := forL_step (t := gNm 2) (body := lawb) (fun _ ρ _ => ∃ y2 y3 y4 y5 y6 y7, ρ = rL ns y2 y3 y4 y5 y6 y7) (rangeL 0 q) (fun k x hx ρ S hI => by
    obtain ⟨y2, y3, y4, y5, y6, y7, rfl⟩ := hI
    have hk : k < (rangeL 0 q).length := (List.getElem?_eq_some_iff.mp hx).1
    have hk2 : k < q := by simpa [rangeL] using hk
    have hx2 : x = .d (.int (k : Int)) := by
      unfold rangeL at hx
      rw [List.getElem?_map, List.getElem?_range hk2] at hx
      simpa using hx.symm
    subst hx2
    obtain ⟨z3, z4, z5, z6, z7, S', e⟩ := lawb_eq (ns := ns) (k := k) (by omega) hb (by omega) S y3 y4 y5 y6 y7
    exact ⟨_, rfl, _, S', ⟨_, _, _, _, _, _, rfl⟩, .inl e⟩) (rL ns none none none none none none) [] ⟨_, _, _, _, _, _, rfl⟩
  refine ⟨S2, ?_⟩
  have e1 : G.F_law [.scr ns] [] = (match G.f_law [some (.scr ns), none, none, none, none, none, none, none] [] with
    | some (.nx _ S') => some (.ok (.d .none) S')
    | some (.rt x S') => some (.ok x S')
    | some (.exc c fs _ S') => some (.exc c fs S')
    | _ => none) := rfl
  have e2 : G.f_law [some (.scr ns), none, none, none, none, none, none, none] [] = some (.rt (.d (.bool true)) S2) := by
    refine seq_nx (t0_eq ns []) ?_
    rw [a_sSeq, a_sFor]
    erw [it]
    rw [bindS_ok]
    erw [e]
    exact t2_eq S2
  rw [e1, e2]
end
end M

end
section
set_option Elab.async false
set_option linter.all false
set_option maxRecDepth 100000
theorem M.bits {z : Int} (h : PySem.Builtin.Int.intBits z ≤ 1048576) : z.natAbs.log2 ≤ 2000000 := by
  unfold PySem.Builtin.Int.intBits at h
  split at h <;> first | omega | simp_all
theorem PySem.Challenge.cw_currentwebs_k01_fractions_and_webs_holds : PySem.Challenge.rw_currentwebs_k01_fractions_and_webs.Holds :=
  G.holds fun ns hl hb => M.law_true ns hl fun z hz => M.bits (hb z hz)

end
